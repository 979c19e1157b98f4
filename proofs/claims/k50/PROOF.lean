import PyProof.Rows.All
import Wide.All
import OpenK.AllK
import Wide.FinOn
import PyProof.EqAt
import PyProof.EqKinds
import PyProof.TupleCall
import HandS.ForMost
import HandS.ForExc
import HandS.Walk
import HandS.Deep
import HandS.Zip
import HandS.Style
import HandS.Flow
import HandS.TupLe
import HandS.TupAny
import HandS.TupMul
import HandS.IsInst
import HandS.StrMore
import HandS.SortInts
import HandS.TupSets
import KE.SortData
import KE.KDictKeyed
import HandS.RaiseMore
import KE.KDictPairs
import PySem.Challenge.RW_cellgrounds_k50_whole_slanting_runs
set_option Elab.async false
set_option linter.all false
set_option maxRecDepth 100000
set_option maxHeartbeats 6400000
/-! VS: a value layer. Data D (numbers, texts, tuples, lists as values), boxes that a slot owns, and the relation to the tracked heap. -/
namespace VS
open PySem PySem.Spec PyProof.Rows L2

/-! ### data -/
/-- data as values; adr: a def, a class -/
inductive D where
  | non | bl (b : Bool) | int (i : Int) | str (x : Str) | adr (a : Addr) | tup (xs : List D) | lst (xs : List D)

mutual
/-- v stands for d, by what F tracks (F: what never changes) -/
def Rep (K : PySem.W.Frag) (F : Hp) : D → V → Prop
  | .non, v => v = .non
  | .bl b, v => v = .bl b
  | .int i, v => v = .int i
  | .str x, v => v = .str x
  | .adr a, v => v = .ref a
  | .tup ds, v => ∃ a vs, v = .ref a ∧ SqT K F a vs ∧ Reps K F ds vs
  | .lst ds, v => ∃ a vs, v = .ref a ∧ SqL K F a vs ∧ Reps K F ds vs
def Reps (K : PySem.W.Frag) (F : Hp) : List D → List V → Prop
  | [], vs => vs = []
  | d :: ds, vs => ∃ v r, vs = v :: r ∧ Rep K F d v ∧ Reps K F ds r
end

/-- all of F is in F' -/
def Sub (F F' : Hp) : Prop := ∀ a u, F a = some u → F' a = some u
theorem Sub.refl (F : Hp) : Sub F F := fun _ _ h => h
theorem Sub.trans {F G H : Hp} (a : Sub F G) (b : Sub G H) : Sub F H := fun x u h => b x u (a x u h)
theorem Sub.free {F H : Hp} (s : Sub F H) {a : Addr} (h : H a = none) : F a = none := by
  cases e : F a with
  | none => rfl
  | some u => rw [s a u e] at h; cases h
theorem Sub.new {H : Hp} {a : Addr} {o : HO} (h : H a = none) : Sub H (upd H a o) := fun b u e => by
  rw [upd_ne (ne_of_none e h)]; exact e
theorem Sub.both {F H : Hp} (s : Sub F H) {a : Addr} {o : HO} : Sub (upd F a o) (upd H a o) := fun b u e => by
  by_cases hb : b = a
  · subst hb; rw [upd_same] at e ⊢; exact e
  · rw [upd_ne hb] at e ⊢; exact s b u e

section
variable {K : PySem.W.Frag} {F F' : Hp}
theorem sub_rd (s : Sub F F') {a : Addr} {u : HO} (h : Rd F a u) : Rd F' a u := by
  rcases h with h | ⟨o, h⟩
  · exact .inl (s a u h)
  · exact .inr ⟨o, s a _ h⟩
theorem sub_l (s : Sub F F') {a : Addr} {vs : List V} (h : SqL K F a vs) : SqL K F' a vs := by
  rcases h with h | h
  · exact .inl (sub_rd s h)
  · exact .inr h
theorem sub_t (s : Sub F F') {a : Addr} {vs : List V} (h : SqT K F a vs) : SqT K F' a vs := by
  rcases h with h | h
  · exact .inl (sub_rd s h)
  · exact .inr h
mutual
theorem Rep.sub (s : Sub F F') : ∀ (d : D) (v : V), Rep K F d v → Rep K F' d v
  | .non, _, h => h
  | .bl _, _, h => h
  | .int _, _, h => h
  | .str _, _, h => h
  | .adr _, _, h => h
  | .tup ds, v, h => by
    unfold Rep at h ⊢
    obtain ⟨a, vs, e, q, r⟩ := h
    exact ⟨a, vs, e, sub_t s q, Reps.sub s ds vs r⟩
  | .lst ds, v, h => by
    unfold Rep at h ⊢
    obtain ⟨a, vs, e, q, r⟩ := h
    exact ⟨a, vs, e, sub_l s q, Reps.sub s ds vs r⟩
theorem Reps.sub (s : Sub F F') : ∀ (ds : List D) (vs : List V), Reps K F ds vs → Reps K F' ds vs
  | [], _, h => h
  | d :: ds, vs, h => by
    unfold Reps at h ⊢
    obtain ⟨v, r, e, q, t⟩ := h
    exact ⟨v, r, e, Rep.sub s d v q, Reps.sub s ds r t⟩
end
theorem Reps.length : ∀ {ds : List D} {vs : List V}, Reps K F ds vs → vs.length = ds.length
  | [], _, h => by unfold Reps at h; subst h; rfl
  | d :: ds, _, h => by
    unfold Reps at h
    obtain ⟨v, r, e, _, t⟩ := h
    subst e
    rw [List.length_cons, List.length_cons, Reps.length t]
theorem Reps.nil : Reps K F [] [] := by unfold Reps; rfl
theorem Reps.cons {d : D} {ds : List D} {v : V} {vs : List V} (h : Rep K F d v) (t : Reps K F ds vs) : Reps K F (d :: ds) (v :: vs) := by
  unfold Reps; exact ⟨v, vs, rfl, h, t⟩
theorem Reps.inv {d : D} {ds : List D} {vs : List V} (h : Reps K F (d :: ds) vs) : ∃ v r, vs = v :: r ∧ Rep K F d v ∧ Reps K F ds r := by
  unfold Reps at h; exact h
theorem Reps.inv0 {vs : List V} (h : Reps K F [] vs) : vs = [] := by unfold Reps at h; exact h
theorem Reps.get : ∀ {ds : List D} {vs : List V} {i : Nat} {d : D}, Reps K F ds vs → ds[i]? = some d → ∃ v, vs[i]? = some v ∧ Rep K F d v
  | [], _, i, d, _, e => by simp at e
  | d' :: ds, _, 0, d, h, e => by
    obtain ⟨v, r, rfl, q, t⟩ := h.inv
    simp at e; subst e
    exact ⟨v, rfl, q⟩
  | d' :: ds, _, i + 1, d, h, e => by
    obtain ⟨v, r, rfl, q, t⟩ := h.inv
    obtain ⟨w, e1, e2⟩ := Reps.get (i := i) t (by simpa using e)
    exact ⟨w, by simpa using e1, e2⟩
theorem Reps.getv : ∀ {ds : List D} {vs : List V} {i : Nat} {v : V}, Reps K F ds vs → vs[i]? = some v → ∃ d, ds[i]? = some d ∧ Rep K F d v
  | [], _, i, v, h, e => by have := h.inv0; subst this; simp at e
  | d' :: ds, _, 0, v, h, e => by
    obtain ⟨w, r, rfl, q, t⟩ := h.inv
    simp at e; subst e
    exact ⟨d', rfl, q⟩
  | d' :: ds, _, i + 1, v, h, e => by
    obtain ⟨w, r, rfl, q, t⟩ := h.inv
    obtain ⟨d, e1, e2⟩ := Reps.getv (i := i) t (by simpa using e)
    exact ⟨d, by simpa using e1, e2⟩
theorem Reps.append : ∀ {ds es : List D} {vs ws : List V}, Reps K F ds vs → Reps K F es ws → Reps K F (ds ++ es) (vs ++ ws)
  | [], _, _, _, h, g => by have := h.inv0; subst this; exact g
  | d :: ds, _, _, _, h, g => by
    obtain ⟨v, r, rfl, q, t⟩ := h.inv
    exact .cons q (Reps.append t g)
theorem Reps.take : ∀ {ds : List D} {vs : List V} (n : Nat), Reps K F ds vs → Reps K F (ds.take n) (vs.take n)
  | ds, vs, 0, _ => by rw [List.take_zero, List.take_zero]; exact .nil
  | [], _, n + 1, h => by have := h.inv0; subst this; rw [List.take_nil, List.take_nil]; exact .nil
  | d :: ds, _, n + 1, h => by
    obtain ⟨v, r, rfl, q, t⟩ := h.inv
    exact .cons q (Reps.take n t)
theorem Reps.drop : ∀ {ds : List D} {vs : List V} (n : Nat), Reps K F ds vs → Reps K F (ds.drop n) (vs.drop n)
  | ds, vs, 0, h => h
  | [], _, n + 1, h => by have := h.inv0; subst this; rw [List.drop_nil, List.drop_nil]; exact .nil
  | d :: ds, _, n + 1, h => by
    obtain ⟨v, r, rfl, q, t⟩ := h.inv
    exact Reps.drop n t
theorem Reps.set : ∀ {ds : List D} {vs : List V} (i : Nat) {d : D} {v : V}, Rep K F d v → Reps K F ds vs → Reps K F (ds.set i d) (vs.set i v)
  | [], _, i, d, v, _, h => by have := h.inv0; subst this; exact .nil
  | d' :: ds, _, 0, d, v, q, h => by
    obtain ⟨w, r, rfl, _, t⟩ := h.inv
    exact .cons q t
  | d' :: ds, _, i + 1, d, v, q, h => by
    obtain ⟨w, r, rfl, p, t⟩ := h.inv
    exact .cons p (Reps.set i q t)
theorem Reps.eraseIdx : ∀ {ds : List D} {vs : List V} (i : Nat), Reps K F ds vs → Reps K F (ds.eraseIdx i) (vs.eraseIdx i)
  | [], _, i, h => by have := h.inv0; subst this; exact .nil
  | d' :: ds, _, 0, h => by
    obtain ⟨w, r, rfl, _, t⟩ := h.inv
    exact t
  | d' :: ds, _, i + 1, h => by
    obtain ⟨w, r, rfl, p, t⟩ := h.inv
    exact .cons p (Reps.eraseIdx i t)
theorem Reps.reverse : ∀ {ds : List D} {vs : List V}, Reps K F ds vs → Reps K F ds.reverse vs.reverse
  | [], _, h => by have := h.inv0; subst this; exact .nil
  | d :: ds, _, h => by
    obtain ⟨v, r, rfl, q, t⟩ := h.inv
    rw [List.reverse_cons, List.reverse_cons]
    exact (Reps.reverse t).append (.cons q .nil)
theorem Rep.int_iff {i : Int} {v : V} : Rep K F (.int i) v ↔ v = .int i := by unfold Rep; exact Iff.rfl
theorem Rep.bl_iff {i : Bool} {v : V} : Rep K F (.bl i) v ↔ v = .bl i := by unfold Rep; exact Iff.rfl
theorem Rep.str_iff {i : Str} {v : V} : Rep K F (.str i) v ↔ v = .str i := by unfold Rep; exact Iff.rfl
theorem Rep.non_iff {v : V} : Rep K F .non v ↔ v = .non := by unfold Rep; exact Iff.rfl
theorem Rep.adr_iff {a : Addr} {v : V} : Rep K F (.adr a) v ↔ v = .ref a := by unfold Rep; exact Iff.rfl
theorem Rep.tup_iff {ds : List D} {v : V} : Rep K F (.tup ds) v ↔ ∃ a vs, v = .ref a ∧ SqT K F a vs ∧ Reps K F ds vs := by unfold Rep; exact Iff.rfl
theorem Rep.lst_iff {ds : List D} {v : V} : Rep K F (.lst ds) v ↔ ∃ a vs, v = .ref a ∧ SqL K F a vs ∧ Reps K F ds vs := by unfold Rep; exact Iff.rfl
theorem Reps.ints : ∀ {ns : List Int} {vs : List V}, Reps K F (ns.map D.int) vs → vs = ns.map V.int
  | [], _, h => h.inv0
  | n :: ns, _, h => by
    obtain ⟨v, r, rfl, q, t⟩ := Reps.inv h
    rw [Rep.int_iff.mp q, Reps.ints t]; rfl
end

/-! ### boxes, slots -/
/-- a key, as data -/
def keyD : Key → D
  | .inl i => .int i
  | .inr x => .str x
mutual
/-- data as a key of a dict -/
def keyN : D → Option NestedKey
  | .non => some .none
  | .bl b => some (.num (if b = true then 1 else 0))
  | .int i => some (.num i)
  | .str x => some (.text x)
  | .tup ds => (keyNs ds).map .tup
  | _ => none
def keyNs : List D → Option (List NestedKey)
  | [] => some []
  | d :: ds => match keyN d, keyNs ds with
    | some k, some ks => some (k :: ks)
    | _, _ => none
end
/-- what a variable or an attribute holds: data; a list of one's own; a dict of one's own (t: its keys are tuples) -/
inductive Fld where
  | val (d : D) | lst (xs : List D) | dct (t : Bool) (kvs : List (D × D))
/-- a slot: nothing; own, lent by the caller (pin), walked by a loop (lk); an instance -/
inductive Mode where
  | own | pin | lk
  deriving DecidableEq
inductive Sl where
  | un | fl (m : Mode) (f : Fld) | ob (m : Mode) (C : Addr) (fs : List (Str × Fld))
abbrev Env := List Sl
abbrev Sl.v (d : D) : Sl := .fl .own (.val d)

/-- the exact object at an address -/
def exO (a : Addr) (o : Obj) : HO := .ext fun h => h.get? a = some o
structure WK where
  P : Program
  w : World
  K : PySem.W.Frag
/-- an entry of a dict whose keys are tuples -/
def EntR (K : PySem.W.Frag) (F : Hp) (p : D × D) (q : NestedKey × Addr × Value) : Prop :=
  keyN p.1 = some q.1 ∧ Rep K F p.1 (.ref q.2.1) ∧ ∃ v, RelV v q.2.2 ∧ Rep K F p.2 v
def EntK (K : PySem.W.Frag) (F : Hp) (p : D × D) (q : Key × V) : Prop := p.1 = keyD q.1 ∧ Rep K F p.2 q.2
/-- the dict at a is told by the object u there -/
def DctO (c : WK) (F : Hp) (a : Addr) (kvs : List (D × D)) : Bool → HO → Prop
  | false, u => ∃ kvs', u = .dK kvs' ∧ Paired (EntK c.K F) kvs kvs'
  | true, u => ∃ (o : Obj) (es : Array DictEntry) (ep : Nat) (xs : List (NestedKey × Addr × Value)), u = exO a o ∧ (a == sysModules) = false ∧ kvs.length ≤ sizeLine ∧ o.ExactDict ∧ o.data = .dict es ep ∧
      es.toList = xs.map (entryOfKey (nestedKind c.P c.w)) ∧ (xs.map (·.1)).Nodup ∧ (∀ x ∈ xs, x.1.depth ≤ 8) ∧ Paired (EntR c.K F) kvs xs

/-- v holds f; As: the objects that it owns -/
def FldR (c : WK) (F H : Hp) : Fld → V → List Addr → Prop
  | .val d, v, As => As = [] ∧ Rep c.K F d v
  | .lst ds, v, As => ∃ a vs, v = .ref a ∧ As = [a] ∧ F a = none ∧ H a = some (.lst vs) ∧ Reps c.K F ds vs
  | .dct t kvs, v, As => ∃ a u, v = .ref a ∧ As = [a] ∧ F a = none ∧ H a = some u ∧ DctO c F a kvs t u
inductive FldsR (c : WK) (F H : Hp) : List (Str × Fld) → List (Str × V) → List Addr → Prop where
  | nil : FldsR c F H [] [] []
  | cons {x f fs v vs As Bs} : FldR c F H f v As → FldsR c F H fs vs Bs → FldsR c F H ((x, f) :: fs) ((x, v) :: vs) (As ++ Bs)
def ObR (c : WK) (F H : Hp) (C : Addr) (fs : List (Str × Fld)) (v : V) (As : List Addr) : Prop :=
  ∃ a dx vs Bs, v = .ref a ∧ As = a :: Bs ∧ F a = none ∧ H a = some (.ins C dx vs) ∧ F dx = some (.own a) ∧ FldsR c F H fs vs Bs
def SlR (c : WK) (F H : Hp) : Sl → Option V → List Addr → Prop
  | .un, _, As => As = []
  | .fl _ f, sv, As => ∃ v, sv = some v ∧ FldR c F H f v As
  | .ob _ C fs, sv, As => ∃ v, sv = some v ∧ ObR c F H C fs v As

/-- the owned objects, by slot -/
abbrev Ow := Nat → List Addr
structure R (c : WK) (F : Hp) (A : Ow) (ρ : Env) (σ : L2.St) (H : Hp) : Prop where
  le : Sub F H
  len : ρ.length = σ.length
  sl : ∀ i, SlR c F H (ρ.getD i .un) (σ.getD i none) (A i)
  nd : ∀ i, (A i).Nodup
  dj : ∀ i j a, a ∈ A i → a ∈ A j → i = j

/-- what a run may change -/
structure Ext (F : Hp) (A : Ow) (H : Hp) (F' : Hp) (A' : Ow) (H' : Hp) : Prop where
  mono : Sub F F'
  keep : ∀ a o, H a = some o → (∀ i, a ∉ A i) → H' a = some o ∧ F' a = F a
  new : ∀ i a, a ∈ A' i → (∃ j, a ∈ A j) ∨ H a = none
  gone : ∀ a, H' a = none → H a = none
theorem Ext.refl (F : Hp) (A : Ow) (H : Hp) : Ext F A H F A H := ⟨.refl F, fun _ _ h _ => ⟨h, rfl⟩, fun i _ h => .inl ⟨i, h⟩, fun _ h => h⟩
theorem Ext.trans {F F1 F2 : Hp} {A A1 A2 : Ow} {H H1 H2 : Hp} (x : Ext F A H F1 A1 H1) (y : Ext F1 A1 H1 F2 A2 H2) : Ext F A H F2 A2 H2 where
  mono := x.mono.trans y.mono
  keep := fun a o h hn => by
    obtain ⟨h1, f1⟩ := x.keep a o h hn
    obtain ⟨h2, f2⟩ := y.keep a o h1 fun i hi => by
      rcases x.new i a hi with ⟨j, hj⟩ | q
      · exact hn j hj
      · rw [h] at q; cases q
    exact ⟨h2, f2.trans f1⟩
  new := fun i a h => by
    rcases y.new i a h with ⟨j, hj⟩ | q
    · exact x.new j a hj
    · exact .inr (x.gone a q)
  gone := fun a h => x.gone a (y.gone a h)
/-- only new objects -/
structure Grow (F H F' H' : Hp) : Prop where
  mono : Sub F F'
  keep : ∀ a o, H a = some o → H' a = some o ∧ F' a = F a
  gone : ∀ a, H' a = none → H a = none
  le : Sub F' H'
theorem Grow.refl {F H : Hp} (s : Sub F H) : Grow F H F H := ⟨.refl F, fun _ _ h => ⟨h, rfl⟩, fun _ h => h, s⟩
theorem Grow.trans {F F1 F2 H H1 H2 : Hp} (x : Grow F H F1 H1) (y : Grow F1 H1 F2 H2) : Grow F H F2 H2 :=
  ⟨x.mono.trans y.mono, fun a o h => let ⟨h1, f1⟩ := x.keep a o h; let ⟨h2, f2⟩ := y.keep a o h1; ⟨h2, f2.trans f1⟩, fun a h => x.gone a (y.gone a h), y.le⟩
/-- a new object that is owned -/
theorem Grow.box {F H : Hp} (s : Sub F H) {p : Addr} {o : HO} (h : H p = none) : Grow F H F (upd H p o) where
  mono := .refl F
  keep := fun a u e => ⟨by rw [upd_ne (ne_of_none e h)]; exact e, rfl⟩
  gone := fun a e => by
    by_cases ha : a = p
    · subst ha; exact h
    · rw [upd_ne ha] at e; exact e
  le := s.trans (.new h)
/-- a new object that never changes -/
theorem Grow.fix {F H : Hp} (s : Sub F H) {p : Addr} {o : HO} (h : H p = none) : Grow F H (upd F p o) (upd H p o) where
  mono := .new (s.free h)
  keep := fun a u e => ⟨by rw [upd_ne (ne_of_none e h)]; exact e, upd_ne (ne_of_none e h)⟩
  gone := fun a e => by
    by_cases ha : a = p
    · subst ha; exact h
    · rw [upd_ne ha] at e; exact e
  le := s.both

section
variable {c : WK} {F F' H H' : Hp}
theorem EntR.sub (s : Sub F F') {p : D × D} {q : NestedKey × Addr × Value} (h : EntR c.K F p q) : EntR c.K F' p q :=
  ⟨h.1, Rep.sub s _ _ h.2.1, let ⟨v, a, b⟩ := h.2.2; ⟨v, a, Rep.sub s _ _ b⟩⟩
theorem EntK.sub (s : Sub F F') {p : D × D} {q : Key × V} (h : EntK c.K F p q) : EntK c.K F' p q := ⟨h.1, Rep.sub s _ _ h.2⟩
theorem DctO.sub (s : Sub F F') {a : Addr} {kvs : List (D × D)} : ∀ {t : Bool} {u : HO}, DctO c F a kvs t u → DctO c F' a kvs t u
  | false, _, ⟨k, e, p⟩ => ⟨k, e, Paired.mapP p fun _ _ h => h.sub s⟩
  | true, _, ⟨o, es, ep, xs, h1, h2, h3, h4, h5, h6, h7, h8, p⟩ => ⟨o, es, ep, xs, h1, h2, h3, h4, h5, h6, h7, h8, Paired.mapP p fun _ _ h => h.sub s⟩
theorem FldR.ext (s : Sub F F') : ∀ {f : Fld} {v : V} {As : List Addr}, FldR c F H f v As → (∀ a o, a ∈ As → H a = some o → H' a = some o ∧ F' a = F a) → FldR c F' H' f v As
  | .val d, v, As, h, _ => ⟨h.1, Rep.sub s _ _ h.2⟩
  | .lst ds, v, As, ⟨a, vs, e, eA, n, q, r⟩, k => by
    obtain ⟨k1, k2⟩ := k a _ (by simp [eA]) q
    exact ⟨a, vs, e, eA, k2.trans n, k1, Reps.sub s _ _ r⟩
  | .dct t kvs, v, As, ⟨a, u, e, eA, n, q, r⟩, k => by
    obtain ⟨k1, k2⟩ := k a _ (by simp [eA]) q
    exact ⟨a, u, e, eA, k2.trans n, k1, r.sub s⟩
theorem FldsR.ext (s : Sub F F') {fs : List (Str × Fld)} {vs : List (Str × V)} {As : List Addr} (h : FldsR c F H fs vs As) : (∀ a o, a ∈ As → H a = some o → H' a = some o ∧ F' a = F a) → FldsR c F' H' fs vs As := by
  induction h with
  | nil => exact fun _ => .nil
  | cons h1 _ ih => exact fun k => .cons (h1.ext s fun a o ha => k a o (List.mem_append_left _ ha)) (ih fun a o ha => k a o (List.mem_append_right _ ha))
theorem ObR.ext (s : Sub F F') {C : Addr} {fs : List (Str × Fld)} {v : V} {As : List Addr} (h : ObR c F H C fs v As) (k : ∀ a o, a ∈ As → H a = some o → H' a = some o ∧ F' a = F a) : ObR c F' H' C fs v As := by
  obtain ⟨a, dx, vs, Bs, e, eA, n, q, d, r⟩ := h
  subst eA
  obtain ⟨k1, k2⟩ := k a _ List.mem_cons_self q
  exact ⟨a, dx, vs, Bs, e, rfl, k2.trans n, k1, s _ _ d, r.ext s fun b o hb => k b o (List.mem_cons_of_mem _ hb)⟩
theorem SlR.ext (s : Sub F F') : ∀ {x : Sl} {sv : Option V} {As : List Addr}, SlR c F H x sv As → (∀ a o, a ∈ As → H a = some o → H' a = some o ∧ F' a = F a) → SlR c F' H' x sv As
  | .un, _, _, h, _ => h
  | .fl m f, _, _, ⟨v, e, r⟩, k => ⟨v, e, r.ext s k⟩
  | .ob m C fs, _, _, ⟨v, e, r⟩, k => ⟨v, e, r.ext s k⟩
/-- what is owned is tracked -/
theorem FldR.own : ∀ {f : Fld} {v : V} {As : List Addr}, FldR c F H f v As → ∀ a ∈ As, F a = none ∧ ∃ o, H a = some o
  | .val d, v, As, h, a, ha => by rw [h.1] at ha; cases ha
  | .lst ds, v, As, ⟨b, vs, e, eA, n, q, r⟩, a, ha => by
    rw [eA, List.mem_singleton] at ha; subst ha; exact ⟨n, _, q⟩
  | .dct t kvs, v, As, ⟨b, u, e, eA, n, q, r⟩, a, ha => by
    rw [eA, List.mem_singleton] at ha; subst ha; exact ⟨n, _, q⟩
theorem FldsR.own {fs : List (Str × Fld)} {vs : List (Str × V)} {As : List Addr} (h : FldsR c F H fs vs As) : ∀ a ∈ As, F a = none ∧ ∃ o, H a = some o := by
  induction h with
  | nil => intro a ha; cases ha
  | cons h1 _ ih =>
    intro a ha
    rcases List.mem_append.mp ha with q | q
    · exact h1.own a q
    · exact ih a q
theorem ObR.own {C : Addr} {fs : List (Str × Fld)} {v : V} {As : List Addr} (h : ObR c F H C fs v As) : ∀ a ∈ As, F a = none ∧ ∃ o, H a = some o := by
  obtain ⟨a, dx, vs, Bs, e, eA, n, q, d, r⟩ := h
  subst eA
  intro b hb
  rcases List.mem_cons.mp hb with rfl | hb
  · exact ⟨n, _, q⟩
  · exact r.own b hb
theorem SlR.own : ∀ {x : Sl} {sv : Option V} {As : List Addr}, SlR c F H x sv As → ∀ a ∈ As, F a = none ∧ ∃ o, H a = some o
  | .un, _, _, h, a, ha => by rw [show _ = [] from h] at ha; cases ha
  | .fl m f, _, _, ⟨v, e, r⟩, a, ha => r.own a ha
  | .ob m C fs, _, _, ⟨v, e, r⟩, a, ha => r.own a ha
theorem R.own {A : Ow} {ρ : Env} {σ : L2.St} (r : R c F A ρ σ H) {i : Nat} {a : Addr} (h : a ∈ A i) : F a = none ∧ ∃ o, H a = some o := (r.sl i).own a h
/-- behind new objects -/
theorem R.grow {A : Ow} {ρ : Env} {σ : L2.St} (r : R c F A ρ σ H) (g : Grow F H F' H') : R c F' A ρ σ H' :=
  ⟨g.le, r.len, fun i => (r.sl i).ext g.mono fun a o _ h => g.keep a o h, r.nd, r.dj⟩
theorem Grow.ext {A : Ow} (g : Grow F H F' H') : Ext F A H F' A H' := ⟨g.mono, fun a o h _ => g.keep a o h, fun i _ h => .inl ⟨i, h⟩, g.gone⟩
end
end VS
namespace VS
open PySem PySem.Spec PyProof.Rows L2

/-! ### results, runs -/
/-- a result: a value, a box just made; an instance just made; what the slot i holds -/
inductive RV where
  | fl (f : Fld) | ob (C : Addr) (fs : List (Str × Fld)) | pl (i : Nat)
abbrev RV.v (d : D) : RV := .fl (.val d)
/-- an exception: its class, its own attributes -/
structure Exn where
  cls : Addr
  fs : Option (List (Str × D))
inductive Res (α : Type) where
  | ok (a : α) (ρ : Env) | exc (x : Exn) (ρ : Env) | stuck
abbrev M (α : Type) := Env → Res α
def M.bind {α β : Type} (m : M α) (k : α → M β) : M β := fun ρ => match m ρ with
  | .ok a ρ' => k a ρ'
  | .exc x ρ' => .exc x ρ'
  | .stuck => .stuck

def modeOf : Sl → Mode
  | .un => .own
  | .fl m _ => m
  | .ob m _ _ => m
def Keep (ρ : Env) (σ : L2.St) (ρ' : Env) (σ' : L2.St) : Prop := ∀ i, modeOf (ρ.getD i .un) ≠ .own →
  σ'.getD i none = σ.getD i none ∧ modeOf (ρ'.getD i .un) = modeOf (ρ.getD i .un) ∧ (modeOf (ρ.getD i .un) = .lk → ρ'.getD i .un = ρ.getD i .un)
theorem Keep.refl (ρ : Env) (σ : L2.St) : Keep ρ σ ρ σ := fun _ _ => ⟨rfl, rfl, fun _ => rfl⟩
theorem Keep.trans {ρ ρ1 ρ2 : Env} {σ σ1 σ2 : L2.St} (a : Keep ρ σ ρ1 σ1) (b : Keep ρ1 σ1 ρ2 σ2) : Keep ρ σ ρ2 σ2 := fun i h => by
  obtain ⟨a1, a2, a3⟩ := a i h
  obtain ⟨b1, b2, b3⟩ := b i (by rw [a2]; exact h)
  exact ⟨b1.trans a1, b2.trans a2, fun e => (b3 (a2.trans e)).trans (a3 e)⟩

structure Stp (c : WK) (F : Hp) (A : Ow) (ρ : Env) (σ : L2.St) (H : Hp) (F' : Hp) (A' : Ow) (ρ' : Env) (σ' : L2.St) (H' : Hp) : Prop where
  r : R c F' A' ρ' σ' H'
  x : Ext F A H F' A' H'
  k : Keep ρ σ ρ' σ'
  l : σ'.length = σ.length
theorem Stp.refl {c : WK} {F : Hp} {A : Ow} {ρ : Env} {σ : L2.St} {H : Hp} (r : R c F A ρ σ H) : Stp c F A ρ σ H F A ρ σ H := ⟨r, Ext.refl .., Keep.refl _ _, rfl⟩
theorem Stp.trans {c : WK} {F F1 F2 : Hp} {A A1 A2 : Ow} {ρ ρ1 ρ2 : Env} {σ σ1 σ2 : L2.St} {H H1 H2 : Hp} (a : Stp c F A ρ σ H F1 A1 ρ1 σ1 H1) (b : Stp c F1 A1 ρ1 σ1 H1 F2 A2 ρ2 σ2 H2) : Stp c F A ρ σ H F2 A2 ρ2 σ2 H2 :=
  ⟨b.r, a.x.trans b.x, a.k.trans b.k, b.l.trans a.l⟩
theorem Stp.grow {c : WK} {F F1 F2 : Hp} {A A1 : Ow} {ρ ρ1 : Env} {σ σ1 : L2.St} {H H1 H2 : Hp} (a : Stp c F A ρ σ H F1 A1 ρ1 σ1 H1) (g : Grow F1 H1 F2 H2) : Stp c F A ρ σ H F2 A1 ρ1 σ1 H2 :=
  ⟨a.r.grow g, a.x.trans g.ext, a.k, a.l⟩

def RVR (c : WK) (F H : Hp) (σ : L2.St) : RV → V → List Addr → Prop
  | .fl f, v, Bs => FldR c F H f v Bs
  | .ob C fs, v, Bs => ObR c F H C fs v Bs
  | .pl i, v, Bs => σ.getD i none = some v ∧ Bs = []
/-- an expression has given r -/
structure Got (c : WK) (F : Hp) (A : Ow) (ρ : Env) (σ : L2.St) (H : Hp) (r : RV) (ρ' : Env) (F' : Hp) (A' : Ow) (H' : Hp) (v : V) (Bs : List Addr) : Prop where
  s : Stp c F A ρ σ H F' A' ρ' σ H'
  v : RVR c F' H' σ r v Bs
  nd : Bs.Nodup
  dj : ∀ i a, a ∈ A' i → a ∉ Bs
  fr : ∀ a ∈ Bs, (∃ j, a ∈ A j) ∨ H a = none
/-- several, from the left -/
inductive RVRs (c : WK) (F H : Hp) (σ : L2.St) : List RV → List V → List Addr → Prop where
  | nil : RVRs c F H σ [] [] []
  | cons {r rs v vs As Bs} : RVR c F H σ r v As → RVRs c F H σ rs vs Bs → RVRs c F H σ (r :: rs) (v :: vs) (As ++ Bs)
structure Gots (c : WK) (F : Hp) (A : Ow) (ρ : Env) (σ : L2.St) (H : Hp) (rs : List RV) (ρ' : Env) (F' : Hp) (A' : Ow) (H' : Hp) (vs : List V) (Bs : List Addr) : Prop where
  s : Stp c F A ρ σ H F' A' ρ' σ H'
  v : RVRs c F' H' σ rs vs Bs
  nd : Bs.Nodup
  dj : ∀ i a, a ∈ A' i → a ∉ Bs
  fr : ∀ a ∈ Bs, (∃ j, a ∈ A j) ∨ H a = none

def ExnR (c : WK) (F H : Hp) (x : Exn) (cls : Value) (d : Option Addr) : Prop :=
  cls = .ref x.cls ∧ match x.fs with
  | none => d = none
  | some fs => ∃ dd vs, d = some dd ∧ H dd = some (.xd vs) ∧ Paired (fun (p : Str × D) (q : Str × V) => p.1 = q.1 ∧ Rep c.K F p.2 q.2) fs vs
def OutG {α : Type} (c : WK) (W : WX) (F : Hp) (A : Ow) (ρ : Env) (σ : L2.St) (H : Hp) (res : Res α) (P : α → Env → Prop) : Prop := match res with
  | .ok a ρ' => P a ρ'
  | .exc x ρ' => ∀ F' A' σ' H' cls d, Stp c F A ρ σ H F' A' ρ' σ' H' → ExnR c F' H' x cls d → W cls d σ' H'
  | .stuck => False
theorem OutG.bind {α β : Type} {c : WK} {W : WX} {F : Hp} {A : Ow} {ρ : Env} {σ : L2.St} {H : Hp} {m : M α} {k : α → M β} {P : β → Env → Prop} {P' : α → Env → Prop}
    (h : OutG c W F A ρ σ H (m.bind k ρ) P) (f : ∀ a ρ1, m ρ = .ok a ρ1 → OutG c W F A ρ σ H (k a ρ1) P → P' a ρ1) : OutG c W F A ρ σ H (m ρ) P' := by
  unfold M.bind at h
  cases e : m ρ with
  | ok a ρ1 => rw [e] at h; exact f a ρ1 e h
  | exc x ρ1 => rw [e] at h; exact h
  | stuck => rw [e] at h; exact h
theorem OutG.imp {α : Type} {c : WK} {W : WX} {F : Hp} {A : Ow} {ρ : Env} {σ : L2.St} {H : Hp} {res : Res α} {P P' : α → Env → Prop}
    (h : OutG c W F A ρ σ H res P) (f : ∀ a ρ', res = .ok a ρ' → P a ρ' → P' a ρ') : OutG c W F A ρ σ H res P' := by
  cases res with
  | ok a ρ' => exact f a ρ' rfl h
  | exc x ρ' => exact h
  | stuck => exact h
/-- from a later state -/
theorem OutG.later {α : Type} {c : WK} {W : WX} {F F1 : Hp} {A A1 : Ow} {ρ ρ1 : Env} {σ σ1 : L2.St} {H H1 : Hp} {res : Res α} {P P' : α → Env → Prop} (s : Stp c F A ρ σ H F1 A1 ρ1 σ1 H1)
    (h : OutG c W F A ρ σ H res P) (f : ∀ a ρ', res = .ok a ρ' → P a ρ' → P' a ρ') : OutG c W F1 A1 ρ1 σ1 H1 res P' := by
  cases res with
  | ok a ρ' => exact f a ρ' rfl h
  | exc x ρ' => exact fun F' A' σ' H' cls d s' e => h F' A' σ' H' cls d (s.trans s') e
  | stuck => exact h

abbrev _root_.L2.Cx.wk (X : Cx) : WK := ⟨X.prog, X.w, X.K⟩
/-! ### the readings -/
def tI (c : WK) (W : WX) (m : M RV) : TE := fun σ H Q => ∃ ρ F A, R c F A ρ σ H ∧ OutG c W F A ρ σ H (m ρ) fun r ρ' => ∀ F' A' H' v Bs, Got c F A ρ σ H r ρ' F' A' H' v Bs → Q v H'
def tID (c : WK) (W : WX) (m : M D) : TE := fun σ H Q => ∃ ρ F A, R c F A ρ σ H ∧ OutG c W F A ρ σ H (m ρ) fun d ρ' => ∀ F' A' H' v, Stp c F A ρ σ H F' A' ρ' σ H' → Rep c.K F' d v → Q v H'
def tIB (c : WK) (W : WX) (m : M Bool) : TT := fun σ H Q => ∃ ρ F A, R c F A ρ σ H ∧ OutG c W F A ρ σ H (m ρ) fun b ρ' => ∀ F' A' H', Stp c F A ρ σ H F' A' ρ' σ H' → Q b H'
def tIA (c : WK) (W : WX) (m : M (List RV)) : TA := fun σ H Q => ∃ ρ F A, R c F A ρ σ H ∧ OutG c W F A ρ σ H (m ρ) fun rs ρ' => ∀ F' A' H' vs Bs, Gots c F A ρ σ H rs ρ' F' A' H' vs Bs → Q vs H'
def tIDs (c : WK) (W : WX) (m : M (List D)) : TA := fun σ H Q => ∃ ρ F A, R c F A ρ σ H ∧ OutG c W F A ρ σ H (m ρ) fun ds ρ' => ∀ F' A' H' vs, Stp c F A ρ σ H F' A' ρ' σ H' → Reps c.K F' ds vs → Q vs H'
/-- a statement's end -/
inductive Flo where
  | nx | bk | ct | rt (r : RV)
def EndP (c : WK) (D : Ends) (F' : Hp) (A' : Ow) (σ' : L2.St) (H' : Hp) (A : Ow) (H : Hp) : Flo → Prop
  | .nx => D.nx σ' H'
  | .bk => D.bk σ' H'
  | .ct => D.ct σ' H'
  | .rt r => ∀ v Bs, RVR c F' H' σ' r v Bs → Bs.Nodup → (∀ i a, a ∈ A' i → a ∉ Bs) → (∀ a ∈ Bs, (∃ j, a ∈ A j) ∨ H a = none) → D.rt v H'
def tIS (c : WK) (W : WX) (m : M Flo) : TS := fun D σ H => ∃ ρ F A, R c F A ρ σ H ∧ OutG c W F A ρ σ H (m ρ) fun f ρ' => ∀ F' A' σ' H', Stp c F A ρ σ H F' A' ρ' σ' H' → EndP c D F' A' σ' H' A H f

section
variable {X : Cx} {e : Expr} {es : List Expr} {W : WX} {c : WK}
theorem _root_.L2.PE.to {t t' : TE} (h : PE X e t) (g : ∀ σ H Q, t' σ H Q → t σ H Q) : PE X e t' := ⟨fun pins s σ H Q I q => h.run pins s σ H Q I (g σ H Q q)⟩
theorem _root_.L2.PT.to {t t' : TT} (h : PT X e t) (g : ∀ σ H Q, t' σ H Q → t σ H Q) : PT X e t' := ⟨fun pins s σ H Q I q => h.run pins s σ H Q I (g σ H Q q)⟩
theorem _root_.L2.PW.to {t t' : TT} (h : PW X e t) (g : ∀ σ H Q, t' σ H Q → t σ H Q) : PW X e t' := ⟨fun wh pins s σ H Q I q => h.run wh pins s σ H Q I (g σ H Q q)⟩
theorem _root_.L2.PA.to {t t' : TA} (h : PA X es t) (g : ∀ σ H Q, t' σ H Q → t σ H Q) : PA X es t' := ⟨fun pos pins s σ H Q I q => h.run pos pins s σ H Q I (g σ H Q q)⟩
theorem _root_.L2.PS.to {st : Stmt} {t t' : TS} (h : PS X st t) (g : ∀ D σ H, t' D σ H → t D σ H) : PS X st t' := ⟨fun pins s σ H D I q => h.run pins s σ H D I (g D σ H q)⟩
theorem _root_.L2.PSs.to {st : List Stmt} {t t' : TS} (h : PSs X st t) (g : ∀ D σ H, t' D σ H → t D σ H) : PSs X st t' := ⟨fun pins s σ H D I q => h.run pins s σ H D I (g D σ H q)⟩

/-! ### what a result shows -/
def look (ρ : Env) : RV → Option Fld
  | .fl f => some f
  | .pl i => match ρ.getD i .un with
    | .fl _ f => some f
    | _ => none
  | .ob .. => none
def Lk (c : WK) (F H : Hp) : Fld → V → Prop
  | .val d, v => Rep c.K F d v
  | .lst ds, v => ∃ a vs, v = .ref a ∧ H a = some (.lst vs) ∧ Reps c.K F ds vs
  | .dct t kvs, v => ∃ a u, v = .ref a ∧ H a = some u ∧ DctO c F a kvs t u
theorem FldR.lk {F H : Hp} : ∀ {f : Fld} {v : V} {As : List Addr}, FldR c F H f v As → Lk c F H f v
  | .val d, _, _, h => h.2
  | .lst ds, _, _, ⟨a, vs, e, _, _, q, r⟩ => ⟨a, vs, e, q, r⟩
  | .dct t kvs, _, _, ⟨a, u, e, _, _, q, r⟩ => ⟨a, u, e, q, r⟩
theorem look_ok {F H : Hp} {A : Ow} {ρ : Env} {σ : L2.St} (r : R c F A ρ σ H) : ∀ {q : RV} {v : V} {Bs : List Addr} {f : Fld}, RVR c F H σ q v Bs → look ρ q = some f → Lk c F H f v
  | .fl f', v, Bs, f, h, e => by
    have e' : f' = f := Option.some.inj e
    subst e'
    exact FldR.lk h
  | .ob C fs, v, Bs, f, h, e => nomatch e
  | .pl i, v, Bs, f, h, e => by
    have s := r.sl i
    have e : (match ρ.getD i .un with
      | .fl _ f => some f
      | _ => none) = some f := e
    split at e
    · rename_i m f' hs
      have e' : f' = f := Option.some.inj e
      subst e'
      rw [hs] at s
      obtain ⟨w, ew, q⟩ := s
      rw [h.1] at ew
      have ew' : v = w := Option.some.inj ew
      subst ew'
      exact q.lk
    · exact nomatch e

theorem RVR.ext {F F' H H' : Hp} {σ : L2.St} (s : Sub F F') : ∀ {q : RV} {v : V} {Bs : List Addr}, RVR c F H σ q v Bs → (∀ a o, a ∈ Bs → H a = some o → H' a = some o ∧ F' a = F a) → RVR c F' H' σ q v Bs
  | .fl f, _, _, h, k => FldR.ext s h k
  | .ob C fs, _, _, h, k => ObR.ext s h k
  | .pl i, _, _, h, _ => h
theorem RVR.own {F H : Hp} {σ : L2.St} : ∀ {q : RV} {v : V} {Bs : List Addr}, RVR c F H σ q v Bs → ∀ a ∈ Bs, F a = none ∧ ∃ o, H a = some o
  | .fl f, _, _, h => FldR.own h
  | .ob C fs, _, _, h => ObR.own h
  | .pl i, _, _, h => fun a ha => by rw [h.2] at ha; cases ha
theorem RVRs.ext {F F' H H' : Hp} {σ : L2.St} (s : Sub F F') {q : List RV} {v : List V} {Bs : List Addr} (h : RVRs c F H σ q v Bs) : (∀ a o, a ∈ Bs → H a = some o → H' a = some o ∧ F' a = F a) → RVRs c F' H' σ q v Bs := by
  induction h with
  | nil => exact fun _ => .nil
  | cons h1 _ ih => exact fun k => .cons (h1.ext s fun a o ha => k a o (List.mem_append_left _ ha)) (ih fun a o ha => k a o (List.mem_append_right _ ha))
theorem RVRs.own {F H : Hp} {σ : L2.St} {q : List RV} {v : List V} {Bs : List Addr} (h : RVRs c F H σ q v Bs) : ∀ a ∈ Bs, F a = none ∧ ∃ o, H a = some o := by
  induction h with
  | nil => intro a ha; cases ha
  | cons h1 _ ih =>
    intro a ha
    rcases List.mem_append.mp ha with q | q
    · exact h1.own a q
    · exact ih a q
/-- what is in flight stays -/
theorem kept_in {F F' H H' : Hp} {A A' : Ow} {Bs : List Addr} (x : Ext F A H F' A' H') (dj : ∀ i a, a ∈ A i → a ∉ Bs) : ∀ a o, a ∈ Bs → H a = some o → H' a = some o ∧ F' a = F a :=
  fun a o ha h => x.keep a o h fun i hi => dj i a hi ha
theorem apart_in {F F' H H' : Hp} {A A' : Ow} {Bs : List Addr} (x : Ext F A H F' A' H') (dj : ∀ i a, a ∈ A i → a ∉ Bs) (own : ∀ a ∈ Bs, F a = none ∧ ∃ o, H a = some o) : ∀ i a, a ∈ A' i → a ∉ Bs := fun i a h hb => by
  rcases x.new i a h with ⟨j, hj⟩ | q
  · exact dj j a hj hb
  · obtain ⟨_, o, e⟩ := own a hb
    rw [q] at e; cases e

/-! ### names and constants -/
def mVar (i : Nat) : M RV := fun ρ => match ρ.getD i .un with
  | .un => .stuck
  | .fl _ (.val d) => .ok (.v d) ρ
  | _ => .ok (.pl i) ρ
theorem getD_some {α : Type} {l : List (Option α)} {i : Nat} {v : α} (h : l.getD i none = some v) : l[i]? = some (some v) := by
  rw [List.getD_eq_getElem?_getD] at h
  cases e : l[i]? with
  | none => rw [e] at h; cases h
  | some o => rw [e] at h; exact congrArg some h
theorem some_getD {α : Type} {l : List (Option α)} {i : Nat} {v : α} (h : l[i]? = some (some v)) : l.getD i none = some v := by
  rw [List.getD_eq_getElem?_getD, h]; rfl
theorem i_var {i : Nat} (h : PE X e (tVar i)) : PE X e (tI X.wk W (mVar i)) := h.to fun σ H Q ⟨ρ, F, A, r, q⟩ => by
  have s := r.sl i
  unfold mVar at q
  split at q
  · exact q.elim
  · rename_i m d hs
    rw [hs] at s
    obtain ⟨v, e, s1, s2⟩ := s
    refine ⟨v, getD_some e, ?_⟩
    exact q F A H v [] ⟨.refl r, ⟨rfl, s2⟩, List.nodup_nil, (fun _ _ _ h => nomatch h), (fun _ h => nomatch h)⟩
  · rename_i x h1 h2
    cases hx : ρ.getD i Sl.un with
    | un => exact absurd hx h1
    | fl m f =>
      rw [hx] at s
      obtain ⟨v, e, s⟩ := s
      exact ⟨v, getD_some e, q F A H v [] ⟨.refl r, ⟨e, rfl⟩, List.nodup_nil, (fun _ _ _ h => nomatch h), (fun _ h => nomatch h)⟩⟩
    | ob m C fs =>
      rw [hx] at s
      obtain ⟨v, e, s⟩ := s
      exact ⟨v, getD_some e, q F A H v [] ⟨.refl r, ⟨e, rfl⟩, List.nodup_nil, (fun _ _ _ h => nomatch h), (fun _ h => nomatch h)⟩⟩
def mC (d : D) : M RV := fun ρ => .ok (.v d) ρ
theorem i_c {v : V} {d : D} (h : PE X e (tC v)) (hd : ∀ F, Rep X.K F d v) : PE X e (tI X.wk W (mC d)) := h.to fun σ H Q ⟨ρ, F, A, r, q⟩ =>
  q F A H v [] ⟨.refl r, ⟨rfl, hd F⟩, List.nodup_nil, (fun _ _ _ h => nomatch h), (fun _ h => nomatch h)⟩
theorem i_int {i j pos} : PE X (.Constant (.int i) j pos) (tI X.wk W (mC (.int i))) := i_c pe_int fun _ => Rep.int_iff.mpr rfl
theorem i_bl {i j pos} : PE X (.Constant (.bool i) j pos) (tI X.wk W (mC (.bl i))) := i_c pe_bl fun _ => Rep.bl_iff.mpr rfl
theorem i_str {i j pos} : PE X (.Constant (.str i) j pos) (tI X.wk W (mC (.str i))) := i_c pe_str fun _ => Rep.str_iff.mpr rfl
theorem i_non {j pos} : PE X (.Constant .none j pos) (tI X.wk W (mC .non)) := i_c pe_non fun _ => Rep.non_iff.mpr rfl

/-! ### operations that read -/
/-- r does g on what is shown; q: a value or a new box -/
def Fin1 (c : WK) (F H : Hp) (q : RV) (Q : VK) : Prop := ∀ F' H' v Bs, Grow F H F' H' → RVR c F' H' [] q v Bs → Bs.Nodup → (∀ a ∈ Bs, H a = none) → Q v H'
def Snd1 (c : WK) (r : V → Hp → VK → Prop) (g : Fld → Option RV) : Prop := ∀ F H x f q Q, Sub F H → Lk c F H f x → g f = some q → Fin1 c F H q Q → r x H Q
def Snd2 (c : WK) (r : R2) (g : Fld → Fld → Option RV) : Prop := ∀ F H x y f k q Q, Sub F H → Lk c F H f x → Lk c F H k y → g f k = some q → Fin1 c F H q Q → r x y H Q
inductive Lks (c : WK) (F H : Hp) : List Fld → List V → Prop where
  | nil : Lks c F H [] []
  | cons {f fs v vs} : Lk c F H f v → Lks c F H fs vs → Lks c F H (f :: fs) (v :: vs)
def SndN (c : WK) (r : List V → Hp → VK → Prop) (g : List Fld → Option RV) : Prop := ∀ F H xs fs q Q, Sub F H → Lks c F H fs xs → g fs = some q → Fin1 c F H q Q → r xs H Q
theorem Fin1.val {F H : Hp} {Q : VK} {d : D} {v : V} (s : Sub F H) (f : Fin1 c F H (.v d) Q) (h : Rep c.K F d v) : Q v H := f F H v [] (.refl s) ⟨rfl, h⟩ List.nodup_nil (fun _ z => nomatch z)
theorem Fin1.tup {F H : Hp} {Q : VK} {ds : List D} {vs : List V} (s : Sub F H) (f : Fin1 c F H (.v (.tup ds)) Q) (h : Reps c.K F ds vs) {p : Addr} (n : H p = none) : Q (.ref p) (upd H p (.tup vs)) :=
  f (upd F p (.tup vs)) _ _ [] (.fix s n) ⟨rfl, Rep.tup_iff.mpr ⟨p, vs, rfl, .inl (.inl upd_same), Reps.sub (.new (s.free n)) _ _ h⟩⟩ List.nodup_nil (fun _ z => nomatch z)
theorem Fin1.lst {F H : Hp} {Q : VK} {ds : List D} {vs : List V} (s : Sub F H) (f : Fin1 c F H (.fl (.lst ds)) Q) (h : Reps c.K F ds vs) {p : Addr} (n : H p = none) : Q (.ref p) (upd H p (.lst vs)) :=
  f F _ _ [p] (.box s n) ⟨p, vs, rfl, rfl, s.free n, upd_same, h⟩ (by simp) fun a ha => by rw [List.mem_singleton] at ha; subst ha; exact n
theorem RVR.any {F H : Hp} {σ : L2.St} : ∀ {q : RV} {v : V} {Bs : List Addr}, RVR c F H [] q v Bs → RVR c F H σ q v Bs
  | .fl f, _, _, h => h
  | .ob C fs, _, _, h => h
  | .pl i, _, _, h => by simp [RVR] at h
/-- the end of an operation that reads -/
theorem fin_got {F F1 H H1 : Hp} {A A1 : Ow} {ρ ρ1 : Env} {σ : L2.St} {q : RV} {Q : VK} (s : Stp c F A ρ σ H F1 A1 ρ1 σ H1) (h : ∀ F' A' H' v Bs, Got c F A ρ σ H q ρ1 F' A' H' v Bs → Q v H') : Fin1 c F1 H1 q Q := fun F' H' v Bs g rv nd fr => by
  refine h F' A1 H' v Bs ⟨s.grow g, rv.any, nd, fun i a ha hb => ?_, fun a ha => .inr (s.x.gone a (fr a ha))⟩
  obtain ⟨_, o, e⟩ := s.r.own ha
  rw [fr a hb] at e; cases e
def ret1 (g : Fld → Option RV) (r : RV) : M RV := fun ρ => match look ρ r with
  | some f => match g f with
    | some q => .ok q ρ
    | none => .stuck
  | none => .stuck
def ret2 (g : Fld → Fld → Option RV) (r1 r2 : RV) : M RV := fun ρ => match look ρ r1, look ρ r2 with
  | some f, some k => match g f k with
    | some q => .ok q ρ
    | none => .stuck
  | _, _ => .stuck
def looks (ρ : Env) : List RV → Option (List Fld)
  | [] => some []
  | r :: rs => match look ρ r, looks ρ rs with
    | some f, some fs => some (f :: fs)
    | _, _ => none
def retN (g : List Fld → Option RV) (rs : List RV) : M RV := fun ρ => match looks ρ rs with
  | some fs => match g fs with
    | some q => .ok q ρ
    | none => .stuck
  | none => .stuck
def mOp1 (g : Fld → Option RV) (a : M RV) : M RV := a.bind (ret1 g)
def mOp2 (g : Fld → Fld → Option RV) (a b : M RV) : M RV := a.bind fun r1 => b.bind fun r2 => ret2 g r1 r2
def mOpN (g : List Fld → Option RV) (a : M (List RV)) : M RV := a.bind (retN g)
def mNil : M (List RV) := fun ρ => .ok [] ρ
def mCons (a : M RV) (t : M (List RV)) : M (List RV) := a.bind fun r => t.bind fun rs ρ => .ok (r :: rs) ρ
theorem looks_ok {F H : Hp} {A : Ow} {ρ : Env} {σ : L2.St} (r : R c F A ρ σ H) {rs : List RV} {vs : List V} {Bs : List Addr} (h : RVRs c F H σ rs vs Bs) : ∀ {fs : List Fld}, looks ρ rs = some fs → Lks c F H fs vs := by
  induction h with
  | nil => intro fs e; cases e; exact .nil
  | cons h1 h2 ih =>
    intro fs e
    unfold looks at e
    split at e
    · rename_i f fs' e1 e2
      cases e
      exact .cons (look_ok r h1 e1) (ih e2)
    · cases e

/-- one operand -/
theorem run1 {ta : TE} {m : M RV} {g : Fld → Option RV} {r : V → Hp → VK → Prop} {σ : L2.St} {H : Hp} {Q : VK} (hr : Snd1 c r g) (ha : ∀ Q, tI c W m σ H Q → ta σ H Q) (h : tI c W (mOp1 g m) σ H Q) : ta σ H fun x H1 => r x H1 Q := by
  obtain ⟨ρ, F, A, R0, q⟩ := h
  refine ha _ ⟨ρ, F, A, R0, q.bind fun r1 ρ1 e1 q1 F1 A1 H1 v1 B1 g1 => ?_⟩
  unfold ret1 at q1
  split at q1
  · rename_i f ef
    split at q1
    · rename_i z eg
      exact hr F1 H1 v1 f z Q g1.s.r.le (look_ok g1.s.r g1.v ef) eg (fin_got g1.s q1)
    · exact q1.elim
  · exact q1.elim
/-- two operands, one behind the other -/
theorem run2 {ma mb : M RV} {g : Fld → Fld → Option RV} {r : R2} {σ : L2.St} {H : Hp} {Q : VK} (hr : Snd2 c r g) (h : tI c W (mOp2 g ma mb) σ H Q) : tI c W ma σ H fun x H1 => tI c W mb σ H1 fun y H2 => r x y H2 Q := by
  obtain ⟨ρ, F, A, R0, q⟩ := h
  refine ⟨ρ, F, A, R0, q.bind fun r1 ρ1 e1 q1 F1 A1 H1 v1 B1 g1 => ⟨ρ1, F1, A1, g1.s.r, ?_⟩⟩
  refine (OutG.later g1.s q1 fun _ _ _ z => z).bind fun r2 ρ2 e2 q2 F2 A2 H2 v2 B2 g2 => ?_
  unfold ret2 at q2
  split at q2
  · rename_i f k ef ek
    split at q2
    · rename_i z eg
      have s2 := g1.s.trans g2.s
      have v1' := g1.v.ext g2.s.x.mono (kept_in g2.s.x g1.dj)
      exact hr F2 H2 v1 v2 f k z Q s2.r.le (look_ok s2.r v1' ef) (look_ok s2.r g2.v ek) eg (fin_got s2 q2)
    · exact q2.elim
  · exact q2.elim
theorem runN {m : M (List RV)} {g : List Fld → Option RV} {r : List V → Hp → VK → Prop} {σ : L2.St} {H : Hp} {Q : VK} (hr : SndN c r g) (h : tI c W (mOpN g m) σ H Q) : tIA c W m σ H fun xs H1 => r xs H1 Q := by
  obtain ⟨ρ, F, A, R0, q⟩ := h
  refine ⟨ρ, F, A, R0, q.bind fun r1 ρ1 e1 q1 F1 A1 H1 v1 B1 g1 => ?_⟩
  unfold retN at q1
  split at q1
  · rename_i fs ef
    split at q1
    · rename_i z eg
      exact hr F1 H1 v1 fs z Q g1.s.r.le (looks_ok g1.s.r g1.v ef) eg (fin_got g1.s q1)
    · exact q1.elim
  · exact q1.elim
theorem ia_nil : PA X [] (tIA X.wk W mNil) := pa_nil.to fun σ H Q ⟨ρ, F, A, r, q⟩ => q F A H [] [] ⟨.refl r, .nil, List.nodup_nil, (fun _ _ _ h => nomatch h), (fun _ h => nomatch h)⟩
theorem ia_cons {m : M RV} {t : M (List RV)} (ha : PE X e (tI X.wk W m)) (ht : PA X es (tIA X.wk W t)) (hs : starEach (e :: es) X.env = (false, eval e X.env) :: starEach es X.env := by rfl) : PA X (e :: es) (tIA X.wk W (mCons m t)) :=
  (pa_cons ha ht hs).to fun σ H Q ⟨ρ, F, A, R0, q⟩ => by
    refine ⟨ρ, F, A, R0, q.bind fun r1 ρ1 e1 q1 F1 A1 H1 v1 B1 g1 => ⟨ρ1, F1, A1, g1.s.r, ?_⟩⟩
    refine (OutG.later g1.s q1 fun _ _ _ z => z).bind fun r2 ρ2 e2 q2 F2 A2 H2 v2 B2 g2 => ?_
    refine q2 F2 A2 H2 (v1 :: v2) (B1 ++ B2) ⟨g1.s.trans g2.s, .cons (g1.v.ext g2.s.x.mono (kept_in g2.s.x g1.dj)) g2.v, ?_, fun i a h hb => ?_, fun a ha => ?_⟩
    · refine List.nodup_append.mpr ⟨g1.nd, g2.nd, fun a ha b hb e => ?_⟩
      subst e
      obtain ⟨_, o, eo⟩ := g1.v.own a ha
      rcases g2.fr a hb with ⟨j, hj⟩ | z
      · exact g1.dj j a hj ha
      · rw [eo] at z; cases z
    · rcases List.mem_append.mp hb with hb | hb
      · exact apart_in g2.s.x g1.dj g1.v.own i a h hb
      · exact g2.dj i a h hb
    · rcases List.mem_append.mp ha with ha | ha
      · exact g1.fr a ha
      · rcases g2.fr a ha with ⟨j, hj⟩ | z
        · exact g1.s.x.new j a hj
        · exact .inr (g1.s.x.gone a z)
end
end VS
namespace VS
open PySem PySem.Spec PyProof.Rows L2

section
variable {c : WK} {W : WX} {X : Cx} {e : Expr} {es : List Expr}
def Ow.put (A : Ow) (i : Nat) (As : List Addr) : Ow := fun j => if j = i then As else A j
theorem Ow.put_same {A : Ow} {i : Nat} {As : List Addr} : A.put i As i = As := by unfold Ow.put; rw [if_pos rfl]
theorem Ow.put_ne {A : Ow} {i j : Nat} {As : List Addr} (h : j ≠ i) : A.put i As j = A j := by unfold Ow.put; rw [if_neg h]
theorem getD_set_ne {α : Type} {l : List α} {i j : Nat} {x d : α} (h : j ≠ i) : (l.set i x).getD j d = l.getD j d := by
  rw [List.getD_eq_getElem?_getD, List.getD_eq_getElem?_getD, List.getElem?_set_ne (Ne.symm h)]
theorem getD_set_same {α : Type} {l : List α} {i : Nat} {x d : α} (h : i < l.length) : (l.set i x).getD i d = x := by
  rw [List.getD_eq_getElem?_getD, List.getElem?_set_self h]; rfl
theorem lt_of_getD {l : Env} {i : Nat} (h : l.getD i .un ≠ .un) : i < l.length := by
  by_cases q : i < l.length
  · exact q
  · exact absurd (by rw [List.getD_eq_getElem?_getD, List.getElem?_eq_none (by omega)]; rfl) h
/-- the slot i changes -/
theorem R.put {F F' H H' : Hp} {A : Ow} {ρ : Env} {σ σ' : L2.St} (r : R c F A ρ σ H) (i : Nat) (x : Sl) (As : List Addr) (hi : i < ρ.length) (s : Sub F F') (le : Sub F' H') (hl : σ'.length = σ.length)
    (hσ : ∀ j, j ≠ i → σ'.getD j none = σ.getD j none) (hx : SlR c F' H' x (σ'.getD i none) As) (nd : As.Nodup) (oth : ∀ j, j ≠ i → ∀ a o, a ∈ A j → H a = some o → H' a = some o ∧ F' a = F a)
    (dj : ∀ j, j ≠ i → ∀ a, a ∈ A j → a ∉ As) : R c F' (A.put i As) (ρ.set i x) σ' H' where
  le := le
  len := by rw [List.length_set, hl, r.len]
  sl := fun j => by
    by_cases hj : j = i
    · subst hj
      rw [getD_set_same hi, Ow.put_same]; exact hx
    · rw [getD_set_ne hj, Ow.put_ne hj, hσ j hj]
      exact (r.sl j).ext s fun a o ha h => oth j hj a o ha h
  nd := fun j => by
    by_cases hj : j = i
    · subst hj; rw [Ow.put_same]; exact nd
    · rw [Ow.put_ne hj]; exact r.nd j
  dj := fun j k a h1 h2 => by
    by_cases hj : j = i
    · by_cases hk : k = i
      · exact hj.trans hk.symm
      · subst hj
        rw [Ow.put_same] at h1
        rw [Ow.put_ne hk] at h2
        exact absurd h1 (dj k hk a h2)
    · by_cases hk : k = i
      · subst hk
        rw [Ow.put_same] at h2
        rw [Ow.put_ne hj] at h1
        exact absurd h2 (dj j hj a h1)
      · rw [Ow.put_ne hj] at h1
        rw [Ow.put_ne hk] at h2
        exact r.dj j k a h1 h2
theorem Keep.put {ρ : Env} {σ : L2.St} {i : Nat} {x : Sl} (h : modeOf (ρ.getD i .un) = .own) {σ' : L2.St} (hσ : ∀ j, j ≠ i → σ'.getD j none = σ.getD j none) : Keep ρ σ (ρ.set i x) σ' := fun j hj => by
  have ne : j ≠ i := fun e => by subst e; exact hj h
  rw [getD_set_ne ne]
  exact ⟨hσ j ne, rfl, fun _ => rfl⟩

/-- a result is handed on as data: a box is a box no more -/
def esc (r : RV) : M D := fun ρ => match r with
  | .fl (.val d) => .ok d ρ
  | .fl (.lst ds) => .ok (.lst ds) ρ
  | .pl i => match ρ.getD i .un with
    | .fl .own (.lst ds) => .ok (.lst ds) (ρ.set i (.v (.lst ds)))
    | _ => .stuck
  | _ => .stuck
theorem frz_ext {F A H F1 A1 H1} (x : Ext F A H F1 A1 H1) {a : Addr} {o : HO} (n : F1 a = none) (fr : (∃ j, a ∈ A j) ∨ H a = none) {A2 : Ow} (hA : ∀ i b, b ∈ A2 i → b ∈ A1 i) : Ext F A H (upd F1 a o) A2 H1 where
  mono := x.mono.trans (.new n)
  keep := fun b u h hn => by
    obtain ⟨h1, f1⟩ := x.keep b u h hn
    refine ⟨h1, ?_⟩
    have ne : b ≠ a := fun e => by
      subst e
      rcases fr with ⟨j, hj⟩ | q
      · exact hn j hj
      · rw [h] at q; cases q
    rw [upd_ne ne]; exact f1
  new := fun i b h => x.new i b (hA i b h)
  gone := x.gone
theorem frz_sub {F H : Hp} (s : Sub F H) {a : Addr} {o : HO} (q : H a = some o) : Sub (upd F a o) H := fun b u e => by
  by_cases hb : b = a
  · subst hb; rw [upd_same] at e; rw [q]; exact e
  · rw [upd_ne hb] at e; exact s b u e
theorem esc_ok {F F1 H H1 : Hp} {A A1 : Ow} {ρ ρ1 ρ2 : Env} {σ : L2.St} {r : RV} {v : V} {Bs : List Addr} {d : D} (g : Got c F A ρ σ H r ρ1 F1 A1 H1 v Bs) (e : esc r ρ1 = .ok d ρ2) :
    ∃ F2 A2, Stp c F A ρ σ H F2 A2 ρ2 σ H1 ∧ Rep c.K F2 d v := by
  cases r with
  | fl f =>
    cases f with
    | val d' => cases e; exact ⟨F1, A1, g.s, g.v.2⟩
    | lst ds =>
      cases e
      obtain ⟨a, vs, ev, eB, n, q, rs⟩ := g.v
      subst eB
      refine ⟨upd F1 a (.lst vs), A1, ⟨⟨frz_sub g.s.r.le q, g.s.r.len, fun i => (g.s.r.sl i).ext (.new n) fun b o hb h => ⟨h, upd_ne fun z => ?_⟩, g.s.r.nd, g.s.r.dj⟩, frz_ext g.s.x n (g.fr a (by simp)) fun _ _ h => h, g.s.k, rfl⟩, ?_⟩
      · subst z; exact g.dj i b hb (by simp)
      · exact Rep.lst_iff.mpr ⟨a, vs, ev, .inl (.inl upd_same), Reps.sub (.new n) _ _ rs⟩
    | dct t kvs => cases e
  | ob C fs => cases e
  | pl i =>
    have e : (match ρ1.getD i .un with
      | .fl .own (.lst ds) => Res.ok (D.lst ds) (ρ1.set i (.v (.lst ds)))
      | _ => .stuck) = .ok d ρ2 := e
    split at e
    · rename_i ds hs
      cases e
      have s := g.s.r.sl i
      rw [hs] at s
      obtain ⟨w, ew, a, vs, ev, eA, n, q, rs⟩ := s
      have hv : σ.getD i none = some v := g.v.1
      rw [hv] at ew
      cases ew
      have hi : i < ρ1.length := lt_of_getD (by rw [hs]; exact fun z => nomatch z)
      have rep : Rep c.K (upd F1 a (.lst vs)) (.lst ds) v := Rep.lst_iff.mpr ⟨a, vs, ev, .inl (.inl upd_same), Reps.sub (.new n) _ _ rs⟩
      have old : ∀ j, j ≠ i → ∀ b, b ∈ A1 j → b ≠ a := fun j hj b hb z => by
        subst z
        exact hj (g.s.r.dj j i b hb (by rw [eA]; simp))
      have fr : (∃ j, a ∈ A j) ∨ H a = none := g.s.x.new i a (by rw [eA]; simp)
      refine ⟨upd F1 a (.lst vs), A1.put i [], ⟨g.s.r.put i _ [] hi (.new n) (frz_sub g.s.r.le q) rfl (fun _ _ => rfl) ⟨v, hv, rfl, rep⟩ List.nodup_nil (fun j hj b o hb h => ⟨h, upd_ne (old j hj b hb)⟩) (fun _ _ _ _ h => nomatch h), frz_ext g.s.x n fr fun j b h => ?_, g.s.k.trans (Keep.put (by rw [hs]; rfl) fun _ _ => rfl), rfl⟩, rep⟩
      by_cases hj : j = i
      · subst hj; rw [Ow.put_same] at h; cases h
      · rw [Ow.put_ne hj] at h; exact h
    · cases e
theorem esc_exc {r : RV} {ρ ρ2 : Env} {x : Exn} (e : esc r ρ = .exc x ρ2) : False := by
  cases r with
  | fl f => cases f <;> exact nomatch e
  | ob C fs => exact nomatch e
  | pl i =>
    have e : (match ρ.getD i .un with
      | .fl .own (.lst ds) => Res.ok (D.lst ds) (ρ.set i (.v (.lst ds)))
      | _ => .stuck) = .exc x ρ2 := e
    split at e
    · cases e
    · cases e
def mEsc (m : M RV) : M D := m.bind esc
theorem i_esc {m : M RV} (h : PE X e (tI X.wk W m)) : PE X e (tID X.wk W (mEsc m)) := h.to fun σ H Q ⟨ρ, F, A, R0, q⟩ => by
  refine ⟨ρ, F, A, R0, q.bind fun r1 ρ1 e1 q1 F1 A1 H1 v1 B1 g1 => ?_⟩
  cases e2 : esc r1 ρ1 with
  | ok d ρ2 =>
    rw [e2] at q1
    obtain ⟨F2, A2, s2, rep⟩ := esc_ok g1 e2
    exact q1 F2 A2 H1 v1 s2 rep
  | exc x ρ2 => exact (esc_exc e2).elim
  | stuck => rw [e2] at q1; exact q1.elim

/-! ### displays -/
def dNil : M (List D) := fun ρ => .ok [] ρ
def dCons (a : M RV) (t : M (List D)) : M (List D) := (mEsc a).bind fun d => t.bind fun ds ρ => .ok (d :: ds) ρ
theorem ds_nil : PA X [] (tIDs X.wk W dNil) := pa_nil.to fun σ H Q ⟨ρ, F, A, r, q⟩ => q F A H [] (.refl r) .nil
theorem ds_cons {m : M RV} {t : M (List D)} (ha : PE X e (tI X.wk W m)) (ht : PA X es (tIDs X.wk W t)) (hs : starEach (e :: es) X.env = (false, eval e X.env) :: starEach es X.env := by rfl) : PA X (e :: es) (tIDs X.wk W (dCons m t)) :=
  (pa_cons (i_esc ha) ht hs).to fun σ H Q ⟨ρ, F, A, R0, q⟩ => by
    refine ⟨ρ, F, A, R0, q.bind fun d ρ1 e1 q1 F1 A1 H1 v1 s1 r1 => ⟨ρ1, F1, A1, s1.r, ?_⟩⟩
    refine (OutG.later s1 q1 fun _ _ _ z => z).bind fun ds ρ2 e2 q2 F2 A2 H2 v2 s2 r2 => ?_
    exact q2 F2 A2 H2 (v1 :: v2) (s1.trans s2) (.cons (Rep.sub s2.x.mono _ _ r1) r2)
/-- no exception, a result: what a reading needs -/
def mTup (t : M (List D)) : M RV := t.bind fun ds ρ => if ds.length ≤ sizeLine then .ok (.v (.tup ds)) ρ else .stuck
def mLst (t : M (List D)) : M RV := t.bind fun ds ρ => if ds.length ≤ sizeLine then .ok (.fl (.lst ds)) ρ else .stuck
theorem i_tup {x1 pos} {t : M (List D)} (h : PA X es (tIDs X.wk W t)) : PE X (.Tuple es x1 pos) (tI X.wk W (mTup t)) := (pe_tup h).to fun σ H Q ⟨ρ, F, A, R0, q⟩ => by
  refine ⟨ρ, F, A, R0, q.bind fun ds ρ1 e1 q1 F1 A1 H1 vs s1 r1 => ?_⟩
  by_cases hl : ds.length ≤ sizeLine
  · rw [if_pos hl] at q1
    refine ⟨by rw [r1.length]; exact hl, fun p n => ?_⟩
    exact (fin_got (q := .v (.tup ds)) s1 q1).tup s1.r.le r1 n
  · rw [if_neg hl] at q1; exact q1.elim
theorem i_lst {pos} {t : M (List D)} (h : PA X es (tIDs X.wk W t)) : PE X (.List es pos) (tI X.wk W (mLst t)) := (pe_lst h).to fun σ H Q ⟨ρ, F, A, R0, q⟩ => by
  refine ⟨ρ, F, A, R0, q.bind fun ds ρ1 e1 q1 F1 A1 H1 vs s1 r1 => ?_⟩
  by_cases hl : ds.length ≤ sizeLine
  · rw [if_pos hl] at q1
    refine ⟨by rw [r1.length]; exact hl, fun p n => ?_⟩
    exact (fin_got (q := .fl (.lst ds)) s1 q1).lst s1.r.le r1 n
  · rw [if_neg hl] at q1; exact q1.elim

/-! ### tests -/
/-- the truth of what is shown -/
def truF : Fld → Option Bool
  | .val .non => some false
  | .val (.bl b) => some b
  | .val (.int i) => some (i != 0)
  | .val (.str z) => if z.length ≤ sizeLine then some ((z.length : Int) != 0) else none
  | .val (.tup ds) => some (!ds.isEmpty)
  | .val (.lst ds) => some (!ds.isEmpty)
  | .lst ds => some (!ds.isEmpty)
  | _ => none
def retB (g : Fld → Option Bool) (r : RV) : M Bool := fun ρ => match look ρ r with
  | some f => match g f with
    | some b => .ok b ρ
    | none => .stuck
  | none => .stuck
/-- a truth value -/
def blF : Fld → Option Bool
  | .val (.bl b) => some b
  | _ => none
def mBool (m : M RV) : M Bool := m.bind (retB blF)
def mTru (m : M RV) : M Bool := m.bind (retB truF)
theorem blF_ok {F H : Hp} {f : Fld} {v : V} {b : Bool} (h : Lk c F H f v) (e : blF f = some b) : v = .bl b := by
  unfold blF at e
  split at e
  · cases e; exact Rep.bl_iff.mp (show Rep c.K F _ v from h)
  · cases e
theorem isEmpty_reps {K : PySem.W.Frag} {F : Hp} {ds : List D} {vs : List V} (h : Reps K F ds vs) : vs.isEmpty = ds.isEmpty := by
  cases ds with
  | nil => have := h.inv0; subst this; rfl
  | cons d ds => obtain ⟨v, r, rfl, _⟩ := h.inv; rfl
theorem truF_ok {F H : Hp} (s : Sub F H) {f : Fld} {v : V} {b : Bool} (h : Lk c F H f v) (e : truF f = some b) : TruV c.K v H b := by
  unfold truF at e
  split at e
  · cases e; rw [Rep.non_iff.mp (show Rep c.K F _ v from h)]; exact rfl
  · cases e; rw [Rep.bl_iff.mp (show Rep c.K F _ v from h)]; exact rfl
  · cases e; rw [Rep.int_iff.mp (show Rep c.K F _ v from h)]; exact rfl
  · rename_i z
    split at e
    · rename_i hz; cases e; rw [Rep.str_iff.mp (show Rep c.K F _ v from h)]; exact ⟨hz, rfl⟩
    · cases e
  · rename_i ds
    cases e
    obtain ⟨a, vs, rfl, q, r⟩ := Rep.tup_iff.mp h
    exact .inr (.inl ⟨vs, sub_t s q, by rw [isEmpty_reps r]⟩)
  · rename_i ds
    cases e
    obtain ⟨a, vs, rfl, q, r⟩ := Rep.lst_iff.mp h
    exact .inl ⟨vs, sub_l s q, by rw [isEmpty_reps r]⟩
  · rename_i ds
    cases e
    obtain ⟨a, vs, rfl, q, r⟩ := h
    exact .inl ⟨vs, .of q, by rw [isEmpty_reps r]⟩
  · cases e
/-- an expression that gives True or False, as a test -/
theorem b_val {m : M RV} (h : PE X e (tI X.wk W m)) (he : ∀ whole, isTrue e X.env whole = (do let v ← whole; standAt e.pos; holding [v] (truthy v)) := by intro _; rfl) : PT X e (tIB X.wk W (mBool m)) :=
  (pt_val h he).to fun σ H Q ⟨ρ, F, A, R0, q⟩ => by
    refine ⟨ρ, F, A, R0, q.bind fun r1 ρ1 e1 q1 F1 A1 H1 v1 B1 g1 => ?_⟩
    unfold retB at q1
    split at q1
    · rename_i f ef
      split at q1
      · rename_i b eb
        exact ⟨b, blF_ok (look_ok g1.s.r g1.v ef) eb, q1 F1 A1 H1 g1.s⟩
      · exact q1.elim
    · exact q1.elim
theorem b_tru {m : M RV} (h : PE X e (tI X.wk W m)) (he : ∀ whole, isTrue e X.env whole = (do let v ← whole; standAt e.pos; holding [v] (truthy v)) := by intro _; rfl) : PT X e (tIB X.wk W (mTru m)) :=
  (pt_truth h he).to fun σ H Q ⟨ρ, F, A, R0, q⟩ => by
    refine ⟨ρ, F, A, R0, q.bind fun r1 ρ1 e1 q1 F1 A1 H1 v1 B1 g1 => ?_⟩
    unfold retB at q1
    split at q1
    · rename_i f ef
      split at q1
      · rename_i b eb
        exact ⟨b, truF_ok g1.s.r.le (look_ok g1.s.r g1.v ef) eb, q1 F1 A1 H1 g1.s⟩
      · exact q1.elim
    · exact q1.elim
def mNot (m : M Bool) : M Bool := m.bind fun b ρ => .ok (!b) ρ
def mAnd (m n : M Bool) : M Bool := m.bind fun b => if b = true then n else fun ρ => .ok false ρ
def mOr (m n : M Bool) : M Bool := m.bind fun b => if b = true then fun ρ => .ok true ρ else n
theorem b_not {m : M Bool} {pos} (h : PT X e (tIB X.wk W m)) : PT X (.UnaryOp .Not e pos) (tIB X.wk W (mNot m)) := (pt_not h).to fun σ H Q ⟨ρ, F, A, R0, q⟩ =>
  ⟨ρ, F, A, R0, q.bind fun b ρ1 e1 q1 F1 A1 H1 s1 => q1 F1 A1 H1 s1⟩
theorem w_and1 {m : M Bool} {pos} (h : PT X e (tIB X.wk W m)) : PW X (.BoolOp .And [e] pos) (tIB X.wk W m) := pw_and1 h
theorem w_or1 {m : M Bool} {pos} (h : PT X e (tIB X.wk W m)) : PW X (.BoolOp .Or [e] pos) (tIB X.wk W m) := pw_or1 h
theorem w_and {m n : M Bool} {b : Expr} {rest : List Expr} {pos} (h : PT X e (tIB X.wk W m)) (h' : PW X (.BoolOp .And (b :: rest) pos) (tIB X.wk W n)) : PW X (.BoolOp .And (e :: b :: rest) pos) (tIB X.wk W (mAnd m n)) :=
  (pw_and h h').to fun σ H Q ⟨ρ, F, A, R0, q⟩ => ⟨ρ, F, A, R0, q.bind fun b ρ1 e1 q1 F1 A1 H1 s1 => by
    cases b with
    | true =>
      show tIB X.wk W n σ H1 Q
      exact ⟨ρ1, F1, A1, s1.r, OutG.later s1 q1 fun b' ρ2 _ z F2 A2 H2 s2 => z F2 A2 H2 (s1.trans s2)⟩
    | false => exact q1 F1 A1 H1 s1⟩
theorem w_or {m n : M Bool} {b : Expr} {rest : List Expr} {pos} (h : PT X e (tIB X.wk W m)) (h' : PW X (.BoolOp .Or (b :: rest) pos) (tIB X.wk W n)) : PW X (.BoolOp .Or (e :: b :: rest) pos) (tIB X.wk W (mOr m n)) :=
  (pw_or h h').to fun σ H Q ⟨ρ, F, A, R0, q⟩ => ⟨ρ, F, A, R0, q.bind fun b ρ1 e1 q1 F1 A1 H1 s1 => by
    cases b with
    | false =>
      show tIB X.wk W n σ H1 Q
      exact ⟨ρ1, F1, A1, s1.r, OutG.later s1 q1 fun b' ρ2 _ z F2 A2 H2 s2 => z F2 A2 H2 (s1.trans s2)⟩
    | true => exact q1 F1 A1 H1 s1⟩
theorem Got.later {F F1 F2 H H1 H2 : Hp} {A A1 A2 : Ow} {ρ ρ1 ρ2 : Env} {σ : L2.St} {r : RV} {v : V} {Bs : List Addr} (s : Stp c F A ρ σ H F1 A1 ρ1 σ H1) (g : Got c F1 A1 ρ1 σ H1 r ρ2 F2 A2 H2 v Bs) : Got c F A ρ σ H r ρ2 F2 A2 H2 v Bs :=
  ⟨s.trans g.s, g.v, g.nd, g.dj, fun a ha => by
    rcases g.fr a ha with ⟨j, hj⟩ | z
    · exact s.x.new j a hj
    · exact .inr (s.x.gone a z)⟩
/-- a if t else b -/
def mIf (t : M Bool) (a b : M RV) : M RV := t.bind fun k => if k = true then a else b
theorem i_if {t : M Bool} {ma mb : M RV} {b d : Expr} {pos} (ht : PT X d (tIB X.wk W t)) (ha : PE X e (tI X.wk W ma)) (hb : PE X b (tI X.wk W mb)) : PE X (.IfExp d e b pos) (tI X.wk W (mIf t ma mb)) :=
  (pe_ifExp ht ha hb).to fun σ H Q ⟨ρ, F, A, R0, q⟩ => ⟨ρ, F, A, R0, q.bind fun k ρ1 e1 q1 F1 A1 H1 s1 => by
    cases k with
    | true => exact ⟨ρ1, F1, A1, s1.r, OutG.later s1 q1 fun r ρ2 _ z F2 A2 H2 v Bs g => z F2 A2 H2 v Bs (g.later s1)⟩
    | false => exact ⟨ρ1, F1, A1, s1.r, OutG.later s1 q1 fun r ρ2 _ z F2 A2 H2 v Bs g => z F2 A2 H2 v Bs (g.later s1)⟩⟩
/-- and, or, not as values, all but the last True or False -/
def mAndV (a b : M RV) : M RV := (mBool a).bind fun k => if k = true then b else fun ρ => .ok (.v (.bl false)) ρ
def mOrV (a b : M RV) : M RV := (mBool a).bind fun k => if k = true then fun ρ => .ok (.v (.bl true)) ρ else b
theorem mBool_run {m : M RV} {σ : L2.St} {H : Hp} {F A} {ρ : Env} {P : Bool → Env → Prop} {Q : VK} (q : OutG c W F A ρ σ H (mBool m ρ) P) (f : ∀ b ρ1 F1 A1 H1, Stp c F A ρ σ H F1 A1 ρ1 σ H1 → P b ρ1 → Q (.bl b) H1) :
    OutG c W F A ρ σ H (m ρ) fun r ρ' => ∀ F' A' H' v Bs, Got c F A ρ σ H r ρ' F' A' H' v Bs → Q v H' := q.bind fun r1 ρ1 e1 q1 F1 A1 H1 v1 B1 g1 => by
  unfold retB at q1
  split at q1
  · rename_i f' ef
    split at q1
    · rename_i b eb
      rw [blF_ok (look_ok g1.s.r g1.v ef) eb]
      exact f b ρ1 F1 A1 H1 g1.s q1
    · exact q1.elim
  · exact q1.elim
theorem i_one {op pos} {m : M RV} (h : PE X e (tI X.wk W m)) : PE X (.BoolOp op [e] pos) (tI X.wk W m) := pe_one h
theorem blOk {F H : Hp} {A : Ow} {ρ : Env} {σ : L2.St} {b : Bool} {F1 A1 ρ1 H1} (s : Stp c F A ρ σ H F1 A1 ρ1 σ H1) : Got c F A ρ σ H (.v (.bl b)) ρ1 F1 A1 H1 (.bl b) [] := ⟨s, ⟨rfl, Rep.bl_iff.mpr rfl⟩, List.nodup_nil, (fun _ _ _ h => nomatch h), (fun _ h => nomatch h)⟩
theorem i_and {ma mb : M RV} {b : Expr} {rest : List Expr} {pos} (ha : PE X e (tI X.wk W ma)) (hb : PE X (.BoolOp .And (b :: rest) pos) (tI X.wk W mb)) : PE X (.BoolOp .And (e :: b :: rest) pos) (tI X.wk W (mAndV ma mb)) :=
  (pe_and ha hb).to fun σ H Q ⟨ρ, F, A, R0, q⟩ => by
    refine ⟨ρ, F, A, R0, mBool_run (OutG.bind q (P' := fun b ρ1 => OutG X.wk W F A ρ σ H ((if b = true then mb else fun ρ => .ok (.v (.bl false)) ρ) ρ1) fun r ρ' => ∀ F' A' H' v Bs, Got X.wk F A ρ σ H r ρ' F' A' H' v Bs → Q v H') fun k ρ1 e1 q1 => q1) fun k ρ1 F1 A1 H1 s1 q1 => ⟨k, rfl, ?_⟩⟩
    cases k with
    | true => exact ⟨ρ1, F1, A1, s1.r, OutG.later s1 q1 fun r ρ2 _ z F2 A2 H2 v Bs g => z F2 A2 H2 v Bs (g.later s1)⟩
    | false => exact q1 F1 A1 H1 _ [] (blOk s1)
theorem i_or {ma mb : M RV} {b : Expr} {rest : List Expr} {pos} (ha : PE X e (tI X.wk W ma)) (hb : PE X (.BoolOp .Or (b :: rest) pos) (tI X.wk W mb)) : PE X (.BoolOp .Or (e :: b :: rest) pos) (tI X.wk W (mOrV ma mb)) :=
  (pe_or ha hb).to fun σ H Q ⟨ρ, F, A, R0, q⟩ => by
    refine ⟨ρ, F, A, R0, mBool_run (OutG.bind q (P' := fun b ρ1 => OutG X.wk W F A ρ σ H ((if b = true then fun ρ => .ok (.v (.bl true)) ρ else mb) ρ1) fun r ρ' => ∀ F' A' H' v Bs, Got X.wk F A ρ σ H r ρ' F' A' H' v Bs → Q v H') fun k ρ1 e1 q1 => q1) fun k ρ1 F1 A1 H1 s1 q1 => ⟨k, rfl, ?_⟩⟩
    cases k with
    | false => exact ⟨ρ1, F1, A1, s1.r, OutG.later s1 q1 fun r ρ2 _ z F2 A2 H2 v Bs g => z F2 A2 H2 v Bs (g.later s1)⟩
    | true => exact q1 F1 A1 H1 _ [] (blOk s1)
def mNotV (a : M RV) : M RV := (mBool a).bind fun k ρ => .ok (.v (.bl (!k))) ρ
theorem i_not {ma : M RV} {pos} (ha : PE X e (tI X.wk W ma)) : PE X (.UnaryOp .Not e pos) (tI X.wk W (mNotV ma)) :=
  (pe_not ha).to fun σ H Q ⟨ρ, F, A, R0, q⟩ => by
    refine ⟨ρ, F, A, R0, mBool_run (OutG.bind q (P' := fun b ρ1 => OutG X.wk W F A ρ σ H (.ok (.v (.bl (!b))) ρ1) fun r ρ' => ∀ F' A' H' v Bs, Got X.wk F A ρ σ H r ρ' F' A' H' v Bs → Q v H') fun k ρ1 e1 q1 => q1) fun k ρ1 F1 A1 H1 s1 q1 => ⟨k, rfl, q1 F1 A1 H1 _ [] (blOk s1)⟩⟩
end
end VS
namespace VS
open PySem PySem.Spec PyProof.Rows L2

section
variable {c : WK} {W : WX} {X : Cx} {e : Expr} {es : List Expr} {st : Stmt} {rest : List Stmt} {pos : Pos}
theorem EndP.later {D : Ends} {F F1 H H1 : Hp} {A A1 : Ow} {F2 H2 : Hp} {A2 : Ow} {σ2 : L2.St} (x : Ext F A H F1 A1 H1) : ∀ {f : Flo}, EndP c D F2 A2 σ2 H2 A H f → EndP c D F2 A2 σ2 H2 A1 H1 f
  | .nx, h => h
  | .bk, h => h
  | .ct, h => h
  | .rt r, h => fun v Bs rv nd dj fr => h v Bs rv nd dj fun a ha => by
    rcases fr a ha with ⟨j, hj⟩ | z
    · exact x.new j a hj
    · exact .inr (x.gone a z)
theorem tIS.later {m : M Flo} {D : Ends} {F F1 H H1 : Hp} {A A1 : Ow} {ρ ρ1 : Env} {σ σ1 : L2.St} (s : Stp c F A ρ σ H F1 A1 ρ1 σ1 H1)
    (q : OutG c W F A ρ σ H (m ρ1) fun f ρ' => ∀ F' A' σ' H', Stp c F A ρ σ H F' A' ρ' σ' H' → EndP c D F' A' σ' H' A H f) : tIS c W m D σ1 H1 :=
  ⟨ρ1, F1, A1, s.r, OutG.later s q fun f ρ' _ z F' A' σ' H' s' => (z F' A' σ' H' (s.trans s')).later s.x⟩

theorem _root_.VS.OutG.bindL {α β : Type} {F F1 H H1 : Hp} {A A1 : Ow} {ρ ρ1 : Env} {σ σ1 : L2.St} {m : M α} {k : α → M β} {P : β → Env → Prop} {P' : α → Env → Prop} (s : Stp c F A ρ σ H F1 A1 ρ1 σ1 H1)
    (h : OutG c W F A ρ σ H (m.bind k ρ1) P) (f : ∀ a ρ2, m ρ1 = .ok a ρ2 → OutG c W F A ρ σ H (k a ρ2) P → P' a ρ2) : OutG c W F1 A1 ρ1 σ1 H1 (m ρ1) P' := by
  unfold M.bind at h
  cases e : m ρ1 with
  | ok a ρ2 => rw [e] at h; exact f a ρ2 e h
  | exc x ρ2 => rw [e] at h; exact fun F' A' σ' H' cls d s' e => h F' A' σ' H' cls d (s.trans s') e
  | stuck => rw [e] at h; exact h
/-! ### blocks -/
def sNil : M Flo := fun ρ => .ok .nx ρ
def sSeq (s t : M Flo) : M Flo := s.bind fun f => match f with
  | .nx => t
  | f => fun ρ => .ok f ρ
theorem s_nil : PSs X [] (tIS X.wk W sNil) := pss_nil.to fun D σ H ⟨ρ, F, A, r, q⟩ => q F A σ H (.refl r)
theorem s_cons {s t : M Flo} (h1 : PS X st (tIS X.wk W s)) (h2 : PSs X rest (tIS X.wk W t)) : PSs X (st :: rest) (tIS X.wk W (sSeq s t)) := (pss_cons h1 h2).to fun D σ H ⟨ρ, F, A, r, q⟩ => by
  refine ⟨ρ, F, A, r, q.bind fun f ρ1 e1 q1 F1 A1 σ1 H1 s1 => ?_⟩
  cases f with
  | nx => exact tIS.later s1 q1
  | bk => exact q1 F1 A1 σ1 H1 s1
  | ct => exact q1 F1 A1 σ1 H1 s1
  | rt r => exact q1 F1 A1 σ1 H1 s1
theorem s_one {s : M Flo} (h1 : PS X st (tIS X.wk W s)) : PSs X [st] (tIS X.wk W s) := pss_one h1
def sPass : M Flo := fun ρ => .ok .nx ρ
def sBreak : M Flo := fun ρ => .ok .bk ρ
def sCont : M Flo := fun ρ => .ok .ct ρ
theorem s_pass : PS X (.Pass pos) (tIS X.wk W sPass) := ps_pass.to fun D σ H ⟨ρ, F, A, r, q⟩ => q F A σ H (.refl r)
theorem s_break : PS X (.Break pos) (tIS X.wk W sBreak) := ps_break.to fun D σ H ⟨ρ, F, A, r, q⟩ => q F A σ H (.refl r)
theorem s_continue : PS X (.Continue pos) (tIS X.wk W sCont) := ps_continue.to fun D σ H ⟨ρ, F, A, r, q⟩ => q F A σ H (.refl r)
/-- a statement that the proof never comes to -/
def sNever : M Flo := fun _ => .stuck
theorem s_never : PS X st (tIS X.wk W sNever) := ps_never.to fun D σ H ⟨ρ, F, A, r, q⟩ => q.elim
def sExpr (m : M RV) : M Flo := m.bind fun _ ρ => .ok .nx ρ
theorem s_expr {m : M RV} (h : PE X e (tI X.wk W m)) (hs : swapsWith e none pos.line X.env = pure false := by rfl) : PS X (.Expr e pos) (tIS X.wk W (sExpr m)) := (ps_expr h hs).to fun D σ H ⟨ρ, F, A, r, q⟩ =>
  ⟨ρ, F, A, r, q.bind fun f ρ1 e1 q1 F1 A1 H1 v1 B1 g1 => q1 F1 A1 σ H1 g1.s⟩
def sIf (t : M Bool) (a b : M Flo) : M Flo := t.bind fun k => if k = true then a else b
theorem s_if {t : M Bool} {ma mb : M Flo} {a b : List Stmt} (ht : PT X e (tIB X.wk W t)) (ha : PSs X a (tIS X.wk W ma)) (hb : PSs X b (tIS X.wk W mb)) : PS X (.If e a b pos) (tIS X.wk W (sIf t ma mb)) := (ps_if ht ha hb).to fun D σ H ⟨ρ, F, A, r, q⟩ =>
  ⟨ρ, F, A, r, q.bind fun k ρ1 e1 q1 F1 A1 H1 s1 => by
    cases k with
    | true => exact tIS.later s1 q1
    | false => exact tIS.later s1 q1⟩

/-! ### return -/
/-- what is handed back: a box of a slot of one's own goes along -/
def retv (r : RV) : M Flo := fun ρ => match r with
  | .fl f => .ok (.rt (.fl f)) ρ
  | .ob C fs => .ok (.rt (.ob C fs)) ρ
  | .pl i => match ρ.getD i .un with
    | .fl .own f => .ok (.rt (.fl f)) (ρ.set i .un)
    | .ob .own C fs => .ok (.rt (.ob C fs)) (ρ.set i .un)
    | _ => .stuck
def sRet (m : M RV) : M Flo := m.bind retv
theorem s_ret {m : M RV} (h : PE X e (tI X.wk W m)) : PS X (.Return (some e) pos) (tIS X.wk W (sRet m)) := (ps_ret h).to fun D σ H ⟨ρ, F, A, R0, q⟩ => by
  refine ⟨ρ, F, A, R0, q.bind fun r ρ1 e1 q1 F1 A1 H1 v1 B1 g1 => ?_⟩
  cases r with
  | fl f => exact q1 F1 A1 σ H1 g1.s v1 B1 g1.v g1.nd g1.dj g1.fr
  | ob C fs => exact q1 F1 A1 σ H1 g1.s v1 B1 g1.v g1.nd g1.dj g1.fr
  | pl i =>
    have hv : σ.getD i none = some v1 := g1.v.1
    have s := g1.s.r.sl i
    have e : OutG X.wk W F A ρ σ H (match ρ1.getD i .un with
      | .fl .own f => .ok (.rt (.fl f)) (ρ1.set i .un)
      | .ob .own C fs => .ok (.rt (.ob C fs)) (ρ1.set i .un)
      | _ => .stuck) fun f ρ' => ∀ F' A' σ' H', Stp X.wk F A ρ σ H F' A' ρ' σ' H' → EndP X.wk D F' A' σ' H' A H f := q1
    have put : modeOf (ρ1.getD i .un) = .own → i < ρ1.length → Stp X.wk F A ρ σ H F1 (A1.put i []) (ρ1.set i .un) σ H1 := fun hm hi =>
      ⟨g1.s.r.put i .un [] hi (.refl _) g1.s.r.le rfl (fun _ _ => rfl) rfl List.nodup_nil (fun j hj b o hb h => ⟨h, rfl⟩) (fun _ _ _ _ h => nomatch h),
        ⟨g1.s.x.mono, g1.s.x.keep, fun j b h => by
          by_cases hj : j = i
          · subst hj; rw [Ow.put_same] at h; cases h
          · rw [Ow.put_ne hj] at h; exact g1.s.x.new j b h, g1.s.x.gone⟩, g1.s.k.trans (Keep.put hm fun _ _ => rfl), rfl⟩
    have apart : ∀ j a, a ∈ (A1.put i []) j → a ∉ A1 i := fun j a ha hb => by
      by_cases hj : j = i
      · subst hj; rw [Ow.put_same] at ha; cases ha
      · rw [Ow.put_ne hj] at ha; exact hj (g1.s.r.dj j i a ha hb)
    split at e
    · rename_i f hs
      rw [hs] at s
      obtain ⟨w, ew, s⟩ := s
      rw [hv] at ew; cases ew
      exact e F1 (A1.put i []) σ H1 (put (by rw [hs]; rfl) (lt_of_getD (by rw [hs]; exact fun z => nomatch z))) v1 (A1 i) s (g1.s.r.nd i) apart fun a ha => g1.s.x.new i a ha
    · rename_i C fs hs
      rw [hs] at s
      obtain ⟨w, ew, s⟩ := s
      rw [hv] at ew; cases ew
      exact e F1 (A1.put i []) σ H1 (put (by rw [hs]; rfl) (lt_of_getD (by rw [hs]; exact fun z => nomatch z))) v1 (A1 i) s (g1.s.r.nd i) apart fun a ha => g1.s.x.new i a ha
    · exact e.elim
def sRetN : M Flo := fun ρ => .ok (.rt (.v .non)) ρ
theorem s_retN : PS X (.Return none pos) (tIS X.wk W sRetN) := ps_retN.to fun D σ H ⟨ρ, F, A, r, q⟩ => q F A σ H (.refl r) .non [] ⟨rfl, Rep.non_iff.mpr rfl⟩ List.nodup_nil (fun _ _ _ h => nomatch h) (fun _ h => nomatch h)

/-! ### names stored -/
theorem getD_set2 {σ : L2.St} {i j : Nat} {v : Option V} (h : j ≠ i) : (σ.set i v).getD j none = σ.getD j none := getD_set_ne h
/-- a value into the slot i -/
def putv (i : Nat) (d : D) (ρ : Env) : Option Env := if modeOf (ρ.getD i .un) = .own ∧ i < ρ.length then some (ρ.set i (.v d)) else none
theorem putv_ok {F F1 H H1 : Hp} {A A1 : Ow} {ρ ρ1 ρ2 : Env} {σ σ1 : L2.St} {i : Nat} {d : D} {v : V} (s : Stp c F A ρ σ H F1 A1 ρ1 σ1 H1) (h : Rep c.K F1 d v) (e : putv i d ρ1 = some ρ2) :
    ∃ A2, Stp c F A ρ σ H F1 A2 ρ2 (σ1.set i (some v)) H1 := by
  unfold putv at e
  split at e
  · rename_i hi
    cases e
    refine ⟨A1.put i [], s.r.put i _ [] hi.2 (.refl _) s.r.le (by rw [List.length_set]) (fun j hj => getD_set2 hj) ⟨v, getD_set_same (by rw [← s.r.len]; exact hi.2), rfl, h⟩ List.nodup_nil (fun j hj b o hb h => ⟨h, rfl⟩) (fun _ _ _ _ h => nomatch h),
      ⟨s.x.mono, s.x.keep, fun j b h => ?_, s.x.gone⟩, s.k.trans (Keep.put hi.1 fun j hj => getD_set2 hj), by rw [List.length_set]; exact s.l⟩
    by_cases hj : j = i
    · subst hj; rw [Ow.put_same] at h; cases h
    · rw [Ow.put_ne hj] at h; exact s.x.new j b h
  · cases e
def store (i : Nat) (r : RV) : M Flo := fun ρ => match r with
  | .fl f => if modeOf (ρ.getD i .un) = .own ∧ i < ρ.length then .ok .nx (ρ.set i (.fl .own f)) else .stuck
  | .ob C fs => if modeOf (ρ.getD i .un) = .own ∧ i < ρ.length then .ok .nx (ρ.set i (.ob .own C fs)) else .stuck
  | .pl j => match esc (.pl j) ρ with
    | .ok d ρ1 => match putv i d ρ1 with
      | some ρ2 => .ok .nx ρ2
      | none => .stuck
    | _ => .stuck
theorem store_got {F F1 H H1 : Hp} {A A1 : Ow} {ρ ρ1 : Env} {σ : L2.St} {r : RV} {v : V} {Bs : List Addr} {i : Nat} {P : Flo → Env → Prop} (g : Got c F A ρ σ H r ρ1 F1 A1 H1 v Bs) (e : OutG c W F A ρ σ H (store i r ρ1) P) :
    ∃ F2 A2 ρ2, Stp c F A ρ σ H F2 A2 ρ2 (σ.set i (some v)) H1 ∧ P .nx ρ2 := by
  have set : ∀ x, modeOf (ρ1.getD i .un) = .own → i < ρ1.length → SlR c F1 H1 x (some v) Bs → Stp c F A ρ σ H F1 (A1.put i Bs) (ρ1.set i x) (σ.set i (some v)) H1 := fun x hm hi hx =>
    ⟨g.s.r.put i x Bs hi (.refl _) g.s.r.le (by rw [List.length_set]) (fun j hj => getD_set2 hj) (by rw [getD_set_same (by rw [← g.s.r.len]; exact hi)]; exact hx) g.nd (fun j hj b o hb h => ⟨h, rfl⟩) (fun j _ a ha => g.dj j a ha),
      ⟨g.s.x.mono, g.s.x.keep, fun j b h => by
        by_cases hj : j = i
        · subst hj; rw [Ow.put_same] at h; exact g.fr b h
        · rw [Ow.put_ne hj] at h; exact g.s.x.new j b h, g.s.x.gone⟩, g.s.k.trans (Keep.put hm fun j hj => getD_set2 hj), by rw [List.length_set]⟩
  cases r with
  | fl f =>
    have e : OutG c W F A ρ σ H (if modeOf (ρ1.getD i .un) = .own ∧ i < ρ1.length then .ok .nx (ρ1.set i (.fl .own f)) else .stuck) P := e
    by_cases hi : modeOf (ρ1.getD i .un) = .own ∧ i < ρ1.length
    · rw [if_pos hi] at e
      exact ⟨F1, A1.put i Bs, _, set (.fl .own f) hi.1 hi.2 ⟨v, rfl, g.v⟩, e⟩
    · rw [if_neg hi] at e; exact e.elim
  | ob C fs =>
    have e : OutG c W F A ρ σ H (if modeOf (ρ1.getD i .un) = .own ∧ i < ρ1.length then .ok .nx (ρ1.set i (.ob .own C fs)) else .stuck) P := e
    by_cases hi : modeOf (ρ1.getD i .un) = .own ∧ i < ρ1.length
    · rw [if_pos hi] at e
      exact ⟨F1, A1.put i Bs, _, set (.ob .own C fs) hi.1 hi.2 ⟨v, rfl, g.v⟩, e⟩
    · rw [if_neg hi] at e; exact e.elim
  | pl j =>
    have e : OutG c W F A ρ σ H (match esc (.pl j) ρ1 with
      | .ok d ρ1 => match putv i d ρ1 with
        | some ρ2 => .ok .nx ρ2
        | none => .stuck
      | _ => .stuck) P := e
    cases e2 : esc (.pl j) ρ1 with
    | ok d ρ2 =>
      rw [e2] at e
      obtain ⟨F2, A2, s2, rep⟩ := esc_ok g e2
      have e : OutG c W F A ρ σ H (match putv i d ρ2 with
        | some ρ2 => .ok .nx ρ2
        | none => .stuck) P := e
      cases e3 : putv i d ρ2 with
      | some ρ3 =>
        rw [e3] at e
        obtain ⟨A3, s3⟩ := putv_ok s2 rep e3
        exact ⟨F2, A3, ρ3, s3, e⟩
      | none => rw [e3] at e; exact e.elim
    | exc x ρ2 => exact (esc_exc e2).elim
    | stuck => rw [e2] at e; exact e.elim
def sAsg (i : Nat) (m : M RV) : M Flo := m.bind (store i)
/-- from «t, then the name i» -/
theorem asg_of {te : TE} {m : M RV} {i : Nat} {D : Ends} {σ : L2.St} {H : Hp} (ht : ∀ Q, tI c W m σ H Q → te σ H Q) (h : tIS c W (sAsg i m) D σ H) : tAsg te (gName i) D σ H := by
  obtain ⟨ρ, F, A, R0, q⟩ := h
  refine ht _ ⟨ρ, F, A, R0, q.bind fun r ρ1 e1 q1 F1 A1 H1 v1 B1 g1 => ?_⟩
  obtain ⟨F2, A2, ρ2, s2, p2⟩ := store_got g1 q1
  exact p2 F2 A2 _ H1 s2
theorem s_set {i : Nat} {x : Str} {pos' : Pos} {m : M RV} (hN : X.N.Nodup) (hi : X.N[i]? = some x) (hx : Loc X.env.scope x) (h : PE X e (tI X.wk W m)) (hs : swapsWith e (some (.Name x pos')) pos.line X.env = pure false := by rfl)
    (hf : X.fn x = true ∨ X.env.scope.names.lookup x = some .local := by first | exact .inl rfl | exact .inr rfl | assumption) : PS X (.Assign [.Name x pos'] e pos) (tIS X.wk W (sAsg i m)) :=
  (ps_set hN hi hx h hs hf).to fun D σ H q => asg_of (fun _ z => z) q

/-! ### targets -/
abbrev Tg := D → Env → Option Env
/-- it stores into the slots sl alone -/
def Off (sl : List Nat) (σ σ' : L2.St) : Prop := ∀ j, j ∉ sl → σ'.getD j none = σ.getD j none
def tgI (c : WK) (sl : List Nat) (tg : Tg) : TG := fun v σ H Q => ∃ ρ F A d ρ', R c F A ρ σ H ∧ Rep c.K F d v ∧ tg d ρ = some ρ' ∧ ∀ A' σ', Stp c F A ρ σ H F A' ρ' σ' H → Off sl σ σ' → Q σ' H
def tgsI (c : WK) (sl : List Nat) (tg : List D → Env → Option Env) : TGs := fun vs σ H Q => ∃ ρ F A ds ρ', R c F A ρ σ H ∧ Reps c.K F ds vs ∧ tg ds ρ = some ρ' ∧ ∀ A' σ', Stp c F A ρ σ H F A' ρ' σ' H → Off sl σ σ' → Q σ' H
def tgNil : List D → Env → Option Env := fun ds ρ => match ds with
  | [] => some ρ
  | _ => none
def tgCons (t : Tg) (u : List D → Env → Option Env) : List D → Env → Option Env := fun ds ρ => match ds with
  | d :: r => match t d ρ with
    | some ρ1 => u r ρ1
    | none => none
  | [] => none
def tgTup (n : Nat) (u : List D → Env → Option Env) : Tg := fun d ρ => match d with
  | .tup ds => if ds.length = n then u ds ρ else none
  | _ => none
theorem _root_.L2.PG.to {tg : Expr} {t t' : TG} (h : PG X tg t) (g : ∀ v σ H Q, t' v σ H Q → t v σ H Q) : PG X tg t' := ⟨fun pins s σ H v u Q I r q => h.run pins s σ H v u Q I r (g v σ H Q q)⟩
theorem _root_.L2.PGs.to {tg : List Expr} {t t' : TGs} (h : PGs X tg t) (g : ∀ v σ H Q, t' v σ H Q → t v σ H Q) : PGs X tg t' := ⟨fun pins s σ H v u Q I r q => h.run pins s σ H v u Q I r (g v σ H Q q)⟩
theorem g_name {i : Nat} {x : Str} (hN : X.N.Nodup) (hi : X.N[i]? = some x) (hx : Loc X.env.scope x) (hf : X.fn x = true ∨ X.env.scope.names.lookup x = some .local := by first | exact .inl rfl | exact .inr rfl | assumption) : PG X (.Name x pos) (tgI X.wk [i] (putv i)) :=
  (pg_name hN hi hx hf).to fun v σ H Q ⟨ρ, F, A, d, ρ', r, rep, e, q⟩ => by
    obtain ⟨A2, s2⟩ := putv_ok (.refl r) rep e
    exact q A2 _ s2 fun j hj => getD_set2 (by simpa using hj)
theorem gs_nil : PGs X [] (tgsI X.wk [] tgNil) := pgs_nil.to fun vs σ H Q ⟨ρ, F, A, ds, ρ', r, rep, e, q⟩ => by
  cases ds with
  | nil =>
    cases e
    exact ⟨rep.inv0, q A σ (.refl r) fun _ _ => rfl⟩
  | cons d ds => cases e
theorem gs_cons {t : Tg} {u : List D → Env → Option Env} {l1 l2 : List Nat} (h1 : PG X e (tgI X.wk l1 t)) (h2 : PGs X es (tgsI X.wk l2 u)) (hs : (assignEach (e :: es) X.env).map (·.2) = assign e X.env :: (assignEach es X.env).map (·.2) := by rfl) : PGs X (e :: es) (tgsI X.wk (l1 ++ l2) (tgCons t u)) :=
  (pgs_cons h1 h2 hs).to fun vs σ H Q ⟨ρ, F, A, ds, ρ', r, rep, e, q⟩ => by
    cases ds with
    | nil => cases e
    | cons d ds =>
      obtain ⟨v, w, rfl, r1, r2⟩ := rep.inv
      have e : (match t d ρ with
        | some ρ1 => u ds ρ1
        | none => none) = some ρ' := e
      cases e1 : t d ρ with
      | none => rw [e1] at e; cases e
      | some ρ1 =>
        rw [e1] at e
        exact ⟨v, w, rfl, ρ, F, A, d, ρ1, r, r1, e1, fun A1 σ1 s1 o1 => ⟨ρ1, F, A1, ds, ρ', s1.r, r2, e, fun A2 σ2 s2 o2 => q A2 σ2 (s1.trans s2) fun j hj => (o2 j fun z => hj (List.mem_append_right _ z)).trans (o1 j fun z => hj (List.mem_append_left _ z))⟩⟩
theorem g_tup {k n : Nat} {u : List D → Env → Option Env} {l : List Nat} (hc : X.calm = true) (h : PGs X es (tgsI X.wk l u)) (hn : (assignEach es X.env).length = n := by rfl) (hst : (assignEach es X.env).findIdx? (·.1) = none := by rfl) : PG X (.Tuple es k pos) (tgI X.wk l (tgTup n u)) :=
  (pg_tup hc h hn hst).to fun v σ H Q ⟨ρ, F, A, d, ρ', r, rep, e, q⟩ => by
    cases d with
    | tup ds =>
      obtain ⟨a, vs, ev, sq, rs⟩ := Rep.tup_iff.mp rep
      have e : (if ds.length = n then u ds ρ else none) = some ρ' := e
      split at e
      · rename_i hl
        exact ⟨a, vs, ev, sub_t r.le sq, rs.length.trans hl, ρ, F, A, ds, ρ', r, rs, e, q⟩
      · cases e
    | _ => cases e
/-- target = value, the target of any form -/
def asgT (t : Tg) (d : D) : M Flo := fun ρ => match t d ρ with
  | some ρ' => .ok .nx ρ'
  | none => .stuck
def sAsgT (t : Tg) (m : M RV) : M Flo := (mEsc m).bind (asgT t)
theorem s_asgT {tg : Expr} {t : Tg} {l : List Nat} {m : M RV} (h : PE X e (tI X.wk W m)) (hg : PG X tg (tgI X.wk l t)) (hs : swapsWithSole [tg] e pos.line X.env = pure false := by rfl) (hw : swappedStores [tg] e X.env = pure none := by rfl)
    (h1 : (assignEach [tg] X.env).map (·.2) = [assign tg X.env] := by rfl) : PS X (.Assign [tg] e pos) (tIS X.wk W (sAsgT t m)) := (ps_asg (i_esc h) hg hs hw h1).to fun D σ H ⟨ρ, F, A, R0, q⟩ => by
  refine ⟨ρ, F, A, R0, q.bind fun d ρ1 e1 q1 F1 A1 H1 v1 s1 r1 => ?_⟩
  unfold asgT at q1
  split at q1
  · rename_i ρ2 e2
    exact ⟨ρ1, F1, A1, d, ρ2, s1.r, r1, e2, fun A2 σ2 s2 _ => q1 F1 A2 σ2 H1 (s1.trans s2)⟩
  · exact q1.elim

/-! ### while -/
def wturn (b : Flo) (again : M Flo) : M Flo := match b with
  | .nx => again
  | .ct => again
  | .bk => fun ρ => .ok .nx ρ
  | .rt r => fun ρ => .ok (.rt r) ρ
def wloop (t : M Bool) (b : M Flo) : Nat → M Flo
  | 0 => fun _ => .stuck
  | n + 1 => t.bind fun k => if k = true then b.bind fun f => wturn f (wloop t b n) else fun ρ => .ok .nx ρ
theorem wloop_more {t : M Bool} {b : M Flo} : ∀ (n : Nat) (ρ : Env), wloop t b n ρ ≠ .stuck → wloop t b (n + 1) ρ = wloop t b n ρ
  | 0, _, h => absurd rfl h
  | n + 1, ρ, h => by
    show (t.bind fun k => if k = true then b.bind fun f => wturn f (wloop t b (n + 1)) else fun ρ => .ok .nx ρ) ρ = (t.bind fun k => if k = true then b.bind fun f => wturn f (wloop t b n) else fun ρ => .ok .nx ρ) ρ
    have h : (t.bind fun k => if k = true then b.bind fun f => wturn f (wloop t b n) else fun ρ => .ok .nx ρ) ρ ≠ .stuck := h
    unfold M.bind at h ⊢
    cases e1 : t ρ with
    | stuck => rfl
    | exc x ρ1 => rfl
    | ok k ρ1 =>
      rw [e1] at h
      cases k with
      | false => rfl
      | true =>
        simp only [if_true] at h ⊢
        cases e2 : b ρ1 with
        | stuck => rfl
        | exc x ρ2 => rfl
        | ok f ρ2 =>
          rw [e2] at h
          cases f with
          | nx => exact wloop_more n ρ2 h
          | ct => exact wloop_more n ρ2 h
          | bk => rfl
          | rt r => rfl
theorem wloop_add {t : M Bool} {b : M Flo} {n : Nat} {ρ : Env} (h : wloop t b n ρ ≠ .stuck) : ∀ k, wloop t b (n + k) ρ = wloop t b n ρ
  | 0 => rfl
  | k + 1 => by
    have ih := wloop_add h k
    rw [← Nat.add_assoc, wloop_more (n + k) ρ (by rw [ih]; exact h), ih]
open Classical in
noncomputable def sWhile (t : M Bool) (b : M Flo) : M Flo := fun ρ => if h : ∃ n, wloop t b n ρ ≠ .stuck then wloop t b h.choose ρ else .stuck
theorem sWhile_eq {t : M Bool} {b : M Flo} {n : Nat} {ρ : Env} {r : Res Flo} (h : wloop t b n ρ = r) (hr : r ≠ .stuck) : sWhile t b ρ = r := by
  have ex : ∃ n, wloop t b n ρ ≠ .stuck := ⟨n, by rw [h]; exact hr⟩
  unfold sWhile
  rw [dif_pos ex]
  have h1 := wloop_add ex.choose_spec n
  have h2 := wloop_add (n := n) (ρ := ρ) (t := t) (b := b) (by rw [h]; exact hr) ex.choose
  rw [Nat.add_comm] at h2
  rw [← h1, h2, h]
theorem sWhile_run {t : M Bool} {b : M Flo} {ρ : Env} (h : sWhile t b ρ ≠ .stuck) : ∃ n, wloop t b n ρ = sWhile t b ρ := by
  unfold sWhile at h ⊢
  split at h
  · rename_i ex
    rw [dif_pos ex]
    exact ⟨ex.choose, rfl⟩
  · exact absurd rfl h
theorem s_while {t : M Bool} {b : M Flo} {body : List Stmt} (hp : PassesOwn (model X.prog X.w) X.A X.env X.xe) (ht : PT X e (tIB X.wk W t)) (hb : PSs X body (tIS X.wk W b)) : PS X (.While e body [] pos) (tIS X.wk W (sWhile t b)) :=
  (ps_while hp ht hb).to fun D σ H ⟨ρ, F, A, R0, q⟩ => by
    obtain ⟨n, hn⟩ := sWhile_run (t := t) (b := b) (ρ := ρ) (fun z => by rw [z] at q; exact q.elim)
    rw [← hn] at q
    refine ⟨fun m σ1 H1 => ∃ ρ1 F1 A1, Stp X.wk F A ρ σ H F1 A1 ρ1 σ1 H1 ∧ OutG X.wk W F A ρ σ H (wloop t b m ρ1) fun f ρ' => ∀ F' A' σ' H', Stp X.wk F A ρ σ H F' A' ρ' σ' H' → EndP X.wk D F' A' σ' H' A H f, ⟨n, ρ, F, A, .refl R0, q⟩, ?_⟩
    rintro m σ1 H1 ⟨ρ1, F1, A1, s1, q1⟩
    cases m with
    | zero => exact q1.elim
    | succ m =>
      refine ⟨ρ1, F1, A1, s1.r, OutG.bindL s1 q1 fun k ρ2 e2 q2 F2 A2 H2 s2 => ?_⟩
      have s12 := s1.trans s2
      cases k with
      | false => exact q2 F2 A2 σ1 H2 s12
      | true =>
        simp only [if_true] at q2 ⊢
        refine ⟨fun σ3 H3 => ∃ ρ3 F3 A3, Stp X.wk F A ρ σ H F3 A3 ρ3 σ3 H3 ∧ OutG X.wk W F A ρ σ H (wloop t b m ρ3) fun f ρ' => ∀ F' A' σ' H', Stp X.wk F A ρ σ H F' A' ρ' σ' H' → EndP X.wk D F' A' σ' H' A H f, fun σ3 H3 h3 => ⟨m, Nat.lt_succ_self m, h3⟩, ?_⟩
        refine ⟨ρ2, F2, A2, s12.r, OutG.bindL s12 q2 fun f ρ3 e3 q3 F3 A3 σ3 H3 s3 => ?_⟩
        have s13 := s12.trans s3
        cases f with
        | nx => exact ⟨ρ3, F3, A3, s13, q3⟩
        | ct => exact ⟨ρ3, F3, A3, s13, q3⟩
        | bk => exact q3 F3 A3 σ3 H3 s13
        | rt r => exact EndP.later s12.x (q3 F3 A3 σ3 H3 s13)
end
end VS
namespace VS
open PySem PySem.Spec PyProof.Rows L2

section
variable {c : WK} {W : WX} {X : Cx} {e : Expr} {es : List Expr} {st : Stmt} {rest : List Stmt} {pos : Pos}
/-! ### what is walked -/
/-- the items; the slot that holds the list, if it is one of the def's own or lent -/
structure Src where
  ds : List D
  lk : Option Nat
def reM (m : Mode) : Sl → Sl
  | .un => .un
  | .fl _ f => .fl m f
  | .ob _ C fs => .ob m C fs
def lck (S : Src) (ρ : Env) : Env := match S.lk with
  | none => ρ
  | some i => ρ.set i (reM .lk (ρ.getD i .un))
def unlk (S : Src) (ρ0 ρ : Env) : Env := match S.lk with
  | none => ρ
  | some i => ρ.set i (reM (modeOf (ρ0.getD i .un)) (ρ.getD i .un))
/-- the walked slot is as it was -/
def Stays (S : Src) (ρ0 : Env) (σ0 : L2.St) (ρ : Env) (σ : L2.St) : Prop := ∀ i, S.lk = some i → ρ.getD i .un = ρ0.getD i .un ∧ σ.getD i none = σ0.getD i none
structure SrcOk (c : WK) (F0 : Hp) (ρ0 : Env) (σ0 : L2.St) (J : It) (S : Src) : Prop where
  go : ∀ i F A ρ σ H, R c F A ρ σ H → Sub F0 F → Stays S ρ0 σ0 ρ σ → i < S.ds.length → J.go i H
  stop : ∀ F A ρ σ H, R c F A ρ σ H → Sub F0 F → Stays S ρ0 σ0 ρ σ → J.stop S.ds.length H
  yld : ∀ i F A ρ σ H x H', R c F A ρ σ H → Sub F0 F → Stays S ρ0 σ0 ρ σ → i < S.ds.length → J.yld i H x H' → ∃ F' d, Grow F H F' H' ∧ S.ds[i]? = some d ∧ Rep c.K F' d x
/-- and the slot is locked -/
def LkOk (S : Src) (ρ : Env) : Prop := ∀ i, S.lk = some i → ρ.getD i .un ≠ .un
def tII (c : WK) (W : WX) (m : M Src) : TI := fun σ H R' => ∃ ρ F A, R c F A ρ σ H ∧ OutG c W F A ρ σ H (m ρ) fun S ρ' => ∀ F' A' H' J, Stp c F A ρ σ H F' A' ρ' σ H' → LkOk S ρ' → SrcOk c F' (lck S ρ') σ J S → R' J H'
theorem _root_.L2.PI.to {tg iter : Expr} {t t' : TI} (h : PI X tg iter t) (g : ∀ σ H Q, t' σ H Q → t σ H Q) : PI X tg iter t' := ⟨fun pins s σ H Q I q => h.run pins s σ H Q I (g σ H Q q)⟩

theorem SlR.reM {F H : Hp} {m : Mode} : ∀ {x : Sl} {sv : Option V} {As : List Addr}, SlR c F H x sv As → SlR c F H (reM m x) sv As
  | .un, _, _, h => h
  | .fl _ f, _, _, h => h
  | .ob _ C fs, _, _, h => h
theorem R.setM {F H : Hp} {A : Ow} {ρ : Env} {σ : L2.St} (r : R c F A ρ σ H) (i : Nat) (m : Mode) : R c F A (ρ.set i (reM m (ρ.getD i .un))) σ H where
  le := r.le
  len := by rw [List.length_set, r.len]
  sl := fun j => by
    by_cases hj : j = i
    · subst hj
      by_cases hi : j < ρ.length
      · rw [getD_set_same hi]; exact (r.sl j).reM
      · rw [List.set_eq_of_length_le (by omega)]; exact r.sl j
    · rw [getD_set_ne hj]; exact r.sl j
  nd := r.nd
  dj := r.dj
theorem R.lck {F H : Hp} {A : Ow} {ρ : Env} {σ : L2.St} (r : R c F A ρ σ H) (S : Src) : R c F A (lck S ρ) σ H := by
  unfold VS.lck
  split
  · exact r
  · exact r.setM _ _
theorem R.unlk {F H : Hp} {A : Ow} {ρ : Env} {σ : L2.St} (r : R c F A ρ σ H) (S : Src) (ρ0 : Env) : R c F A (unlk S ρ0 ρ) σ H := by
  unfold VS.unlk
  split
  · exact r
  · exact r.setM _ _
theorem modeOf_reM {m : Mode} {x : Sl} (h : x ≠ .un) : modeOf (reM m x) = m := by cases x <;> first | exact absurd rfl h | rfl
theorem reM_reM {m m' : Mode} {x : Sl} : reM m (reM m' x) = reM m x := by cases x <;> rfl
theorem reM_own {x : Sl} : reM (modeOf x) x = x := by cases x <;> rfl
/-- what stays of a locked slot -/
theorem lck_stays {S : Src} {ρ ρ' : Env} {σ σ' : L2.St} (h : LkOk S ρ) (k : Keep (lck S ρ) σ ρ' σ') : Stays S (lck S ρ) σ ρ' σ' := fun i e => by
  have hi : i < ρ.length := lt_of_getD (h i e)
  have hl : (lck S ρ).getD i .un = reM .lk (ρ.getD i .un) := by unfold lck; rw [e]; exact getD_set_same hi
  have hm : modeOf ((lck S ρ).getD i .un) = .lk := by rw [hl]; exact modeOf_reM (h i e)
  obtain ⟨a, b, d⟩ := k i (by rw [hm]; exact fun z => nomatch z)
  exact ⟨d hm, a⟩
theorem unlk_keep {S : Src} {ρ ρ' : Env} {σ σ' : L2.St} (h : LkOk S ρ) (k : Keep (lck S ρ) σ ρ' σ') (hl : ρ'.length = ρ.length) : Keep ρ σ (unlk S ρ ρ') σ' := fun j hj => by
  have st := lck_stays h k
  unfold lck at k st
  unfold unlk
  cases e : S.lk with
  | none => rw [e] at k; exact k j hj
  | some i =>
    rw [e] at k
    simp only [e] at st
    by_cases hji : j = i
    · subst hji
      have hi : j < ρ.length := lt_of_getD (h j e)
      obtain ⟨s1, s2⟩ := st j e
      rw [getD_set_same hi] at s1
      rw [getD_set_same (by omega), s1, reM_reM, reM_own]
      exact ⟨s2, rfl, fun _ => rfl⟩
    · obtain ⟨a, b, d⟩ := k j (by rw [getD_set_ne hji]; exact hj)
      rw [getD_set_ne hji] at b d ⊢
      exact ⟨a, b, d⟩
theorem Stp.unlk {F F1 F' H H1 H' : Hp} {A A1 A' : Ow} {ρ ρ1 ρ' : Env} {σ σ1 σ' : L2.St} {S : Src} (s1 : Stp c F A ρ σ H F1 A1 ρ1 σ1 H1) (h : LkOk S ρ1) (s2 : Stp c F1 A1 (lck S ρ1) σ1 H1 F' A' ρ' σ' H') :
    Stp c F A ρ σ H F' A' (unlk S ρ1 ρ') σ' H' :=
  ⟨s2.r.unlk S ρ1, s1.x.trans s2.x, s1.k.trans (unlk_keep h s2.k (by rw [s2.r.len, s2.l, ← s1.r.len])), s2.l.trans s1.l⟩

/-! ### for -/
def fin {α : Type} (u : Env → Env) : Res α → Res α
  | .ok a ρ => .ok a (u ρ)
  | .exc x ρ => .exc x (u ρ)
  | .stuck => .stuck
def floop (tg : Tg) (b : M Flo) : List D → M Flo
  | [] => fun ρ => .ok .nx ρ
  | d :: ds => fun ρ => match tg d ρ with
    | some ρ1 => (b.bind fun f => wturn f (floop tg b ds)) ρ1
    | none => .stuck
def sFor (src : M Src) (tg : Tg) (b : M Flo) : M Flo := src.bind fun S ρ => fin (unlk S ρ) (floop tg b S.ds (lck S ρ))
theorem OutG.bindU {α β : Type} {F F1 H H1 : Hp} {A A1 : Ow} {ρ ρ1 : Env} {σ σ1 : L2.St} {m : M α} {k : α → M β} {u : Env → Env} {P : β → Env → Prop} {P' : α → Env → Prop}
    (hs : ∀ F' A' ρ' σ' H', Stp c F1 A1 ρ1 σ1 H1 F' A' ρ' σ' H' → Stp c F A ρ σ H F' A' (u ρ') σ' H')
    (h : OutG c W F A ρ σ H (fin u (m.bind k ρ1)) P) (f : ∀ a ρ2, m ρ1 = .ok a ρ2 → OutG c W F A ρ σ H (fin u (k a ρ2)) P → P' a ρ2) : OutG c W F1 A1 ρ1 σ1 H1 (m ρ1) P' := by
  unfold M.bind at h
  cases e : m ρ1 with
  | ok a ρ2 => rw [e] at h; exact f a ρ2 e h
  | exc x ρ2 => rw [e] at h; exact fun F' A' σ' H' cls d s' e => h F' A' σ' H' cls d (hs _ _ _ _ _ s') e
  | stuck => rw [e] at h; exact h
theorem s_for {iter tgt : Expr} {body : List Stmt} {src : M Src} {tg : Tg} {l : List Nat} {b : M Flo} (hp : PassesOwn (model X.prog X.w) X.A X.env X.xe) (hc : X.calm = true) (hi : PI X tgt iter (tII X.wk W src)) (hg : PG X tgt (tgI X.wk l tg)) (hb : PSs X body (tIS X.wk W b))
    (hs : ∀ x, foldedSetIterable iter X.env x = pure x := by intro _; rfl) : PS X (.For tgt iter body [] pos) (tIS X.wk W (sFor src tg b)) := (ps_for hp hc hi hg hb hs).to fun D σ H ⟨ρ, F, A, R0, q⟩ => by
  refine ⟨ρ, F, A, R0, q.bind fun S ρ1 e1 q1 F1 A1 H1 J s1 hlk so => ?_⟩
  have R1 : R X.wk F1 A1 (lck S ρ1) σ H1 := s1.r.lck S
  have back : ∀ {F' A' ρ' σ' H'}, Stp X.wk F1 A1 (lck S ρ1) σ H1 F' A' ρ' σ' H' → Stp X.wk F A ρ σ H F' A' (unlk S ρ1 ρ') σ' H' := fun s2 => s1.unlk hlk s2
  refine ⟨fun i m σ' H' => m = S.ds.length - i ∧ i ≤ S.ds.length ∧ ∃ ρ' F' A', Stp X.wk F1 A1 (lck S ρ1) σ H1 F' A' ρ' σ' H' ∧ OutG X.wk W F A ρ σ H (fin (unlk S ρ1) (floop tg b (S.ds.drop i) ρ')) fun f ρ' => ∀ F' A' σ' H', Stp X.wk F A ρ σ H F' A' ρ' σ' H' → EndP X.wk D F' A' σ' H' A H f,
    ⟨S.ds.length, rfl, Nat.zero_le _, lck S ρ1, F1, A1, .refl R1, q1⟩, ?_⟩
  rintro i m σ2 H2 ⟨rfl, hi2, ρ2, F2, A2, s2, q2⟩
  have st := lck_stays hlk s2.k
  by_cases hlt : i < S.ds.length
  · refine .inr ⟨so.go i F2 A2 ρ2 σ2 H2 s2.r s2.x.mono st hlt, fun σ' H' => i + 1 ≤ S.ds.length ∧ ∃ ρ' F' A', Stp X.wk F1 A1 (lck S ρ1) σ H1 F' A' ρ' σ' H' ∧ OutG X.wk W F A ρ σ H (fin (unlk S ρ1) (floop tg b (S.ds.drop (i + 1)) ρ')) fun f ρ' => ∀ F' A' σ' H', Stp X.wk F A ρ σ H F' A' ρ' σ' H' → EndP X.wk D F' A' σ' H' A H f,
      fun σ' H' z => ⟨S.ds.length - (i + 1), by omega, rfl, z⟩, fun x H3 y => ?_⟩
    obtain ⟨F3, d, gr, ed, rep⟩ := so.yld i F2 A2 ρ2 σ2 H2 x H3 s2.r s2.x.mono st hlt y
    have s3 : Stp X.wk F1 A1 (lck S ρ1) σ H1 F3 A2 ρ2 σ2 H3 := s2.grow gr
    have ed2 : S.ds.drop i = d :: S.ds.drop (i + 1) := by
      obtain ⟨h1, h2⟩ := List.getElem?_eq_some_iff.mp ed
      rw [← h2]; exact List.drop_eq_getElem_cons h1
    rw [ed2] at q2
    have q2 : OutG X.wk W F A ρ σ H (fin (unlk S ρ1) (match tg d ρ2 with
      | some ρ1 => (b.bind fun f => wturn f (floop tg b (S.ds.drop (i + 1)))) ρ1
      | none => .stuck)) fun f ρ' => ∀ F' A' σ' H', Stp X.wk F A ρ σ H F' A' ρ' σ' H' → EndP X.wk D F' A' σ' H' A H f := q2
    cases e4 : tg d ρ2 with
    | none => rw [e4] at q2; exact q2.elim
    | some ρ3 =>
      rw [e4] at q2
      refine ⟨ρ2, F3, A2, d, ρ3, s3.r, rep, e4, fun A4 σ4 s4 _ => ?_⟩
      have s14 := s3.trans s4
      refine ⟨ρ3, F3, A4, s4.r, OutG.bindU (fun F' A' ρ' σ' H' z => back (s14.trans z)) q2 fun f ρ5 e5 q5 F5 A5 σ5 H5 s5 => ?_⟩
      have s15 := s14.trans s5
      cases f with
      | nx => exact ⟨hlt, ρ5, F5, A5, s15, q5⟩
      | ct => exact ⟨hlt, ρ5, F5, A5, s15, q5⟩
      | bk => exact q5 F5 A5 σ5 H5 (back s15)
      | rt r =>
        refine fun v Bs rv nd dj fr => (q5 F5 A5 σ5 H5 (back s15)) v Bs rv nd dj fun a ha => ?_
        rcases fr a ha with ⟨j, hj⟩ | z
        · exact (back s14).x.new j a hj
        · exact .inr ((back s14).x.gone a z)
  · have e : i = S.ds.length := by omega
    subst e
    rw [List.drop_length] at q2
    exact .inl ⟨so.stop F2 A2 ρ2 σ2 H2 s2.r s2.x.mono st, q2 F2 A2 σ2 H2 (back s2)⟩

/-! ### sources -/
/-- a list; a tuple -/
def srcL (r : RV) : M Src := fun ρ => match r with
  | .fl (.val (.lst ds)) => .ok ⟨ds, none⟩ ρ
  | .fl (.lst ds) => .ok ⟨ds, none⟩ ρ
  | .pl i => match ρ.getD i .un with
    | .fl _ (.lst ds) => .ok ⟨ds, some i⟩ ρ
    | _ => .stuck
  | _ => .stuck
def srcT (r : RV) : M Src := fun ρ => match r with
  | .fl (.val (.tup ds)) => .ok ⟨ds, none⟩ ρ
  | _ => .stuck
theorem yat {K : PySem.W.Frag} {F : Hp} {ds : List D} {vs : List V} {i : Nat} {x : V} (h : Reps K F ds vs) (e : vs[i]? = some x) : ∃ d, ds[i]? = some d ∧ Rep K F d x := Reps.getv h e
theorem srcL_frozen {F0 : Hp} {ρ0 : Env} {σ0 : L2.St} {a : Addr} {vs : List V} {ds : List D} (h : SqL c.K F0 a vs) (r : Reps c.K F0 ds vs) : SrcOk c F0 ρ0 σ0 (Itl c.K a) ⟨ds, none⟩ where
  go := fun i F A ρ σ H R s _ hi => ⟨vs, vs[i]'(by rw [r.length]; exact hi), sub_l (s.trans R.le) h, by simp [show i < vs.length by rw [r.length]; exact hi]⟩
  stop := fun F A ρ σ H R s _ => ⟨vs, sub_l (s.trans R.le) h, by rw [r.length]; exact Nat.le_refl _⟩
  yld := fun i F A ρ σ H x H' R s _ hi y => by
    obtain ⟨e, y⟩ := y
    subst e
    obtain ⟨d, e1, e2⟩ := yat r (y vs (sub_l (s.trans R.le) h))
    exact ⟨F, d, .refl R.le, e1, Rep.sub s _ _ e2⟩
theorem srcT_frozen {F0 : Hp} {ρ0 : Env} {σ0 : L2.St} {a : Addr} {vs : List V} {ds : List D} (h : SqT c.K F0 a vs) (r : Reps c.K F0 ds vs) : SrcOk c F0 ρ0 σ0 (Itt c.K a) ⟨ds, none⟩ where
  go := fun i F A ρ σ H R s _ hi => ⟨vs, vs[i]'(by rw [r.length]; exact hi), sub_t (s.trans R.le) h, by simp [show i < vs.length by rw [r.length]; exact hi]⟩
  stop := fun F A ρ σ H R s _ => ⟨vs, sub_t (s.trans R.le) h, by rw [r.length]; exact Nat.le_refl _⟩
  yld := fun i F A ρ σ H x H' R s _ hi y => by
    obtain ⟨e, y⟩ := y
    subst e
    obtain ⟨d, e1, e2⟩ := yat r (y vs (sub_t (s.trans R.le) h))
    exact ⟨F, d, .refl R.le, e1, Rep.sub s _ _ e2⟩
/-- the list in the slot i -/
theorem R.lst_at {F H : Hp} {A : Ow} {ρ : Env} {σ : L2.St} (r : R c F A ρ σ H) {i : Nat} {m : Mode} {ds : List D} (h : ρ.getD i .un = .fl m (.lst ds)) {a : Addr} (hv : σ.getD i none = some (.ref a)) : F a = none ∧ A i = [a] ∧ ∃ vs, H a = some (.lst vs) ∧ Reps c.K F ds vs := by
  have s := r.sl i
  rw [h] at s
  obtain ⟨v, ev, b, vs, eb, eA, n, q, rs⟩ := s
  rw [hv] at ev
  have ev : V.ref a = v := Option.some.inj ev
  rw [eb] at ev
  have e : a = b := V.ref.inj ev
  subst e
  exact ⟨n, eA, vs, q, rs⟩
theorem srcL_slot {F0 : Hp} {ρ0 : Env} {σ0 : L2.St} {a : Addr} {ds : List D} {i : Nat} {m : Mode} (h0 : ρ0.getD i .un = .fl m (.lst ds)) (hv : σ0.getD i none = some (.ref a)) : SrcOk c F0 ρ0 σ0 (Itl c.K a) ⟨ds, some i⟩ where
  go := fun j F A ρ σ H R s st hi => by
    obtain ⟨s1, s2⟩ := st i rfl
    obtain ⟨n, eA, vs, q, rs⟩ := R.lst_at (s1.trans h0) (s2.trans hv)
    exact ⟨vs, vs[j]'(by rw [rs.length]; exact hi), .of q, by simp [show j < vs.length by rw [rs.length]; exact hi]⟩
  stop := fun F A ρ σ H R s st => by
    obtain ⟨s1, s2⟩ := st i rfl
    obtain ⟨n, eA, vs, q, rs⟩ := R.lst_at (s1.trans h0) (s2.trans hv)
    exact ⟨vs, .of q, by rw [rs.length]; exact Nat.le_refl _⟩
  yld := fun j F A ρ σ H x H' R s st hi y => by
    obtain ⟨s1, s2⟩ := st i rfl
    obtain ⟨n, eA, vs, q, rs⟩ := R.lst_at (s1.trans h0) (s2.trans hv)
    obtain ⟨e, y⟩ := y
    subst e
    obtain ⟨d, e1, e2⟩ := yat rs (y vs (.of q))
    exact ⟨F, d, .refl R.le, e1, e2⟩
theorem LkOk.none {ds : List D} {ρ : Env} : LkOk ⟨ds, Option.none⟩ ρ := fun i e => nomatch e
def mSrcL (m : M RV) : M Src := m.bind srcL
def mSrcT (m : M RV) : M Src := m.bind srcT
theorem p_list {tgt : Expr} {m : M RV} (h : PE X e (tI X.wk W m)) : PI X tgt e (tII X.wk W (mSrcL m)) := (pi_list h).to fun σ H Q ⟨ρ, F, A, R0, q⟩ => by
  refine ⟨ρ, F, A, R0, q.bind fun r ρ1 e1 q1 F1 A1 H1 v1 B1 g1 => ?_⟩
  cases r with
  | fl f =>
    cases f with
    | val d =>
      cases d with
      | lst ds =>
        obtain ⟨a, vs, ev, sq, rs⟩ := Rep.lst_iff.mp g1.v.2
        exact ⟨a, ev, ⟨vs, sub_l g1.s.r.le sq⟩, q1 F1 A1 H1 _ g1.s .none (srcL_frozen sq rs)⟩
      | _ => exact q1.elim
    | lst ds =>
      obtain ⟨F2, A2, s2, rep⟩ := esc_ok g1 (d := .lst ds) (ρ2 := ρ1) rfl
      obtain ⟨a, vs, ev, sq, rs⟩ := Rep.lst_iff.mp rep
      exact ⟨a, ev, ⟨vs, sub_l s2.r.le sq⟩, q1 F2 A2 H1 _ s2 .none (srcL_frozen sq rs)⟩
    | dct t kvs => exact q1.elim
  | ob C fs => exact q1.elim
  | pl i =>
    have q1 : OutG X.wk W F A ρ σ H (match ρ1.getD i .un with
      | .fl _ (.lst ds) => .ok ⟨ds, some i⟩ ρ1
      | _ => .stuck) fun S ρ' => ∀ F' A' H' J, Stp X.wk F A ρ σ H F' A' ρ' σ H' → LkOk S ρ' → SrcOk X.wk F' (lck S ρ') σ J S → Q J H' := q1
    split at q1
    · rename_i m ds hs
      have hi : i < ρ1.length := lt_of_getD (by rw [hs]; exact fun z => nomatch z)
      have s := g1.s.r.sl i
      rw [hs] at s
      obtain ⟨v, ev, a, vs, ea, eA, n, qa, rs⟩ := s
      have hv : σ.getD i none = some v1 := g1.v.1
      rw [hv] at ev
      cases ev
      subst ea
      refine ⟨a, rfl, ⟨vs, .of qa⟩, q1 F1 A1 H1 _ g1.s (fun j ej => ?_) (srcL_slot (i := i) (m := .lk) ?_ hv)⟩
      · have ej : i = j := Option.some.inj ej
        subst ej; rw [hs]; exact fun z => nomatch z
      · show (ρ1.set i (reM .lk (ρ1.getD i .un))).getD i .un = _
        rw [getD_set_same hi, hs]; rfl
    · exact q1.elim
theorem p_tup {tgt : Expr} {m : M RV} (h : PE X e (tI X.wk W m)) : PI X tgt e (tII X.wk W (mSrcT m)) := (pi_tup h).to fun σ H Q ⟨ρ, F, A, R0, q⟩ => by
  refine ⟨ρ, F, A, R0, q.bind fun r ρ1 e1 q1 F1 A1 H1 v1 B1 g1 => ?_⟩
  unfold srcT at q1
  split at q1
  · rename_i ds
    obtain ⟨a, vs, ev, sq, rs⟩ := Rep.tup_iff.mp g1.v.2
    exact ⟨a, ev, ⟨vs, sub_t g1.s.r.le sq⟩, q1 F1 A1 H1 _ g1.s .none (srcT_frozen sq rs)⟩
  · exact q1.elim
/-- range -/
theorem srcR {F0 : Hp} {ρ0 : Env} {σ0 : L2.St} {lo : Int} {n : Nat} : SrcOk c F0 ρ0 σ0 (Itr lo n) ⟨(List.range n).map fun i => D.int (lo + (i : Nat)), none⟩ where
  go := fun i F A ρ σ H R s _ hi => by simpa [Itr] using hi
  stop := fun F A ρ σ H R s _ => by simp [Itr]
  yld := fun i F A ρ σ H x H' R s _ hi y => by
    obtain ⟨e, y⟩ := y
    subst e; subst y
    exact ⟨F, .int (lo + (i : Nat)), .refl R.le, by simp at hi; simp [hi], Rep.int_iff.mpr rfl⟩
def rangeD (lo hi : Int) : List D := (List.range (hi - lo).toNat).map fun i => D.int (lo + (i : Nat))
def srcR1 : List RV → M Src := fun rs ρ => match rs with
  | [.fl (.val (.int j))] => if -(2 ^ 62) ≤ j ∧ j < 2 ^ 62 then .ok ⟨rangeD 0 j, none⟩ ρ else .stuck
  | _ => .stuck
def srcR2 : List RV → M Src := fun rs ρ => match rs with
  | [.fl (.val (.int i)), .fl (.val (.int j))] => if -(2 ^ 62) ≤ i ∧ i < 2 ^ 62 ∧ -(2 ^ 62) ≤ j ∧ j < 2 ^ 62 then .ok ⟨rangeD i j, none⟩ ρ else .stuck
  | _ => .stuck
theorem rvrs1 {F H : Hp} {σ : L2.St} {r : RV} {vs : List V} {Bs : List Addr} (h : RVRs c F H σ [r] vs Bs) : ∃ v As, vs = [v] ∧ Bs = As ++ [] ∧ RVR c F H σ r v As := by
  cases h with
  | cons h1 h2 => cases h2; exact ⟨_, _, rfl, rfl, h1⟩
theorem rvrs2 {F H : Hp} {σ : L2.St} {r r' : RV} {vs : List V} {Bs : List Addr} (h : RVRs c F H σ [r, r'] vs Bs) : ∃ v w As Bs', vs = [v, w] ∧ RVR c F H σ r v As ∧ RVR c F H σ r' w Bs' := by
  cases h with
  | cons h1 h2 =>
    obtain ⟨w, As, rfl, _, h3⟩ := rvrs1 h2
    exact ⟨_, _, _, _, rfl, h1, h3⟩
theorem rvrs3 {F H : Hp} {σ : L2.St} {r r' r'' : RV} {vs : List V} {Bs : List Addr} (h : RVRs c F H σ [r, r', r''] vs Bs) : ∃ v w z As Bs' Cs, vs = [v, w, z] ∧ RVR c F H σ r v As ∧ RVR c F H σ r' w Bs' ∧ RVR c F H σ r'' z Cs := by
  cases h with
  | cons h1 h2 =>
    obtain ⟨w, z, As, Cs, rfl, h3, h4⟩ := rvrs2 h2
    exact ⟨_, _, _, _, _, _, rfl, h1, h3, h4⟩
theorem p_range1 {a tgt : Expr} {t : M (List RV)} {p : Pos} (hg : Gl X "range") (hm : X.mg "range" = none) (ha : PA X [a] (tIA X.wk W t)) (hs : starEach [a] X.env = [(false, eval a X.env)] := by rfl) : PI X tgt (.Call (.Name "range" p) [a] [] pos) (tII X.wk W (t.bind srcR1)) :=
  (pi_range1 hg hm ha hs).to fun σ H Q ⟨ρ, F, A, R0, q⟩ => by
    refine ⟨ρ, F, A, R0, q.bind fun rs ρ1 e1 q1 F1 A1 H1 v1 B1 g1 => ?_⟩
    unfold srcR1 at q1
    split at q1
    · rename_i j
      split at q1
      · rename_i hj
        obtain ⟨v, As, rfl, _, h⟩ := rvrs1 g1.v
        refine ⟨j, by rw [Rep.int_iff.mp h.2], hj.1, hj.2, q1 F1 A1 H1 _ g1.s .none ?_⟩
        have := srcR (c := X.wk) (F0 := F1) (ρ0 := lck ⟨rangeD 0 j, none⟩ ρ1) (σ0 := σ) (lo := 0) (n := j.toNat)
        unfold rangeD
        rw [Int.sub_zero]
        exact this
      · exact q1.elim
    · exact q1.elim
theorem p_range2 {a b tgt : Expr} {t : M (List RV)} {p : Pos} (hg : Gl X "range") (hm : X.mg "range" = none) (ha : PA X [a, b] (tIA X.wk W t)) (hs : starEach [a, b] X.env = [(false, eval a X.env), (false, eval b X.env)] := by rfl)
    (hs2 : starEach [b] X.env = [(false, eval b X.env)] := by rfl) : PI X tgt (.Call (.Name "range" p) [a, b] [] pos) (tII X.wk W (t.bind srcR2)) :=
  (pi_range2 hg hm ha hs hs2).to fun σ H Q ⟨ρ, F, A, R0, q⟩ => by
    refine ⟨ρ, F, A, R0, q.bind fun rs ρ1 e1 q1 F1 A1 H1 v1 B1 g1 => ?_⟩
    unfold srcR2 at q1
    split at q1
    · rename_i i j
      split at q1
      · rename_i hj
        obtain ⟨v, w, As, Bs, rfl, h, h'⟩ := rvrs2 g1.v
        exact ⟨i, j, by rw [Rep.int_iff.mp h.2, Rep.int_iff.mp h'.2], hj, q1 F1 A1 H1 _ g1.s .none srcR⟩
      · exact q1.elim
    · exact q1.elim
/-- a text, sign by sign -/
def signsD (x : Str) : List D := x.cps.toList.map fun k => D.str ⟨#[k]⟩
def srcS (r : RV) : M Src := fun ρ => match r with
  | .fl (.val (.str x)) => .ok ⟨signsD x, none⟩ ρ
  | _ => .stuck
theorem p_str {tgt : Expr} {m : M RV} (h : PE X e (tI X.wk W m)) : PI X tgt e (tII X.wk W (m.bind srcS)) := (pi_str h).to fun σ H Q ⟨ρ, F, A, R0, q⟩ => by
  refine ⟨ρ, F, A, R0, q.bind fun r ρ1 e1 q1 F1 A1 H1 v1 B1 g1 => ?_⟩
  unfold srcS at q1
  split at q1
  · rename_i x
    refine ⟨x, Rep.str_iff.mp g1.v.2, q1 F1 A1 H1 _ g1.s .none ⟨fun i F A ρ σ H R s _ hi => ?_, fun F A ρ σ H R s _ => ?_, fun i F A ρ σ H z H' R s _ hi y => ?_⟩⟩
    · simpa [Its, signsD] using hi
    · simp [Its, signsD]
    · obtain ⟨e, k, ek, ez⟩ := y
      subst e; subst ez
      exact ⟨F, .str ⟨#[k]⟩, .refl R.le, by simp [signsD, ← Array.getElem?_toList] at ek ⊢; simp [ek], Rep.str_iff.mpr rfl⟩
  · exact q1.elim
end
end VS
namespace VS
open PySem PySem.Spec PyProof.Rows L2

section
variable {c : WK} {W : WX} {X : Cx} {e : Expr} {es : List Expr} {st : Stmt} {rest : List Stmt} {pos : Pos}
/-! ### comprehensions -/
abbrev W0 : WX := fun _ _ _ _ => False
def wipeE (ρ : Env) : List Nat → Env
  | [] => ρ
  | v :: vs => (wipeE ρ vs).set v .un
/-- the slots vs as they were in ρ0 -/
def unw (ρ0 : Env) : List Nat → Env → Env
  | [], ρ => ρ
  | v :: vs, ρ => (unw ρ0 vs ρ).set v (ρ0.getD v .un)
theorem wipeE_length (ρ : Env) : ∀ vs : List Nat, (wipeE ρ vs).length = ρ.length
  | [] => rfl
  | v :: vs => by unfold wipeE; rw [List.length_set, wipeE_length ρ vs]
theorem unw_length (ρ0 : Env) : ∀ (vs : List Nat) (ρ : Env), (unw ρ0 vs ρ).length = ρ.length
  | [], _ => rfl
  | v :: vs, ρ => by unfold unw; rw [List.length_set, unw_length ρ0 vs]
theorem getD_out {α : Type} {l : List α} {j : Nat} {d : α} (h : l.length ≤ j) : l.getD j d = d := by
  rw [List.getD_eq_getElem?_getD, List.getElem?_eq_none h]; rfl
theorem getD_set_any {α : Type} {l : List α} {i j : Nat} {x d : α} : (l.set i x).getD j d = if j = i ∧ i < l.length then x else l.getD j d := by
  by_cases hj : j = i
  · subst hj
    by_cases hi : j < l.length
    · rw [getD_set_same hi, if_pos ⟨rfl, hi⟩]
    · rw [if_neg (fun z => hi z.2), List.set_eq_of_length_le (by omega)]
  · rw [getD_set_ne hj, if_neg (fun z => hj z.1)]
theorem wipeE_get (ρ : Env) (j : Nat) : ∀ vs : List Nat, (wipeE ρ vs).getD j .un = if j ∈ vs then .un else ρ.getD j .un
  | [] => by simp [wipeE]
  | v :: vs => by
    unfold wipeE
    rw [getD_set_any, wipeE_get ρ j vs, wipeE_length]
    by_cases hj : j = v
    · subst hj
      rw [if_pos (List.mem_cons_self)]
      by_cases hl : j < ρ.length
      · rw [if_pos ⟨rfl, hl⟩]
      · rw [if_neg (fun z => hl z.2)]
        split
        · rfl
        · exact getD_out (by omega)
    · rw [if_neg (fun z => hj z.1)]
      by_cases hm : j ∈ vs
      · rw [if_pos hm, if_pos (List.mem_cons_of_mem _ hm)]
      · rw [if_neg hm, if_neg (fun z => (List.mem_cons.mp z).elim hj hm)]
theorem unw_get {ρ0 : Env} {ρ : Env} (hl : ρ.length = ρ0.length) (j : Nat) : ∀ vs : List Nat, (unw ρ0 vs ρ).getD j .un = if j ∈ vs then ρ0.getD j .un else ρ.getD j .un
  | [] => by simp [unw]
  | v :: vs => by
    unfold unw
    rw [getD_set_any, unw_get hl j vs, unw_length]
    by_cases hj : j = v
    · subst hj
      rw [if_pos (List.mem_cons_self)]
      by_cases hlt : j < ρ.length
      · rw [if_pos ⟨rfl, hlt⟩]
      · rw [if_neg (fun z => hlt z.2)]
        split
        · rfl
        · rw [getD_out (by omega), getD_out (by omega)]
    · rw [if_neg (fun z => hj z.1)]
      by_cases hm : j ∈ vs
      · rw [if_pos hm, if_pos (List.mem_cons_of_mem _ hm)]
      · rw [if_neg hm, if_neg (fun z => (List.mem_cons.mp z).elim hj hm)]
theorem wipe_get (σ : L2.St) (j : Nat) : ∀ vs : List Nat, (wipe σ vs).getD j none = if j ∈ vs then none else σ.getD j none
  | [] => by simp [wipe]
  | v :: vs => by
    unfold wipe
    rw [getD_set_any, wipe_get σ j vs, wipe_length]
    by_cases hj : j = v
    · subst hj
      rw [if_pos (List.mem_cons_self)]
      by_cases hl : j < σ.length
      · rw [if_pos ⟨rfl, hl⟩]
      · rw [if_neg (fun z => hl z.2)]
        split
        · rfl
        · exact getD_out (by omega)
    · rw [if_neg (fun z => hj z.1)]
      by_cases hm : j ∈ vs
      · rw [if_pos hm, if_pos (List.mem_cons_of_mem _ hm)]
      · rw [if_neg hm, if_neg (fun z => (List.mem_cons.mp z).elim hj hm)]
theorem ext_getD {α : Type} {l l' : List (Option α)} (hl : l.length = l'.length) (h : ∀ j, l.getD j none = l'.getD j none) : l = l' := by
  apply List.ext_getElem hl
  intro i h1 h2
  have := h i
  rw [List.getD_eq_getElem?_getD, List.getD_eq_getElem?_getD, List.getElem?_eq_getElem h1, List.getElem?_eq_getElem h2] at this
  exact this
theorem wipe_off {σ σ' : L2.St} {vs l : List Nat} (hl : σ'.length = σ.length) (h : Off l σ σ') (sub : ∀ j ∈ l, j ∈ vs) : wipe σ' vs = wipe σ vs := by
  refine ext_getD (by rw [wipe_length, wipe_length, hl]) fun j => ?_
  rw [wipe_get, wipe_get]
  by_cases hj : j ∈ vs
  · rw [if_pos hj, if_pos hj]
  · rw [if_neg hj, if_neg hj]; exact h j fun z => hj (sub j z)
theorem wipe_wipe (σ : L2.St) (vs : List Nat) : wipe (wipe σ vs) vs = wipe σ vs := by
  refine ext_getD (by rw [wipe_length, wipe_length]) fun j => ?_
  rw [wipe_get, wipe_get]
  by_cases hj : j ∈ vs
  · rw [if_pos hj, if_pos hj]
  · rw [if_neg hj, if_neg hj]
def Ow.off (A : Ow) (vs : List Nat) : Ow := fun j => if j ∈ vs then [] else A j
theorem R.wipe {F H : Hp} {A : Ow} {ρ : Env} {σ : L2.St} (r : R c F A ρ σ H) (vs : List Nat) : R c F (A.off vs) (wipeE ρ vs) (wipe σ vs) H where
  le := r.le
  len := by rw [wipeE_length, wipe_length, r.len]
  sl := fun j => by
    rw [wipeE_get, wipe_get]
    unfold Ow.off
    by_cases hj : j ∈ vs
    · rw [if_pos hj, if_pos hj, if_pos hj]; exact rfl
    · rw [if_neg hj, if_neg hj, if_neg hj]; exact r.sl j
  nd := fun j => by
    unfold Ow.off
    split
    · exact List.nodup_nil
    · exact r.nd j
  dj := fun i j a h1 h2 => by
    unfold Ow.off at h1 h2
    split at h1
    · cases h1
    · split at h2
      · cases h2
      · exact r.dj i j a h1 h2
theorem off_sub {A : Ow} {vs : List Nat} {j : Nat} {a : Addr} (h : a ∈ A.off vs j) : a ∈ A j := by
  unfold Ow.off at h
  split at h
  · cases h
  · exact h
/-- one turn is over: the block's own names go -/
theorem Stp.rewipe {F F1 H H1 : Hp} {A A1 : Ow} {ρ ρ1 : Env} {σ σ1 : L2.St} {vs : List Nat} (s : Stp c F A (wipeE ρ vs) (wipe σ vs) H F1 A1 ρ1 σ1 H1) (h : L2.wipe σ1 vs = L2.wipe σ vs) : Stp c F A (wipeE ρ vs) (wipe σ vs) H F1 (A1.off vs) (wipeE ρ1 vs) (wipe σ vs) H1 where
  r := by have := s.r.wipe vs; rw [h] at this; exact this
  x := ⟨s.x.mono, s.x.keep, fun i a ha => s.x.new i a (off_sub ha), s.x.gone⟩
  k := fun j hj => by
    have hn : j ∉ vs := fun z => hj (by rw [wipeE_get, if_pos z]; rfl)
    obtain ⟨k1, k2, k3⟩ := s.k j hj
    refine ⟨rfl, ?_, fun e => ?_⟩
    · rw [wipeE_get (j := j) ρ1, if_neg hn]; exact k2
    · rw [wipeE_get (j := j) ρ1, if_neg hn]; exact k3 e
  l := rfl
/-- out of the block -/
theorem Stp.unw {F F0 F1 H H0 H1 : Hp} {A A0 A1 : Ow} {ρ ρ0 ρ1 : Env} {σ : L2.St} {vs : List Nat} (s0 : Stp c F A ρ σ H F0 A0 ρ0 σ H0) (s : Stp c F0 (A0.off vs) (wipeE ρ0 vs) (wipe σ vs) H0 F1 A1 ρ1 (wipe σ vs) H1) :
    Stp c F A ρ σ H F1 (fun j => if j ∈ vs then A0 j else A1 j) (unw ρ0 vs ρ1) σ H1 := by
  have hl : ρ1.length = ρ0.length := by rw [s.r.len, wipe_length, s0.r.len]
  have apart : ∀ j, j ∈ vs → ∀ i, i ∉ vs → ∀ a, a ∈ A0 j → a ∉ A1 i := fun j hj i hi a ha hb => by
    rcases s.x.new i a hb with ⟨m, hm⟩ | q
    · have hm' : m ∉ vs := fun z => by unfold Ow.off at hm; rw [if_pos z] at hm; cases hm
      exact hm' (by rw [← s0.r.dj j m a ha (off_sub hm)]; exact hj)
    · obtain ⟨_, o, e⟩ := s0.r.own ha
      rw [q] at e; cases e
  refine ⟨⟨s.r.le, by rw [unw_length, hl, s0.r.len], fun j => ?_, fun j => ?_, fun i j a h1 h2 => ?_⟩, ?_, ?_, s0.l⟩
  · rw [unw_get hl]
    by_cases hj : j ∈ vs
    · rw [if_pos hj]
      show SlR c F1 H1 _ _ (if j ∈ vs then A0 j else A1 j)
      rw [if_pos hj]
      refine (s0.r.sl j).ext s.x.mono fun a o ha h => s.x.keep a o h fun i hi => ?_
      have hi' : i ∉ vs := fun z => by unfold Ow.off at hi; rw [if_pos z] at hi; cases hi
      exact hi' (by rw [← s0.r.dj j i a ha (off_sub hi)]; exact hj)
    · rw [if_neg hj]
      show SlR c F1 H1 _ _ (if j ∈ vs then A0 j else A1 j)
      rw [if_neg hj]
      have := s.r.sl j
      rw [wipe_get, if_neg hj] at this
      exact this
  · show (if j ∈ vs then A0 j else A1 j).Nodup
    split
    · exact s0.r.nd j
    · exact s.r.nd j
  · have h1 : a ∈ (if i ∈ vs then A0 i else A1 i) := h1
    have h2 : a ∈ (if j ∈ vs then A0 j else A1 j) := h2
    by_cases hi : i ∈ vs
    · rw [if_pos hi] at h1
      by_cases hj : j ∈ vs
      · rw [if_pos hj] at h2; exact s0.r.dj i j a h1 h2
      · rw [if_neg hj] at h2; exact absurd h2 (apart i hi j hj a h1)
    · rw [if_neg hi] at h1
      by_cases hj : j ∈ vs
      · rw [if_pos hj] at h2; exact absurd h1 (apart j hj i hi a h2)
      · rw [if_neg hj] at h2; exact s.r.dj i j a h1 h2
  · refine s0.x.trans ⟨s.x.mono, fun a o h hn => s.x.keep a o h fun i hi => hn i (off_sub hi), fun i a h => ?_, s.x.gone⟩
    have h : a ∈ (if i ∈ vs then A0 i else A1 i) := h
    split at h
    · exact .inl ⟨i, h⟩
    · rcases s.x.new i a h with ⟨m, hm⟩ | q
      · exact .inl ⟨m, off_sub hm⟩
      · exact .inr q
  · refine s0.k.trans fun j hj => ?_
    rw [unw_get hl]
    by_cases hv : j ∈ vs
    · rw [if_pos hv]; exact ⟨rfl, rfl, fun _ => rfl⟩
    · rw [if_neg hv]
      obtain ⟨k1, k2, k3⟩ := s.k j (by rw [wipeE_get, if_neg hv]; exact hj)
      rw [wipeE_get, if_neg hv] at k2 k3
      exact ⟨rfl, k2, k3⟩
/-- the new list grows -/
theorem Stp.upd {F F1 H H1 : Hp} {A A1 : Ow} {ρ ρ1 : Env} {σ σ1 : L2.St} (s : Stp c F A ρ σ H F1 A1 ρ1 σ1 H1) {D : Addr} {o : HO} (h0 : H D = none) (h1 : F1 D = none) (hA : ∀ j, D ∉ A1 j) : Stp c F A ρ σ H F1 A1 ρ1 σ1 (upd H1 D o) where
  r := ⟨fun a u e => by rw [upd_ne (ne_of_none e h1)]; exact s.r.le a u e, s.r.len, fun j => (s.r.sl j).ext (.refl _) fun a o' ha h => ⟨by rw [upd_ne (fun z => by subst z; exact hA j ha)]; exact h, rfl⟩, s.r.nd, s.r.dj⟩
  x := ⟨s.x.mono, fun a o' h hn => by
    obtain ⟨k1, k2⟩ := s.x.keep a o' h hn
    exact ⟨by rw [upd_ne (fun z => by subst z; rw [h0] at h; cases h)]; exact k1, k2⟩, s.x.new, fun a h => by
      by_cases ha : a = D
      · subst ha; exact h0
      · rw [upd_ne ha] at h; exact s.x.gone a h⟩
  k := s.k
  l := s.l
def cloop (tg : Tg) (cond : M Bool) (elt : M RV) (vs : List Nat) : List D → List D → Env → Res (List D)
  | [], acc, ρ => .ok acc ρ
  | d :: ds, acc, ρ => match tg d ρ with
    | some ρ1 => (cond.bind fun k => if k = true then (mEsc elt).bind fun y ρ2 => if acc.length < sizeLine then cloop tg cond elt vs ds (acc ++ [y]) (wipeE ρ2 vs) else .stuck else fun ρ2 => cloop tg cond elt vs ds acc (wipeE ρ2 vs)) ρ1
    | none => .stuck
def lkOff (S : Src) (vs : List Nat) : Bool := match S.lk with
  | none => true
  | some i => decide (i ∉ vs)
def mComp (src : M Src) (vs : List Nat) (tg : Tg) (cond : M Bool) (elt : M RV) : M RV := src.bind fun S ρ => if lkOff S vs = true then
    match cloop tg cond elt vs S.ds [] (wipeE (lck S ρ) vs) with
    | .ok acc ρ' => .ok (.fl (.lst acc)) (unlk S ρ (unw (lck S ρ) vs ρ'))
    | _ => .stuck
  else .stuck
def bTrue : M Bool := fun ρ => .ok true ρ
theorem bs_nil : PTs X [] (tIB X.wk W bTrue) := ⟨fun pins s σ H Q I ⟨ρ, F, A, r, q⟩ => pts_nil.run pins s σ H Q I (q F A H (.refl r))⟩
theorem bs_one {m : M Bool} (h : PT X e (tIB X.wk W m)) : PTs X [e] (tIB X.wk W m) := pts_one h
theorem bind_ok {α β : Type} {m : M α} {k : α → M β} {ρ ρ' : Env} {b : β} (h : m.bind k ρ = .ok b ρ') : ∃ a ρ1, m ρ = .ok a ρ1 ∧ k a ρ1 = .ok b ρ' := by
  unfold M.bind at h
  cases e : m ρ with
  | ok a ρ1 => rw [e] at h; exact ⟨a, ρ1, rfl, h⟩
  | exc x ρ1 => rw [e] at h; cases h
  | stuck => rw [e] at h; cases h
theorem OutG.ok {α : Type} {F : Hp} {A : Ow} {ρ : Env} {σ : L2.St} {H : Hp} {m : M α} {a : α} {ρ1 : Env} {P : α → Env → Prop} (e : m ρ = .ok a ρ1) (h : P a ρ1) : OutG c W F A ρ σ H (m ρ) P := by rw [e]; exact h
theorem lc_of {src : M Src} {vs l : List Nat} {tg : Tg} {cond : M Bool} {elt : M RV} {c : WK} (hl : ∀ j ∈ l, j ∈ vs) {σ : L2.St} {H : Hp} {Q : VK} (h : tI c W (mComp src vs tg cond elt) σ H Q) :
    tLc (tII c W src) (tgI c l tg) (tIB c W0 cond) (tID c W0 (mEsc elt)) vs σ H Q := by
  obtain ⟨ρ, F, A, R0, q⟩ := h
  refine ⟨ρ, F, A, R0, q.bind fun S ρ1 e1 q1 F1 A1 H1 J s1 hlk so D hD => ?_⟩
  split at q1
  · rename_i hoff
    split at q1
    · rename_i accF ρF ec
      have R1 : R c F1 A1 (lck S ρ1) σ H1 := s1.r.lck S
      have Rw := R1.wipe vs
      have nAD : ∀ j, D ∉ (A1.off vs) j := fun j hj => by
        obtain ⟨_, o, e⟩ := Rw.own hj
        rw [hD] at e; cases e
      have FD : F1 D = none := s1.r.le.free hD
      have i_off : ∀ i, S.lk = some i → i ∉ vs := fun i ei => by
        unfold lkOff at hoff
        rw [ei] at hoff
        simpa using hoff
      refine ⟨fun i m H' => m = S.ds.length - i ∧ i ≤ S.ds.length ∧ ∃ acc vacc ρ' F' A', Stp c F1 (A1.off vs) (wipeE (lck S ρ1) vs) (wipe σ vs) H1 F' A' ρ' (wipe σ vs) H' ∧ H' D = some (.lst vacc) ∧ Reps c.K F' acc vacc ∧ F' D = none ∧ (∀ j, D ∉ A' j) ∧ cloop tg cond elt vs (S.ds.drop i) acc ρ' = .ok accF ρF,
        ⟨S.ds.length, rfl, Nat.zero_le _, [], [], wipeE (lck S ρ1) vs, F1, A1.off vs, (Stp.refl Rw).upd hD FD nAD, upd_same, .nil, FD, nAD, ec⟩, ?_⟩
      rintro i m H2 ⟨rfl, hi2, acc, vacc, ρ2, F2, A2, s2, hD2, rep2, FD2, nA2, ec2⟩
      have st : Stays S (lck S ρ1) σ ρ2 (wipe σ vs) := fun i ei => by
        have hn := i_off i ei
        have hi : i < ρ1.length := lt_of_getD (hlk i ei)
        have hl : (lck S ρ1).getD i .un = reM .lk (ρ1.getD i .un) := by unfold lck; rw [ei]; exact getD_set_same hi
        have hw : (wipeE (lck S ρ1) vs).getD i .un = (lck S ρ1).getD i .un := by rw [wipeE_get, if_neg hn]
        have hm : modeOf ((wipeE (lck S ρ1) vs).getD i .un) = .lk := by rw [hw, hl]; exact modeOf_reM (hlk i ei)
        obtain ⟨k1, k2, k3⟩ := s2.k i (by rw [hm]; exact fun z => nomatch z)
        exact ⟨(k3 hm).trans hw, by rw [wipe_get, if_neg hn]⟩
      by_cases hlt : i < S.ds.length
      · refine .inr ⟨so.go i F2 A2 ρ2 _ H2 s2.r s2.x.mono st hlt, fun H' => i + 1 ≤ S.ds.length ∧ ∃ acc vacc ρ' F' A', Stp c F1 (A1.off vs) (wipeE (lck S ρ1) vs) (wipe σ vs) H1 F' A' ρ' (wipe σ vs) H' ∧ H' D = some (.lst vacc) ∧ Reps c.K F' acc vacc ∧ F' D = none ∧ (∀ j, D ∉ A' j) ∧ cloop tg cond elt vs (S.ds.drop (i + 1)) acc ρ' = .ok accF ρF,
          fun H' z => ⟨S.ds.length - (i + 1), by omega, rfl, z⟩, fun x H3 y => ?_⟩
        obtain ⟨F3, d, gr, ed, rep⟩ := so.yld i F2 A2 ρ2 _ H2 x H3 s2.r s2.x.mono st hlt y
        have s3 := s2.grow gr
        obtain ⟨hD3, FD3'⟩ := gr.keep D _ hD2
        have FD3 : F3 D = none := FD3'.trans FD2
        have ed2 : S.ds.drop i = d :: S.ds.drop (i + 1) := by
          obtain ⟨h1, h2⟩ := List.getElem?_eq_some_iff.mp ed
          rw [← h2]; exact List.drop_eq_getElem_cons h1
        rw [ed2] at ec2
        have ec2 : (match tg d ρ2 with
          | some ρ1 => (cond.bind fun k => if k = true then (mEsc elt).bind fun y ρ2 => if acc.length < sizeLine then cloop tg cond elt vs (S.ds.drop (i + 1)) (acc ++ [y]) (wipeE ρ2 vs) else .stuck else fun ρ2 => cloop tg cond elt vs (S.ds.drop (i + 1)) acc (wipeE ρ2 vs)) ρ1
          | none => .stuck) = .ok accF ρF := ec2
        cases e4 : tg d ρ2 with
        | none => rw [e4] at ec2; cases ec2
        | some ρ3 =>
          rw [e4] at ec2
          refine ⟨ρ2, F3, A2, d, ρ3, s3.r, rep, e4, fun A4 σ4 s4 o4 => ?_⟩
          have hw4 : wipe σ4 vs = wipe σ vs := by rw [wipe_off s4.l o4 hl, wipe_wipe]
          refine ⟨hw4, ?_⟩
          obtain ⟨k, ρ5, e5, ec5⟩ := bind_ok ec2
          refine ⟨ρ3, F3, A4, s4.r, OutG.ok e5 fun F5 A5 H5 s5 => ?_⟩
          have s45 := s4.trans s5
          obtain ⟨hD5, FD5'⟩ := s45.x.keep D _ hD3 nA2
          have FD5 : F5 D = none := FD5'.trans FD3
          have nA5 : ∀ j, D ∉ A5 j := fun j hj => by
            rcases s45.x.new j D hj with ⟨n, hn⟩ | z
            · exact nA2 n hn
            · rw [hD3] at z; cases z
          have s15 := s3.trans s45
          cases k with
          | false =>
            simp only [Bool.false_eq_true, if_false] at ec5 ⊢
            exact ⟨hlt, acc, vacc, _, F5, A5.off vs, s15.rewipe hw4, hD5, Reps.sub (gr.mono.trans s45.x.mono) _ _ rep2, FD5, fun j z => nA5 j (off_sub z), ec5⟩
          | true =>
            simp only [if_true] at ec5 ⊢
            obtain ⟨y', ρ6, e6, ec6⟩ := bind_ok ec5
            refine ⟨ρ5, F5, A5, s5.r, OutG.ok e6 fun F6 A6 H6 v6 s6 r6 => ?_⟩
            obtain ⟨hD6, FD6'⟩ := s6.x.keep D _ hD5 nA5
            have FD6 : F6 D = none := FD6'.trans FD5
            have nA6 : ∀ j, D ∉ A6 j := fun j hj => by
              rcases s6.x.new j D hj with ⟨n, hn⟩ | z
              · exact nA5 n hn
              · rw [hD5] at z; cases z
            have rep6 : Reps c.K F6 acc vacc := Reps.sub ((gr.mono.trans s45.x.mono).trans s6.x.mono) _ _ rep2
            split at ec6
            · rename_i hlen
              exact ⟨vacc, hD6, by rw [rep6.length]; exact hlen, hlt, acc ++ [y'], vacc ++ [v6], _, F6, A6.off vs, ((s15.trans s6).upd hD FD6 nA6).rewipe hw4, upd_same, rep6.append (.cons r6 .nil), FD6, fun j z => nA6 j (off_sub z), ec6⟩
            · cases ec6
      · have e : i = S.ds.length := by omega
        subst e
        rw [List.drop_length] at ec2
        have ec2 : Res.ok acc ρ2 = .ok accF ρF := ec2
        injection ec2 with ea eb
        subst ea; subst eb
        refine .inl ⟨so.stop F2 A2 ρ2 _ H2 s2.r s2.x.mono st, ?_⟩
        have su := s1.unlk hlk ((Stp.refl R1).unw s2)
        refine q1 _ _ H2 (.ref D) [D] ⟨su, ⟨D, vacc, rfl, rfl, FD2, hD2, rep2⟩, by simp, fun j a ha hb => ?_, fun a ha => ?_⟩
        · rw [List.mem_singleton] at hb
          subst hb
          have ha : a ∈ (if j ∈ vs then A1 j else A2 j) := ha
          split at ha
          · obtain ⟨_, o, eo⟩ := R1.own ha
            rw [hD] at eo; cases eo
          · exact nA2 j ha
        · rw [List.mem_singleton] at ha
          subst ha
          exact .inr (s1.x.gone a hD)
    · exact q1.elim
  · exact q1.elim
/-- [elt for tg in src if cond] -/
theorem i_lc {elt tgt iter : Expr} {ifs : List Expr} {scope : Scope} {own : List (Str × Nat)} {src : M Src} {l : List Nat} {tg : Tg} {cond : M Bool} {m : M RV} (hc : X.calm = true) (hN : X.N.Nodup) (hi : PI X tgt iter (tII X.wk W src)) (ok : BlkOk X.N X.env.scope scope own)
    (hg : ∀ (s : Shared) (H : Hp) (C : Addr) (cl : List (Str × Addr)) (fp : List Addr), PG (X.blk s H scope (compEnvC scope cl C X.env) fp) tgt (tgI X.wk l tg)) (ht : ∀ (s : Shared) (H : Hp) (C : Addr) (cl : List (Str × Addr)) (fp : List Addr), PTs (X.blk s H scope (compEnvC scope cl C X.env) fp) ifs (tIB X.wk W0 cond))
    (he : ∀ (s : Shared) (H : Hp) (C : Addr) (cl : List (Str × Addr)) (fp : List Addr), PE (X.blk s H scope (compEnvC scope cl C X.env) fp) elt (tI X.wk W0 m)) (hl : ∀ j ∈ l, j ∈ own.map (·.2)) (hs : ∀ x, foldedSetIterable iter X.env x = pure x := by intro _; rfl) :
    PE X (.ListComp elt [⟨tgt, iter, ifs, 0⟩] scope pos) (tI X.wk W (mComp src (own.map (·.2)) tg cond m)) :=
  (pe_lc hc hN hi ok hg ht (fun s H C cl fp => i_esc (X := X.blk s H scope (compEnvC scope cl C X.env) fp) (he s H C cl fp)) hs).to fun σ H Q h => lc_of hl h
/-- name = [..] on one line -/
theorem s_setLc {i : Nat} {y : Str} {py : Pos} {elt tgt iter : Expr} {ifs : List Expr} {scope : Scope} {own : List (Str × Nat)} {spos : Pos} {src : M Src} {l : List Nat} {tg : Tg} {cond : M Bool} {m : M RV} (hc : X.calm = true) (hN : X.N.Nodup) (hy : X.N[i]? = some y) (hyl : X.env.scope.names.lookup y = some .local)
    (hsw : swapsWith (.ListComp elt [⟨tgt, iter, ifs, 0⟩] scope pos) (some (.Name y py)) spos.line X.env = pure true) (hi : PI X tgt iter (tII X.wk W src)) (ok : BlkOk X.N X.env.scope scope own)
    (hg : ∀ (s : Shared) (H : Hp) (C : Addr) (cl : List (Str × Addr)) (fp : List Addr), PG (X.blk s H scope (compEnvC scope cl C X.env) fp) tgt (tgI X.wk l tg)) (ht : ∀ (s : Shared) (H : Hp) (C : Addr) (cl : List (Str × Addr)) (fp : List Addr), PTs (X.blk s H scope (compEnvC scope cl C X.env) fp) ifs (tIB X.wk W0 cond))
    (he : ∀ (s : Shared) (H : Hp) (C : Addr) (cl : List (Str × Addr)) (fp : List Addr), PE (X.blk s H scope (compEnvC scope cl C X.env) fp) elt (tI X.wk W0 m)) (hl : ∀ j ∈ l, j ∈ own.map (·.2)) (hs : ∀ x, foldedSetIterable iter X.env x = pure x := by intro _; rfl) :
    PS X (.Assign [.Name y py] (.ListComp elt [⟨tgt, iter, ifs, 0⟩] scope pos) spos) (tIS X.wk W (sAsg i (mComp src (own.map (·.2)) tg cond m))) :=
  (ps_setLc hc hN hy hyl hsw hi ok hg ht (fun s H C cl fp => i_esc (X := X.blk s H scope (compEnvC scope cl C X.env) fp) (he s H C cl fp)) hs).to fun D σ H h => asg_of (fun Q q => lc_of hl q) h
end
end VS
namespace VS
open PySem PySem.Spec PyProof.Rows L2

section
variable {c : WK} {W : WX} {X : Cx} {e : Expr} {es : List Expr} {st : Stmt} {rest : List Stmt} {pos : Pos}
/-! ### defs -/
/-- a def: its slots are the arguments, whatever stands in them behind it -/
abbrev Fn := List Sl → Res RV
def lend : Mode → Mode
  | .own => .pin
  | m => m
/-- what is handed in -/
def argSl (ρ : Env) : RV → Sl
  | .fl f => .fl .own f
  | .ob C fs => .ob .own C fs
  | .pl i => reM (lend (modeOf (ρ.getD i .un))) (ρ.getD i .un)
def places : List RV → List Nat
  | [] => []
  | .pl i :: rs => i :: places rs
  | _ :: rs => places rs
/-- what was lent comes back -/
def backE : List RV → Env → Env → Env
  | [], _, ρ => ρ
  | .pl i :: rs, outs, ρ => (backE rs (outs.drop 1) ρ).set i (reM (modeOf (ρ.getD i .un)) (outs.getD 0 .un))
  | _ :: rs, outs, ρ => backE rs (outs.drop 1) ρ
def unR (rs : List RV) : RV → RV
  | .pl j => rs.getD j (.v .non)
  | r => r
def noPl : RV → Bool
  | .pl _ => false
  | _ => true
def okPl (ρ : Env) (rs : List RV) : Bool := (places rs).all fun i => match ρ.getD i .un with
  | .un => false
  | _ => true
def callF (G : Fn) (rs : List RV) : M RV := fun ρ => if (places rs).Nodup ∧ okPl ρ rs = true then
    match G (rs.map (argSl ρ)) with
    | .ok r outs => if noPl r = true then .ok r (backE rs outs ρ) else .stuck
    | .exc x outs => .exc x (backE rs outs ρ)
    | .stuck => .stuck
  else .stuck
def mCall (G : Fn) (a : M (List RV)) : M RV := a.bind (callF G)
/-- a def's end -/
def OutF (c : WK) (E : XK) (F : Hp) (A : Ow) (ss : Env) (vs : List V) (H : Hp) (res : Res RV) (Q : VK) : Prop := match res with
  | .ok r outs => ∀ F' A' H' v Bs, Got c F A ss (vs.map some) H r outs F' A' H' v Bs → Q v H'
  | .exc x outs => ∀ F' A' H' cls d, Stp c F A ss (vs.map some) H F' A' outs (vs.map some) H' → ExnR c F' H' x cls d → E cls d H'
  | .stuck => False
/-- the promise -/
def spF (c : WK) (np : Nat) (G : Fn) : Sp := fun vs H Q E => vs.length = np ∧ ∃ ss F A, R c F A ss (vs.map some) H ∧ OutF c E F A ss vs H (G ss) Q
/-- the slots behind a run: what was not lent is forgotten -/
def clean : List Sl → Env → Env
  | [], _ => []
  | s :: ss, ρ => (if modeOf s = .own then .un else ρ.getD 0 .un) :: clean ss (ρ.drop 1)
def fnOf (n : Nat) (body : M Flo) : Fn := fun ss => match body (ss ++ List.replicate (n - ss.length) .un) with
  | .ok .nx ρ => .ok (.v .non) (clean ss ρ)
  | .ok (.rt r) ρ => if noPl r = true then .ok r (clean ss ρ) else .stuck
  | .exc x ρ => .exc x (clean ss ρ)
  | _ => .stuck
theorem clean_length : ∀ (ss : List Sl) (ρ : Env), (clean ss ρ).length = ss.length
  | [], _ => rfl
  | s :: ss, ρ => by show (clean ss (ρ.drop 1)).length + 1 = ss.length + 1; rw [clean_length ss]
theorem getD_drop1 {α : Type} {l : List α} {j : Nat} {d : α} : (l.drop 1).getD j d = l.getD (j + 1) d := by
  rw [List.getD_eq_getElem?_getD, List.getD_eq_getElem?_getD, List.getElem?_drop, Nat.add_comm]
theorem getD_cons0 {α : Type} {l : List α} {x d : α} : (x :: l).getD 0 d = x := rfl
theorem getD_consS {α : Type} {l : List α} {x d : α} {j : Nat} : (x :: l).getD (j + 1) d = l.getD j d := rfl
theorem clean_get : ∀ (ss : List Sl) (ρ : Env) (j : Nat), (clean ss ρ).getD j .un = if modeOf (ss.getD j .un) = .own then .un else ρ.getD j .un
  | [], ρ, j => by simp [clean, modeOf]
  | s :: ss, ρ, 0 => rfl
  | s :: ss, ρ, j + 1 => by
    show (clean ss (ρ.drop 1)).getD j .un = if modeOf (ss.getD j .un) = .own then .un else ρ.getD (j + 1) .un
    rw [clean_get ss (ρ.drop 1) j, getD_drop1]
theorem getD_app {α : Type} {l l' : List α} {j : Nat} {d : α} (h : ∀ x ∈ l', x = d) : (l ++ l').getD j d = l.getD j d := by
  rw [List.getD_eq_getElem?_getD, List.getD_eq_getElem?_getD, List.getElem?_append]
  split
  · rfl
  · rename_i hj
    rw [List.getElem?_eq_none (l := l) (by omega)]
    cases e : l'[j - l.length]? with
    | none => rfl
    | some x => rw [h x (List.mem_of_getElem? e)]; rfl
theorem unRep {n : Nat} : ∀ x ∈ List.replicate n Sl.un, x = .un := fun x h => (List.mem_replicate.mp h).2
theorem noRep {n : Nat} : ∀ x ∈ List.replicate n (none : Option V), x = none := fun x h => (List.mem_replicate.mp h).2
/-- the body's slots -/
theorem R.full {F H : Hp} {A : Ow} {ss : Env} {vs : List V} (r : R c F A ss (vs.map some) H) (n : Nat) : R c F A (ss ++ List.replicate (n - ss.length) .un) (vs.map some ++ List.replicate (n - vs.length) none) H where
  le := r.le
  len := by
    have := r.len
    rw [List.length_map] at this
    rw [List.length_append, List.length_append, List.length_replicate, List.length_replicate, List.length_map, this]
  sl := fun j => by rw [getD_app unRep, getD_app noRep]; exact r.sl j
  nd := r.nd
  dj := r.dj
/-- at the end -/
theorem Stp.clean {F F1 H H1 : Hp} {A A1 : Ow} {ss ρ1 : Env} {σ1 : L2.St} {vs : List V} {n : Nat} (r : R c F A ss (vs.map some) H) (s : Stp c F A (ss ++ List.replicate (n - ss.length) .un) (vs.map some ++ List.replicate (n - vs.length) none) H F1 A1 ρ1 σ1 H1) :
    Stp c F A ss (vs.map some) H F1 (fun j => if modeOf (ss.getD j .un) = .own then [] else A1 j) (clean ss ρ1) (vs.map some) H1 := by
  have keep : ∀ j, modeOf (ss.getD j .un) ≠ .own → σ1.getD j none = (vs.map some).getD j none ∧ modeOf (ρ1.getD j .un) = modeOf (ss.getD j .un) ∧ (modeOf (ss.getD j .un) = .lk → ρ1.getD j .un = ss.getD j .un) := fun j hj => by
    have := s.k j (by rw [getD_app unRep]; exact hj)
    rw [getD_app unRep, getD_app noRep] at this
    exact this
  refine ⟨⟨s.r.le, by rw [clean_length, r.len], fun j => ?_, fun j => ?_, fun i j a h1 h2 => ?_⟩, ⟨s.x.mono, s.x.keep, fun j a h => ?_, s.x.gone⟩, fun j hj => ?_, rfl⟩
  · rw [clean_get]
    show SlR c F1 H1 _ _ (if modeOf (ss.getD j .un) = .own then [] else A1 j)
    by_cases hj : modeOf (ss.getD j .un) = .own
    · rw [if_pos hj, if_pos hj]; exact rfl
    · rw [if_neg hj, if_neg hj, ← (keep j hj).1]; exact s.r.sl j
  · show (if modeOf (ss.getD j .un) = .own then [] else A1 j).Nodup
    split
    · exact List.nodup_nil
    · exact s.r.nd j
  · have h1 : a ∈ (if modeOf (ss.getD i .un) = .own then [] else A1 i) := h1
    have h2 : a ∈ (if modeOf (ss.getD j .un) = .own then [] else A1 j) := h2
    split at h1
    · cases h1
    · split at h2
      · cases h2
      · exact s.r.dj i j a h1 h2
  · have h : a ∈ (if modeOf (ss.getD j .un) = .own then [] else A1 j) := h
    split at h
    · cases h
    · exact s.x.new j a h
  · rw [clean_get, if_neg hj]
    obtain ⟨k1, k2, k3⟩ := keep j hj
    exact ⟨rfl, k2, k3⟩
theorem RVR.noPl {F H : Hp} {σ σ' : L2.St} : ∀ {q : RV} {v : V} {Bs : List Addr}, noPl q = true → RVR c F H σ q v Bs → RVR c F H σ' q v Bs
  | .fl f, _, _, _, h => h
  | .ob C fs, _, _, _, h => h
  | .pl i, _, _, e, _ => by cases e
section
variable {P : Program} {w : World} {K : PySem.W.Frag} {mg : Str → Option Value} {base : Heap}
/-- THE RULE for a def: its body's combinator -/
theorem fn_ok {x qual : Str} {st : Stmt} {f : Addr} {fd : FuncData} {N ps : List Str} {k : Nat} {body : M Flo} (F : Fun K x qual st f fd) (S : FnScope N ps (defScope st))
    (hbody : ∀ (cdv : Value) (A : Around) (outer : List PySem.Env) (s : Shared) (H : Hp) (E : XK), Room k (A.deeper (envOfC qual (defScope st) s.heap.objs.size f cdv)) →
      PassesOwn (model P w) (A.deeper (envOfC qual (defScope st) s.heap.objs.size f cdv)) (envOfC qual (defScope st) s.heap.objs.size f cdv) (cxOf (L2.CX P w) P w K mg base N qual (defScope st) f cdv A outer s H E).xe → ∀ (W : WX), Takes (cxOf (L2.CX P w) P w K mg base N qual (defScope st) f cdv A outer s H E) W →
      PSs (cxOf (L2.CX P w) P w K mg base N qual (defScope st) f cdv A outer s H E) (defBody st) (tIS ⟨P, w, K⟩ W body)) :
    FnOk P w K mg base (L2.CX P w) (k + 1) f fd ps (spF ⟨P, w, K⟩ ps.length (fnOf N.length body)) := by
  refine F.okX S (fun vs H Q E h => h.1) fun cdv A outer s H vs Q E hr h => ?_
  obtain ⟨hl, ss, F0, A0, R0, q⟩ := h
  refine ⟨_, hbody cdv A outer s H E hr (passes_of rfl) _ (takes_of rfl rfl rfl rfl), ?_⟩
  have hs : start N vs = vs.map some ++ List.replicate (N.length - vs.length) none := rfl
  rw [hs]
  have RF := R0.full N.length
  refine ⟨_, F0, A0, RF, ?_⟩
  unfold fnOf at q
  cases eb : body (ss ++ List.replicate (N.length - ss.length) .un) with
  | stuck => rw [eb] at q; exact q.elim
  | exc x ρ1 =>
    rw [eb] at q
    exact fun F' A' σ' H' cls d s' ex => q F' _ H' cls d (s'.clean R0) ex
  | ok fl ρ1 =>
    rw [eb] at q
    intro F1 A1 σ1 H1 s1
    have s2 := s1.clean R0
    cases fl with
    | nx => exact q F1 _ H1 .non [] ⟨s2, ⟨rfl, Rep.non_iff.mpr rfl⟩, List.nodup_nil, (fun _ _ _ h => nomatch h), (fun _ h => nomatch h)⟩
    | bk => exact q.elim
    | ct => exact q.elim
    | rt r =>
      intro v Bs rv nd dj fr
      have q : OutF ⟨P, w, K⟩ E F0 A0 ss vs H (if noPl r = true then Res.ok r (clean ss ρ1) else .stuck) Q := q
      split at q
      · rename_i hp
        refine q F1 _ H1 v Bs ⟨s2, rv.noPl hp, nd, fun i a ha => ?_, fr⟩
        have ha : a ∈ (if modeOf (ss.getD i .un) = .own then [] else A1 i) := ha
        split at ha
        · cases ha
        · exact dj i a ha
      · exact q.elim
end
/-! ### calls -/
theorem mem_places {i : Nat} : ∀ {rs : List RV}, i ∈ places rs → ∃ j : Nat, rs[j]? = some (RV.pl i)
  | [], h => nomatch h
  | .pl k :: rs, h => by
    rcases List.mem_cons.mp h with rfl | h
    · exact ⟨0, rfl⟩
    · obtain ⟨j, e⟩ := mem_places h
      exact ⟨j + 1, e⟩
  | .fl f :: rs, h => let ⟨j, e⟩ := mem_places (rs := rs) h; ⟨j + 1, e⟩
  | .ob C fs :: rs, h => let ⟨j, e⟩ := mem_places (rs := rs) h; ⟨j + 1, e⟩
theorem places_mem {i : Nat} : ∀ {rs : List RV} {j : Nat}, rs[j]? = some (RV.pl i) → i ∈ places rs
  | [], j, h => by simp at h
  | .pl k :: rs, 0, h => by
    have e : RV.pl k = RV.pl i := Option.some.inj h
    rw [RV.pl.inj e]; exact List.mem_cons_self
  | .fl f :: rs, 0, h => by cases h
  | .ob C fs :: rs, 0, h => by cases h
  | .pl k :: rs, j + 1, h => List.mem_cons_of_mem _ (places_mem (rs := rs) (j := j) h)
  | .fl f :: rs, j + 1, h => places_mem (rs := rs) (j := j) h
  | .ob C fs :: rs, j + 1, h => places_mem (rs := rs) (j := j) h
theorem backE_length : ∀ (rs : List RV) (outs ρ : Env), (backE rs outs ρ).length = ρ.length
  | [], _, _ => rfl
  | .pl i :: rs, outs, ρ => by unfold backE; rw [List.length_set, backE_length rs]
  | .fl f :: rs, outs, ρ => backE_length rs (outs.drop 1) ρ
  | .ob C fs :: rs, outs, ρ => backE_length rs (outs.drop 1) ρ
theorem backE_off {i : Nat} : ∀ {rs : List RV} {outs ρ : Env}, i ∉ places rs → (backE rs outs ρ).getD i .un = ρ.getD i .un
  | [], _, _, _ => rfl
  | .pl k :: rs, outs, ρ, h => by
    unfold backE
    rw [getD_set_ne (fun e => h (by rw [e]; exact List.mem_cons_self)), backE_off (rs := rs) fun z => h (List.mem_cons_of_mem _ z)]
  | .fl f :: rs, outs, ρ, h => backE_off (rs := rs) (outs := outs.drop 1) h
  | .ob C fs :: rs, outs, ρ, h => backE_off (rs := rs) (outs := outs.drop 1) h
theorem backE_at {i : Nat} : ∀ {rs : List RV} {outs ρ : Env} {j : Nat}, (places rs).Nodup → i < ρ.length → rs[j]? = some (RV.pl i) → (backE rs outs ρ).getD i .un = reM (modeOf (ρ.getD i .un)) (outs.getD j .un)
  | [], _, _, j, _, _, h => by simp at h
  | .pl k :: rs, outs, ρ, 0, _, hi, h => by
    have e : RV.pl k = RV.pl i := Option.some.inj h
    have e := RV.pl.inj e
    subst e
    unfold backE
    exact getD_set_same (by rw [backE_length]; exact hi)
  | .fl f :: rs, outs, ρ, 0, _, _, h => by cases h
  | .ob C fs :: rs, outs, ρ, 0, _, _, h => by cases h
  | .pl k :: rs, outs, ρ, j + 1, nd, hi, h => by
    have m := places_mem (rs := rs) (j := j) h
    obtain ⟨n1, n2⟩ := List.nodup_cons.mp (show (k :: places rs).Nodup from nd)
    unfold backE
    rw [getD_set_ne (fun e => n1 (by rw [← e]; exact m)), backE_at (rs := rs) (j := j) n2 hi h, getD_drop1]
  | .fl f :: rs, outs, ρ, j + 1, nd, hi, h => by
    show (backE rs (outs.drop 1) ρ).getD i .un = _
    rw [backE_at (rs := rs) (j := j) nd hi h, getD_drop1]
  | .ob C fs :: rs, outs, ρ, j + 1, nd, hi, h => by
    show (backE rs (outs.drop 1) ρ).getD i .un = _
    rw [backE_at (rs := rs) (j := j) nd hi h, getD_drop1]
open Classical in
/-- the footprints behind a call -/
noncomputable def backA (rs : List RV) (B A : Ow) : Ow := fun i => if h : ∃ j : Nat, rs[j]? = some (RV.pl i) then B h.choose else A i
theorem places_inj {i : Nat} : ∀ {rs : List RV} {j k : Nat}, (places rs).Nodup → rs[j]? = some (RV.pl i) → rs[k]? = some (RV.pl i) → j = k
  | [], j, k, _, h, _ => by simp at h
  | r :: rs, 0, 0, _, _, _ => rfl
  | r :: rs, 0, k + 1, nd, h, h' => by
    have e : r = .pl i := Option.some.inj h
    subst e
    obtain ⟨n1, _⟩ := List.nodup_cons.mp (show (i :: places rs).Nodup from nd)
    exact absurd (places_mem (rs := rs) (j := k) h') n1
  | r :: rs, j + 1, 0, nd, h, h' => by
    have e : r = .pl i := Option.some.inj h'
    subst e
    obtain ⟨n1, _⟩ := List.nodup_cons.mp (show (i :: places rs).Nodup from nd)
    exact absurd (places_mem (rs := rs) (j := j) h) n1
  | r :: rs, j + 1, k + 1, nd, h, h' => by
    have nd' : (places rs).Nodup := by
      cases r with
      | pl k => exact (List.nodup_cons.mp (show (k :: places rs).Nodup from nd)).2
      | fl f => exact nd
      | ob C fs => exact nd
    exact congrArg (· + 1) (places_inj (rs := rs) nd' h h')
theorem backA_at {rs : List RV} {B A : Ow} {i j : Nat} (nd : (places rs).Nodup) (h : rs[j]? = some (RV.pl i)) : backA rs B A i = B j := by
  unfold backA
  have ex : ∃ j : Nat, rs[j]? = some (RV.pl i) := ⟨j, h⟩
  rw [dif_pos ex, places_inj nd ex.choose_spec h]
theorem backA_off {rs : List RV} {B A : Ow} {i : Nat} (h : i ∉ places rs) : backA rs B A i = A i := by
  unfold backA
  rw [dif_neg fun ⟨j, e⟩ => h (places_mem e)]
/-- the callee's slots -/
theorem args_R {F H : Hp} {A : Ow} {ρ : Env} {σ : L2.St} (r : R c F A ρ σ H) {rs : List RV} {vs : List V} {Bs : List Addr} (h : RVRs c F H σ rs vs Bs) : okPl ρ rs = true → Bs.Nodup → (places rs).Nodup → (∀ i a, a ∈ A i → a ∉ Bs) →
    ∃ Ac : Ow, R c F Ac (rs.map (argSl ρ)) (vs.map some) H ∧ (∀ j a, a ∈ Ac j → a ∈ Bs ∨ ∃ i ∈ places rs, a ∈ A i) ∧ (∀ j i, rs[j]? = some (RV.pl i) → Ac j = A i ∧ ∃ v, vs[j]? = some v ∧ σ.getD i none = some v) := by
  induction h with
  | nil => exact fun _ _ _ _ => ⟨fun _ => [], ⟨r.le, rfl, fun j => by simp [SlR], fun _ => List.nodup_nil, fun _ _ _ h => nomatch h⟩, (fun _ _ h => nomatch h), fun j i h => by simp at h⟩
  | @cons q rs v vs As Bs h1 h2 ih =>
    intro hok hnd hpl hdj
    obtain ⟨nAs, nBs, nAB⟩ := List.nodup_append.mp hnd
    have hdj2 : ∀ i a, a ∈ A i → a ∉ Bs := fun i a ha hb => hdj i a ha (List.mem_append_right _ hb)
    have hok2 : okPl ρ rs = true := by
      unfold okPl at hok ⊢
      cases q with
      | pl i => rw [show places (.pl i :: rs) = i :: places rs from rfl, List.all_cons, Bool.and_eq_true] at hok; exact hok.2
      | fl f => exact hok
      | ob C fs => exact hok
    have hpl2 : (places rs).Nodup := by
      cases q with
      | pl k => exact (List.nodup_cons.mp (show (k :: places rs).Nodup from hpl)).2
      | fl f => exact hpl
      | ob C fs => exact hpl
    obtain ⟨Ac, RA, sub, at'⟩ := ih hok2 nBs hpl2 hdj2
    -- the first one's
    have first : ∃ A0 : List Addr, SlR c F H (argSl ρ q) (some v) A0 ∧ A0.Nodup ∧ (∀ a ∈ A0, a ∈ As ++ Bs ∨ ∃ i ∈ places (q :: rs), a ∈ A i) ∧ (∀ j a, a ∈ Ac j → a ∉ A0) ∧ (∀ i, q = .pl i → A0 = A i ∧ σ.getD i none = some v) := by
      cases q with
      | fl f =>
        refine ⟨As, ⟨v, rfl, h1⟩, nAs, fun a ha => .inl (List.mem_append_left _ ha), fun j a ha hb => ?_, fun i e => nomatch e⟩
        rcases sub j a ha with z | ⟨i, hi, z⟩
        · exact nAB a hb a z rfl
        · exact hdj i a z (List.mem_append_left _ hb)
      | ob C fs =>
        refine ⟨As, ⟨v, rfl, h1⟩, nAs, fun a ha => .inl (List.mem_append_left _ ha), fun j a ha hb => ?_, fun i e => nomatch e⟩
        rcases sub j a ha with z | ⟨i, hi, z⟩
        · exact nAB a hb a z rfl
        · exact hdj i a z (List.mem_append_left _ hb)
      | pl k =>
        have hv : σ.getD k none = some v := h1.1
        refine ⟨A k, ?_, r.nd k, fun a ha => .inr ⟨k, List.mem_cons_self, ha⟩, fun j a ha hb => ?_, fun i e => by cases e; exact ⟨rfl, hv⟩⟩
        · have s := (r.sl k).reM (m := lend (modeOf (ρ.getD k .un)))
          rw [hv] at s
          exact s
        · rcases sub j a ha with z | ⟨i, hi, z⟩
          · exact hdj2 k a hb z
          · have e := r.dj k i a hb z
            subst e
            exact (List.nodup_cons.mp (show (k :: places rs).Nodup from hpl)).1 hi
    obtain ⟨A0, f1, f2, f3, f4, f5⟩ := first
    refine ⟨fun j => match j with
      | 0 => A0
      | j + 1 => Ac j, ⟨r.le, by have := RA.len; simp at this; simp [this], fun j => ?_, fun j => ?_, fun i j a ha hb => ?_⟩, fun j a ha => ?_, fun j i e => ?_⟩
    · cases j with
      | zero => exact f1
      | succ j => exact RA.sl j
    · cases j with
      | zero => exact f2
      | succ j => exact RA.nd j
    · cases i with
      | zero =>
        cases j with
        | zero => rfl
        | succ j => exact absurd ha (f4 j a hb)
      | succ i =>
        cases j with
        | zero => exact absurd hb (f4 i a ha)
        | succ j => exact congrArg (· + 1) (RA.dj i j a ha hb)
    · cases j with
      | zero => exact f3 a ha
      | succ j =>
        rcases sub j a ha with z | ⟨i, hi, z⟩
        · exact .inl (List.mem_append_right _ z)
        · refine .inr ⟨i, ?_, z⟩
          cases q with
          | pl k => exact List.mem_cons_of_mem _ hi
          | fl f => exact hi
          | ob C fs => exact hi
    · cases j with
      | zero =>
        have e : q = .pl i := Option.some.inj e
        obtain ⟨g1, g2⟩ := f5 i e
        exact ⟨g1, v, rfl, g2⟩
      | succ j => exact at' j i e
theorem call_stp {F F1 F2 H H1 H2 : Hp} {A A1 A2 Ac : Ow} {ρ ρ1 outs : Env} {σ : L2.St} {rs : List RV} {vs : List V} {Bs : List Addr} (g : Gots c F A ρ σ H rs ρ1 F1 A1 H1 vs Bs) (nd : (places rs).Nodup) (ok : okPl ρ1 rs = true)
    (RA : R c F1 Ac (rs.map (argSl ρ1)) (vs.map some) H1) (sub : ∀ j a, a ∈ Ac j → a ∈ Bs ∨ ∃ i ∈ places rs, a ∈ A1 i) (at' : ∀ j i, rs[j]? = some (RV.pl i) → Ac j = A1 i ∧ ∃ v, vs[j]? = some v ∧ σ.getD i none = some v)
    (s : Stp c F1 Ac (rs.map (argSl ρ1)) (vs.map some) H1 F2 A2 outs (vs.map some) H2) : Stp c F A ρ σ H F2 (backA rs A2 A1) (backE rs outs ρ1) σ H2 ∧
      (∀ i a, a ∈ backA rs A2 A1 i → (∃ j, a ∈ A2 j) ∨ (i ∉ places rs ∧ a ∈ A1 i)) ∧ (∀ i, i ∉ places rs → ∀ a, a ∈ A1 i → (∀ j, a ∉ Ac j) ∧ ∃ o, H1 a = some o) := by
  have inpl : ∀ i, i ∈ places rs → i < ρ1.length ∧ ρ1.getD i .un ≠ .un := fun i hi => by
    unfold okPl at ok
    have := List.all_eq_true.mp ok i hi
    have hne : ρ1.getD i .un ≠ .un := fun e => by rw [e] at this; cases this
    exact ⟨lt_of_getD hne, hne⟩
  have offA : ∀ i, i ∉ places rs → ∀ a, a ∈ A1 i → (∀ j, a ∉ Ac j) ∧ ∃ o, H1 a = some o := fun i hi a ha => ⟨fun j hj => by
    rcases sub j a hj with z | ⟨k, hk, z⟩
    · exact g.dj i a ha z
    · have e := g.s.r.dj i k a ha z
      subst e; exact hi hk, (g.s.r.own ha).2⟩
  have mem : ∀ i a, a ∈ backA rs A2 A1 i → (∃ j : Nat, rs[j]? = some (RV.pl i) ∧ a ∈ A2 j) ∨ (i ∉ places rs ∧ a ∈ A1 i) := fun i a ha => by
    by_cases hi : i ∈ places rs
    · obtain ⟨j, ej⟩ := mem_places hi
      rw [backA_at nd ej] at ha
      exact .inl ⟨j, ej, ha⟩
    · rw [backA_off hi] at ha
      exact .inr ⟨hi, ha⟩
  refine ⟨⟨⟨s.r.le, by rw [backE_length, g.s.r.len], fun i => ?_, fun i => ?_, fun i k a h1 h2 => ?_⟩, ⟨g.s.x.mono.trans s.x.mono, fun b o hb hn => ?_, fun i a ha => ?_, fun a ha => g.s.x.gone a (s.x.gone a ha)⟩, g.s.k.trans fun i hi => ?_, g.s.l⟩, fun i a ha => ?_, offA⟩
  · by_cases hi : i ∈ places rs
    · obtain ⟨j, ej⟩ := mem_places hi
      obtain ⟨e1, v, ev, es⟩ := at' j i ej
      rw [backE_at nd (inpl i hi).1 ej, backA_at nd ej, es]
      refine SlR.reM ?_
      have := s.r.sl j
      rw [List.getD_eq_getElem?_getD (l := vs.map some), List.getElem?_map, ev] at this
      exact this
    · rw [backE_off hi, backA_off hi]
      exact (g.s.r.sl i).ext s.x.mono fun a o ha h => s.x.keep a o h (offA i hi a ha).1
  · by_cases hi : i ∈ places rs
    · obtain ⟨j, ej⟩ := mem_places hi
      rw [backA_at nd ej]; exact s.r.nd j
    · rw [backA_off hi]; exact g.s.r.nd i
  · have key : ∀ (i k j : Nat), i ∉ places rs → a ∈ A1 i → a ∈ A2 j → False := fun i k j hi ha hb => by
      obtain ⟨n1, o, n2⟩ := offA i hi a ha
      rcases s.x.new j a hb with ⟨m, hm⟩ | z
      · exact n1 m hm
      · rw [n2] at z; cases z
    rcases mem i a h1 with ⟨j, ej, hj⟩ | ⟨hi, ha⟩
    · rcases mem k a h2 with ⟨j', ej', hj'⟩ | ⟨hk, hb⟩
      · have e := s.r.dj j j' a hj hj'
        subst e
        rw [ej] at ej'
        exact RV.pl.inj (Option.some.inj ej')
      · exact (key k i j hk hb hj).elim
    · rcases mem k a h2 with ⟨j', ej', hj'⟩ | ⟨hk, hb⟩
      · exact (key i k j' hi ha hj').elim
      · exact g.s.r.dj i k a ha hb
  · obtain ⟨k1, k2⟩ := g.s.x.keep b o hb hn
    obtain ⟨k3, k4⟩ := s.x.keep b o k1 fun j hj => by
      rcases sub j b hj with z | ⟨i, _, z⟩
      · rcases g.fr b z with ⟨m, hm⟩ | z
        · exact hn m hm
        · rw [hb] at z; cases z
      · rcases g.s.x.new i b z with ⟨m, hm⟩ | z
        · exact hn m hm
        · rw [hb] at z; cases z
    exact ⟨k3, k4.trans k2⟩
  · rcases mem i a ha with ⟨j, ej, hj⟩ | ⟨hi, ha⟩
    · rcases s.x.new j a hj with ⟨m, hm⟩ | z
      · rcases sub m a hm with z | ⟨k, _, z⟩
        · exact g.fr a z
        · exact g.s.x.new k a z
      · exact .inr (g.s.x.gone a z)
    · exact g.s.x.new i a ha
  · by_cases hp : i ∈ places rs
    · obtain ⟨j, ej⟩ := mem_places hp
      rw [backE_at nd (inpl i hp).1 ej]
      have es : (rs.map (argSl ρ1)).getD j .un = reM (lend (modeOf (ρ1.getD i .un))) (ρ1.getD i .un) := by
        rw [List.getD_eq_getElem?_getD, List.getElem?_map, ej]; rfl
      have hm : modeOf ((rs.map (argSl ρ1)).getD j .un) = modeOf (ρ1.getD i .un) := by
        rw [es, modeOf_reM (inpl i hp).2]
        cases e : modeOf (ρ1.getD i .un) with
        | own => exact absurd e hi
        | pin => rfl
        | lk => rfl
      obtain ⟨k1, k2, k3⟩ := s.k j (by rw [hm]; exact hi)
      have hne : outs.getD j .un ≠ .un := fun e => by
        rw [e, hm] at k2
        exact hi k2.symm
      refine ⟨rfl, modeOf_reM hne, fun e => ?_⟩
      rw [k3 (hm.trans e), es, reM_reM, reM_own]
    · rw [backE_off hp]
      exact ⟨rfl, rfl, fun _ => rfl⟩
  · rcases mem i a ha with ⟨j, ej, hj⟩ | z
    · exact .inl ⟨j, hj⟩
    · exact .inr z
/-- from «the arguments, then the promise» -/
theorem call_of {G : Fn} {np : Nat} {m : M (List RV)} {σ : L2.St} {H : Hp} {Q : VK} (hn : ∀ ρ rs ρ', m ρ = .ok rs ρ' → rs.length = np) (h : tI c W (mCall G m) σ H Q) : tIA c W m σ H fun vs H1 => spF c np G vs H1 Q (WE W σ) := by
  obtain ⟨ρ, F, A, R0, q⟩ := h
  refine ⟨ρ, F, A, R0, q.bind fun rs ρ1 e1 q1 F1 A1 H1 vs Bs g1 => ?_⟩
  unfold callF at q1
  split at q1
  · rename_i hp
    obtain ⟨Ac, RA, sub, at'⟩ := args_R g1.s.r g1.v hp.2 g1.nd hp.1 g1.dj
    have hl : vs.length = rs.length := by have := RA.len; simp at this; exact this.symm
    refine ⟨hl.trans (hn _ _ _ e1), _, F1, Ac, RA, ?_⟩
    cases eg : G (rs.map (argSl ρ1)) with
    | stuck => rw [eg] at q1; exact q1.elim
    | exc x outs =>
      rw [eg] at q1
      intro F2 A2 H2 cls d s2 ex
      exact q1 F2 _ σ H2 cls d (call_stp g1 hp.1 hp.2 RA sub at' s2).1 ex
    | ok r outs =>
      rw [eg] at q1
      intro F2 A2 H2 v Bs2 g2
      have q1 : OutG c W F A ρ σ H (if noPl r = true then Res.ok r (backE rs outs ρ1) else .stuck) fun r ρ' => ∀ F' A' H' v Bs, Got c F A ρ σ H r ρ' F' A' H' v Bs → Q v H' := q1
      split at q1
      · rename_i hr
        obtain ⟨s3, m3, o3⟩ := call_stp g1 hp.1 hp.2 RA sub at' g2.s
        refine q1 F2 _ H2 v Bs2 ⟨s3, g2.v.noPl hr, g2.nd, fun i a ha hb => ?_, fun a ha => ?_⟩
        · rcases m3 i a ha with ⟨j, hj⟩ | ⟨hi, hj⟩
          · exact g2.dj j a hj hb
          · obtain ⟨n1, o, n2⟩ := o3 i hi a hj
            rcases g2.fr a hb with ⟨k, hk⟩ | z
            · exact n1 k hk
            · rw [n2] at z; cases z
        · rcases g2.fr a ha with ⟨k, hk⟩ | z
          · rcases sub k a hk with z | ⟨i, _, z⟩
            · exact g1.fr a z
            · exact g1.s.x.new i a z
          · exact .inr (g1.s.x.gone a z)
      · exact q1.elim
  · exact q1.elim
end
end VS
namespace VS
open PySem PySem.Spec PyProof.Rows L2

/-! ### equality of data -/
mutual
def toP : D → PyData
  | .non => .none
  | .bl b => .bool b
  | .int i => .int i
  | .str x => .str x
  | .adr _ => .none
  | .tup ds => .tuple (toPs ds)
  | .lst ds => .list (toPs ds)
def toPs : List D → List PyData
  | [] => []
  | d :: ds => toP d :: toPs ds
end
mutual
/-- Python's == -/
def eqb : D → D → Bool
  | .non, .non => true
  | .bl a, .bl b => a == b
  | .bl a, .int j => (if a then 1 else 0) == j
  | .int i, .bl b => i == (if b then 1 else 0)
  | .int i, .int j => i == j
  | .str x, .str y => x == y
  | .lst xs, .lst ys => eqbs xs ys
  | .tup xs, .tup ys => eqbs xs ys
  | _, _ => false
def eqbs : List D → List D → Bool
  | [], [] => true
  | x :: xs, y :: ys => eqb x y && eqbs xs ys
  | _, _ => false
end
mutual
/-- data at most n deep, texts of real signs, no defs -/
def shp : Nat → D → Bool
  | _, .non => true
  | _, .bl _ => true
  | _, .int _ => true
  | _, .str x => PySem.PyData.strOk x
  | _, .adr _ => false
  | 0, .tup _ => false
  | n + 1, .tup ds => shps n ds
  | 0, .lst _ => false
  | n + 1, .lst ds => shps n ds
def shps : Nat → List D → Bool
  | _, [] => true
  | n, d :: ds => shp n d && shps n ds
end
mutual
theorem eqb_eqv : ∀ (d e : D) (n m : Nat), shp n d = true → shp m e = true → PyData.eqv (toP d) (toP e) = eqb d e
  | .non, e, n, m, h, g => by cases e <;> first | (simp [shp] at g; done) | simp [toP, PyData.eqv, eqb]
  | .bl _, e, n, m, h, g => by cases e <;> first | (simp [shp] at g; done) | simp [toP, PyData.eqv, eqb]
  | .int _, e, n, m, h, g => by cases e <;> first | (simp [shp] at g; done) | simp [toP, PyData.eqv, eqb]
  | .str _, e, n, m, h, g => by cases e <;> first | (simp [shp] at g; done) | simp [toP, PyData.eqv, eqb]
  | .adr _, e, n, m, h, g => by simp [shp] at h
  | .tup xs, e, n, m, h, g => by
    cases e with
    | tup ys =>
      cases n with
      | zero => simp [shp] at h
      | succ n =>
        cases m with
        | zero => simp [shp] at g
        | succ m =>
          simp only [toP, PyData.eqv, eqb]
          exact eqbs_eqv xs ys n m (by simpa [shp] using h) (by simpa [shp] using g)
    | _ => first | (simp [shp] at g; done) | simp [toP, PyData.eqv, eqb]
  | .lst xs, e, n, m, h, g => by
    cases e with
    | lst ys =>
      cases n with
      | zero => simp [shp] at h
      | succ n =>
        cases m with
        | zero => simp [shp] at g
        | succ m =>
          simp only [toP, PyData.eqv, eqb]
          exact eqbs_eqv xs ys n m (by simpa [shp] using h) (by simpa [shp] using g)
    | _ => first | (simp [shp] at g; done) | simp [toP, PyData.eqv, eqb]
theorem eqbs_eqv : ∀ (ds es : List D) (n m : Nat), shps n ds = true → shps m es = true → PyData.eqvAll (toPs ds) (toPs es) = eqbs ds es
  | [], [], _, _, _, _ => by simp [toPs, PyData.eqvAll, eqbs]
  | [], _ :: _, _, _, _, _ => by simp [toPs, PyData.eqvAll, eqbs]
  | _ :: _, [], _, _, _, _ => by simp [toPs, PyData.eqvAll, eqbs]
  | d :: ds, e :: es, n, m, h, g => by
    simp only [shps, Bool.and_eq_true] at h g
    simp only [toPs, PyData.eqvAll, eqbs]
    rw [eqb_eqv d e n m h.1 g.1, eqbs_eqv ds es n m h.2 g.2]
end
mutual
theorem shp_depth : ∀ (d : D) (n : Nat), shp n d = true → (toP d).canLay0 = true ∧ (toP d).depth ≤ n
  | .non, n, h => by simp [toP, PyData.canLay0, PyData.depth]
  | .bl _, n, h => by simp [toP, PyData.canLay0, PyData.depth]
  | .int _, n, h => by simp [toP, PyData.canLay0, PyData.depth]
  | .str x, n, h => by
    have h : PySem.PyData.strOk x = true := by unfold shp at h; exact h
    refine ⟨by simpa [toP, PyData.canLay0] using h, by simp [toP, PyData.depth]⟩
  | .adr _, n, h => by simp [shp] at h
  | .tup ds, n, h => by
    cases n with
    | zero => simp [shp] at h
    | succ n =>
      obtain ⟨h1, h2⟩ := shps_depth ds n (by simpa [shp] using h)
      refine ⟨by simpa [toP, PyData.canLay0] using h1, ?_⟩
      simp only [toP, PyData.depth]
      omega
  | .lst ds, n, h => by
    cases n with
    | zero => simp [shp] at h
    | succ n =>
      obtain ⟨h1, h2⟩ := shps_depth ds n (by simpa [shp] using h)
      refine ⟨by simpa [toP, PyData.canLay0] using h1, ?_⟩
      simp only [toP, PyData.depth]
      omega
theorem shps_depth : ∀ (ds : List D) (n : Nat), shps n ds = true → PyData.canLayAll0 (toPs ds) = true ∧ PyData.depthAll (toPs ds) ≤ n
  | [], n, h => by simp [toPs, PyData.canLayAll0, PyData.depthAll]
  | d :: ds, n, h => by
    simp only [shps, Bool.and_eq_true] at h
    obtain ⟨h1, h2⟩ := shp_depth d n h.1
    obtain ⟨h3, h4⟩ := shps_depth ds n h.2
    simp only [toPs, PyData.canLayAll0, PyData.depthAll, h1, h3]
    refine ⟨rfl, ?_⟩
    omega
end
theorem shp_shaped {d : D} {n : Nat} (hn : n ≤ 64) (h : shp n d = true) : SeqAt.shaped (toP d) = true := by
  obtain ⟨h1, h2⟩ := shp_depth d n h
  unfold SeqAt.shaped
  rw [Bool.and_eq_true]
  exact ⟨h1, decide_eq_true (by omega)⟩
section
variable {K : PySem.W.Frag} {F : Hp}
mutual
theorem rep_dp : ∀ (d : D) (v : V) (n : Nat), shp n d = true → Rep K F d v → Dp K F v (toP d)
  | .non, v, _, _, h => by rw [Rep.non_iff.mp h]; exact .non
  | .bl _, v, _, _, h => by rw [Rep.bl_iff.mp h]; exact .bl _
  | .int _, v, _, _, h => by rw [Rep.int_iff.mp h]; exact .int _
  | .str _, v, _, _, h => by rw [Rep.str_iff.mp h]; exact .str _
  | .adr _, v, _, s, _ => by simp [shp] at s
  | .tup ds, v, n, s, h => by
    cases n with
    | zero => simp [shp] at s
    | succ n =>
      obtain ⟨a, vs, rfl, q, r⟩ := Rep.tup_iff.mp h
      exact .tup q (reps_dp ds vs n (by simpa [shp] using s) r)
  | .lst ds, v, n, s, h => by
    cases n with
    | zero => simp [shp] at s
    | succ n =>
      obtain ⟨a, vs, rfl, q, r⟩ := Rep.lst_iff.mp h
      exact .lst q (reps_dp ds vs n (by simpa [shp] using s) r)
theorem reps_dp : ∀ (ds : List D) (vs : List V) (n : Nat), shps n ds = true → Reps K F ds vs → DpAll K F vs (toPs ds)
  | [], vs, _, _, h => by rw [h.inv0]; exact .nil
  | d :: ds, vs, n, s, h => by
    simp only [shps, Bool.and_eq_true] at s
    obtain ⟨v, r, rfl, h1, h2⟩ := h.inv
    exact .cons (rep_dp d v n s.1 h1) (reps_dp ds r n s.2 h2)
end
end
section
variable {c : WK} {W : WX} {X : Cx} {e e1 e2 e3 : Expr} {es : List Expr} {pos : Pos} {ma mb mc : M RV}
/-- what is shown, as data -/
def asD : Fld → Option D
  | .val d => some d
  | .lst ds => some (.lst ds)
  | .dct _ _ => none
theorem Lk.asD {F H : Hp} (s : Sub F H) : ∀ {f : Fld} {v : V} {d : D}, Lk c F H f v → asD f = some d → Rep c.K H d v
  | .val d', v, d, h, e => by cases e; exact Rep.sub s _ _ h
  | .lst ds, v, d, ⟨a, vs, ea, q, r⟩, e => by cases e; exact Rep.lst_iff.mpr ⟨a, vs, ea, .of q, Reps.sub s _ _ r⟩
  | .dct _ _, _, _, _, e => nomatch e
def asL : Fld → Option (List D)
  | .val (.lst ds) => some ds
  | .lst ds => some ds
  | _ => none
def asT : Fld → Option (List D)
  | .val (.tup ds) => some ds
  | _ => none
theorem Lk.asL {F H : Hp} (s : Sub F H) {f : Fld} {v : V} {ds : List D} (h : Lk c F H f v) (e : asL f = some ds) : ∃ a vs, v = .ref a ∧ SqL c.K H a vs ∧ Reps c.K F ds vs := by
  unfold VS.asL at e
  split at e
  · cases e
    obtain ⟨a, vs, ea, q, r⟩ := Rep.lst_iff.mp (show Rep c.K F _ v from h)
    exact ⟨a, vs, ea, sub_l s q, r⟩
  · cases e
    obtain ⟨a, vs, ea, q, r⟩ := h
    exact ⟨a, vs, ea, .of q, r⟩
  · cases e
theorem Lk.asT {F H : Hp} (s : Sub F H) {f : Fld} {v : V} {ds : List D} (h : Lk c F H f v) (e : asT f = some ds) : ∃ a vs, v = .ref a ∧ SqT c.K H a vs ∧ Reps c.K F ds vs := by
  unfold VS.asT at e
  split at e
  · cases e
    obtain ⟨a, vs, ea, q, r⟩ := Rep.tup_iff.mp (show Rep c.K F _ v from h)
    exact ⟨a, vs, ea, sub_t s q, r⟩
  · cases e
theorem Lk.int {F H : Hp} {i : Int} {v : V} (h : Lk c F H (.val (.int i)) v) : v = .int i := Rep.int_iff.mp (show Rep c.K F _ v from h)
theorem Lk.str {F H : Hp} {i : Str} {v : V} (h : Lk c F H (.val (.str i)) v) : v = .str i := Rep.str_iff.mp (show Rep c.K F _ v from h)
theorem Lk.bl {F H : Hp} {i : Bool} {v : V} (h : Lk c F H (.val (.bl i)) v) : v = .bl i := Rep.bl_iff.mp (show Rep c.K F _ v from h)
theorem Lk.non {F H : Hp} {v : V} (h : Lk c F H (.val .non) v) : v = .non := Rep.non_iff.mp (show Rep c.K F _ v from h)

/-- two operands by a rule -/
theorem i_op2 {op : Operator} {r : R2} {g : Fld → Fld → Option RV} (ho : OpR X (binaryOp op) r) (hs : Snd2 X.wk r g) (ha : PE X e1 (tI X.wk W ma)) (hb : PE X e2 (tI X.wk W mb)) : PE X (.BinOp e1 op e2 pos) (tI X.wk W (mOp2 g ma mb)) :=
  (pe_op ho ha hb).to fun σ H Q h => run2 hs h
theorem i_cmp2 {op : CmpOp} {r : R2} {g : Fld → Fld → Option RV} (ho : OpR X (compareOp op) r) (hs : Snd2 X.wk r g) (ha : PE X e1 (tI X.wk W ma)) (hb : PE X e2 (tI X.wk W mb)) (hm : behindInMarks op e2 = false) : PE X (.Compare e1 [op] [e2] pos) (tI X.wk W (mOp2 g ma mb)) :=
  (pe_cmpR ho ha hb hm).to fun σ H Q h => run2 hs h
theorem Fin1.int {F H : Hp} {Q : VK} {i : Int} (s : Sub F H) (f : Fin1 c F H (.v (.int i)) Q) : Q (.int i) H := f.val s (Rep.int_iff.mpr rfl)
theorem Fin1.bl {F H : Hp} {Q : VK} {i : Bool} (s : Sub F H) (f : Fin1 c F H (.v (.bl i)) Q) : Q (.bl i) H := f.val s (Rep.bl_iff.mpr rfl)
theorem Fin1.str {F H : Hp} {Q : VK} {i : Str} (s : Sub F H) (f : Fin1 c F H (.v (.str i)) Q) : Q (.str i) H := f.val s (Rep.str_iff.mpr rfl)

/-! ### arithmetic -/
def g2I (g : Int → Int → Option D) : Fld → Fld → Option RV
  | .val (.int i), .val (.int j) => (g i j).map fun d => .v d
  | _, _ => none
theorem g2I_ok {F H : Hp} {g : Int → Int → Option D} {f k : Fld} {q : RV} {x y : V} (hx : Lk c F H f x) (hy : Lk c F H k y) (e : g2I g f k = some q) : ∃ i j d, x = .int i ∧ y = .int j ∧ g i j = some d ∧ q = .v d := by
  unfold g2I at e
  split at e
  · rename_i i j
    cases eg : g i j with
    | none => rw [eg] at e; cases e
    | some d => rw [eg] at e; cases e; exact ⟨i, j, d, hx.int, hy.int, eg, rfl⟩
  · cases e
def gSub := g2I fun i j => some (.int (i - j))
theorem snd_sub : Snd2 c (rI0 fun i j => .int (i - j)) gSub := fun F H x y f k q Q s hx hy e fin => by
  obtain ⟨i, j, d, rfl, rfl, eg, rfl⟩ := g2I_ok hx hy e
  cases eg
  exact ⟨i, j, rfl, rfl, fin.int s⟩
theorem i_sub (ha : PE X e1 (tI X.wk W ma)) (hb : PE X e2 (tI X.wk W mb)) : PE X (.BinOp e1 .Sub e2 pos) (tI X.wk W (mOp2 gSub ma mb)) := i_op2 op_sub snd_sub ha hb
def small64 (i : Int) : Bool := decide (-(2 ^ 64) < i ∧ i < 2 ^ 64)
def gDiv := g2I fun i j => if j ≠ 0 ∧ j.natAbs < 1073741824 then some (.int (i.fdiv j)) else none
theorem snd_div : Snd2 c (rI CDivN fun i j => .int (i.fdiv j)) gDiv := fun F H x y f k q Q s hx hy e fin => by
  obtain ⟨i, j, d, rfl, rfl, eg, rfl⟩ := g2I_ok hx hy e
  split at eg
  · rename_i h
    cases eg
    exact ⟨i, j, rfl, rfl, h, fin.int s⟩
  · cases eg
theorem i_div (ha : PE X e1 (tI X.wk W ma)) (hb : PE X e2 (tI X.wk W mb)) : PE X (.BinOp e1 .FloorDiv e2 pos) (tI X.wk W (mOp2 gDiv ma mb)) := i_op2 op_fdivN snd_div ha hb
def gMod := g2I fun i j => if j ≠ 0 then some (.int (i.fmod j)) else none
theorem snd_mod : Snd2 c (rI (fun _ j => j ≠ 0) fun i j => .int (i.fmod j)) gMod := fun F H x y f k q Q s hx hy e fin => by
  obtain ⟨i, j, d, rfl, rfl, eg, rfl⟩ := g2I_ok hx hy e
  split at eg
  · rename_i h
    cases eg
    exact ⟨i, j, rfl, rfl, h, fin.int s⟩
  · cases eg
theorem i_mod (ha : PE X e1 (tI X.wk W ma)) (hb : PE X e2 (tI X.wk W mb)) : PE X (.BinOp e1 .Mod e2 pos) (tI X.wk W (mOp2 gMod ma mb)) := i_op2 op_modN snd_mod ha hb
def gPow := g2I fun i j => if 0 ≤ j ∧ j ≤ 1000000 ∧ i.natAbs < 2 ^ 64 then some (.int (i ^ j.toNat)) else none
theorem snd_pow : Snd2 c (rI CPow fun i j => .int (i ^ j.toNat)) gPow := fun F H x y f k q Q s hx hy e fin => by
  obtain ⟨i, j, d, rfl, rfl, eg, rfl⟩ := g2I_ok hx hy e
  split at eg
  · rename_i h
    cases eg
    exact ⟨i, j, rfl, rfl, h, fin.int s⟩
  · cases eg
theorem i_pow (ha : PE X e1 (tI X.wk W ma)) (hb : PE X e2 (tI X.wk W mb)) : PE X (.BinOp e1 .Pow e2 pos) (tI X.wk W (mOp2 gPow ma mb)) := i_op2 op_pow snd_pow ha hb
theorem Snd2.or {r r' : R2} {g g' : Fld → Fld → Option RV} (h : Snd2 c r g) (h' : Snd2 c r' g') : Snd2 c (fun x y H Q => r x y H Q ∨ r' x y H Q) (fun f k => (g f k).or (g' f k)) := fun F H x y f k q Q s hx hy e fin => by
  have e : (g f k).or (g' f k) = some q := e
  cases eg : g f k with
  | some z => rw [eg] at e; cases e; exact .inl (h F H x y f k _ Q s hx hy eg fin)
  | none => rw [eg] at e; exact .inr (h' F H x y f k _ Q s hx hy e fin)
def gMulI := g2I fun i j => if small64 i || small64 j then some (.int (i * j)) else none
theorem snd_mulI : Snd2 c (rI CMul fun i j => .int (i * j)) gMulI := fun F H x y f k q Q s hx hy e fin => by
  obtain ⟨i, j, d, rfl, rfl, eg, rfl⟩ := g2I_ok hx hy e
  split at eg
  · rename_i h
    cases eg
    rw [Bool.or_eq_true] at h
    exact ⟨i, j, rfl, rfl, h.elim (fun z => .inl (of_decide_eq_true z)) (fun z => .inr (of_decide_eq_true z)), fin.int s⟩
  · cases eg
theorem i_mul (ha : PE X e1 (tI X.wk W ma)) (hb : PE X e2 (tI X.wk W mb)) : PE X (.BinOp e1 .Mult e2 pos) (tI X.wk W (mOp2 gMulI ma mb)) := i_op2 op_mul snd_mulI ha hb
/-- a list of one kind or another, joined -/
def rCatL (K : PySem.W.Frag) : R2 := fun x y H Q => ∃ l b xs zs, x = .ref l ∧ y = .ref b ∧ SqL K H l xs ∧ SqL K H b zs ∧ xs.length + zs.length ≤ sizeLine ∧ ∀ p, H p = none → Q (.ref p) (upd H p (.lst (xs ++ zs)))
theorem op_catL : OpR X (binaryOp .Add) (rCatL X.K) := by
  intro pins s σ H x y v u Q I rx ry h
  obtain ⟨l, b, xs, zs, rfl, rfl, hH, hB, hz, q⟩ := h
  cases rx
  cases ry
  obtain ⟨its, r, p1, hl⟩ := I.list hH
  obtain ⟨its2, r2, p2, hl2⟩ := I.list hB
  obtain ⟨⟨cls, dd, data, sl⟩, ho, hc, n, hd⟩ := p1.isList
  obtain ⟨⟨cls2, dd2, data2, sl2⟩, ho2, hc2, n2, hd2⟩ := p2.isList
  simp only at hc hd hc2 hd2
  subst hc hd hc2 hd2
  have l1 := r.length
  have l2 := r2.length
  have ea : its.toArray ++ its2.toArray = (its ++ its2).toArray := by simp
  refine concat_meets ⟨_, ho, rfl⟩ ⟨_, ho2, rfl⟩ noFill_list_add seq_list_add PySem.F.slot_list_add PySem.F.entry_list_add (PySem.F.args_list_add_2 _ _) (list_addW l b its.toArray its2.toArray n n2 dd dd2 sl sl2 (by simp; omega)) ⟨ho, ho2, ?_⟩
  rw [ea]
  exact ⟨.ref _, _, I.lnew (t' := s.toks) (r.append r2) (by rw [List.length_append]; omega), rfl, q _ I.fresh⟩
end
end VS
namespace VS
open PySem PySem.Spec PyProof.Rows L2
section
variable {c : WK} {W : WX} {X : Cx} {e e1 e2 e3 : Expr} {es : List Expr} {pos p : Pos} {ma mb mc : M RV} {kk : Nat}
theorem OpR.or {f : Value → Value → Sem Value} {r r' : R2} (h : OpR X f r) (h' : OpR X f r') : OpR X f fun x y H Q => r x y H Q ∨ r' x y H Q := by
  intro pins s σ H x y v u Q I rx ry q
  rcases q with q | q
  · exact h pins s σ H x y v u Q I rx ry q
  · exact h' pins s σ H x y v u Q I rx ry q
theorem IxR.or {r r' : R2} (h : IxR X r) (h' : IxR X r') : IxR X fun x y H Q => r x y H Q ∨ r' x y H Q := by
  intro value slice pins s σ H x y v u Q I rx ry q hs
  rcases q with q | q
  · exact h value slice pins s σ H x y v u Q I rx ry q hs
  · exact h' value slice pins s σ H x y v u Q I rx ry q hs
def lim : Nat := 1000000
theorem lim_le : lim ≤ sizeLine := by decide
/-! ### + -/
def gAddI := g2I fun i j => some (.int (i + j))
theorem snd_addI : Snd2 c (rI0 fun i j => .int (i + j)) gAddI := fun F H x y f k q Q s hx hy e fin => by
  obtain ⟨i, j, d, rfl, rfl, eg, rfl⟩ := g2I_ok hx hy e
  cases eg
  exact ⟨i, j, rfl, rfl, fin.int s⟩
def gAddS : Fld → Fld → Option RV
  | .val (.str x), .val (.str y) => if x.length + y.length ≤ lim then some (.v (.str (x ++ y))) else none
  | _, _ => none
theorem snd_addS : Snd2 c (fun x y H Q => ∃ i j, x = .str i ∧ y = .str j ∧ i.length + j.length ≤ sizeLine ∧ Q (.str (i ++ j)) H) gAddS := fun F H x y f k q Q s hx hy e fin => by
  unfold gAddS at e
  split at e
  · split at e
    · rename_i hz
      cases e
      exact ⟨_, _, hx.str, hy.str, Nat.le_trans hz lim_le, fin.str s⟩
    · cases e
  · cases e
def gAddL (f k : Fld) : Option RV := match asL f, asL k with
  | some a, some b => if a.length + b.length ≤ lim then some (.fl (.lst (a ++ b))) else none
  | _, _ => none
theorem snd_addL : Snd2 c (rCatL c.K) gAddL := fun F H x y f k q Q s hx hy e fin => by
  unfold gAddL at e
  split at e
  · rename_i as bs ea eb
    split at e
    · rename_i hz
      cases e
      obtain ⟨a, vs, rfl, q1, r1⟩ := hx.asL s ea
      obtain ⟨b, ws, rfl, q2, r2⟩ := hy.asL s eb
      exact ⟨a, b, vs, ws, rfl, rfl, q1, q2, by rw [r1.length, r2.length]; exact Nat.le_trans hz lim_le, fun p hp => fin.lst s (r1.append r2) hp⟩
    · cases e
  · cases e
def gAddT (f k : Fld) : Option RV := match asT f, asT k with
  | some a, some b => if a.length + b.length ≤ lim then some (.v (.tup (a ++ b))) else none
  | _, _ => none
theorem asT_val {f : Fld} {ds : List D} (h : asT f = some ds) : f = .val (.tup ds) := by
  unfold asT at h
  split at h
  · cases h; rfl
  · cases h
theorem snd_addT : Snd2 c (rCatA c.K) gAddT := fun F H x y f k q Q s hx hy e fin => by
  unfold gAddT at e
  split at e
  · rename_i as bs ea eb
    split at e
    · rename_i hz
      cases e
      obtain rfl := asT_val ea
      obtain rfl := asT_val eb
      have hx' : Rep c.K F (.tup as) x := hx
      have hy' : Rep c.K F (.tup bs) y := hy
      obtain ⟨a, vs, rfl, q1, r1⟩ := hx.asT s ea
      obtain ⟨b, ws, rfl, q2, r2⟩ := hy.asT s eb
      refine ⟨a, b, vs, ws, rfl, rfl, q1, q2, by rw [r1.length, r2.length]; exact Nat.le_trans hz lim_le, fun z => ?_, fun z1 z2 => ?_, fun z1 z2 p hp => fin.tup s (r1.append r2) hp⟩
      · subst z
        have : as = [] := List.length_eq_zero_iff.mp r1.length.symm
        subst this
        exact fin.val s hy'
      · subst z2
        have : bs = [] := List.length_eq_zero_iff.mp r2.length.symm
        subst this
        exact fin.val s (by rw [List.append_nil]; exact hx')
    · cases e
  · cases e
def gAdd (f k : Fld) : Option RV := (gAddI f k).or ((gAddL f k).or ((gAddT f k).or (gAddS f k)))
theorem i_add (ha : PE X e1 (tI X.wk W ma)) (hb : PE X e2 (tI X.wk W mb)) : PE X (.BinOp e1 .Add e2 pos) (tI X.wk W (mOp2 gAdd ma mb)) :=
  i_op2 (OpR.or op_add (OpR.or op_catL (OpR.or op_catA op_add_str))) (Snd2.or snd_addI (Snd2.or snd_addL (Snd2.or snd_addT snd_addS))) ha hb

/-! ### order -/
def gCmp (p : Int → Int → Bool) := g2I fun i j => some (.bl (p i j))
theorem snd_cmp {p : Int → Int → Bool} : Snd2 c (rI0 fun i j => .bl (p i j)) (gCmp p) := fun F H x y f k q Q s hx hy e fin => by
  obtain ⟨i, j, d, rfl, rfl, eg, rfl⟩ := g2I_ok hx hy e
  cases eg
  exact ⟨i, j, rfl, rfl, fin.bl s⟩
def intsD : List D → Option (List Int)
  | [] => some []
  | .int i :: ds => (intsD ds).map (i :: ·)
  | _ :: _ => none
theorem reps_ints {K : PySem.W.Frag} {F : Hp} : ∀ {ds : List D} {vs : List V} {ns : List Int}, intsD ds = some ns → Reps K F ds vs → vs = ns.map V.int
  | [], vs, ns, e, h => by cases e; exact h.inv0
  | d :: ds, vs, ns, e, h => by
    obtain ⟨v, r, rfl, h1, h2⟩ := h.inv
    cases d with
    | int i =>
      unfold intsD at e
      obtain ⟨ms, em, rfl⟩ := Option.map_eq_some_iff.mp e
      rw [Rep.int_iff.mp h1, reps_ints em h2]; rfl
    | _ => unfold intsD at e; cases e
def gLtT (f k : Fld) : Option RV := match asT f, asT k with
  | some a, some b => match intsD a, intsD b with
    | some ns, some ms => some (.v (.bl (HT.lexLt ns ms)))
    | _, _ => none
  | _, _ => none
theorem snd_ltT : Snd2 c (rLtT c.K) gLtT := fun F H x y f k q Q s hx hy e fin => by
  unfold gLtT at e
  split at e
  · rename_i as bs ea eb
    split at e
    · rename_i ns ms en em
      cases e
      obtain ⟨a, vs, rfl, q1, r1⟩ := hx.asT s ea
      obtain ⟨b, ws, rfl, q2, r2⟩ := hy.asT s eb
      have e1 := reps_ints en r1
      have e2 := reps_ints em r2
      subst e1 e2
      exact ⟨a, b, ns, ms, rfl, rfl, q1, q2, fin.bl s⟩
    · cases e
  · cases e
def gLt (f k : Fld) : Option RV := (gCmp (fun i j => decide (i < j)) f k).or (gLtT f k)
def gLe := gCmp fun i j => decide (i ≤ j)
def gGt := gCmp fun i j => decide (j < i)
def gGe := gCmp fun i j => decide (j ≤ i)
theorem i_lt (hr : Room kk X.A) (ha : PE X e1 (tI X.wk W ma)) (hb : PE X e2 (tI X.wk W mb)) : PE X (.Compare e1 [.Lt] [e2] pos) (tI X.wk W (mOp2 gLt ma mb)) :=
  i_cmp2 (OpR.or op_lt (op_ltT hr.units0)) (Snd2.or snd_cmp snd_ltT) ha hb (nobehind _ (by decide) (by decide))
theorem i_le (ha : PE X e1 (tI X.wk W ma)) (hb : PE X e2 (tI X.wk W mb)) : PE X (.Compare e1 [.LtE] [e2] pos) (tI X.wk W (mOp2 gLe ma mb)) := i_cmp2 op_le snd_cmp ha hb (nobehind _ (by decide) (by decide))
theorem i_gt (ha : PE X e1 (tI X.wk W ma)) (hb : PE X e2 (tI X.wk W mb)) : PE X (.Compare e1 [.Gt] [e2] pos) (tI X.wk W (mOp2 gGt ma mb)) := i_cmp2 op_gt snd_cmp ha hb (nobehind _ (by decide) (by decide))
theorem i_ge (ha : PE X e1 (tI X.wk W ma)) (hb : PE X e2 (tI X.wk W mb)) : PE X (.Compare e1 [.GtE] [e2] pos) (tI X.wk W (mOp2 gGe ma mb)) := i_cmp2 op_ge snd_cmp ha hb (nobehind _ (by decide) (by decide))
/-- a op b op' c, of ints -/
def retC2 (q : Int → Int → Bool) (j : Int) (r3 : RV) : M RV := fun ρ => match look ρ r3 with
  | some (.val (.int k)) => .ok (.v (.bl (q j k))) ρ
  | _ => .stuck
def retC1 (p q : Int → Int → Bool) (mc : M RV) (r1 r2 : RV) : M RV := fun ρ => match look ρ r1, look ρ r2 with
  | some (.val (.int i)), some (.val (.int j)) => if p i j = true then mc.bind (retC2 q j) ρ else .ok (.v (.bl false)) ρ
  | _, _ => .stuck
def mChain (p q : Int → Int → Bool) (ma mb mc : M RV) : M RV := ma.bind fun r1 => mb.bind fun r2 => retC1 p q mc r1 r2
theorem i_chainG {op op' : CmpOp} {p q : Int → Int → Bool} (ho : OpR X (compareOp op) (rI0 fun i j => .bl (p i j))) (ho' : OpR X (compareOp op') (rI0 fun i j => .bl (q i j))) (ha : PE X e1 (tI X.wk W ma)) (hb : PE X e2 (tI X.wk W mb)) (hc : PE X e3 (tI X.wk W mc))
    (hm : lastMarks [op, op'] [e2, e3] = false := by with_unfolding_all rfl) : PE X (.Compare e1 [op, op'] [e2, e3] pos) (tI X.wk W (mChain p q ma mb mc)) :=
  (pe_chain ho ho' ha hb hc hm).to fun σ H Q ⟨ρ, F, A, R0, q0⟩ => by
    refine ⟨ρ, F, A, R0, q0.bind fun r1 ρ1 e1 q1 F1 A1 H1 v1 B1 g1 => ⟨ρ1, F1, A1, g1.s.r, ?_⟩⟩
    refine (OutG.later g1.s q1 fun _ _ _ z => z).bind fun r2 ρ2 e2 q2 F2 A2 H2 v2 B2 g2 => ?_
    unfold retC1 at q2
    split at q2
    · rename_i i j ef ek
      have s2 := g1.s.trans g2.s
      have v1' := g1.v.ext g2.s.x.mono (kept_in g2.s.x g1.dj)
      have ej := (look_ok s2.r g2.v ek).int
      refine ⟨i, j, (look_ok s2.r v1' ef).int, ej, _, rfl, ?_⟩
      split at q2
      · rename_i hp
        rw [if_pos hp]
        refine ⟨ρ2, F2, A2, s2.r, (OutG.later g2.s q2 fun _ _ _ z => z).bind fun r3 ρ3 e3 q3 F3 A3 H3 v3 B3 g3 => ?_⟩
        have s3 := s2.trans g3.s
        unfold retC2 at q3
        split at q3
        · rename_i k el
          refine ⟨j, k, ej, (look_ok s3.r g3.v el).int, ?_⟩
          exact q3 F3 A3 H3 _ _ (blOk s3)
        · exact q3.elim
      · rename_i hp
        rw [if_neg hp]
        exact q2 F2 A2 H2 _ _ (blOk s2)
    · exact q2.elim
abbrev pLt (i j : Int) : Bool := decide (i < j)
abbrev pLe (i j : Int) : Bool := decide (i ≤ j)
theorem i_leLe (ha : PE X e1 (tI X.wk W ma)) (hb : PE X e2 (tI X.wk W mb)) (hc : PE X e3 (tI X.wk W mc)) (hm : lastMarks [.LtE, .LtE] [e2, e3] = false := by with_unfolding_all rfl) : PE X (.Compare e1 [.LtE, .LtE] [e2, e3] pos) (tI X.wk W (mChain pLe pLe ma mb mc)) := i_chainG op_le op_le ha hb hc hm
theorem i_leLt (ha : PE X e1 (tI X.wk W ma)) (hb : PE X e2 (tI X.wk W mb)) (hc : PE X e3 (tI X.wk W mc)) (hm : lastMarks [.LtE, .Lt] [e2, e3] = false := by with_unfolding_all rfl) : PE X (.Compare e1 [.LtE, .Lt] [e2, e3] pos) (tI X.wk W (mChain pLe pLt ma mb mc)) := i_chainG op_le op_lt ha hb hc hm
theorem i_ltLt (ha : PE X e1 (tI X.wk W ma)) (hb : PE X e2 (tI X.wk W mb)) (hc : PE X e3 (tI X.wk W mc)) (hm : lastMarks [.Lt, .Lt] [e2, e3] = false := by with_unfolding_all rfl) : PE X (.Compare e1 [.Lt, .Lt] [e2, e3] pos) (tI X.wk W (mChain pLt pLt ma mb mc)) := i_chainG op_lt op_lt ha hb hc hm
theorem i_ltLe (ha : PE X e1 (tI X.wk W ma)) (hb : PE X e2 (tI X.wk W mb)) (hc : PE X e3 (tI X.wk W mc)) (hm : lastMarks [.Lt, .LtE] [e2, e3] = false := by with_unfolding_all rfl) : PE X (.Compare e1 [.Lt, .LtE] [e2, e3] pos) (tI X.wk W (mChain pLt pLe ma mb mc)) := i_chainG op_lt op_le ha hb hc hm

/-! ### equality -/
def deep : Nat := 12
def gEqG (neg : Bool) (f k : Fld) : Option RV := match asD f, asD k with
  | some d, some d' => if shp deep d = true ∧ shp deep d' = true then some (.v (.bl (neg != eqb d d'))) else none
  | _, _ => none
theorem snd_eqD : Snd2 c (rEqD c.K) (gEqG false) := fun F H x y f k q Q s hx hy e fin => by
  unfold gEqG at e
  split at e
  · rename_i d d' ed ed'
    split at e
    · rename_i h
      cases e
      refine ⟨toP d, toP d', rep_dp d x deep h.1 (hx.asD s ed), rep_dp d' y deep h.2 (hy.asD s ed'), shp_shaped (by decide) h.1, shp_shaped (by decide) h.2, ?_⟩
      rw [eqb_eqv d d' deep deep h.1 h.2]
      have e : (false != eqb d d') = eqb d d' := by cases eqb d d' <;> rfl
      rw [e] at fin
      exact fin.bl s
    · cases e
  · cases e
theorem snd_neD : Snd2 c (rNeD c.K) (gEqG true) := fun F H x y f k q Q s hx hy e fin => by
  unfold gEqG at e
  split at e
  · rename_i d d' ed ed'
    split at e
    · rename_i h
      cases e
      refine ⟨toP d, toP d', rep_dp d x deep h.1 (hx.asD s ed), rep_dp d' y deep h.2 (hy.asD s ed'), shp_shaped (by decide) h.1, shp_shaped (by decide) h.2, ?_⟩
      rw [eqb_eqv d d' deep deep h.1 h.2]
      have e : (true != eqb d d') = !eqb d d' := by cases eqb d d' <;> rfl
      rw [e] at fin
      exact fin.bl s
    · cases e
  · cases e
theorem i_eq (hr : Room kk X.A) (ha : PE X e1 (tI X.wk W ma)) (hb : PE X e2 (tI X.wk W mb)) : PE X (.Compare e1 [.Eq] [e2] pos) (tI X.wk W (mOp2 (gEqG false) ma mb)) := i_cmp2 (op_eqD hr.units) snd_eqD ha hb (nobehind _ (by decide) (by decide))
theorem i_ne (hr : Room kk X.A) (ha : PE X e1 (tI X.wk W ma)) (hb : PE X e2 (tI X.wk W mb)) : PE X (.Compare e1 [.NotEq] [e2] pos) (tI X.wk W (mOp2 (gEqG true) ma mb)) := i_cmp2 (op_neD hr.units) snd_neD ha hb (nobehind _ (by decide) (by decide))

/-! ### identity -/
def isNonF : Fld → Bool
  | .val .non => true
  | _ => false
def gIsN (neg : Bool) (f k : Fld) : Option RV := if isNonF k = true then some (.v (.bl (neg != isNonF f))) else none
theorem lk_non {F H : Hp} {f : Fld} {v : V} (h : Lk c F H f v) : decide (v = .non) = isNonF f := by
  cases f with
  | val d =>
    have h : Rep c.K F d v := h
    cases d with
    | non => cases Rep.non_iff.mp h; rfl
    | bl b => cases Rep.bl_iff.mp h; rfl
    | int b => cases Rep.int_iff.mp h; rfl
    | str b => cases Rep.str_iff.mp h; rfl
    | adr b => unfold Rep at h; cases h; rfl
    | tup b => obtain ⟨a, _, e, _⟩ := Rep.tup_iff.mp h; cases e; rfl
    | lst b => obtain ⟨a, _, e, _⟩ := Rep.lst_iff.mp h; cases e; rfl
  | lst ds => obtain ⟨a, _, e, _⟩ := h; cases e; rfl
  | dct t kvs => obtain ⟨a, _, e, _⟩ := h; cases e; rfl
theorem snd_isN : Snd2 c (fun x y H Q => y = .non ∧ Q (.bl (decide (x = .non))) H) (gIsN false) := fun F H x y f k q Q s hx hy e fin => by
  unfold gIsN at e
  split at e
  · rename_i hk
    cases e
    have h2 := lk_non hy
    rw [hk] at h2
    refine ⟨of_decide_eq_true h2, ?_⟩
    rw [lk_non hx]
    have e : (false != isNonF f) = isNonF f := by cases isNonF f <;> rfl
    rw [e] at fin
    exact fin.bl s
  · cases e
theorem snd_notN : Snd2 c (fun x y H Q => y = .non ∧ Q (.bl (!decide (x = .non))) H) (gIsN true) := fun F H x y f k q Q s hx hy e fin => by
  unfold gIsN at e
  split at e
  · rename_i hk
    cases e
    have h2 := lk_non hy
    rw [hk] at h2
    refine ⟨of_decide_eq_true h2, ?_⟩
    rw [lk_non hx]
    have e : (true != isNonF f) = !isNonF f := by cases isNonF f <;> rfl
    rw [e] at fin
    exact fin.bl s
  · cases e
def gIsB (neg : Bool) : Fld → Fld → Option RV
  | .val (.bl a), .val (.bl b) => some (.v (.bl (neg != decide (a = b))))
  | _, _ => none
theorem snd_isB : Snd2 c (fun x y H Q => ∃ a b, x = .bl a ∧ y = .bl b ∧ Q (.bl (decide (a = b))) H) (gIsB false) := fun F H x y f k q Q s hx hy e fin => by
  unfold gIsB at e
  split at e
  · rename_i a b
    cases e
    have e : (false != decide (a = b)) = decide (a = b) := by cases decide (a = b) <;> rfl
    rw [e] at fin
    exact ⟨a, b, hx.bl, hy.bl, fin.bl s⟩
  · cases e
theorem snd_notB : Snd2 c (fun x y H Q => ∃ a b, x = .bl a ∧ y = .bl b ∧ Q (.bl (!decide (a = b))) H) (gIsB true) := fun F H x y f k q Q s hx hy e fin => by
  unfold gIsB at e
  split at e
  · rename_i a b
    cases e
    have e : (true != decide (a = b)) = !decide (a = b) := by cases decide (a = b) <;> rfl
    rw [e] at fin
    exact ⟨a, b, hx.bl, hy.bl, fin.bl s⟩
  · cases e
def gIs (neg : Bool) (f k : Fld) : Option RV := (gIsN neg f k).or (gIsB neg f k)
theorem i_is (ha : PE X e1 (tI X.wk W ma)) (hb : PE X e2 (tI X.wk W mb)) : PE X (.Compare e1 [.Is] [e2] pos) (tI X.wk W (mOp2 (gIs false) ma mb)) := i_cmp2 (OpR.or op_isN op_is_bl) (Snd2.or snd_isN snd_isB) ha hb (nobehind _ (by decide) (by decide))
theorem i_isnot (ha : PE X e1 (tI X.wk W ma)) (hb : PE X e2 (tI X.wk W mb)) : PE X (.Compare e1 [.IsNot] [e2] pos) (tI X.wk W (mOp2 (gIs true) ma mb)) := i_cmp2 (OpR.or op_notN op_isnot_bl) (Snd2.or snd_notN snd_notB) ha hb (nobehind _ (by decide) (by decide))

/-! ### in a list, a tuple -/
def rInT (K : PySem.W.Frag) (neg : Bool) : R2 := fun x y H Q => ∃ d ds, Dp K H x d ∧ Dp K H y (.tuple ds) ∧ SeqAt.shaped d = true ∧ SeqAt.shaped (.tuple ds) = true ∧ Q (.bl (neg != ds.any fun z => PyData.eqv z d)) H
theorem op_inT (hu : X.A.units + 65 < cLine) : OpR X (compareOp .In) (rInT X.K false) := by
  intro pins s σ H x y v u Q I rx ry h
  obtain ⟨d, ds, hd, he, sd, se, q⟩ := h
  obtain ⟨as, r1⟩ := Dp.reads I d x v hd rx
  obtain ⟨bs, r2⟩ := Dp.reads I (.tuple ds) y u he ry
  have e : (false != ds.any fun z => PyData.eqv z d) = ds.any fun z => PyData.eqv z d := by cases ds.any fun z => PyData.eqv z d <;> rfl
  rw [e] at q
  exact SeqAt.in_tuple_reads r2 r1 (SeqAt.canLay_of_shaped se) (SeqAt.canLay_of_shaped sd) (room_in_shaped sd hu) ⟨.bl _, H, I, rfl, q⟩
theorem op_notInT (hu : X.A.units + 65 < cLine) : OpR X (compareOp .NotIn) (rInT X.K true) := by
  intro pins s σ H x y v u Q I rx ry h
  obtain ⟨d, ds, hd, he, sd, se, q⟩ := h
  obtain ⟨as, r1⟩ := Dp.reads I d x v hd rx
  obtain ⟨bs, r2⟩ := Dp.reads I (.tuple ds) y u he ry
  have e : (true != ds.any fun z => PyData.eqv z d) = !ds.any fun z => PyData.eqv z d := by cases ds.any fun z => PyData.eqv z d <;> rfl
  rw [e] at q
  exact SeqAt.notIn_tuple_reads r2 r1 (SeqAt.canLay_of_shaped se) (SeqAt.canLay_of_shaped sd) (room_in_shaped sd hu) ⟨.bl _, H, I, rfl, q⟩
theorem any_eqb {n m : Nat} {d : D} (h : shp m d = true) : ∀ {ds : List D}, shps n ds = true → ((toPs ds).any fun z => PyData.eqv z (toP d)) = ds.any fun z => eqb z d
  | [], _ => rfl
  | x :: ds, g => by
    simp only [shps, Bool.and_eq_true] at g
    simp only [toPs, List.any_cons]
    rw [eqb_eqv x d n m g.1 h, any_eqb h g.2]
def gInL (neg : Bool) (f k : Fld) : Option RV := match asD f, asL k with
  | some d, some ds => if shp deep d = true ∧ shps deep ds = true then some (.v (.bl (neg != ds.any fun z => eqb z d))) else none
  | _, _ => none
def gInT (neg : Bool) (f k : Fld) : Option RV := match asD f, asT k with
  | some d, some ds => if shp deep d = true ∧ shps deep ds = true then some (.v (.bl (neg != ds.any fun z => eqb z d))) else none
  | _, _ => none
theorem asL_asD {f : Fld} {ds : List D} (h : asL f = some ds) : asD f = some (.lst ds) := by
  unfold asL at h
  split at h
  · cases h; rfl
  · cases h; rfl
  · cases h
theorem shp_tup {n : Nat} {ds : List D} (h : shps n ds = true) : shp (n + 1) (.tup ds) = true := h
theorem shp_lst {n : Nat} {ds : List D} (h : shps n ds = true) : shp (n + 1) (.lst ds) = true := h
theorem neg_false (b : Bool) : (false != b) = b := by cases b <;> rfl
theorem neg_true (b : Bool) : (true != b) = !b := by cases b <;> rfl
theorem inL_ok {F H : Hp} (s : Sub F H) {neg : Bool} {f k : Fld} {x y : V} {q : RV} (hx : Lk c F H f x) (hy : Lk c F H k y) (e : gInL neg f k = some q) : ∃ d ds, Dp c.K H x d ∧ Dp c.K H y (.list ds) ∧ SeqAt.shaped d = true ∧ SeqAt.shaped (.list ds) = true ∧ q = .v (.bl (neg != ds.any fun z => PyData.eqv z d)) := by
  unfold gInL at e
  split at e
  · rename_i d ds ed es
    split at e
    · rename_i h
      cases e
      exact ⟨toP d, toPs ds, rep_dp d x deep h.1 (hx.asD s ed), rep_dp (.lst ds) y (deep + 1) (shp_lst h.2) (hy.asD s (asL_asD es)), shp_shaped (by decide) h.1, shp_shaped (d := .lst ds) (n := deep + 1) (by decide) (shp_lst h.2), by rw [any_eqb h.1 h.2]⟩
    · cases e
  · cases e
theorem inT_ok {F H : Hp} (s : Sub F H) {neg : Bool} {f k : Fld} {x y : V} {q : RV} (hx : Lk c F H f x) (hy : Lk c F H k y) (e : gInT neg f k = some q) : ∃ d ds, Dp c.K H x d ∧ Dp c.K H y (.tuple ds) ∧ SeqAt.shaped d = true ∧ SeqAt.shaped (.tuple ds) = true ∧ q = .v (.bl (neg != ds.any fun z => PyData.eqv z d)) := by
  unfold gInT at e
  split at e
  · rename_i d ds ed es
    split at e
    · rename_i h
      cases e
      have e2 := asT_val es
      subst e2
      exact ⟨toP d, toPs ds, rep_dp d x deep h.1 (hx.asD s ed), rep_dp (.tup ds) y (deep + 1) (shp_tup h.2) (hy.asD s rfl), shp_shaped (by decide) h.1, shp_shaped (d := .tup ds) (n := deep + 1) (by decide) (shp_tup h.2), by rw [any_eqb h.1 h.2]⟩
    · cases e
  · cases e
theorem snd_inL : Snd2 c (rInD c.K) (gInL false) := fun F H x y f k q Q s hx hy e fin => by
  obtain ⟨d, ds, h1, h2, h3, h4, rfl⟩ := inL_ok s hx hy e
  rw [neg_false] at fin
  exact ⟨d, ds, h1, h2, h3, h4, fin.bl s⟩
theorem snd_notInL : Snd2 c (rNotInD c.K) (gInL true) := fun F H x y f k q Q s hx hy e fin => by
  obtain ⟨d, ds, h1, h2, h3, h4, rfl⟩ := inL_ok s hx hy e
  rw [neg_true] at fin
  exact ⟨d, ds, h1, h2, h3, h4, fin.bl s⟩
theorem snd_inT {neg : Bool} : Snd2 c (rInT c.K neg) (gInT neg) := fun F H x y f k q Q s hx hy e fin => by
  obtain ⟨d, ds, h1, h2, h3, h4, rfl⟩ := inT_ok s hx hy e
  exact ⟨d, ds, h1, h2, h3, h4, fin.bl s⟩

/-! ### places -/
def gIxL : Fld → Fld → Option RV := fun f k => match asL f, k with
  | some ds, .val (.int i) => (atI ds i).map fun d => .v d
  | _, _ => none
def gIxT : Fld → Fld → Option RV := fun f k => match asT f, k with
  | some ds, .val (.int i) => (atI ds i).map fun d => .v d
  | _, _ => none
theorem reps_atI {K : PySem.W.Frag} {F : Hp} {ds : List D} {vs : List V} {i : Int} {d : D} (h : Reps K F ds vs) (e : atI ds i = some d) : ∃ v, atI vs i = some v ∧ Rep K F d v := by
  unfold atI at e ⊢
  rw [h.length]
  cases ej : ixN ds.length i with
  | none => rw [ej] at e; cases e
  | some j =>
    rw [ej] at e
    exact h.get e
theorem snd_ixL : Snd2 c (rIxL c.K) gIxL := fun F H x y f k q Q s hx hy e fin => by
  unfold gIxL at e
  split at e
  · rename_i ds i es
    obtain ⟨d, ed, rfl⟩ := Option.map_eq_some_iff.mp e
    obtain ⟨a, vs, rfl, q1, r1⟩ := hx.asL s es
    obtain ⟨v, ev, rv⟩ := reps_atI r1 ed
    exact ⟨a, vs, i, v, rfl, hy.int, q1, ev, fin.val s rv⟩
  · cases e
theorem snd_ixT : Snd2 c (rIxT c.K) gIxT := fun F H x y f k q Q s hx hy e fin => by
  unfold gIxT at e
  split at e
  · rename_i ds i es
    obtain ⟨d, ed, rfl⟩ := Option.map_eq_some_iff.mp e
    obtain ⟨a, vs, rfl, q1, r1⟩ := hx.asT s es
    obtain ⟨v, ev, rv⟩ := reps_atI r1 ed
    exact ⟨a, vs, i, v, rfl, hy.int, q1, ev, fin.val s rv⟩
  · cases e
def gIxS : Fld → Fld → Option RV
  | .val (.str z), .val (.int i) => if z.length ≤ lim then (atI z.cps.toList i).map fun k => .v (.str ⟨#[k]⟩) else none
  | _, _ => none
theorem snd_ixS : Snd2 c rIxS gIxS := fun F H x y f k q Q s hx hy e fin => by
  unfold gIxS at e
  split at e
  · split at e
    · rename_i z i hz
      obtain ⟨d, ed, rfl⟩ := Option.map_eq_some_iff.mp e
      exact ⟨z, i, d, hx.str, hy.int, Nat.le_trans hz lim_le, ed, fin.str s⟩
    · cases e
  · cases e
/-! ### cuts -/
def cutD (xs : List D) (lo hi : Option Int) : List D := (xs.drop (HT.sIx xs.length 0 lo)).take (HT.sIx xs.length xs.length hi - HT.sIx xs.length 0 lo)
theorem reps_cut {K : PySem.W.Frag} {F : Hp} {ds : List D} {vs : List V} {lo hi : Option Int} (h : Reps K F ds vs) : Reps K F (cutD ds lo hi) (cutV vs lo hi) := by
  unfold cutD cutV
  rw [h.length]
  exact (h.drop _).take _
/-- a bound of a cut -/
def optI : Fld → Option Int
  | .val (.int i) => some i
  | _ => none
end
end VS
/-! tuple[::-1], at the level of the model -/
namespace HT
open PySem PySem.Spec PyProof.Rows
section
variable {prog : Program} {w : World} {A : Around} {E : Value → Shared → Prop} {s : Shared}
theorem adjust_rev (n : Nat) : Builtin.Slice.sliceAdjust none none (-1) (n : Int) = ((n : Int) - 1, -1) := rfl
theorem places_rev (n : Nat) : Builtin.Slice.slicePlaces ((n : Int) - 1) (-1) (-1) = n := by
  unfold Builtin.Slice.slicePlaces
  have h1 : ¬ (-1 : Int) > 0 := by omega
  simp only [h1, if_false]
  split
  · have e : ∀ x : Int, x / (- -1 : Int) = x := fun x => by rw [show (- -1 : Int) = 1 from rfl, Int.ediv_one]
    rw [e]
    omega
  · omega
theorem pick_rev (xs : Array Value) : ((List.range xs.size).filterMap fun (k : Nat) => xs[(((xs.size : Int) - 1) + (k : Int) * (-1)).toNat]?).toArray = xs.toList.reverse.toArray := by
  have e : (fun (k : Nat) => xs[(((xs.size : Int) - 1) + (k : Int) * (-1)).toNat]?) = (fun j => xs[j]?) ∘ fun k => xs.size - 1 - k := by
    funext k
    have : (((xs.size : Int) - 1) + (k : Int) * (-1)).toNat = xs.size - 1 - k := by omega
    show _ = xs[xs.size - 1 - k]?
    rw [this]
  rw [e, ← List.filterMap_map, PySem.W.krv_range, List.filterMap_reverse, PySem.W.krv_all]
theorem getItem_tuple_rev {t sl : Addr} {items : Array Value} {vs : Value} {Q : Value → Shared → Prop} (ht : IsTup s.heap t items) (hs : s.heap.IsSliceOf sl .none .none vs) (ps : IsPart vs (some (-1)))
    (h : Q (.ref s.heap.objs.size) { s with heap := s.heap.push { cls := .type "tuple", data := .seq items.toList.reverse.toArray } }) (hsz : items.size ≤ sizeLine) : wpAny (model prog w) A (getItem (.ref t) (.ref sl)) Q E s := by
  have htake : sizeOk (.seq items.toList.reverse.toArray) := by
    show items.toList.reverse.toArray.size ≤ sizeLine
    rw [List.size_toArray, List.length_reverse, Array.length_toList]
    exact hsz
  obtain ⟨os, hos, hcs, hds⟩ := id hs
  have hTs : s.TypeIs (.ref sl) "slice" := ⟨os, hos, hcs⟩
  unfold getItem
  try with_reducible refine wpAny_holding ?_
  first | refine wpAny_bind (wpAny_pure ?_) | skip
  refine wpAny_bind (wpAny_sequenceKey ht.typeIs (by decide) ?_)
  refine wpAny_bind (wpAny_callSpecial?_slot (name := Str.ofString "__getitem__") ht.typeIs PyProof.Rows.slot_tuple_getitem
    (wpAny_call_entry PyProof.Rows.slot_tuple_getitem ht.typeIs entry_tuple_getitem ?_ (args_tuple_getitem _ _)))
  show wpAny _ _ (Builtin.Tuple.tupleItemsOf (.ref t) >>= _) _ _ s
  refine wpAny_bind (tupleItemsOf_ ht ?_)
  refine wpAny_bind (wpAny_typeOf hTs ?_)
  rw [if_pos (by decide)]
  refine wpAny_bind ?_
  · unfold Builtin.Slice.sliceApplied Builtin.Slice.sliceFields
    refine wpAny_bind (wpAny_bind (wpAny_field hos hds (x := .none) rfl (wpAny_bind (wpAny_field hos hds (x := .none) rfl (wpAny_bind (wpAny_field hos hds (x := vs) rfl (wpAny_pure ?_)))))))
    refine wpAny_bind (slicePart_ ps ?_)
    show wpAny _ _ (if ((-1 : Int) == 0) = true then _ else _) _ _ s
    rw [if_neg (by decide)]
    refine wpAny_bind (slicePart_none (wpAny_bind (slicePart_none (wpAny_bind (wpAny_pure ?_)))))
    show wpAny _ _ (match Builtin.Slice.sliceAdjust none none (-1) (items.size : Int) with | (lo, hi) => pure (lo, (-1 : Int), Builtin.Slice.slicePlaces lo hi (-1))) _ _ s
    rw [adjust_rev]
    show wpAny _ _ (pure ((items.size : Int) - 1, (-1 : Int), Builtin.Slice.slicePlaces ((items.size : Int) - 1) (-1) (-1))) _ _ s
    rw [places_rev]
    refine wpAny_pure ?_
    have hno : ¬ ((((items.size : Int) - 1) == 0 && (-1 : Int) == 1 && items.size == items.size) = true) := by simp
    show wpAny _ _ (if ((((items.size : Int) - 1) == 0 && (-1 : Int) == 1 && items.size == items.size) = true) then _ else _) _ _ s
    rw [if_neg hno, pick_rev]
    first
      | exact wpAny_bind (m := Builtin.Tuple.tupleExact _) (wpAny_newObj_type (wpAny_pure ⟨_, rfl, wpAny_pure h⟩) htake)
      | exact wpAny_bind (m := Builtin.Tuple.tupleExact _) (wpAny_newObj_type (wpAny_bind (wpAny_pure (wpAny_pure ⟨_, rfl, wpAny_pure h⟩))) htake)
      | exact wpAny_bind (wpAny_bind (m := Builtin.Tuple.tupleExact _) (wpAny_newObj_type (wpAny_pure (wpAny_pure ⟨_, rfl, wpAny_pure h⟩)) htake))
      | exact wpAny_bind (wpAny_bind (m := Builtin.Tuple.tupleExact _) (wpAny_newObj_type (wpAny_pure ⟨_, rfl, wpAny_pure h⟩) htake))
end
end HT
namespace L2
open PySem PySem.Spec PyProof.Rows
section
variable {X : Cx}
/-- xs[::-1], of a list or a tuple -/
def tRevA (K : PySem.W.Frag) (te : TE) : TE := fun σ H Q => te σ H fun x H1 => ∃ a xs, x = .ref a ∧ ((SqL K H1 a xs ∧ ∀ p, H1 p = none → Q (.ref p) (upd H1 p (.lst xs.reverse))) ∨ (SqT K H1 a xs ∧ ∀ p, H1 p = none → Q (.ref p) (upd H1 p (.tup xs.reverse))))
theorem pe_revA {e : Expr} {te : TE} {k : Nat} {p1 p2 p3 pos : Pos} (he : PE X e te) : PE X (.Subscript e (.Slice none none (some (.UnaryOp .USub (.Constant (.int 1) k p1) p2)) p3) pos) (tRevA X.K te) := by
  refine ⟨fun pins s σ H Q I h => ?_⟩
  refine Subscript_ (thn (he.run pins s σ H _ I h) fun v s1 ⟨x, H1, I1, r1, q1⟩ => ?_)
  obtain ⟨a, xs, ex, q⟩ := q1
  subst ex
  cases r1
  have hst : PO X (some (.UnaryOp .USub (.Constant (.int 1) k p1) p2)) (tPart (tUn (rU fun i => .int (-i)) (tC (.int 1)))) := po_some (pe_un un_neg pe_int)
  refine wpAny_Slice (thn (po_none.run pins s1 σ H1 (fun o H2 => o = none ∧ H2 = H1) I1 ⟨rfl, rfl⟩) fun vl s2 ⟨l, H2, I2, pl, el, e2⟩ => ?_)
  subst el e2
  refine thn (po_none.run pins s2 σ H2 (fun o H3 => o = none ∧ H3 = H2) I2 ⟨rfl, rfl⟩) fun vu s3 ⟨u, H3, I3, pu, eu, e3⟩ => ?_
  subst eu e3
  refine thn (hst.run pins s3 σ H3 (fun o H4 => o = some (-1) ∧ H4 = H3) I3 ⟨1, rfl, -1, rfl, rfl, rfl⟩) fun vs s4 ⟨o, H4, I4, ps, eo, e4⟩ => ?_
  subst eo e4
  have I5 : Inv X pins σ H4 { s4 with heap := s4.heap.push { cls := .type "slice", data := .fields #[vl, vu, vs] } } := I4.kept (t' := s4.toks) fun b ob q => Heap.get?_push_of_some _ q
  show wpAny (model X.prog X.w) X.A (subscriptTail e (.Slice none none (some (.UnaryOp .USub (.Constant (.int 1) k p1) p2)) p3) (.ref a) (.ref s4.heap.objs.size)) (EP X pins σ Q) X.xe { s4 with heap := s4.heap.push { cls := .type "slice", data := .fields #[vl, vu, vs] } }
  rcases q with ⟨hx, q⟩ | ⟨hx, q⟩
  · obtain ⟨its, r, ht, hz⟩ := I5.list hx
    have hlen := r.length
    refine tail_any (ops := [.ref a, .ref s4.heap.objs.size]) ht.isList.typeIs (PySem.slot_list_getitem.lookup) ?_ (by with_unfolding_all rfl)
    refine wpAny_getItem_list_slice ht.isList (Heap.IsSliceOf.new _ vl vu vs) pl pu ps (by decide) ?_ (by rw [List.size_toArray]; omega)
    rw [PySem.W.krv_pick]
    refine ⟨.ref _, _, I5.laid (t' := s4.toks) (o := .lst xs.reverse) (fun b ob q => Heap.get?_push_of_some _ q) (Nat.le_refl _) ?_, rfl, q _ (I5.hok.fresh (Nat.le_refl _))⟩
    exact ⟨by rw [List.length_reverse]; exact hz, _, 0, r.reverse, Heap.get?_push_size _ rfl⟩
  · obtain ⟨its, r, ht, hz⟩ := I5.tuple hx
    have hlen := r.length
    cases pl
    cases pu
    refine tail_any (ops := [.ref a, .ref s4.heap.objs.size]) ht.typeIs (PyProof.Rows.slot_tuple_getitem.lookup) ?_ (by with_unfolding_all rfl)
    refine HT.getItem_tuple_rev ht (Heap.IsSliceOf.new _ .none .none vs) ps ?_ (by rw [List.size_toArray]; omega)
    refine ⟨.ref _, _, I5.laid (t' := s4.toks) (o := .tup xs.reverse) (fun b ob q => Heap.get?_push_of_some _ q) (Nat.le_refl _) ?_, rfl, q _ (I5.hok.fresh (Nat.le_refl _))⟩
    exact ⟨by rw [List.length_reverse]; exact hz, _, r.reverse, IsTup.new _ _⟩
end
end L2
namespace VS
open PySem PySem.Spec PyProof.Rows L2
section
variable {c : WK} {W : WX} {X : Cx} {e e1 e2 e3 : Expr} {es : List Expr} {pos p : Pos} {ma mb mc : M RV} {kk : Nat}
theorem SlR.or' {r r' : V → Option Int → Option Int → Hp → VK → Prop} (h : L2.SlR X r) (h' : L2.SlR X r') : L2.SlR X (fun x lo hi H Q => r x lo hi H Q ∨ r' x lo hi H Q) := L2.SlR.or h h'
/-! ### cuts -/
def tIO (c : WK) (W : WX) (m : M (Option Int)) : TO := fun σ H Q => ∃ ρ F A, R c F A ρ σ H ∧ OutG c W F A ρ σ H (m ρ) fun o ρ' => ∀ F' A' H', Stp c F A ρ σ H F' A' ρ' σ H' → Q o H'
theorem _root_.L2.PO.to {o : Option Expr} {t t' : TO} (h : PO X o t) (g : ∀ σ H Q, t' σ H Q → t σ H Q) : PO X o t' := ⟨fun pins s σ H Q I q => h.run pins s σ H Q I (g σ H Q q)⟩
def mNoPart : M (Option Int) := fun ρ => .ok none ρ
def retPart (r : RV) : M (Option Int) := fun ρ => match look ρ r with
  | some (.val (.int i)) => .ok (some i) ρ
  | _ => .stuck
def mPart (m : M RV) : M (Option Int) := m.bind retPart
theorem o_none : PO X none (tIO X.wk W mNoPart) := po_none.to fun σ H Q ⟨ρ, F, A, R0, q⟩ => q F A H (.refl R0)
theorem o_some (h : PE X e (tI X.wk W ma)) : PO X (some e) (tIO X.wk W (mPart ma)) := (po_some h).to fun σ H Q ⟨ρ, F, A, R0, q⟩ => by
  refine ⟨ρ, F, A, R0, q.bind fun r1 ρ1 e1 q1 F1 A1 H1 v1 B1 g1 => ?_⟩
  unfold retPart at q1
  split at q1
  · rename_i i ef
    exact ⟨i, (look_ok g1.s.r g1.v ef).int, q1 F1 A1 H1 g1.s⟩
  · exact q1.elim
def gCut (lo hi : Option Int) (f : Fld) : Option RV := match asL f with
  | some ds => some (.fl (.lst (cutD ds lo hi)))
  | none => match asT f with
    | some ds => some (.v (.tup (cutD ds lo hi)))
    | none => none
def mCut (ma : M RV) (lo hi : M (Option Int)) : M RV := ma.bind fun r => lo.bind fun l => hi.bind fun h => ret1 (gCut l h) r
theorem snd_cut {lo hi : Option Int} : Snd1 c (fun x H Q => rSlL c.K x lo hi H Q ∨ rSlA c.K x lo hi H Q) (gCut lo hi) := fun F H x f q Q s hx e fin => by
  unfold gCut at e
  split at e
  · rename_i ds es
    cases e
    obtain ⟨a, vs, rfl, q1, r1⟩ := hx.asL s es
    exact .inl ⟨a, vs, rfl, q1, fun p hp => fin.lst s (reps_cut r1) hp⟩
  · split at e
    · rename_i ds es
      cases e
      have e2 := asT_val es
      subst e2
      have hx' : Rep c.K F (.tup ds) x := hx
      obtain ⟨a, vs, rfl, q1, r1⟩ := hx.asT s es
      refine .inr ⟨a, vs, rfl, q1, fun h => ?_, fun h p hp => fin.tup s (reps_cut r1) hp⟩
      have : cutD ds lo hi = ds := by
        unfold cutD
        rw [← r1.length, h.1, h.2, List.drop_zero, Nat.sub_zero, r1.length, List.take_length]
      rw [this] at fin
      exact fin.val s hx'
    · cases e
theorem i_cut {lo hi : Option Expr} {ml mh : M (Option Int)} {p2 : Pos} (he : PE X e (tI X.wk W ma)) (hl : PO X lo (tIO X.wk W ml)) (hh : PO X hi (tIO X.wk W mh)) : PE X (.Subscript e (.Slice lo hi none p2) pos) (tI X.wk W (mCut ma ml mh)) :=
  (pe_slice (L2.SlR.or sl_list sl_tupA) he hl hh).to fun σ H Q ⟨ρ, F, A, R0, q⟩ => by
    refine ⟨ρ, F, A, R0, q.bind fun r1 ρ1 e1 q1 F1 A1 H1 v1 B1 g1 => ⟨ρ1, F1, A1, g1.s.r, ?_⟩⟩
    refine (OutG.later g1.s q1 fun _ _ _ z => z).bind fun l ρ2 e2 q2 F2 A2 H2 s2 => ⟨ρ2, F2, A2, s2.r, ?_⟩
    refine (OutG.later s2 q2 fun _ _ _ z => z).bind fun h ρ3 e3 q3 F3 A3 H3 s3 => ?_
    unfold ret1 at q3
    split at q3
    · rename_i f ef
      split at q3
      · rename_i z eg
        have s12 := g1.s.trans (s2.trans s3)
        have v1' := g1.v.ext (s2.trans s3).x.mono (kept_in (s2.trans s3).x g1.dj)
        exact snd_cut F3 H3 v1 f z Q s12.r.le (look_ok s12.r v1' ef) eg (fin_got s12 q3)
      · exact q3.elim
    · exact q3.elim
def gRev (f : Fld) : Option RV := match asL f with
  | some ds => some (.fl (.lst ds.reverse))
  | none => match asT f with
    | some ds => some (.v (.tup ds.reverse))
    | none => none
theorem reps_rev {K : PySem.W.Frag} {F : Hp} : ∀ {ds : List D} {vs : List V}, Reps K F ds vs → Reps K F ds.reverse vs.reverse
  | [], vs, h => by have := h.inv0; subst this; exact .nil
  | d :: ds, vs, h => by
    obtain ⟨v, r, rfl, h1, h2⟩ := h.inv
    rw [List.reverse_cons, List.reverse_cons]
    exact (reps_rev h2).append (.cons h1 .nil)
theorem i_rev {k : Nat} {p1 p2 p3 : Pos} (he : PE X e (tI X.wk W ma)) : PE X (.Subscript e (.Slice none none (some (.UnaryOp .USub (.Constant (.int 1) k p1) p2)) p3) pos) (tI X.wk W (mOp1 gRev ma)) :=
  (pe_revA he).to fun σ H Q h => run1 (r := fun x H1 Q => ∃ a xs, x = .ref a ∧ ((SqL X.K H1 a xs ∧ ∀ p, H1 p = none → Q (.ref p) (upd H1 p (.lst xs.reverse))) ∨ (SqT X.K H1 a xs ∧ ∀ p, H1 p = none → Q (.ref p) (upd H1 p (.tup xs.reverse))))) (fun F H x f q Q s hx e fin => by
    unfold gRev at e
    split at e
    · rename_i ds es
      cases e
      obtain ⟨a, vs, rfl, q1, r1⟩ := hx.asL s es
      exact ⟨a, vs, rfl, .inl ⟨q1, fun p hp => fin.lst s (reps_rev r1) hp⟩⟩
    · split at e
      · rename_i ds es
        cases e
        obtain ⟨a, vs, rfl, q1, r1⟩ := hx.asT s es
        exact ⟨a, vs, rfl, .inr ⟨q1, fun p hp => fin.tup s (reps_rev r1) hp⟩⟩
      · cases e) (fun _ z => z) h
end
end VS
namespace VS
open PySem PySem.Spec PyProof.Rows L2
/-! ### sorted -/
/-- d comes not behind e -/
def leD (d e : D) : Bool := !PySem.W.dataLt (toP e) (toP d)
def allAlike (ds : List D) : Bool := ds.all fun d => ds.all fun e => PySem.W.alike (toP d) (toP e)
def isTup1 : D → Bool
  | .tup (_ :: _) => true
  | _ => false
def isFlat : D → Bool
  | .non => false
  | .tup _ => false
  | _ => true
def sortable (ds : List D) : Bool := ds.all isTup1 || ds.all isFlat
theorem allAlike_ok {ds : List D} (h : allAlike ds = true) : PySem.W.AllAlike (ds.map toP) := fun d hd d' hd' => by
  obtain ⟨x, hx, rfl⟩ := List.mem_map.mp hd
  obtain ⟨y, hy, rfl⟩ := List.mem_map.mp hd'
  unfold allAlike at h
  exact List.all_eq_true.mp (List.all_eq_true.mp h x hx) y hy
theorem sortable_ok {ds : List D} (hs : ∀ d ∈ ds, shp deep d = true) (h : sortable ds = true) : PySem.W.Sortable (ds.map toP) := by
  unfold sortable at h
  rw [Bool.or_eq_true] at h
  rcases h with h | h
  · refine .inl fun d hd => ?_
    obtain ⟨x, hx, rfl⟩ := List.mem_map.mp hd
    have := List.all_eq_true.mp h x hx
    unfold isTup1 at this
    split at this
    · exact ⟨_, _, rfl⟩
    · cases this
  · refine .inr fun d hd => ?_
    obtain ⟨x, hx, rfl⟩ := List.mem_map.mp hd
    have := List.all_eq_true.mp h x hx
    have s := hs x hx
    cases x with
    | non => cases this
    | tup _ => cases this
    | adr _ => simp [shp, deep] at s
    | bl b => exact ⟨(fun z => nomatch z), fun _ z => nomatch z⟩
    | int b => exact ⟨(fun z => nomatch z), fun _ z => nomatch z⟩
    | str b => exact ⟨(fun z => nomatch z), fun _ z => nomatch z⟩
    | lst b => exact ⟨(fun z => nomatch z), fun _ z => nomatch z⟩
section
variable {c : WK} {W : WX} {X : Cx} {e e1 e2 e3 : Expr} {es : List Expr} {pos p : Pos} {ma mb mc : M RV} {mt : M (List RV)} {kk : Nat}
theorem each_reads {pins : List (Addr × Obj)} {σ : L2.St} {F H : Hp} {s : Shared} (I : Inv X pins σ H s) (sub : Sub F H) : ∀ {ds : List D} {vs : List V} {us : List Value}, (∀ d ∈ ds, shp deep d = true) → Reps X.K F ds vs → Vals vs us →
    PySem.W.EachIs (fun (u : Value) (b : V × D) => RelV b.1 u ∧ Rep X.K F b.2 b.1 ∧ ∃ as, Reads s.heap u (toP b.2) as) us (vs.zip ds)
  | [], vs, us, _, h, r => by
    have := h.inv0; subst this; cases r; exact .nil
  | d :: ds, vs, us, hs, h, r => by
    obtain ⟨v, w, rfl, h1, h2⟩ := h.inv
    cases r with
    | cons r1 r2 =>
      have sd := hs d List.mem_cons_self
      exact .cons ⟨r1, h1, Dp.reads I _ v _ (rep_dp d v deep sd (Rep.sub sub _ _ h1)) r1⟩ (each_reads I sub (fun x hx => hs x (List.mem_cons_of_mem _ hx)) h2 r2)
theorem each_map2 {α β γ : Type} {R : α → β → Prop} {S : γ → α → Prop} {f : β → γ} (h : ∀ a b, R a b → S (f b) a) : ∀ {as : List α} {bs : List β}, PySem.W.EachIs R as bs → PySem.W.EachIs S (bs.map f) as
  | _, _, .nil => .nil
  | _, _, .cons x t => .cons (h _ _ x) (each_map2 h t)
theorem each_vals {vs : List V} {us : List Value} (h : PySem.W.EachIs RelV vs us) : Vals vs us := by
  induction h with
  | nil => exact .nil
  | cons h _ ih => exact .cons h ih
theorem each_reps {K : PySem.W.Frag} {H : Hp} {vs : List V} {ds : List D} (h : PySem.W.EachIs (fun v d => Rep K H d v) vs ds) : Reps K H ds vs := by
  induction h with
  | nil => exact .nil
  | cons h _ ih => exact .cons h ih
theorem each_sub {α β : Type} {R S : α → β → Prop} (h : ∀ a b, R a b → S a b) : ∀ {as : List α} {bs : List β}, PySem.W.EachIs R as bs → PySem.W.EachIs S as bs
  | _, _, .nil => .nil
  | _, _, .cons x t => .cons (h _ _ x) (each_sub h t)
theorem each_mapR {α β γ : Type} {R : α → γ → Prop} {f : β → γ} : ∀ {as : List α} {bs : List β}, PySem.W.EachIs (fun a b => R a (f b)) as bs → PySem.W.EachIs R as (bs.map f)
  | _, _, .nil => .nil
  | _, _, .cons x t => .cons x (each_mapR t)
theorem each_of_map {β : Type} {γ δ : Type} {R : γ → δ → Prop} {f : β → γ} {g : β → δ} : ∀ {bs : List β}, (∀ b ∈ bs, R (f b) (g b)) → PySem.W.EachIs R (bs.map f) (bs.map g)
  | [], _ => .nil
  | b :: bs, h => .cons (h b List.mem_cons_self) (each_of_map fun x hx => h x (List.mem_cons_of_mem _ hx))
def sortD (ds : List D) : List D := ds.mergeSort leD
def rSortedD (K : PySem.W.Frag) : List V → Hp → VK → Prop := fun vs H Q => ∃ (F : Hp) (a : Addr) (xs : List V) (ds : List D), Sub F H ∧ vs = [V.ref a] ∧ SqL K H a xs ∧ Reps K F ds xs ∧ (∀ d ∈ ds, shp deep d = true) ∧ allAlike ds = true ∧ sortable ds = true ∧
  ∀ ys p, Reps K F (sortD ds) ys → H p = none → Q (.ref p) (upd H p (.lst ys))
theorem cr_sortedD (hu : X.A.units + 80 < cLine) : CallR X (.builtin "sorted") (rSortedD X.K) := by
  intro pins s σ H vs us Q I r h
  obtain ⟨F, a, xs, ds, sub, rfl, hs, rs, sh, al, so, q⟩ := h
  obtain ⟨its, rv, hl, hz⟩ := I.list hs
  rw [Vals.ref1 r]
  have hlen := rs.length
  have ez := each_reads I sub sh rs rv
  have em : (xs.zip ds).map (fun b => toP b.2) = ds.map toP := by
    rw [show (fun b : V × D => toP b.2) = toP ∘ Prod.snd from rfl, ← List.map_map, List.map_snd_zip (by omega)]
  have hzl : (xs.zip ds).length = ds.length := by rw [List.length_zip, hlen, Nat.min_self]
  refine PySem.W.sorted_data (R := fun (u : Value) (b : V × D) => RelV b.1 u ∧ Rep X.K F b.2 b.1 ∧ b.1 ∈ xs) (enc := fun b : V × D => toP b.2) (bs := xs.zip ds) hl.isList ?_ (each_sub (fun _ _ h => h.2.2) ez) (by rw [em]; exact allAlike_ok al) (by rw [em]; exact sortable_ok sh so) (by rw [hzl]; omega) (fun b hb => ?_) fun out hout eo => ?_
  · have : ∀ b ∈ xs.zip ds, b.1 ∈ xs := fun b hb => (List.of_mem_zip hb).1
    have gen : ∀ (us : List Value) (bs : List (V × D)), PySem.W.EachIs (fun (u : Value) (b : V × D) => RelV b.1 u ∧ Rep X.K F b.2 b.1 ∧ ∃ as, Reads s.heap u (toP b.2) as) us bs → (∀ b ∈ bs, b.1 ∈ xs) → PySem.W.EachIs (fun (u : Value) (b : V × D) => RelV b.1 u ∧ Rep X.K F b.2 b.1 ∧ b.1 ∈ xs) us bs := by
      intro us bs e
      induction e with
      | nil => intro _; exact .nil
      | cons h _ ih => intro hm; exact .cons ⟨h.1, h.2.1, hm _ List.mem_cons_self⟩ (ih fun b hb => hm b (List.mem_cons_of_mem _ hb))
    exact gen _ _ ez this
  · have := (shp_depth b.2 deep (sh b.2 (List.of_mem_zip hb).2)).2
    have hd : deep = 12 := rfl
    omega
  · obtain ⟨ep, he'⟩ := PyProof.Rows.sortedAll_at s.heap its out.toArray
    have esort : ((xs.zip ds).mergeSort (PySem.W.dataLe false fun b : V × D => toP b.2)).map Prod.snd = sortD ds := by
      unfold sortD
      rw [List.map_mergeSort (s := leD) (fun a _ b _ => by rw [PySem.W.dataLe_eq]; rfl), List.map_snd_zip (by omega)]
    have e1 : PySem.W.EachIs RelV (((xs.zip ds).mergeSort (PySem.W.dataLe false fun b : V × D => toP b.2)).map Prod.fst) out := each_map2 (fun _ _ h => h.1) eo
    have mem : ∀ b ∈ (xs.zip ds).mergeSort (PySem.W.dataLe false fun b : V × D => toP b.2), b ∈ xs.zip ds := fun b hb => (List.mergeSort_perm _ _).mem_iff.mp hb
    have allR : ∀ b ∈ xs.zip ds, Rep X.K F b.2 b.1 := by
      have gen : ∀ (us : List Value) (bs : List (V × D)), PySem.W.EachIs (fun (u : Value) (b : V × D) => RelV b.1 u ∧ Rep X.K F b.2 b.1 ∧ ∃ as, Reads s.heap u (toP b.2) as) us bs → ∀ b ∈ bs, Rep X.K F b.2 b.1 := by
        intro us bs e
        induction e with
        | nil => intro b hb; cases hb
        | cons h _ ih =>
          intro b hb
          rcases List.mem_cons.mp hb with rfl | hb
          · exact h.2.1
          · exact ih b hb
      exact gen _ _ ez
    have e2 : Reps X.K F (sortD ds) (((xs.zip ds).mergeSort (PySem.W.dataLe false fun b : V × D => toP b.2)).map Prod.fst) := by
      rw [← esort]
      exact each_reps (each_of_map fun b hb => allR b (mem b hb))
    have hlen2 : (((xs.zip ds).mergeSort (PySem.W.dataLe false fun b : V × D => toP b.2)).map Prod.fst).length ≤ sizeLine := by
      rw [List.length_map, List.length_mergeSort, hzl]; omega
    exact ⟨.ref _, upd H (s.heap.objs.size + 1) (.lst (((xs.zip ds).mergeSort (PySem.W.dataLe false fun b : V × D => toP b.2)).map Prod.fst)), I.laid (t' := s.toks) (fun _ _ => PyProof.Rows.sortedAll_old) (Nat.le_succ _) ⟨hlen2, out, ep, each_vals e1, he'⟩, rfl,
      q _ _ e2 (I.hok.fresh (Nat.le_succ _))⟩
/-! ### calls of builtins -/
theorem i_callB {x : Str} {id : String} {r : List V → Hp → VK → Prop} {g : List Fld → Option RV} (hc : CallR X (.builtin id) r) (hs : SndN X.wk r g) (hg : Gl X x) (hm : X.mg x = none) (hv : bootBuiltins x = some (.builtin id)) (ha : PA X (e :: es) (tIA X.wk W mt))
    (hn : x ≠ "__name__" := by decide) (hdb : (x == ("__debug__" : Str)) = false := by decide) (he : starEach (e :: es) X.env = (false, eval e X.env) :: starEach es X.env := by rfl) (hpl : (backTo pos (starEach es X.env)).any (·.1) = false := by rfl) :
    PE X (.Call (.Name x p) (e :: es) [] pos) (tI X.wk W (mOpN g mt)) := (pe_callB hc hg hm hv ha hn hdb he hpl).to fun σ H Q h => runN hs h
theorem i_callT {x : Str} {T : String} {r : List V → Hp → VK → Prop} {g : List Fld → Option RV} (hc : CallR X (.type T) r) (hs : SndN X.wk r g) (hg : Gl X x) (hm : X.mg x = none) (hv : bootBuiltins x = some (.type T)) (ha : PA X (e :: es) (tIA X.wk W mt))
    (hn : x ≠ "__name__" := by decide) (hdb : (x == ("__debug__" : Str)) = false := by decide) (he : starEach (e :: es) X.env = (false, eval e X.env) :: starEach es X.env := by rfl) (hpl : (backTo pos (starEach es X.env)).any (·.1) = false := by rfl) :
    PE X (.Call (.Name x p) (e :: es) [] pos) (tI X.wk W (mOpN g mt)) := (pe_callTy hc hg hm hv ha hn hdb he hpl).to fun σ H Q h => runN hs h
theorem Lks.one {F H : Hp} {f : Fld} {vs : List V} (h : Lks c F H [f] vs) : ∃ v, vs = [v] ∧ Lk c F H f v := by
  cases h with
  | cons a b => cases b; exact ⟨_, rfl, a⟩
theorem Lks.two {F H : Hp} {f k : Fld} {vs : List V} (h : Lks c F H [f, k] vs) : ∃ v w, vs = [v, w] ∧ Lk c F H f v ∧ Lk c F H k w := by
  cases h with
  | cons a b =>
    obtain ⟨w, rfl, h2⟩ := Lks.one b
    exact ⟨_, w, rfl, a, h2⟩
def one1 (g : Fld → Option RV) : List Fld → Option RV
  | [f] => g f
  | _ => none
theorem SndN.one {r : List V → Hp → VK → Prop} {g : Fld → Option RV} (h : ∀ F H x f q Q, Sub F H → Lk c F H f x → g f = some q → Fin1 c F H q Q → r [x] H Q) : SndN c r (one1 g) := fun F H xs fs q Q s hx e fin => by
  unfold one1 at e
  split at e
  · rename_i f
    obtain ⟨v, rfl, h1⟩ := hx.one
    exact h F H v f q Q s h1 e fin
  · cases e
/-- len -/
def gLen (f : Fld) : Option RV := match asL f with
  | some ds => some (.v (.int ds.length))
  | none => match f with
    | .val (.tup ds) => some (.v (.int ds.length))
    | .val (.str x) => if x.length ≤ lim then some (.v (.int x.length)) else none
    | _ => none
theorem i_len {ma : M (List RV)} (hg : Gl X "len") (hm : X.mg "len" = none) (ha : PA X [e] (tIA X.wk W ma)) (he : starEach [e] X.env = (false, eval e X.env) :: starEach [] X.env := by rfl) (hpl : (backTo pos (starEach [] X.env)).any (·.1) = false := by rfl) :
    PE X (.Call (.Name "len" p) [e] [] pos) (tI X.wk W (mOpN (one1 gLen) ma)) :=
  i_callB call_len (SndN.one fun F H x f q Q s hx e fin => by
    unfold gLen at e
    split at e
    · rename_i ds es
      cases e
      obtain ⟨a, vs, rfl, q1, r1⟩ := hx.asL s es
      exact ⟨_, ds.length, rfl, .inl ⟨vs, q1, r1.length.symm⟩, fin.int s⟩
    · split at e
      · rename_i ds _
        cases e
        obtain ⟨a, vs, rfl, q1, r1⟩ := hx.asT s rfl
        exact ⟨_, ds.length, rfl, .inr ⟨vs, q1, r1.length.symm⟩, fin.int s⟩
      · split at e
        · rename_i x _ hz
          cases e
          have ex := hx.str
          subst ex
          exact ⟨_, x.length, rfl, ⟨Nat.le_trans hz lim_le, rfl⟩, fin.int s⟩
        · cases e
      · cases e) hg hm (by rfl) ha (by decide) (by decide) he hpl
/-- tuple -/
def gTuple (f : Fld) : Option RV := match asL f with
  | some ds => some (.v (.tup ds))
  | none => match asT f with
    | some ds => some (.v (.tup ds))
    | none => none
theorem i_tuple {ma : M (List RV)} (hg : Gl X "tuple") (hm : X.mg "tuple" = none) (ha : PA X [e] (tIA X.wk W ma)) (he : starEach [e] X.env = (false, eval e X.env) :: starEach [] X.env := by rfl) (hpl : (backTo pos (starEach [] X.env)).any (·.1) = false := by rfl) :
    PE X (.Call (.Name "tuple" p) [e] [] pos) (tI X.wk W (mOpN (one1 gTuple) ma)) :=
  i_callT call_tuple_of (SndN.one fun F H x f q Q s hx e fin => by
    unfold gTuple at e
    split at e
    · rename_i ds es
      cases e
      obtain ⟨a, vs, rfl, q1, r1⟩ := hx.asL s es
      exact ⟨a, vs, rfl, .inl ⟨q1, fun l hl => fin.tup s r1 hl⟩⟩
    · split at e
      · rename_i ds es
        cases e
        have e2 := asT_val es
        subst e2
        have hx' : Rep X.wk.K F (.tup ds) x := hx
        obtain ⟨a, vs, rfl, q1, r1⟩ := hx.asT s es
        exact ⟨a, vs, rfl, .inr ⟨q1, fin.val s hx'⟩⟩
      · cases e) hg hm (by rfl) ha (by decide) (by decide) he hpl
/-- list -/
def gList (f : Fld) : Option RV := match asL f with
  | some ds => some (.fl (.lst ds))
  | none => match asT f with
    | some ds => some (.fl (.lst ds))
    | none => none
theorem i_list {ma : M (List RV)} (hg : Gl X "list") (hm : X.mg "list" = none) (ha : PA X [e] (tIA X.wk W ma)) (he : starEach [e] X.env = (false, eval e X.env) :: starEach [] X.env := by rfl) (hpl : (backTo pos (starEach [] X.env)).any (·.1) = false := by rfl) :
    PE X (.Call (.Name "list" p) [e] [] pos) (tI X.wk W (mOpN (one1 gList) ma)) :=
  i_callT call_list_of (SndN.one fun F H x f q Q s hx e fin => by
    unfold gList at e
    split at e
    · rename_i ds es
      cases e
      obtain ⟨a, vs, rfl, q1, r1⟩ := hx.asL s es
      exact ⟨a, vs, rfl, .inl q1, fun l hl => fin.lst s r1 hl⟩
    · split at e
      · rename_i ds es
        cases e
        obtain ⟨a, vs, rfl, q1, r1⟩ := hx.asT s es
        exact ⟨a, vs, rfl, .inr q1, fun l hl => fin.lst s r1 hl⟩
      · cases e) hg hm (by rfl) ha (by decide) (by decide) he hpl
/-- abs -/
def gAbs : Fld → Option RV
  | .val (.int i) => some (.v (.int (if i < 0 then -i else i)))
  | _ => none
theorem i_abs {ma : M (List RV)} (hg : Gl X "abs") (hm : X.mg "abs" = none) (ha : PA X [e] (tIA X.wk W ma)) (he : starEach [e] X.env = (false, eval e X.env) :: starEach [] X.env := by rfl) (hpl : (backTo pos (starEach [] X.env)).any (·.1) = false := by rfl) :
    PE X (.Call (.Name "abs" p) [e] [] pos) (tI X.wk W (mOpN (one1 gAbs) ma)) :=
  i_callB call_abs (SndN.one fun F H x f q Q s hx e fin => by
    unfold gAbs at e
    split at e
    · rename_i i
      cases e
      have ex := hx.int
      subst ex
      exact ⟨i, rfl, fin.int s⟩
    · cases e) hg hm (by rfl) ha (by decide) (by decide) he hpl
/-- int -/
def gInt : Fld → Option RV
  | .val (.int i) => some (.v (.int i))
  | .val (.bl b) => some (.v (.int (if b then 1 else 0)))
  | _ => none
theorem i_toint {ma : M (List RV)} (hg : Gl X "int") (hm : X.mg "int" = none) (ha : PA X [e] (tIA X.wk W ma)) (he : starEach [e] X.env = (false, eval e X.env) :: starEach [] X.env := by rfl) (hpl : (backTo pos (starEach [] X.env)).any (·.1) = false := by rfl) :
    PE X (.Call (.Name "int" p) [e] [] pos) (tI X.wk W (mOpN (one1 gInt) ma)) :=
  i_callT call_int1 (SndN.one fun F H x f q Q s hx e fin => by
    unfold gInt at e
    split at e
    · rename_i i
      cases e
      have ex := hx.int
      subst ex
      exact .inl ⟨i, rfl, fin.int s⟩
    · rename_i b
      cases e
      have ex := hx.bl
      subst ex
      exact .inr ⟨b, rfl, fin.int s⟩
    · cases e) hg hm (by rfl) ha (by decide) (by decide) he hpl
/-- str of a text -/
def gStr : Fld → Option RV
  | .val (.str i) => some (.v (.str i))
  | _ => none
theorem i_tostr {ma : M (List RV)} (hg : Gl X "str") (hm : X.mg "str" = none) (ha : PA X [e] (tIA X.wk W ma)) (he : starEach [e] X.env = (false, eval e X.env) :: starEach [] X.env := by rfl) (hpl : (backTo pos (starEach [] X.env)).any (·.1) = false := by rfl) :
    PE X (.Call (.Name "str" p) [e] [] pos) (tI X.wk W (mOpN (one1 gStr) ma)) :=
  i_callT SkE.call_str_str (SndN.one fun F H x f q Q s hx e fin => by
    unfold gStr at e
    split at e
    · rename_i i
      cases e
      have ex := hx.str
      subst ex
      exact ⟨i, rfl, fin.str s⟩
    · cases e) hg hm (by rfl) ha (by decide) (by decide) he hpl
/-- all, any -/
def blsD : List D → Option (List Bool)
  | [] => some []
  | .bl b :: ds => (blsD ds).map (b :: ·)
  | _ :: _ => none
theorem reps_bls {K : PySem.W.Frag} {F : Hp} : ∀ {ds : List D} {vs : List V} {ns : List Bool}, blsD ds = some ns → Reps K F ds vs → vs = ns.map V.bl
  | [], vs, ns, e, h => by cases e; exact h.inv0
  | d :: ds, vs, ns, e, h => by
    obtain ⟨v, r, rfl, h1, h2⟩ := h.inv
    cases d with
    | bl i =>
      unfold blsD at e
      obtain ⟨ms, em, rfl⟩ := Option.map_eq_some_iff.mp e
      rw [Rep.bl_iff.mp h1, reps_bls em h2]; rfl
    | _ => unfold blsD at e; cases e
def gFold (g : List Bool → Bool) (f : Fld) : Option RV := match asL f with
  | some ds => match blsD ds with
    | some bs => some (.v (.bl (g bs)))
    | none => none
  | none => none
theorem fold_ok {g : List Bool → Bool} {F H : Hp} (s : Sub F H) {f : Fld} {x : V} {q : RV} (hx : Lk c F H f x) (e : gFold g f = some q) : ∃ a bs, x = .ref a ∧ SqL c.K H a (bs.map V.bl) ∧ q = .v (.bl (g bs)) := by
  unfold gFold at e
  split at e
  · rename_i ds es
    split at e
    · rename_i bs eb
      cases e
      obtain ⟨a, vs, rfl, q1, r1⟩ := hx.asL s es
      have e2 := reps_bls eb r1
      subst e2
      exact ⟨a, bs, rfl, q1, rfl⟩
    · cases e
  · cases e
theorem i_all {ma : M (List RV)} (hc : X.calm = true) (hg : Gl X "all") (hm : X.mg "all" = none) (ha : PA X [e] (tIA X.wk W ma)) (he : starEach [e] X.env = (false, eval e X.env) :: starEach [] X.env := by rfl) (hpl : (backTo pos (starEach [] X.env)).any (·.1) = false := by rfl) :
    PE X (.Call (.Name "all" p) [e] [] pos) (tI X.wk W (mOpN (one1 (gFold fun bs => bs.all id)) ma)) :=
  i_callB (cr_all hc) (SndN.one fun F H x f q Q s hx e fin => by
    obtain ⟨a, bs, rfl, q1, rfl⟩ := fold_ok s hx e
    exact ⟨a, bs, rfl, q1, fin.bl s⟩) hg hm (by rfl) ha (by decide) (by decide) he hpl
theorem i_any {ma : M (List RV)} (hc : X.calm = true) (hg : Gl X "any") (hm : X.mg "any" = none) (ha : PA X [e] (tIA X.wk W ma)) (he : starEach [e] X.env = (false, eval e X.env) :: starEach [] X.env := by rfl) (hpl : (backTo pos (starEach [] X.env)).any (·.1) = false := by rfl) :
    PE X (.Call (.Name "any" p) [e] [] pos) (tI X.wk W (mOpN (one1 (gFold fun bs => bs.any id)) ma)) :=
  i_callB (cr_any hc) (SndN.one fun F H x f q Q s hx e fin => by
    obtain ⟨a, bs, rfl, q1, rfl⟩ := fold_ok s hx e
    exact ⟨a, bs, rfl, q1, fin.bl s⟩) hg hm (by rfl) ha (by decide) (by decide) he hpl
/-- sorted -/
def gSorted (f : Fld) : Option RV := match asL f with
  | some ds => if (ds.all fun d => shp deep d) = true ∧ allAlike ds = true ∧ sortable ds = true then some (.fl (.lst (sortD ds))) else none
  | none => none
theorem i_sorted {ma : M (List RV)} (hr : Room kk X.A) (hg : Gl X "sorted") (hm : X.mg "sorted" = none) (ha : PA X [e] (tIA X.wk W ma)) (he : starEach [e] X.env = (false, eval e X.env) :: starEach [] X.env := by rfl) (hpl : (backTo pos (starEach [] X.env)).any (·.1) = false := by rfl) :
    PE X (.Call (.Name "sorted" p) [e] [] pos) (tI X.wk W (mOpN (one1 gSorted) ma)) :=
  i_callB (cr_sortedD (by have := hr.un; omega)) (SndN.one fun F H x f q Q s hx e fin => by
    unfold gSorted at e
    split at e
    · rename_i ds es
      split at e
      · rename_i h
        cases e
        obtain ⟨a, vs, rfl, q1, r1⟩ := hx.asL s es
        exact ⟨F, a, vs, ds, s, rfl, q1, r1, fun d hd => List.all_eq_true.mp h.1 d hd, h.2.1, h.2.2, fun ys p hy hp => fin.lst s hy hp⟩
      · cases e
    · cases e) hg hm (by rfl) ha (by decide) (by decide) he hpl
end
end VS
namespace VS
open PySem PySem.Spec PyProof.Rows L2
/-! ### dicts whose keys are tuples -/
section
variable {X : Cx} {pins : List (Addr × Obj)} {σ : L2.St} {F H : Hp} {s : Shared}
mutual
theorem nested_of (I : Inv X pins σ H s) (sub : Sub F H) : ∀ (d : D) (v : V) (u : Value) (k : NestedKey), keyN d = some k → Rep X.K F d v → RelV v u → NestedIs s.heap k u
  | .non, v, u, k, e, h, r => by
    cases Rep.non_iff.mp h; cases (show u = Value.none from r)
    simp only [keyN, Option.some.injEq] at e; subst e; exact .none
  | .bl b, v, u, k, e, h, r => by
    cases Rep.bl_iff.mp h; cases (show u = Value.bool b from r)
    simp only [keyN, Option.some.injEq] at e; subst e; exact .bool rfl
  | .int i, v, u, k, e, h, r => by
    cases Rep.int_iff.mp h; obtain ⟨t, q⟩ := (show ∃ t, u = Value.int i t from r); subst q
    simp only [keyN, Option.some.injEq] at e; subst e; exact .int i t
  | .str x, v, u, k, e, h, r => by
    cases Rep.str_iff.mp h; obtain ⟨t, q⟩ := (show ∃ t, u = Value.str x t from r); subst q
    simp only [keyN, Option.some.injEq] at e; subst e; exact .text x t
  | .adr _, v, u, k, e, h, r => by simp [keyN] at e
  | .lst _, v, u, k, e, h, r => by simp [keyN] at e
  | .tup ds, v, u, k, e, h, r => by
    unfold keyN at e
    obtain ⟨ks, ek, rfl⟩ := Option.map_eq_some_iff.mp e
    obtain ⟨a, vs, rfl, q, rs⟩ := Rep.tup_iff.mp h
    cases (show u = Value.ref a from r)
    obtain ⟨its, rv, ⟨o, ho, hc, n, hd⟩, hz⟩ := I.tuple (sub_t sub q)
    exact .tup ho hc hd (by simpa using nesteds_of I sub ds vs its ks ek rs rv)
theorem nesteds_of (I : Inv X pins σ H s) (sub : Sub F H) : ∀ (ds : List D) (vs : List V) (us : List Value) (ks : List NestedKey), keyNs ds = some ks → Reps X.K F ds vs → Vals vs us → NestedAll s.heap ks us
  | [], vs, us, ks, e, h, r => by
    have := h.inv0; subst this; cases r
    simp only [keyNs, Option.some.injEq] at e; subst e; exact .nil
  | d :: ds, vs, us, ks, e, h, r => by
    obtain ⟨v, w, rfl, h1, h2⟩ := h.inv
    cases r with
    | cons r1 r2 =>
      unfold keyNs at e
      split at e
      · rename_i k ks' e1 e2
        cases e
        exact .cons (nested_of I sub d v _ k e1 h1 r1) (nesteds_of I sub ds w _ ks' e2 h2 r2)
      · cases e
end
/-- what stands at a key -/
def dfind (kvs : List (D × D)) (k : NestedKey) : Option D := (kvs.find? fun p => decide (keyN p.1 = some k)).map (·.2)
def dput (kvs : List (D × D)) (kd : D) (k : NestedKey) (v : D) : List (D × D) := if (dfind kvs k).isSome = true then kvs.map fun p => if keyN p.1 = some k then (p.1, v) else p else kvs ++ [(kd, v)]
theorem ent_find {K : PySem.W.Frag} {k : NestedKey} {kvs : List (D × D)} {xs : List (NestedKey × Addr × Value)} (h : Paired (EntR K F) kvs xs) :
    match dfind kvs k, atKey xs k with
    | some d, some q => ∃ v, RelV v q.2 ∧ Rep K F d v
    | none, none => True
    | _, _ => False := by
  induction h with
  | nil => simp [dfind, atKey]
  | @cons p q kvs xs h1 h2 ih =>
    obtain ⟨e1, _, v, rv, rp⟩ := h1
    by_cases hk : q.1 = k
    · have : keyN p.1 = some k := by rw [e1, hk]
      simp only [dfind, atKey, List.find?_cons, this, hk, decide_true, Option.map_some]
      exact ⟨v, rv, rp⟩
    · have : ¬ keyN p.1 = some k := by rw [e1]; exact fun z => hk (Option.some.inj z)
      simp only [dfind, atKey, List.find?_cons, this, hk, decide_false]
      exact ih
theorem ent_isSome {K : PySem.W.Frag} {k : NestedKey} {kvs : List (D × D)} {xs : List (NestedKey × Addr × Value)} (h : Paired (EntR K F) kvs xs) : (dfind kvs k).isSome = (atKey xs k).isSome := by
  have := ent_find (k := k) h
  split at this
  · rename_i e1 e2; rw [e1, e2]; rfl
  · rename_i e1 e2; rw [e1, e2]; rfl
  · exact this.elim
theorem ent_put {K : PySem.W.Frag} {k : NestedKey} {kvs : List (D × D)} {xs : List (NestedKey × Addr × Value)} {kd d : D} {b : Addr} {u : Value} {v : V} (h : Paired (EntR K F) kvs xs) (ek : keyN kd = some k) (rk : Rep K F kd (.ref b)) (ru : RelV v u) (rd : Rep K F d v) :
    Paired (EntR K F) (dput kvs kd k d) (storedH xs k b u) := by
  unfold dput storedH
  rw [ent_isSome h]
  split
  · have gen : ∀ {kvs : List (D × D)} {xs : List (NestedKey × Addr × Value)}, Paired (EntR K F) kvs xs → Paired (EntR K F) (kvs.map fun p => if keyN p.1 = some k then (p.1, d) else p) (xs.map (putAt k u)) := by
      intro kvs xs h
      induction h with
      | nil => exact .nil
      | @cons p q kvs xs h1 h2 ih =>
        refine .cons ?_ ih
        obtain ⟨e1, e2, w, e3, e4⟩ := h1
        show EntR K F (if keyN p.1 = some k then (p.1, d) else p) (putAt k u q)
        by_cases hk : q.1 = k
        · have : keyN p.1 = some k := by rw [e1, hk]
          rw [if_pos this]; unfold putAt; rw [if_pos hk]
          exact ⟨e1, e2, v, ru, rd⟩
        · have : ¬ keyN p.1 = some k := by rw [e1]; exact fun z => hk (Option.some.inj z)
          rw [if_neg this]; unfold putAt; rw [if_neg hk]
          exact ⟨e1, e2, w, e3, e4⟩
    exact gen h
  · have gen : ∀ {kvs : List (D × D)} {xs : List (NestedKey × Addr × Value)}, Paired (EntR K F) kvs xs → Paired (EntR K F) (kvs ++ [(kd, d)]) (xs ++ [(k, b, u)]) := by
      intro kvs xs h
      induction h with
      | nil => exact .cons ⟨ek, rk, v, ru, rd⟩ .nil
      | cons h1 h2 ih => exact .cons h1 ih
    exact gen h
theorem ent_is {kvs : List (D × D)} {xs : List (NestedKey × Addr × Value)} (I : Inv X pins σ H s) (sub : Sub F H) (h : Paired (EntR X.K F) kvs xs) (hd : ∀ x ∈ xs, x.1.depth ≤ 8) : ∀ x ∈ xs, (nestedKind X.prog X.w).is s.heap x.1 x.2.1 := by
  induction h with
  | nil => intro x hx; cases hx
  | @cons p q kvs xs h1 h2 ih =>
    intro x hx
    rcases List.mem_cons.mp hx with rfl | hx
    · exact ⟨nested_of I sub _ _ _ _ h1.1 h1.2.1 rfl, hd _ List.mem_cons_self⟩
    · exact ih (fun y hy => hd y (List.mem_cons_of_mem _ hy)) x hx
theorem exO_at (I : Inv X pins σ H s) {a : Addr} {o : Obj} (h : H a = some (exO a o)) : s.heap.get? a = some o := (I.hok a _ h).1
theorem dct_of (I : Inv X pins σ H s) (sub : Sub F H) {a : Addr} {u : HO} {kvs : List (D × D)} (h : H a = some u) (d : DctO X.wk F a kvs true u) : ∃ xs, s.heap.DictOfH (nestedKind X.prog X.w) a xs ∧ Paired (EntR X.K F) kvs xs ∧ (a == sysModules) = false ∧ kvs.length ≤ sizeLine ∧ (∀ x ∈ xs, x.1.depth ≤ 8) := by
  obtain ⟨o, es, ep, xs, rfl, h2, h3, h4, h5, h6, h7, h8, p⟩ := d
  exact ⟨xs, ⟨o, es, ep, exO_at I h, h4, h5, h6, ent_is I sub p h8, h7⟩, p, h2, h3, h8⟩
/-- a dict that stands, told -/
theorem dct_back {h : Heap} {a : Addr} {kvs : List (D × D)} {xs : List (NestedKey × Addr × Value)} (m : h.DictOfH (nestedKind X.prog X.w) a xs) (p : Paired (EntR X.K F) kvs xs) (hs : (a == sysModules) = false) (hz : kvs.length ≤ sizeLine) (hd : ∀ x ∈ xs, x.1.depth ≤ 8) :
    ∃ o, h.get? a = some o ∧ DctO X.wk F a kvs true (exO a o) := by
  obtain ⟨o, es, ep, h1, h4, h5, h6, _, h7⟩ := m
  exact ⟨o, h1, o, es, ep, xs, rfl, hs, hz, h4, h5, h6, h7, hd, p⟩
theorem exO_ok {P : Program} {w : World} {H : Hp} {h : Heap} {a : Addr} {o : Obj} (e : h.get? a = some o) : ObjOk P w H h a (exO a o) := ⟨e, ⟨o, e⟩, fun h1 h2 e1 k => k o e1⟩
end
section
variable {c : WK} {W : WX} {X : Cx} {e e1 e2 e3 : Expr} {es : List Expr} {pos p : Pos} {ma mb mc : M RV} {mt : M (List RV)} {kk : Nat}
def rKey (c : WK) (P : Option D → VK → Hp → Prop) : R2 := fun x y H Q => ∃ F a b u kvs kd k, x = .ref a ∧ y = .ref b ∧ Sub F H ∧ H a = some u ∧ DctO c F a kvs true u ∧ Rep c.K F kd (.ref b) ∧ keyN kd = some k ∧ k.depth ≤ 8 ∧ P (dfind kvs k) Q H
def rIxK (c : WK) : R2 := fun x y H Q => ∃ F a b u kvs kd k d, x = .ref a ∧ y = .ref b ∧ Sub F H ∧ H a = some u ∧ DctO c F a kvs true u ∧ Rep c.K F kd (.ref b) ∧ keyN kd = some k ∧ k.depth ≤ 8 ∧ dfind kvs k = some d ∧ ∀ v, Rep c.K F d v → Q v H
theorem ix_key (hr : Room kk X.A) : IxR X (rIxK X.wk) := by
  intro value slice pins s σ H x y v u Q I rx ry h hs
  obtain ⟨F, a, b, uo, kvs, kd, k, d, rfl, rfl, sub, ha, hd, hk, ek, dk, ed, q⟩ := h
  cases (show v = Value.ref a from rx)
  cases (show u = Value.ref b from ry)
  obtain ⟨xs, m, p, hsm, hz, hdp⟩ := dct_of I sub ha hd
  have ef := ent_find (k := k) p
  rw [ed] at ef
  cases eq : atKey xs k with
  | none => rw [eq] at ef; exact ef.elim
  | some z =>
    rw [eq] at ef
    obtain ⟨w, rw', rp⟩ := ef
    have hu : (nestedKind X.prog X.w).room X.A.in1 := by
      show X.A.units + 1 + 8 < cLine
      have := hr.un
      omega
    exact tail_any m.typeIs slot_dict_getitem.lookup (wpAny_getItem_heap hu ⟨nested_of I sub _ _ _ _ ek hk rfl, dk⟩ m eq ⟨w, H, I.tok _, rw', q w rp⟩) hs
def rInK (c : WK) (neg : Bool) : R2 := fun x y H Q => ∃ F a b u kvs kd k, y = .ref a ∧ x = .ref b ∧ Sub F H ∧ H a = some u ∧ DctO c F a kvs true u ∧ Rep c.K F kd (.ref b) ∧ keyN kd = some k ∧ k.depth ≤ 8 ∧ Q (.bl (neg != (dfind kvs k).isSome)) H
theorem op_inK (hr : Room kk X.A) : OpR X (compareOp .In) (rInK X.wk false) := by
  intro pins s σ H x y v u Q I rx ry h
  obtain ⟨F, a, b, uo, kvs, kd, k, rfl, rfl, sub, ha, hd, hk, ek, dk, q⟩ := h
  cases (show v = Value.ref b from rx)
  cases (show u = Value.ref a from ry)
  obtain ⟨xs, m, p, hsm, hz, hdp⟩ := dct_of I sub ha hd
  have hu : (nestedKind X.prog X.w).room X.A.in1 := by
    show X.A.units + 1 + 8 < cLine
    have := hr.un
    omega
  rw [ent_isSome p, neg_false] at q
  exact wpAny_in_heap hu ⟨nested_of I sub _ _ _ _ ek hk rfl, dk⟩ hsm m ⟨.bl _, H, I.tok _, rfl, q⟩
theorem op_notInK (hr : Room kk X.A) : OpR X (compareOp .NotIn) (rInK X.wk true) := by
  intro pins s σ H x y v u Q I rx ry h
  obtain ⟨F, a, b, uo, kvs, kd, k, rfl, rfl, sub, ha, hd, hk, ek, dk, q⟩ := h
  cases (show v = Value.ref b from rx)
  cases (show u = Value.ref a from ry)
  obtain ⟨xs, m, p, hsm, hz, hdp⟩ := dct_of I sub ha hd
  have hu : (nestedKind X.prog X.w).room X.A.in1 := by
    show X.A.units + 1 + 8 < cLine
    have := hr.un
    omega
  rw [ent_isSome p, neg_true] at q
  exact wpAny_notIn_heap hu ⟨nested_of I sub _ _ _ _ ek hk rfl, dk⟩ hsm m ⟨.bl _, H, I.tok _, rfl, q⟩
/-- a key, not too deep -/
def keyOf (d : D) : Option NestedKey := match d with
  | .tup _ => match keyN d with
    | some k => if k.depth ≤ 8 then some k else none
    | none => none
  | _ => none
theorem keyOf_ok {d : D} {k : NestedKey} (h : keyOf d = some k) : keyN d = some k ∧ k.depth ≤ 8 ∧ ∃ ds, d = .tup ds := by
  unfold keyOf at h
  split at h
  · split at h
    · split at h
      · rename_i hd
        cases h
        exact ⟨by assumption, hd, _, rfl⟩
      · cases h
    · cases h
  · cases h
theorem Rep.isRef {K : PySem.W.Frag} {F : Hp} {ds : List D} {v : V} (h : Rep K F (.tup ds) v) : ∃ b, v = .ref b := by
  obtain ⟨a, vs, e, _⟩ := Rep.tup_iff.mp h
  exact ⟨a, e⟩
def gIxK (f k : Fld) : Option RV := match f, k with
  | .dct true kvs, .val kd => match keyOf kd with
    | some k => (dfind kvs k).map fun d => .v d
    | none => none
  | _, _ => none
theorem snd_ixK : Snd2 c (rIxK c) gIxK := fun F H x y f k q Q s hx hy e fin => by
  unfold gIxK at e
  split at e
  · rename_i kvs kd
    split at e
    · rename_i k ek
      obtain ⟨d, ed, rfl⟩ := Option.map_eq_some_iff.mp e
      obtain ⟨k1, k2, ds, rfl⟩ := keyOf_ok ek
      obtain ⟨a, u, rfl, ha, hd⟩ := hx
      have hy' : Rep c.K F (.tup ds) y := hy
      obtain ⟨b, rfl⟩ := Rep.isRef hy'
      exact ⟨F, a, b, u, kvs, .tup ds, k, d, rfl, rfl, s, ha, hd, hy', k1, k2, ed, fun v hv => fin.val s hv⟩
    · cases e
  · cases e
def gInK (neg : Bool) (f k : Fld) : Option RV := match f, k with
  | .val kd, .dct true kvs => match keyOf kd with
    | some k => some (.v (.bl (neg != (dfind kvs k).isSome)))
    | none => none
  | _, _ => none
theorem snd_inK {neg : Bool} : Snd2 c (rInK c neg) (gInK neg) := fun F H x y f k q Q s hx hy e fin => by
  unfold gInK at e
  split at e
  · rename_i kd kvs
    split at e
    · rename_i k ek
      cases e
      obtain ⟨k1, k2, ds, rfl⟩ := keyOf_ok ek
      obtain ⟨a, u, rfl, ha, hd⟩ := hy
      have hx' : Rep c.K F (.tup ds) x := hx
      obtain ⟨b, rfl⟩ := Rep.isRef hx'
      exact ⟨F, a, b, u, kvs, .tup ds, k, rfl, rfl, s, ha, hd, hx', k1, k2, fin.bl s⟩
    · cases e
  · cases e
/-! ### a place; in -/
def gIx (f k : Fld) : Option RV := (gIxL f k).or ((gIxT f k).or ((gIxS f k).or (gIxK f k)))
theorem i_ix (hr : Room kk X.A) (ha : PE X e1 (tI X.wk W ma)) (hb : PE X e2 (tI X.wk W mb)) (hs : PlainIx e2 := by intro _ _; rfl) : PE X (.Subscript e1 e2 pos) (tI X.wk W (mOp2 gIx ma mb)) :=
  (pe_ix (IxR.or ix_list (IxR.or ix_tup (IxR.or ix_str (ix_key hr)))) ha hb hs).to fun σ H Q h => run2 (Snd2.or snd_ixL (Snd2.or snd_ixT (Snd2.or snd_ixS snd_ixK))) h
def gIn (neg : Bool) (f k : Fld) : Option RV := (gInL neg f k).or ((gInT neg f k).or (gInK neg f k))
theorem i_in (hr : Room kk X.A) (ha : PE X e1 (tI X.wk W ma)) (hb : PE X e2 (tI X.wk W mb)) (hm : behindInMarks .In e2 = false := by rfl) : PE X (.Compare e1 [.In] [e2] pos) (tI X.wk W (mOp2 (gIn false) ma mb)) :=
  i_cmp2 (OpR.or (op_inD (by have := hr.un; omega)) (OpR.or (op_inT (by have := hr.un; omega)) (op_inK hr))) (Snd2.or snd_inL (Snd2.or snd_inT snd_inK)) ha hb hm
theorem i_notin (hr : Room kk X.A) (ha : PE X e1 (tI X.wk W ma)) (hb : PE X e2 (tI X.wk W mb)) (hm : behindInMarks .NotIn e2 = false := by rfl) : PE X (.Compare e1 [.NotIn] [e2] pos) (tI X.wk W (mOp2 (gIn true) ma mb)) :=
  i_cmp2 (OpR.or (op_notInD (by have := hr.un; omega)) (OpR.or (op_notInT (by have := hr.un; omega)) (op_notInK hr))) (Snd2.or snd_notInL (Snd2.or snd_inT snd_inK)) ha hb hm
end
end VS
namespace VS
open PySem PySem.Spec PyProof.Rows L2
section
variable {c : WK} {W : WX} {X : Cx} {e e1 e2 e3 : Expr} {es : List Expr} {pos p : Pos} {ma mb mc : M RV} {mt : M (List RV)} {kk : Nat}
/-! ### isinstance -/
inductive Ty where
  | non | bl | int | str | tup | lst | dct
  deriving DecidableEq
def Ty.nm : Ty → String
  | .non => "NoneType" | .bl => "bool" | .int => "int" | .str => "str" | .tup => "tuple" | .lst => "list" | .dct => "dict"
def tyF : Fld → Option Ty
  | .val .non => some .non
  | .val (.bl _) => some .bl
  | .val (.int _) => some .int
  | .val (.str _) => some .str
  | .val (.tup _) => some .tup
  | .val (.lst _) => some .lst
  | .val (.adr _) => none
  | .lst _ => some .lst
  | .dct false _ => some .dct
  | .dct true _ => none
def isTy (t T : Ty) : Bool := decide (t = T) || (decide (t = .bl) && decide (T = .int))
theorem kit_isTy (t T : Ty) (h : T ≠ .non) : kitB t.nm T.nm = some (isTy t T) := by
  cases t <;> cases T <;> first | exact absurd rfl h | decide +kernel
theorem lk_ty {F H : Hp} (s : Sub F H) {f : Fld} {v : V} {t : Ty} (h : Lk c F H f v) (e : tyF f = some t) : TyX c.K H v (.type t.nm) := by
  have tl : ∀ {a vs}, SqL c.K H a vs → TyX c.K H (.ref a) (.type "list") := fun {a vs} q => by
    rcases q with (q | ⟨o, q⟩) | ⟨o, its, n, hk, hc, _⟩
    · exact .base (.lst q)
    · exact .base (.frz q)
    · exact .kList hk hc
  have tt : ∀ {a vs}, SqT c.K H a vs → TyX c.K H (.ref a) (.type "tuple") := fun {a vs} q => by
    rcases q with (q | ⟨o, q⟩) | ⟨o, its, n, hk, hc, _⟩
    · exact .base (.tup q)
    · exact .fTuple q
    · exact .kTuple hk hc
  cases f with
  | val d =>
    cases d with
    | non => cases e; cases h.non; exact .base .non
    | bl b => cases e; cases h.bl; exact .base (.bl b)
    | int b => cases e; cases h.int; exact .base (.int b)
    | str b => cases e; cases h.str; exact .base (.str b)
    | adr b => cases e
    | tup ds => cases e; obtain ⟨a, vs, rfl, q, _⟩ := h.asT s rfl; exact tt q
    | lst ds => cases e; obtain ⟨a, vs, rfl, q, _⟩ := h.asL s rfl; exact tl q
  | lst ds => cases e; obtain ⟨a, vs, rfl, q, _⟩ := h.asL s rfl; exact tl q
  | dct t kvs =>
    cases t with
    | true => cases e
    | false =>
      cases e
      obtain ⟨a, u, rfl, ha, kvs', rfl, _⟩ := h
      exact .base (.dK ha)
def gIsi (T : Ty) (f : Fld) : Option RV := match tyF f with
  | some t => some (.v (.bl (isTy t T)))
  | none => none
theorem i_isi {x : Str} {T : Ty} {pT : Pos} (ht : T ≠ .non := by decide) (hg : Gl X "isinstance") (hm : X.mg "isinstance" = none) (hgT : Gl X x) (hmT : X.mg x = none) (hvT : bootBuiltins x = some (.type T.nm)) (ha : PE X e (tI X.wk W ma)) (hn : x ≠ "__name__" := by decide) (hd : (x == ("__debug__" : Str)) = false := by decide)
    (he : starEach [e, .Name x pT] X.env = (false, eval e X.env) :: starEach [.Name x pT] X.env := by rfl) (he2 : starEach [.Name x pT] X.env = (false, eval (.Name x pT) X.env) :: starEach [] X.env := by rfl) (hpl : (backTo pos (starEach [.Name x pT] X.env)).any (·.1) = false := by rfl) :
    PE X (.Call (.Name "isinstance" p) [e, .Name x pT] [] pos) (tI X.wk W (mOp1 (gIsi T) ma)) :=
  (pe_callB call_isi hg hm (by rfl) (pa_cons ha (pa_cons (pe_bltn (v := .ty T.nm) hgT hmT hvT rfl hn hd) pa_nil he2) he) (by decide) (by decide) he hpl).to fun σ H Q h =>
    run1 (r := fun x H1 Q => rIsi X.K [x, .ty T.nm] H1 Q) (fun F H x f q Q s hx e fin => by
      unfold gIsi at e
      split at e
      · rename_i t et
        cases e
        exact ⟨x, .ty T.nm, .type t.nm, .type T.nm, isTy t T, rfl, .ty _, lk_ty s hx et, kit_ty (kit_isTy t T ht), fin.bl s⟩
      · cases e) (fun _ z => z) h
/-! ### -x -/
def gNeg : Fld → Option RV
  | .val (.int i) => some (.v (.int (-i)))
  | _ => none
theorem i_neg (ha : PE X e (tI X.wk W ma)) : PE X (.UnaryOp .USub e pos) (tI X.wk W (mOp1 gNeg ma)) := (pe_un un_neg ha).to fun σ H Q h =>
  run1 (r := rU fun i => .int (-i)) (fun F H x f q Q s hx e fin => by
    unfold gNeg at e
    split at e
    · rename_i i
      cases e
      exact ⟨i, hx.int, fin.int s⟩
    · cases e) (fun _ z => z) h

/-! ### a box is changed -/
theorem stp_mut {F F1 H H1 : Hp} {A A1 : Ow} {ρ ρ1 : Env} {σ σ1 : L2.St} (s : Stp c F A ρ σ H F1 A1 ρ1 σ1 H1) {i : Nat} {m : Mode} {f f' : Fld} {a : Addr} {u : HO} (h : ρ1.getD i .un = .fl m f) (hm : m ≠ .lk) (hv : σ1.getD i none = some (.ref a)) (hA : A1 i = [a])
    (new : FldR c F1 (upd H1 a u) f' (.ref a) [a]) : Stp c F A ρ σ H F1 A1 (ρ1.set i (.fl m f')) σ1 (upd H1 a u) := by
  have hi : i < ρ1.length := lt_of_getD (by rw [h]; exact fun z => nomatch z)
  have mem : a ∈ A1 i := by rw [hA]; exact List.mem_singleton.mpr rfl
  have ow := s.r.own mem
  have hEx : Ext F A H F1 A1 (upd H1 a u) := ⟨s.x.mono, fun b o hb hn => by
    obtain ⟨k1, k2⟩ := s.x.keep b o hb hn
    have ne : b ≠ a := fun z => by
      subst z
      rcases s.x.new i b mem with ⟨j, hj⟩ | z
      · exact hn j hj
      · rw [hb] at z; cases z
    exact ⟨by rw [upd_ne ne]; exact k1, k2⟩, s.x.new, fun b hb => by
    by_cases ne : b = a
    · subst ne; rw [upd_same] at hb; cases hb
    · rw [upd_ne ne] at hb; exact s.x.gone b hb⟩
  have R1 : R c F1 (A1.put i [a]) (ρ1.set i (.fl m f')) σ1 (upd H1 a u) := by
    refine s.r.put i (.fl m f') [a] hi (.refl _) (fun b o hb => ?_) rfl (fun _ _ => rfl) (by rw [hv]; exact ⟨_, rfl, new⟩) (by simp) (fun j hj b o hb h => ⟨?_, rfl⟩) (fun j hj b hb hc => ?_)
    · have ne : b ≠ a := fun z => by subst z; rw [ow.1] at hb; cases hb
      rw [upd_ne ne]; exact s.r.le b o hb
    · have ne : b ≠ a := fun z => by subst z; exact hj (s.r.dj j i b hb mem)
      rw [upd_ne ne]; exact h
    · rw [List.mem_singleton] at hc; subst hc; exact hj (s.r.dj j i b hb mem)
  have eA : A1.put i [a] = A1 := by
    funext j
    unfold Ow.put
    by_cases hj : j = i
    · rw [if_pos hj, hj, hA]
    · rw [if_neg hj]
  rw [eA] at R1
  refine ⟨R1, hEx, s.k.trans fun j hj => ?_, s.l⟩
  by_cases hji : j = i
  · subst hji
    rw [getD_set_same hi, h]
    exact ⟨rfl, rfl, fun z => absurd z hm⟩
  · rw [getD_set_ne hji]
    exact ⟨rfl, rfl, fun _ => rfl⟩
/-- the list in a slot: its address, its items -/
theorem stp_lst {F F1 H H1 : Hp} {A A1 : Ow} {ρ ρ1 : Env} {σ σ1 : L2.St} (s : Stp c F A ρ σ H F1 A1 ρ1 σ1 H1) {i : Nat} {m : Mode} {ds : List D} (h : ρ1.getD i .un = .fl m (.lst ds)) {v : V} (hv : σ1.getD i none = some v) :
    ∃ a vs, v = .ref a ∧ F1 a = none ∧ A1 i = [a] ∧ H1 a = some (.lst vs) ∧ Reps c.K F1 ds vs := by
  have q := s.r.sl i
  rw [h] at q
  obtain ⟨w, ew, a, vs, ea, eA, n, ha, rs⟩ := q
  rw [hv] at ew
  cases ew
  exact ⟨a, vs, ea, n, eA, ha, rs⟩
theorem stp_mutL {F F1 H H1 : Hp} {A A1 : Ow} {ρ ρ1 : Env} {σ σ1 : L2.St} (s : Stp c F A ρ σ H F1 A1 ρ1 σ1 H1) {i : Nat} {m : Mode} {ds ds' : List D} {a : Addr} {vs' : List V} (h : ρ1.getD i .un = .fl m (.lst ds)) (hm : m ≠ .lk) (hv : σ1.getD i none = some (.ref a)) (n : F1 a = none) (hA : A1 i = [a])
    (rs : Reps c.K F1 ds' vs') : Stp c F A ρ σ H F1 A1 (ρ1.set i (.fl m (.lst ds'))) σ1 (upd H1 a (.lst vs')) :=
  stp_mut s h hm hv hA ⟨a, vs', rfl, rfl, n, upd_same, rs⟩
theorem noneOk {F H : Hp} {A : Ow} {ρ : Env} {σ : L2.St} {F1 A1 ρ1 H1} (s : Stp c F A ρ σ H F1 A1 ρ1 σ H1) : Got c F A ρ σ H (.v .non) ρ1 F1 A1 H1 .non [] := ⟨s, ⟨rfl, Rep.non_iff.mpr rfl⟩, List.nodup_nil, (fun _ _ _ h => nomatch h), (fun _ h => nomatch h)⟩
/-! ### methods of lists -/
def lstPl (r : RV) : M Nat := fun ρ => match r with
  | .pl i => match ρ.getD i .un with
    | .fl _ (.lst _) => .ok i ρ
    | _ => .stuck
  | _ => .stuck
theorem lstPl_ok {r : RV} {ρ ρ' : Env} {i : Nat} (h : lstPl r ρ = .ok i ρ') : r = .pl i ∧ ρ' = ρ ∧ ∃ m ds, ρ.getD i .un = .fl m (.lst ds) := by
  unfold lstPl at h
  split at h
  · rename_i j
    split at h
    · rename_i m ds hs
      cases h
      exact ⟨rfl, rfl, m, ds, hs⟩
    · cases h
  · cases h
theorem lstPl_exc {r : RV} {ρ ρ' : Env} {x : Exn} (h : lstPl r ρ = .exc x ρ') : False := by
  unfold lstPl at h
  split at h
  · split at h <;> cases h
  · cases h
def updL (g : List D → List D → Option (D × List D)) (i : Nat) (as : List D) : M RV := fun ρ => match ρ.getD i .un with
  | .fl m (.lst ds) => if m = .lk then .stuck else match g ds as with
    | some (d, ds') => .ok (.v d) (ρ.set i (.fl m (.lst ds')))
    | none => .stuck
  | _ => .stuck
def mLstM (g : List D → List D → Option (D × List D)) (ma : M RV) (mt : M (List D)) : M RV := ma.bind fun r => (lstPl r).bind fun i => mt.bind fun as => updL g i as
def LstM (c : WK) (r : V → List V → Hp → VK → Prop) (g : List D → List D → Option (D × List D)) : Prop := ∀ F H a vs ds as avs d ds' Q, Sub F H → H a = some (.lst vs) → Reps c.K F ds vs → Reps c.K F as avs → g ds as = some (d, ds') →
  (∀ v vs', Rep c.K F d v → Reps c.K F ds' vs' → Q v (upd H a (.lst vs'))) → r (.ref a) avs H Q
theorem updL_run {r : V → List V → Hp → VK → Prop} {g : List D → List D → Option (D × List D)} (hl : LstM c r g) {F F0 F1 H H0 H1 : Hp} {A A0 A1 : Ow} {ρ ρ0 ρ1 : Env} {σ : L2.St} {i : Nat} {as : List D} {v : V} {avs : List V} {Q : VK} (s : Stp c F A ρ σ H F1 A1 ρ1 σ H1)
    (hv : σ.getD i none = some v) (ra : Reps c.K F1 as avs) (q : OutG c W F0 A0 ρ0 σ H0 (updL g i as ρ1) fun r ρ' => ∀ F' A' H' v Bs, Got c F A ρ σ H r ρ' F' A' H' v Bs → Q v H') : r v avs H1 Q := by
  unfold updL at q
  split at q
  · rename_i m ds hs
    split at q
    · exact q.elim
    · rename_i hm
      split at q
      · rename_i d ds' eg
        obtain ⟨a, vs, rfl, n, hA, ha, rs⟩ := stp_lst s hs hv
        refine hl F1 H1 a vs ds as avs d ds' Q s.r.le ha rs ra eg fun w vs' rw' rs' => ?_
        have s2 := stp_mutL s hs hm hv n hA rs'
        exact q F1 A1 _ w [] ⟨s2, ⟨rfl, rw'⟩, List.nodup_nil, (fun _ _ _ h => nomatch h), (fun _ h => nomatch h)⟩
      · exact q.elim
  · exact q.elim
theorem lstM_run {id : String} {r : V → List V → Hp → VK → Prop} {g : List D → List D → Option (D × List D)} (hl : LstM X.wk r g) {mt : M (List D)} {σ : L2.St} {H : Hp} {Q : VK} (h : tI X.wk W (mLstM g ma mt) σ H Q) :
    tI X.wk W ma σ H fun x H1 => tyV X.K "list" x H1 ∧ tIDs X.wk W mt σ H1 fun xs H2 => r x xs H2 Q := by
  obtain ⟨ρ, F, A, R0, q⟩ := h
  refine ⟨ρ, F, A, R0, q.bind fun r1 ρ1 e1 q1 F1 A1 H1 v1 B1 g1 => ?_⟩
  unfold M.bind at q1
  cases e2 : lstPl r1 ρ1 with
  | stuck => rw [e2] at q1; exact q1.elim
  | exc x ρ2 => exact (lstPl_exc e2).elim
  | ok i ρ2 =>
    rw [e2] at q1
    obtain ⟨rfl, rfl, m, ds, hs⟩ := lstPl_ok e2
    have hv : σ.getD i none = some v1 := g1.v.1
    obtain ⟨a, vs, rfl, n1, hA1, ha1, rs1⟩ := stp_lst g1.s hs hv
    have q1 : OutG X.wk W F A ρ σ H ((mt.bind fun as => updL g i as) ρ2) fun r ρ' => ∀ F' A' H' v Bs, Got X.wk F A ρ σ H r ρ' F' A' H' v Bs → Q v H' := q1
    refine ⟨.inl ⟨rfl, vs, .of ha1⟩, ρ2, F1, A1, g1.s.r, (OutG.later g1.s q1 fun _ _ _ z => z).bind fun as ρ3 e3 q3 F3 A3 H3 avs s3 r3 => ?_⟩
    exact updL_run (W := W) hl (g1.s.trans s3) hv r3 q3
def gAppend (ds : List D) : List D → Option (D × List D)
  | [d] => if ds.length < lim then some (.non, ds ++ [d]) else none
  | _ => none
theorem lst_append : LstM c rAppend gAppend := fun F H a vs ds as avs d ds' Q s ha rs ra e q => by
  unfold gAppend at e
  split at e
  · rename_i x
    split at e
    · rename_i hz
      cases e
      obtain ⟨w, t, rfl, h1, h2⟩ := ra.inv
      have := h2.inv0; subst this
      exact ⟨a, vs, w, rfl, rfl, ha, by rw [rs.length]; exact Nat.lt_of_lt_of_le hz lim_le, q _ _ (Rep.non_iff.mpr rfl) (rs.append (.cons h1 .nil))⟩
    · cases e
  · cases e
theorem i_append {mt : M (List D)} {apos cpos : Pos} (ho : PE X e1 (tI X.wk W ma)) (ha : PA X [e2] (tIDs X.wk W mt)) (hbase : attributeBase e1 "append" X.env (eval e1 X.env) = eval e1 X.env := by rfl)
    (hfew : ((backTo cpos (starEach [e2] X.env)).all (fun x => !x.1) && (backToKw cpos (keywordEach [] X.env)).all (fun x => x.1.isSome) && decide (([e2] : List Expr).length + ([] : List Keyword).length + (if ([] : List Keyword).isEmpty then 0 else 1) < 30)) = true := by rfl)
    (hline : (apos.endLine == cpos.line) = true := by rfl) (hs : starEach [e2] X.env = (false, eval e2 X.env) :: starEach [] X.env := by rfl) (hplain : (backTo cpos (starEach [] X.env)).any (·.1) = false := by rfl) :
    PE X (.Call (.Attribute e1 "append" apos) [e2] [] cpos) (tI X.wk W (mLstM gAppend ma mt)) :=
  (pe_bm F.plainAttrs_list F.slot_list_append (by rfl) mt_append ho ha hbase hfew hline hs hplain).to fun σ H Q h => lstM_run (id := "") lst_append h
/-! ### o[i] = e -/
def setAt (i : Nat) (j : Int) (d : D) : M Flo := fun ρ => match ρ.getD i .un with
  | .fl m (.lst ds) => if m = .lk then .stuck else match ixN ds.length j with
    | some q => .ok .nx (ρ.set i (.fl m (.lst (ds.set q d))))
    | none => .stuck
  | _ => .stuck
def intOf (r : RV) : M Int := fun ρ => match look ρ r with
  | some (.val (.int i)) => .ok i ρ
  | _ => .stuck
theorem OutG.lstPl {α : Type} {F H : Hp} {A : Ow} {ρ ρ1 : Env} {σ : L2.St} {r : RV} {k : Nat → M α} {P : α → Env → Prop} (h : OutG c W F A ρ σ H (((VS.lstPl r).bind k) ρ1) P) : ∃ i m ds, r = .pl i ∧ ρ1.getD i .un = .fl m (.lst ds) ∧ OutG c W F A ρ σ H (k i ρ1) P := by
  unfold M.bind at h
  cases e3 : VS.lstPl r ρ1 with
  | stuck => rw [e3] at h; exact h.elim
  | exc x ρ3 => exact (lstPl_exc e3).elim
  | ok i ρ3 =>
    rw [e3] at h
    obtain ⟨rfl, rfl, m, ds, hs⟩ := lstPl_ok e3
    exact ⟨i, m, ds, rfl, hs, h⟩
theorem OutG.intOf {α : Type} {F H : Hp} {A : Ow} {ρ ρ1 : Env} {σ : L2.St} {r : RV} {k : Int → M α} {P : α → Env → Prop} (h : OutG c W F A ρ σ H (((VS.intOf r).bind k) ρ1) P) : ∃ i, look ρ1 r = some (.val (.int i)) ∧ OutG c W F A ρ σ H (k i ρ1) P := by
  unfold M.bind VS.intOf at h
  cases e3 : look ρ1 r with
  | none => rw [e3] at h; exact h.elim
  | some f =>
    rw [e3] at h
    cases f with
    | val d =>
      cases d with
      | int i => exact ⟨i, rfl, h⟩
      | _ => exact h.elim
    | _ => exact h.elim
/-- list slot[int] = e -/
def sSetL (mo mi me : M RV) : M Flo := (mEsc me).bind fun d => mo.bind fun r => (lstPl r).bind fun i => mi.bind fun r2 => (intOf r2).bind fun j => setAt i j d
theorem s_setL {o i : Expr} {mo mi me : M RV} {p' : Pos} (he : PE X e (tI X.wk W me)) (ho : PE X o (tI X.wk W mo)) (hi : PE X i (tI X.wk W mi))
    (ha : ∀ v, assign (.Subscript o i p') X.env v = (do
      let ov ← holding [v] (eval o X.env)
      let iv ← holding [v, ov] (eval i X.env)
      standAt p'
      holding [v, ov, iv] (setItem ov iv v)
      release [v, ov, iv] []) := by intro _; rfl) (hs : swapsWithSole [.Subscript o i p'] e pos.line X.env = pure false := by rfl) (hw : swappedStores [.Subscript o i p'] e X.env = pure none := by rfl)
    (h1 : (assignEach [.Subscript o i p'] X.env).map (·.2) = [assign (.Subscript o i p') X.env] := by rfl) : PS X (.Assign [.Subscript o i p'] e pos) (tIS X.wk W (sSetL mo mi me)) :=
  (ps_asg (i_esc he) (pg_sub ho hi set_list ha) hs hw h1).to fun D σ H ⟨ρ, F, A, R0, q⟩ => by
    refine ⟨ρ, F, A, R0, q.bind fun d ρ1 e1 q1 F1 A1 H1 v1 s1 r1 => ⟨ρ1, F1, A1, s1.r, (OutG.later s1 q1 fun _ _ _ z => z).bind fun r ρ2 e2 q2 F2 A2 H2 v2 B2 g2 => ?_⟩⟩
    have s12 := s1.trans g2.s
    obtain ⟨k, m, ds, rfl, hs, q2⟩ := q2.lstPl
    have hv : σ.getD k none = some v2 := g2.v.1
    refine ⟨ρ2, F2, A2, g2.s.r, (OutG.later g2.s q2 fun _ _ _ z => z).bind fun r4 ρ4 e4 q4 F4 A4 H4 v4 B4 g4 => ?_⟩
    have s14 := s12.trans g4.s
    obtain ⟨j, ej, q4⟩ := q4.intOf
    have e4 := (look_ok s14.r g4.v ej).int
    unfold setAt at q4
    split at q4
    · rename_i m ds hs
      split at q4
      · exact q4.elim
      · rename_i hm
        split at q4
        · rename_i n en
          obtain ⟨a, vs, rfl, nF, hA, ha', rs⟩ := stp_lst s14 hs hv
          have r1' := Rep.sub (g2.s.x.mono.trans g4.s.x.mono) _ _ r1
          refine ⟨a, vs, j, n, rfl, e4, ha', by rw [rs.length]; exact en, ?_⟩
          exact q4 F4 A4 σ _ (stp_mutL s14 hs hm hv nF hA (rs.set n r1'))
        · exact q4.elim
    · exact q4.elim
/-! ### x op= e -/
def augv (g : Fld → Fld → Option D) (i : Nat) (r : RV) : M Flo := fun ρ => match ρ.getD i .un, look ρ r with
  | .fl .own (.val d), some k => match g (.val d) k with
    | some d' => .ok .nx (ρ.set i (.v d'))
    | none => .stuck
  | _, _ => .stuck
def slotIs (i : Nat) : M Unit := fun ρ => match ρ.getD i .un with
  | .fl _ _ => .ok () ρ
  | _ => .stuck
/-- an int in a slot -/
def augI (g : Int → Int → Option Int) (i : Nat) (j : Int) : M Flo := fun ρ => match ρ.getD i .un with
  | .fl .own (.val (.int a)) => match g a j with
    | some b => .ok .nx (ρ.set i (.v (.int b)))
    | none => .stuck
  | _ => .stuck
def isIntSl (i : Nat) : M Int := fun ρ => match ρ.getD i .un with
  | .fl .own (.val (.int a)) => .ok a ρ
  | _ => .stuck
def sAugI (g : Int → Int → Option Int) (i : Nat) (m : M RV) : M Flo := (isIntSl i).bind fun a => m.bind fun r => (intOf r).bind fun j ρ => match g a j with
  | some b => match putv i (.int b) ρ with
    | some ρ' => .ok .nx ρ'
    | none => .stuck
  | none => .stuck
theorem OutG.isIntSl {α : Type} {F H : Hp} {A : Ow} {ρ ρ1 : Env} {σ : L2.St} {i : Nat} {k : Int → M α} {P : α → Env → Prop} (h : OutG c W F A ρ σ H (((VS.isIntSl i).bind k) ρ1) P) : ∃ a, ρ1.getD i .un = .fl .own (.val (.int a)) ∧ OutG c W F A ρ σ H (k a ρ1) P := by
  unfold M.bind at h
  cases e : VS.isIntSl i ρ1 with
  | stuck => rw [e] at h; exact h.elim
  | exc x ρ' =>
    unfold VS.isIntSl at e
    split at e <;> cases e
  | ok b ρ' =>
    rw [e] at h
    unfold VS.isIntSl at e
    split at e
    · rename_i a' hs
      cases e
      exact ⟨b, hs, h⟩
    · cases e
theorem augI_run {te : TE} {g : Int → Int → Option Int} {r : TIp} {i : Nat} {m : M RV} {D : Ends} {σ : L2.St} {H : Hp} (ht : ∀ Q σ H, tI c W m σ H Q → te σ H Q) (hr : ∀ a j b H Q, g a j = some b → Q (.int b) H → r (.int a) (.int j) H Q) (h : tIS c W (sAugI g i m) D σ H) : tAug i te r D σ H := by
  obtain ⟨ρ, F, A, R0, q⟩ := h
  obtain ⟨a, hs, q⟩ := q.isIntSl
  have sl := R0.sl i
  rw [hs] at sl
  obtain ⟨v, ev, fr⟩ := sl
  have ei := Rep.int_iff.mp fr.2
  subst ei
  refine ⟨.int a, ?_, ht _ _ _ ⟨ρ, F, A, R0, q.bind fun r1 ρ1 e1 q1 F1 A1 H1 v1 B1 g1 => ?_⟩⟩
  · rw [List.getD_eq_getElem?_getD] at ev
    cases e : σ[i]? with
    | none => rw [e] at ev; cases ev
    | some z => rw [e] at ev; exact congrArg some ev
  · obtain ⟨j, ej, q1⟩ := q1.intOf
    have e4 := (look_ok g1.s.r g1.v ej).int
    subst e4
    split at q1
    · rename_i b eb
      split at q1
      · rename_i ρ' ep
        obtain ⟨A2, s2⟩ := putv_ok g1.s (Rep.int_iff.mpr rfl) ep
        exact hr a j b _ _ eb (q1 F1 A2 _ H1 s2)
      · exact q1.elim
    · exact q1.elim
/-- a list in a slot grows by a list just made -/
def extTo (i : Nat) (r : RV) : M Flo := fun ρ => match r with
  | .fl (.lst bs) => match ρ.getD i .un with
    | .fl m (.lst ds) => if m = .lk then .stuck else if ds.length + bs.length ≤ lim then .ok .nx (ρ.set i (.fl m (.lst (ds ++ bs)))) else .stuck
    | _ => .stuck
  | _ => .stuck
def sAugL (i : Nat) (m : M RV) : M Flo := (lstPl (.pl i)).bind fun _ => m.bind (extTo i)
theorem augL_run {te : TE} {i : Nat} {m : M RV} {D : Ends} {σ : L2.St} {H : Hp} (ht : ∀ Q σ H, tI c W m σ H Q → te σ H Q) (h : tIS c W (sAugL i m) D σ H) : tAug i te rExt2 D σ H := by
  obtain ⟨ρ, F, A, R0, q⟩ := h
  obtain ⟨k, m', ds', ek, hs, q⟩ := q.lstPl
  cases ek
  have sl := R0.sl i
  rw [hs] at sl
  obtain ⟨v, ev, a, vs, rfl, _⟩ := sl
  have ev' : σ[i]? = some (some (.ref a)) := by
    rw [List.getD_eq_getElem?_getD] at ev
    cases e : σ[i]? with
    | none => rw [e] at ev; cases ev
    | some z => rw [e] at ev; exact congrArg some ev
  refine ⟨.ref a, ev', ht _ _ _ ⟨ρ, F, A, R0, q.bind fun r1 ρ1 e1 q1 F1 A1 H1 v1 B1 g1 => ?_⟩⟩
  unfold extTo at q1
  split at q1
  · rename_i bs
    split at q1
    · rename_i m ds hs1
      split at q1
      · exact q1.elim
      · rename_i hm
        split at q1
        · rename_i hz
          obtain ⟨a', vs1, ea, nF, hA, ha', rs⟩ := stp_lst g1.s hs1 ev
          cases ea
          obtain ⟨b, ws, rfl, eB, nb, hb, rb⟩ := g1.v
          refine ⟨a, b, vs1, ws, rfl, rfl, ha', hb, by rw [rs.length, rb.length]; exact Nat.le_trans hz lim_le, ?_⟩
          have s2 := stp_mutL g1.s hs1 hm ev nF hA (rs.append rb)
          have e2 : σ.set i (some (.ref a)) = σ := by
            obtain ⟨h1, h2⟩ := List.getElem?_eq_some_iff.mp ev'
            rw [← h2]; exact List.set_getElem_self h1
          show D.nx (σ.set i (some (.ref a))) _
          rw [e2]
          exact q1 F1 A1 σ _ s2
        · exact q1.elim
    · exact q1.elim
  · exact q1.elim
def sAugAdd (i : Nat) (m : M RV) : M Flo := fun ρ => match ρ.getD i .un with
  | .fl _ (.lst _) => sAugL i m ρ
  | _ => sAugI (fun a j => some (a + j)) i m ρ
theorem s_augAdd {i : Nat} {x : Str} {pos' : Pos} {m : M RV} (hN : X.N.Nodup) (hi : X.N[i]? = some x) (hx : Loc X.env.scope x) (he : PE X e (tI X.wk W m)) (hf : X.fn x = true ∨ X.env.scope.names.lookup x = some .local := by first | exact .inl rfl | exact .inr rfl | assumption) :
    PS X (.AugAssign (.Name x pos') .Add e pos) (tIS X.wk W (sAugAdd i m)) :=
  (ps_aug (ti := fun x y H Q => ipI (fun i j => i + j) x y H Q ∨ rExt2 x y H Q) hN hi hx he (fun pins s σ H x y v u Q I r1 r2 h => by
    rcases h with h | h
    · exact ip_add pins s σ H x y v u Q I r1 r2 h
    · exact iop_ext pins s σ H x y v u Q I r1 r2 h) hf).to fun D σ H ⟨ρ, F, A, R0, q⟩ => by
    have imp : ∀ {t : TIp}, (∀ x y H Q, t x y H Q → (ipI (fun i j => i + j) x y H Q ∨ rExt2 x y H Q)) → tAug i (tI X.wk W m) t D σ H → tAug i (tI X.wk W m) (fun x y H Q => ipI (fun i j => i + j) x y H Q ∨ rExt2 x y H Q) D σ H := by
      intro t hi ⟨x, ex, F, A, ρ, R0, q⟩
      refine ⟨x, ex, F, A, ρ, R0, q.imp fun r ρ' _ z F' A' H' v Bs g => hi _ _ _ _ (z F' A' H' v Bs g)⟩
    unfold sAugAdd at q
    split at q
    · exact imp (fun _ _ _ _ z => .inr z) (augL_run (c := X.wk) (W := W) (fun _ _ _ z => z) ⟨ρ, F, A, R0, q⟩)
    · exact imp (fun _ _ _ _ z => .inl z) (augI_run (c := X.wk) (W := W) (fun _ _ _ z => z) (fun a j b H Q e q => by cases e; exact ⟨a, j, rfl, rfl, q⟩) ⟨ρ, F, A, R0, q⟩)
theorem s_augSub {i : Nat} {x : Str} {pos' : Pos} {m : M RV} (hN : X.N.Nodup) (hi : X.N[i]? = some x) (hx : Loc X.env.scope x) (he : PE X e (tI X.wk W m)) (hf : X.fn x = true ∨ X.env.scope.names.lookup x = some .local := by first | exact .inl rfl | exact .inr rfl | assumption) :
    PS X (.AugAssign (.Name x pos') .Sub e pos) (tIS X.wk W (sAugI (fun a j => some (a - j)) i m)) := (ps_aug hN hi hx he ip_sub hf).to fun D σ H q => augI_run (c := X.wk) (W := W) (fun _ _ _ z => z) (fun a j b H Q e q => by cases e; exact ⟨a, j, rfl, rfl, q⟩) q
end
end VS
namespace VS
open PySem PySem.Spec PyProof.Rows L2
section
variable {c : WK} {W : WX} {X : Cx} {e e1 e2 e3 : Expr} {es : List Expr} {pos p : Pos} {ma mb mc : M RV} {mt : M (List RV)} {kk : Nat}
/-! ### zip, enumerate -/
def pairD (x y : D) : D := .tup [x, y]
def srcZ : List D → M Src := fun ds ρ => match ds with
  | [.lst xs, .lst ys] => .ok ⟨List.zipWith pairD xs ys, none⟩ ρ
  | [.tup xs, .tup ys] => .ok ⟨List.zipWith pairD xs ys, none⟩ ρ
  | _ => .stuck
theorem zip_yld {K : PySem.W.Frag} {F : Hp} {xs ys : List D} {vs ws : List V} {i : Nat} {x y : V} (h1 : Reps K F xs vs) (h2 : Reps K F ys ws) (e1 : vs[i]? = some x) (e2 : ws[i]? = some y) : ∃ dx dy, (List.zipWith pairD xs ys)[i]? = some (pairD dx dy) ∧ Rep K F dx x ∧ Rep K F dy y := by
  obtain ⟨dx, ex, rx⟩ := Reps.getv h1 e1
  obtain ⟨dy, ey, ry⟩ := Reps.getv h2 e2
  exact ⟨dx, dy, by rw [List.getElem?_zipWith, ex, ey], rx, ry⟩
theorem reps2 {K : PySem.W.Frag} {F : Hp} {d e : D} {vs : List V} (h : Reps K F [d, e] vs) : ∃ v w, vs = [v, w] ∧ Rep K F d v ∧ Rep K F e w := by
  obtain ⟨v, r, rfl, h1, h2⟩ := h.inv
  obtain ⟨w, r, rfl, h3, h4⟩ := h2.inv
  have := h4.inv0; subst this
  exact ⟨v, w, rfl, h1, h3⟩
theorem reps1 {K : PySem.W.Frag} {F : Hp} {d : D} {vs : List V} (h : Reps K F [d] vs) : ∃ v, vs = [v] ∧ Rep K F d v := by
  obtain ⟨v, r, rfl, h1, h2⟩ := h.inv
  have := h2.inv0; subst this
  exact ⟨v, rfl, h1⟩
theorem srcZ_L {F0 : Hp} {ρ0 : Env} {σ0 : L2.St} {a b : Addr} {vs ws : List V} {xs ys : List D} (h : SqL c.K F0 a vs) (r : Reps c.K F0 xs vs) (h' : SqL c.K F0 b ws) (r' : Reps c.K F0 ys ws) : SrcOk c F0 ρ0 σ0 (Itz c.K a b) ⟨List.zipWith pairD xs ys, none⟩ where
  go := fun i F A ρ σ H R s _ hi => by
    rw [List.length_zipWith] at hi
    have h1 : i < vs.length := by rw [r.length]; omega
    have h2 : i < ws.length := by rw [r'.length]; omega
    exact ⟨vs, ws, vs[i], ws[i], sub_l (s.trans R.le) h, sub_l (s.trans R.le) h', by simp [h1], by simp [h2]⟩
  stop := fun F A ρ σ H R s _ => ⟨vs, ws, sub_l (s.trans R.le) h, sub_l (s.trans R.le) h', by
    show vs.length ≤ (List.zipWith pairD xs ys).length ∨ ws.length ≤ (List.zipWith pairD xs ys).length
    rw [List.length_zipWith, r.length, r'.length]; omega⟩
  yld := fun i F A ρ σ H x H' R s _ hi y => by
    obtain ⟨T, v, w, rfl, hT, rfl, y1, y2⟩ := y
    obtain ⟨dx, dy, e, rx, ry⟩ := zip_yld r r' (y1 vs (sub_l (s.trans R.le) h)) (y2 ws (sub_l (s.trans R.le) h'))
    have g := Grow.fix R.le (o := .tup [v, w]) hT
    refine ⟨_, _, g, e, ?_⟩
    exact Rep.tup_iff.mpr ⟨T, [v, w], rfl, .inl (.inl upd_same), .cons (Rep.sub (s.trans g.mono) _ _ rx) (.cons (Rep.sub (s.trans g.mono) _ _ ry) .nil)⟩
theorem srcZ_T {F0 : Hp} {ρ0 : Env} {σ0 : L2.St} {a b : Addr} {vs ws : List V} {xs ys : List D} (h : SqT c.K F0 a vs) (r : Reps c.K F0 xs vs) (h' : SqT c.K F0 b ws) (r' : Reps c.K F0 ys ws) : SrcOk c F0 ρ0 σ0 (RZ.ItzT c.K a b) ⟨List.zipWith pairD xs ys, none⟩ where
  go := fun i F A ρ σ H R s _ hi => by
    rw [List.length_zipWith] at hi
    have h1 : i < vs.length := by rw [r.length]; omega
    have h2 : i < ws.length := by rw [r'.length]; omega
    exact ⟨vs, ws, vs[i], ws[i], sub_t (s.trans R.le) h, sub_t (s.trans R.le) h', by simp [h1], by simp [h2]⟩
  stop := fun F A ρ σ H R s _ => ⟨vs, ws, sub_t (s.trans R.le) h, sub_t (s.trans R.le) h', by
    show vs.length ≤ (List.zipWith pairD xs ys).length ∨ ws.length ≤ (List.zipWith pairD xs ys).length
    rw [List.length_zipWith, r.length, r'.length]; omega⟩
  yld := fun i F A ρ σ H x H' R s _ hi y => by
    obtain ⟨T, v, w, rfl, hT, rfl, y1, y2⟩ := y
    obtain ⟨dx, dy, e, rx, ry⟩ := zip_yld r r' (y1 vs (sub_t (s.trans R.le) h)) (y2 ws (sub_t (s.trans R.le) h'))
    have g := Grow.fix R.le (o := .tup [v, w]) hT
    refine ⟨_, _, g, e, ?_⟩
    exact Rep.tup_iff.mpr ⟨T, [v, w], rfl, .inl (.inl upd_same), .cons (Rep.sub (s.trans g.mono) _ _ rx) (.cons (Rep.sub (s.trans g.mono) _ _ ry) .nil)⟩
theorem p_zip {elts : List Expr} {k : Nat} {tpos : Pos} {md : M (List D)} (hg : Gl X "zip") (hm : X.mg "zip" = none) (ha : PA X [e1, e2] (tIDs X.wk W md)) (hs : starEach [e1, e2] X.env = (false, eval e1 X.env) :: starEach [e2] X.env := by rfl)
    (hpl : (backTo pos (starEach [e2] X.env)).any (·.1) = false := by rfl) : PI X (.Tuple elts k tpos) (.Call (.Name "zip" p) [e1, e2] [] pos) (tII X.wk W (md.bind srcZ)) :=
  (RZ.pi_zipA hg hm ha hs hpl).to fun σ H Q ⟨ρ, F, A, R0, q⟩ => by
    refine ⟨ρ, F, A, R0, q.bind fun ds ρ1 e1 q1 F1 A1 H1 vs s1 r1 => ?_⟩
    unfold srcZ at q1
    split at q1
    · rename_i xs ys
      obtain ⟨v, w, rfl, h1, h2⟩ := reps2 r1
      obtain ⟨a, vs, rfl, q1', r3⟩ := Rep.lst_iff.mp h1
      obtain ⟨b, ws, rfl, q2', r2⟩ := Rep.lst_iff.mp h2
      exact ⟨a, b, vs, ws, rfl, .inl ⟨sub_l s1.r.le q1', sub_l s1.r.le q2', q1 F1 A1 H1 _ s1 .none (srcZ_L q1' r3 q2' r2)⟩⟩
    · rename_i xs ys
      obtain ⟨v, w, rfl, h1, h2⟩ := reps2 r1
      obtain ⟨a, vs, rfl, q1', r3⟩ := Rep.tup_iff.mp h1
      obtain ⟨b, ws, rfl, q2', r2⟩ := Rep.tup_iff.mp h2
      exact ⟨a, b, vs, ws, rfl, .inr ⟨sub_t s1.r.le q1', sub_t s1.r.le q2', q1 F1 A1 H1 _ s1 .none (srcZ_T q1' r3 q2' r2)⟩⟩
    · exact q1.elim
def enumD (ds : List D) : List D := ds.zipIdx.map fun p => pairD (.int (p.2 : Nat)) p.1
def srcE : List D → M Src := fun ds ρ => match ds with
  | [.lst xs] => .ok ⟨enumD xs, none⟩ ρ
  | _ => .stuck
theorem enumD_get {ds : List D} {i : Nat} {d : D} (h : ds[i]? = some d) : (enumD ds)[i]? = some (pairD (.int (i : Nat)) d) := by
  unfold enumD
  rw [List.getElem?_map, List.getElem?_zipIdx, h]; simp
theorem p_enum {elts : List Expr} {k : Nat} {tpos : Pos} {md : M (List D)} (hg : Gl X "enumerate") (hm : X.mg "enumerate" = none) (ha : PA X [e] (tIDs X.wk W md)) (hs : starEach [e] X.env = [(false, eval e X.env)] := by rfl) : PI X (.Tuple elts k tpos) (.Call (.Name "enumerate" p) [e] [] pos) (tII X.wk W (md.bind srcE)) :=
  (pi_enum hg hm ha hs).to fun σ H Q ⟨ρ, F, A, R0, q⟩ => by
    refine ⟨ρ, F, A, R0, q.bind fun ds ρ1 e1 q1 F1 A1 H1 vs s1 r1 => ?_⟩
    unfold srcE at q1
    split at q1
    · rename_i xs
      obtain ⟨v, rfl, h1⟩ := reps1 r1
      obtain ⟨a, vs, rfl, q1', r1⟩ := Rep.lst_iff.mp h1
      refine ⟨a, vs, rfl, sub_l s1.r.le q1', q1 F1 A1 H1 _ s1 .none ⟨fun i F A ρ σ H R s _ hi => ?_, fun F A ρ σ H R s _ => ?_, fun i F A ρ σ H x H' R s _ hi y => ?_⟩⟩
      · have hi : i < vs.length := by rw [r1.length]; simpa [enumD] using hi
        exact ⟨vs, vs[i], sub_l (s.trans R.le) q1', by simp [hi]⟩
      · exact ⟨vs, sub_l (s.trans R.le) q1', by rw [r1.length]; simp [enumD]⟩
      · obtain ⟨T, v, rfl, hT, rfl, y1⟩ := y
        obtain ⟨d, ed, rd⟩ := Reps.getv r1 (y1 vs (sub_l (s.trans R.le) q1'))
        have g := Grow.fix R.le (o := .tup [.int (i : Nat), v]) hT
        exact ⟨_, _, g, enumD_get ed, Rep.tup_iff.mpr ⟨T, [.int (i : Nat), v], rfl, .inl (.inl upd_same), .cons (Rep.int_iff.mpr rfl) (.cons (Rep.sub (s.trans g.mono) _ _ rd) .nil)⟩⟩
    · exact q1.elim
/-! ### dict(a list of pairs), the keys tuples -/
def dputs : List (D × D) → List D → Option (List (D × D))
  | kvs, [] => some kvs
  | kvs, .tup [k, v] :: ds => match keyOf k with
    | some n => dputs (dput kvs k n v) ds
    | none => none
  | _, _ :: _ => none
def gDict (f : Fld) : Option RV := match asL f with
  | some ds => if ds.length ≤ lim then (dputs [] ds).map fun kvs => .fl (.dct true kvs) else none
  | none => none
theorem pairs_of {pins : List (Addr × Obj)} {σ : L2.St} {F H : Hp} {s : Shared} (I : Inv X pins σ H s) (sub : Sub F H) : ∀ (ds : List D) (vs : List V) (its : List Value) (kvs0 kvs : List (D × D)) (xs0 : List (NestedKey × Addr × Value)),
    dputs kvs0 ds = some kvs → Paired (EntR X.K F) kvs0 xs0 → (∀ x ∈ xs0, x.1.depth ≤ 8) → Reps X.K F ds vs → Vals vs its →
    ∃ (Ts : List Addr) (qs : List (NestedKey × Addr × Value)), its = Ts.map Value.ref ∧ Ts.length = qs.length ∧ (∀ (j : Nat) (T : Addr) (q : NestedKey × Addr × Value), Ts[j]? = some T → qs[j]? = some q → s.heap.IsTuple T #[.ref q.2.1, q.2.2]) ∧
      Paired (EntR X.K F) kvs (storedAllH xs0 qs) ∧ (∀ x ∈ storedAllH xs0 qs, x.1.depth ≤ 8) ∧ ∀ x ∈ qs, (nestedKind X.prog X.w).is s.heap x.1 x.2.1
  | [], vs, its, kvs0, kvs, xs0, e, p, hd, h, r => by
    cases e
    have := h.inv0; subst this; cases r
    exact ⟨[], [], rfl, rfl, (fun j T q e => by simp at e), p, hd, fun x hx => nomatch hx⟩
  | d :: ds, vs, its, kvs0, kvs, xs0, e, p, hd, h, r => by
    unfold dputs at e
    split at e
    · rename_i h0; cases h0
    · rename_i k v ds' ed
      cases ed
      split at e
      · rename_i n en
        obtain ⟨k1, k2, ks, rfl⟩ := keyOf_ok en
        obtain ⟨w, ws, rfl, h1, h2⟩ := h.inv
        obtain ⟨T, as, rfl, qT, rT⟩ := Rep.tup_iff.mp h1
        obtain ⟨kx, vx, rfl, rk, rv⟩ := reps2 rT
        obtain ⟨b, rfl⟩ := Rep.isRef rk
        cases r with
        | @cons x u xs us r1 r2 =>
          cases (show u = Value.ref T from r1)
          obtain ⟨its2, rv2, ⟨o, ho, hc, m, hdat⟩, hz⟩ := I.tuple (sub_t sub qT)
          cases rv2 with
          | @cons _ ku _ t1 a1 a2 =>
            cases a2 with
            | @cons _ vu _ t2 b1 b2 =>
              cases b2
              cases (show ku = Value.ref b from a1)
              have p' := ent_put (u := vu) p k1 rk b1 rv
              have hd' : ∀ x ∈ storedH xs0 n b vu, x.1.depth ≤ 8 := by
                intro x hx
                unfold storedH at hx
                split at hx
                · obtain ⟨y, hy, rfl⟩ := List.mem_map.mp hx
                  unfold putAt
                  split
                  · exact hd y hy
                  · exact hd y hy
                · rcases List.mem_append.mp hx with hx | hx
                  · exact hd x hx
                  · rw [List.mem_singleton] at hx; subst hx; exact k2
              obtain ⟨Ts, qs, e1, e2, e3, e4, e5, e6⟩ := pairs_of I sub ds ws us _ kvs _ e p' hd' h2 r2
              refine ⟨T :: Ts, (n, b, vu) :: qs, by rw [e1]; rfl, by rw [List.length_cons, List.length_cons, e2], fun j T' q ej eq => ?_, e4, e5, fun x hx => ?_⟩
              · cases j with
                | zero =>
                  simp at ej eq; subst ej; subst eq
                  exact ⟨o, ho, hc, m, hdat⟩
                | succ j => exact e3 j T' q (by simpa using ej) (by simpa using eq)
              · rcases List.mem_cons.mp hx with rfl | hx
                · exact ⟨nested_of I sub _ _ _ _ k1 rk rfl, k2⟩
                · exact e6 x hx
      · cases e
    · cases e
def rDictK (c : WK) : List V → Hp → VK → Prop := fun xs H Q => ∃ (F : Hp) (a : Addr) (vs : List V) (ds : List D) (kvs : List (D × D)), Sub F H ∧ xs = [V.ref a] ∧ SqL c.K H a vs ∧ Reps c.K F ds vs ∧ dputs [] ds = some kvs ∧ ds.length ≤ lim ∧
  ∀ p u, H p = none → DctO c F p kvs true u → Q (.ref p) (upd H p u)
theorem dput_length (kvs : List (D × D)) (kd : D) (k : NestedKey) (v : D) : (dput kvs kd k v).length ≤ kvs.length + 1 := by
  unfold dput
  split
  · rw [List.length_map]; omega
  · rw [List.length_append, List.length_singleton]; exact Nat.le_refl _
theorem dputs_length : ∀ (ds : List D) (kvs0 kvs : List (D × D)), dputs kvs0 ds = some kvs → kvs.length ≤ kvs0.length + ds.length
  | [], _, _, e => by cases e; simp
  | d :: ds, kvs0, kvs, e => by
    unfold dputs at e
    split at e
    · rename_i h0; cases h0
    · rename_i k v ds' ed
      cases ed
      split at e
      · rename_i n en
        have h1 := dputs_length ds _ _ e
        refine Nat.le_trans h1 ?_
        rw [List.length_cons, Nat.add_comm _ 1, ← Nat.add_assoc]
        exact Nat.add_le_add_right (dput_length _ _ _ _) _
      · cases e
    · cases e
theorem call_dictK (hcalm : X.calm = true) (hr : Room kk X.A) : CallR X (.type "dict") (rDictK X.wk) := by
  intro pins s σ H xs us Q I r h
  obtain ⟨F, a, vs, ds, kvs, sub, rfl, hs, rs, ek, hz, q⟩ := h
  rw [Vals.ref1 r]
  obtain ⟨its, rv, hl, hz'⟩ := I.list hs
  obtain ⟨Ts, qs, rfl, e2, e3, e4, e5, e6⟩ := pairs_of I sub ds vs its [] kvs [] ek .nil (fun x hx => nomatch hx) rs rv
  have hlen : ds.length = qs.length := by rw [← rs.length, rv.length, List.length_map, e2]
  have lim' := lim_le
  refine call_dict_pairsH (knd := nestedKind X.prog X.w) (ps := qs) (PairArg.list a (Ts.map Value.ref).toArray (fun j => Ts.getD j 0) (qs.map fun q => (Value.ref q.2.1, q.2.2))) (I.ok.hd hcalm) ?_ ⟨hl, ?_, fun j k v hj => ?_⟩ ⟨by rw [List.length_map], fun i key v hi => ?_⟩ (fun h' hk x hx => ?_) (by rw [List.length_map, ← hlen]; omega) fun h' tk hd' hk => ?_
  · show X.A.units + 1 + 1 + 8 < cLine
    have := hr.un
    omega
  · rw [List.size_toArray, List.length_map, List.length_map, e2]
  · rw [List.getElem?_map] at hj
    obtain ⟨q, eq, e⟩ := Option.map_eq_some_iff.mp hj
    cases e
    have hjl : j < Ts.length := by rw [e2]; exact (List.getElem?_eq_some_iff.mp eq).1
    have eT : Ts[j]? = some Ts[j] := by simp [hjl]
    refine ⟨?_, .inl ?_⟩
    · simp [hjl, List.getD_eq_getElem?_getD]
    · show s.heap.IsTuple (Ts.getD j 0) _
      rw [List.getD_eq_getElem?_getD, eT]
      exact e3 j _ q eT eq
  · have hi : (qs.map fun q => (Value.ref q.2.1, q.2.2))[i]? = some (key, v) := hi
    rw [List.getElem?_map] at hi
    obtain ⟨q, eq, e⟩ := Option.map_eq_some_iff.mp hi
    cases e
    exact ⟨q.1, q.2.1, eq, rfl⟩
  · have x6 := e6 x hx
    refine ⟨NestedIs.at (fun b o vs n hb hc => hk b o (Nat.ne_of_lt (Heap.lt_size hb)) (fun z => nomatch z) hb) _ _ x6.1, x6.2⟩
  · have hsm : (s.heap.objs.size == sysModules) = false := beq_eq_false_iff_ne.mpr (Nat.ne_of_gt I.big)
    have hkl : kvs.length ≤ sizeLine := by have := dputs_length _ _ _ ek; simp at this; omega
    obtain ⟨o, eo, dd⟩ := dct_back (X := X) (F := F) hd' e4 hsm hkl e5
    exact ⟨.ref s.heap.objs.size, upd H s.heap.objs.size (exO s.heap.objs.size o), I.laid (t' := tk) (fun b u e => hk b u (fun z => nomatch z) e) (Nat.le_refl _) (exO_ok eo), rfl, q _ _ (I.hok.fresh (Nat.le_refl _)) dd⟩
theorem Fin1.dct {F H : Hp} {Q : VK} {t : Bool} {kvs : List (D × D)} (s : Sub F H) (f : Fin1 c F H (.fl (.dct t kvs)) Q) {p : Addr} {u : HO} (n : H p = none) (h : DctO c F p kvs t u) : Q (.ref p) (upd H p u) :=
  f F _ _ [p] (.box s n) ⟨p, u, rfl, rfl, s.free n, upd_same, h⟩ (by simp) fun a ha => by rw [List.mem_singleton] at ha; subst ha; exact n
theorem i_dict {ma : M (List RV)} (hc : X.calm = true) (hr : Room kk X.A) (hg : Gl X "dict") (hm : X.mg "dict" = none) (ha : PA X [e] (tIA X.wk W ma)) (he : starEach [e] X.env = (false, eval e X.env) :: starEach [] X.env := by rfl) (hpl : (backTo pos (starEach [] X.env)).any (·.1) = false := by rfl) :
    PE X (.Call (.Name "dict" p) [e] [] pos) (tI X.wk W (mOpN (one1 gDict) ma)) :=
  i_callT (call_dictK hc hr) (SndN.one fun F H x f q Q s hx e fin => by
    unfold gDict at e
    split at e
    · rename_i ds es
      split at e
      · rename_i hz
        obtain ⟨kvs, ek, rfl⟩ := Option.map_eq_some_iff.mp e
        obtain ⟨a, vs, rfl, q1, r1⟩ := hx.asL s es
        exact ⟨F, a, vs, ds, kvs, s, rfl, q1, r1, ek, hz, fun p u hp hd => fin.dct s hp hd⟩
      · cases e
    · cases e) hg hm (by rfl) ha (by decide) (by decide) he hpl
end
end VS
namespace VS
open PySem PySem.Spec PyProof.Rows L2
section
variable {c : WK} {W : WX} {X : Cx} {e e1 e2 e3 : Expr} {es : List Expr} {pos p : Pos} {ma mb mc : M RV} {mt : M (List RV)} {kk : Nat}
/-! ### [.. for .. in .. for .. in ..] -/
def cloop2 (tg : Tg) (cond : M Bool) (src1 : M Src) (tg1 : Tg) (cond1 : M Bool) (elt : M RV) (vs vs1 : List Nat) : List D → List D → Env → Res (List D)
  | [], acc, ρ => .ok acc ρ
  | d :: ds, acc, ρ => match tg d ρ with
    | some ρ1 => (cond.bind fun k => if k = true then src1.bind fun S1 ρ2 => match S1.lk, cloop tg1 cond1 elt vs1 S1.ds acc (wipeE ρ2 vs1) with
      | none, .ok acc' ρ3 => cloop2 tg cond src1 tg1 cond1 elt vs vs1 ds acc' (wipeE ρ3 vs)
      | _, _ => .stuck
      else fun ρ2 => cloop2 tg cond src1 tg1 cond1 elt vs vs1 ds acc (wipeE ρ2 vs)) ρ1
    | none => .stuck
def mComp2 (src : M Src) (vs vs1 : List Nat) (tg : Tg) (cond : M Bool) (src1 : M Src) (tg1 : Tg) (cond1 : M Bool) (elt : M RV) : M RV := src.bind fun S ρ => if lkOff S vs = true then
    match cloop2 tg cond src1 tg1 cond1 elt vs vs1 S.ds [] (wipeE (lck S ρ) vs) with
    | .ok acc ρ' => .ok (.fl (.lst acc)) (unlk S ρ (unw (lck S ρ) vs ρ'))
    | _ => .stuck
  else .stuck
theorem wipe_sub {σ : L2.St} {vs vs1 : List Nat} (h : ∀ j ∈ vs1, j ∈ vs) : wipe (wipe σ vs1) vs = wipe σ vs := by
  refine ext_getD (by rw [wipe_length, wipe_length, wipe_length]) fun j => ?_
  rw [wipe_get, wipe_get, wipe_get]
  by_cases hj : j ∈ vs
  · rw [if_pos hj, if_pos hj]
  · rw [if_neg hj, if_neg hj, if_neg fun z => hj (h j z)]
/-- an inner turn is over -/
theorem Stp.rewipe1 {F F1 H H1 : Hp} {A A1 : Ow} {ρ ρ1 : Env} {σ σ1 σ2 : L2.St} {vs vs1 : List Nat} (hv : ∀ j ∈ vs1, j ∈ vs) (s : Stp c F A (wipeE ρ vs) (L2.wipe σ vs) H F1 A1 ρ1 σ1 H1) (h : L2.wipe σ1 vs1 = L2.wipe σ2 vs1) : Stp c F A (wipeE ρ vs) (L2.wipe σ vs) H F1 (A1.off vs1) (wipeE ρ1 vs1) (L2.wipe σ2 vs1) H1 where
  r := by have := s.r.wipe vs1; rw [h] at this; exact this
  x := ⟨s.x.mono, s.x.keep, fun i a ha => s.x.new i a (off_sub ha), s.x.gone⟩
  k := fun j hj => by
    have hn : j ∉ vs := fun z => hj (by rw [wipeE_get, if_pos z]; rfl)
    have hn1 : j ∉ vs1 := fun z => hn (hv j z)
    obtain ⟨k1, k2, k3⟩ := s.k j hj
    refine ⟨?_, ?_, fun e => ?_⟩
    · rw [← h, wipe_get, if_neg hn1]; exact k1
    · rw [wipeE_get (j := j) ρ1, if_neg hn1]; exact k2
    · rw [wipeE_get (j := j) ρ1, if_neg hn1]; exact k3 e
  l := by rw [← h, wipe_length]; exact s.l
theorem lck_none {S : Src} {ρ : Env} (h : S.lk = none) : lck S ρ = ρ := by unfold lck; rw [h]
theorem bind_src {α : Type} {m : M Src} {k : Src → M α} {ρ ρ' : Env} {b : α} (h : m.bind k ρ = .ok b ρ') : ∃ S ρ1, m ρ = .ok S ρ1 ∧ k S ρ1 = .ok b ρ' := bind_ok h
theorem lc2_of {src : M Src} {vs vs1 l l1 : List Nat} {tg tg1 : Tg} {cond cond1 : M Bool} {src1 : M Src} {elt : M RV} (hl : ∀ j ∈ l, j ∈ vs) (hl1 : ∀ j ∈ l1, j ∈ vs1) (hv : ∀ j ∈ vs1, j ∈ vs) {σ : L2.St} {H : Hp} {Q : VK} (h : tI c W (mComp2 src vs vs1 tg cond src1 tg1 cond1 elt) σ H Q) :
    tLc2 (tII c W src) (tgI c l tg) (tIB c W0 cond) (tII c W0 src1) (tgI c l1 tg1) (tIB c W0 cond1) (tID c W0 (mEsc elt)) vs vs1 σ H Q := by
  obtain ⟨ρ, F, A, R0, q⟩ := h
  refine ⟨ρ, F, A, R0, q.bind fun S ρ1 e1 q1 F1 A1 H1 J s1 hlk so D hD => ?_⟩
  split at q1
  · rename_i hoff
    split at q1
    · rename_i accF ρF ec
      have R1 : R c F1 A1 (lck S ρ1) σ H1 := s1.r.lck S
      have Rw := R1.wipe vs
      have nAD : ∀ j, D ∉ (A1.off vs) j := fun j hj => by
        obtain ⟨_, o, e⟩ := Rw.own hj
        rw [hD] at e; cases e
      have FD : F1 D = none := s1.r.le.free hD
      have i_off : ∀ i, S.lk = some i → i ∉ vs := fun i ei => by
        unfold lkOff at hoff
        rw [ei] at hoff
        simpa using hoff
      refine ⟨fun i m H' => m = S.ds.length - i ∧ i ≤ S.ds.length ∧ ∃ acc vacc ρ' F' A', Stp c F1 (A1.off vs) (wipeE (lck S ρ1) vs) (wipe σ vs) H1 F' A' ρ' (wipe σ vs) H' ∧ H' D = some (.lst vacc) ∧ Reps c.K F' acc vacc ∧ F' D = none ∧ (∀ j, D ∉ A' j) ∧ cloop2 tg cond src1 tg1 cond1 elt vs vs1 (S.ds.drop i) acc ρ' = .ok accF ρF,
        ⟨S.ds.length, rfl, Nat.zero_le _, [], [], wipeE (lck S ρ1) vs, F1, A1.off vs, (Stp.refl Rw).upd hD FD nAD, upd_same, .nil, FD, nAD, ec⟩, ?_⟩
      rintro i m H2 ⟨rfl, hi2, acc, vacc, ρ2, F2, A2, s2, hD2, rep2, FD2, nA2, ec2⟩
      have st : Stays S (lck S ρ1) σ ρ2 (wipe σ vs) := fun i ei => by
        have hn := i_off i ei
        have hi : i < ρ1.length := lt_of_getD (hlk i ei)
        have hl : (lck S ρ1).getD i .un = reM .lk (ρ1.getD i .un) := by unfold lck; rw [ei]; exact getD_set_same hi
        have hw : (wipeE (lck S ρ1) vs).getD i .un = (lck S ρ1).getD i .un := by rw [wipeE_get, if_neg hn]
        have hm : modeOf ((wipeE (lck S ρ1) vs).getD i .un) = .lk := by rw [hw, hl]; exact modeOf_reM (hlk i ei)
        obtain ⟨k1, k2, k3⟩ := s2.k i (by rw [hm]; exact fun z => nomatch z)
        exact ⟨(k3 hm).trans hw, by rw [wipe_get, if_neg hn]⟩
      by_cases hlt : i < S.ds.length
      · refine .inr ⟨so.go i F2 A2 ρ2 _ H2 s2.r s2.x.mono st hlt, fun H' => i + 1 ≤ S.ds.length ∧ ∃ acc vacc ρ' F' A', Stp c F1 (A1.off vs) (wipeE (lck S ρ1) vs) (wipe σ vs) H1 F' A' ρ' (wipe σ vs) H' ∧ H' D = some (.lst vacc) ∧ Reps c.K F' acc vacc ∧ F' D = none ∧ (∀ j, D ∉ A' j) ∧ cloop2 tg cond src1 tg1 cond1 elt vs vs1 (S.ds.drop (i + 1)) acc ρ' = .ok accF ρF,
          fun H' z => ⟨S.ds.length - (i + 1), by omega, rfl, z⟩, fun x H3 y => ?_⟩
        obtain ⟨F3, d, gr, ed, rep⟩ := so.yld i F2 A2 ρ2 _ H2 x H3 s2.r s2.x.mono st hlt y
        have s3 := s2.grow gr
        obtain ⟨hD3, FD3'⟩ := gr.keep D _ hD2
        have FD3 : F3 D = none := FD3'.trans FD2
        have ed2 : S.ds.drop i = d :: S.ds.drop (i + 1) := by
          obtain ⟨h1, h2⟩ := List.getElem?_eq_some_iff.mp ed
          rw [← h2]; exact List.drop_eq_getElem_cons h1
        rw [ed2] at ec2
        unfold cloop2 at ec2
        cases e4 : tg d ρ2 with
        | none => rw [e4] at ec2; cases ec2
        | some ρ3 =>
          rw [e4] at ec2
          refine ⟨ρ2, F3, A2, d, ρ3, s3.r, rep, e4, fun A4 σ4 s4 o4 => ?_⟩
          have hw4 : wipe σ4 vs = wipe σ vs := by rw [wipe_off s4.l o4 hl, wipe_wipe]
          refine ⟨hw4, ?_⟩
          obtain ⟨k, ρ5, e5, ec5⟩ := bind_ok ec2
          refine ⟨ρ3, F3, A4, s4.r, OutG.ok e5 fun F5 A5 H5 s5 => ?_⟩
          have s45 := s4.trans s5
          obtain ⟨hD5, FD5'⟩ := s45.x.keep D _ hD3 nA2
          have FD5 : F5 D = none := FD5'.trans FD3
          have nA5 : ∀ j, D ∉ A5 j := fun j hj => by
            rcases s45.x.new j D hj with ⟨n, hn⟩ | z
            · exact nA2 n hn
            · rw [hD3] at z; cases z
          have s15 := s3.trans s45
          cases k with
          | false =>
            simp only [Bool.false_eq_true, if_false] at ec5 ⊢
            exact ⟨hlt, acc, vacc, _, F5, A5.off vs, s15.rewipe hw4, hD5, Reps.sub (gr.mono.trans s45.x.mono) _ _ rep2, FD5, fun j z => nA5 j (off_sub z), ec5⟩
          | true =>
            simp only [if_true] at ec5 ⊢
            obtain ⟨S1, ρ6, e6, ec6⟩ := bind_src ec5
            refine ⟨ρ5, F5, A5, s5.r, OutG.ok e6 fun F6 A6 H6 J1 s6 lk6 so6 => ?_⟩
            obtain ⟨hD6, FD6'⟩ := s6.x.keep D _ hD5 nA5
            have FD6 : F6 D = none := FD6'.trans FD5
            have nA6 : ∀ j, D ∉ A6 j := fun j hj => by
              rcases s6.x.new j D hj with ⟨n, hn⟩ | z
              · exact nA5 n hn
              · rw [hD5] at z; cases z
            have rep6 : Reps c.K F6 acc vacc := Reps.sub ((gr.mono.trans s45.x.mono).trans s6.x.mono) _ _ rep2
            have s16 := s15.trans s6
            split at ec6
            · rename_i acc' ρ7 elk ei
              rw [lck_none elk] at so6
              refine ⟨fun j k H' => k = S1.ds.length - j ∧ j ≤ S1.ds.length ∧ ∃ acc vacc ρ' F' A', Stp c F1 (A1.off vs) (wipeE (lck S ρ1) vs) (wipe σ vs) H1 F' A' ρ' (wipe σ4 vs1) H' ∧ Sub F6 F' ∧ H' D = some (.lst vacc) ∧ Reps c.K F' acc vacc ∧ F' D = none ∧ (∀ j, D ∉ A' j) ∧ cloop tg1 cond1 elt vs1 (S1.ds.drop j) acc ρ' = .ok acc' ρ7,
                ⟨S1.ds.length, rfl, Nat.zero_le _, acc, vacc, wipeE ρ6 vs1, F6, A6.off vs1, Stp.rewipe1 hv s16 rfl, .refl _, hD6, rep6, FD6, fun j z => nA6 j (off_sub z), ei⟩, ?_⟩
              rintro j k H7 ⟨rfl, hj7, acc1, vacc1, ρ8, F8, A8, s8, sb8, hD8, rep8, FD8, nA8, ec8⟩
              have st1 : Stays S1 ρ6 σ4 ρ8 (wipe σ4 vs1) := fun i ei => by rw [elk] at ei; cases ei
              by_cases hjl : j < S1.ds.length
              · refine .inr ⟨so6.go j F8 A8 ρ8 _ H7 s8.r sb8 st1 hjl, fun H' => j + 1 ≤ S1.ds.length ∧ ∃ acc vacc ρ' F' A', Stp c F1 (A1.off vs) (wipeE (lck S ρ1) vs) (wipe σ vs) H1 F' A' ρ' (wipe σ4 vs1) H' ∧ Sub F6 F' ∧ H' D = some (.lst vacc) ∧ Reps c.K F' acc vacc ∧ F' D = none ∧ (∀ j, D ∉ A' j) ∧ cloop tg1 cond1 elt vs1 (S1.ds.drop (j + 1)) acc ρ' = .ok acc' ρ7,
                  fun H' z => ⟨S1.ds.length - (j + 1), by omega, rfl, z⟩, fun x1 H9 y1 => ?_⟩
                obtain ⟨F9, d1, gr1, ed1, rep1⟩ := so6.yld j F8 A8 ρ8 _ H7 x1 H9 s8.r sb8 st1 hjl y1
                have s9 := s8.grow gr1
                obtain ⟨hD9, FD9'⟩ := gr1.keep D _ hD8
                have FD9 : F9 D = none := FD9'.trans FD8
                have ed3 : S1.ds.drop j = d1 :: S1.ds.drop (j + 1) := by
                  obtain ⟨h1, h2⟩ := List.getElem?_eq_some_iff.mp ed1
                  rw [← h2]; exact List.drop_eq_getElem_cons h1
                rw [ed3] at ec8
                unfold cloop at ec8
                cases e10 : tg1 d1 ρ8 with
                | none => rw [e10] at ec8; cases ec8
                | some ρ9 =>
                  rw [e10] at ec8
                  refine ⟨ρ8, F9, A8, d1, ρ9, s9.r, rep1, e10, fun A10 σ10 s10 o10 => ?_⟩
                  have hw10 : wipe σ10 vs1 = wipe σ4 vs1 := by rw [wipe_off s10.l o10 hl1, wipe_wipe]
                  refine ⟨hw10, ?_⟩
                  obtain ⟨k1, ρ11, e11, ec11⟩ := bind_ok ec8
                  refine ⟨ρ9, F9, A10, s10.r, OutG.ok e11 fun F11 A11 H11 s11 => ?_⟩
                  have s101 := s10.trans s11
                  obtain ⟨hD11, FD11'⟩ := s101.x.keep D _ hD9 nA8
                  have FD11 : F11 D = none := FD11'.trans FD9
                  have nA11 : ∀ j, D ∉ A11 j := fun j hj => by
                    rcases s101.x.new j D hj with ⟨n, hn⟩ | z
                    · exact nA8 n hn
                    · rw [hD9] at z; cases z
                  have s111 := s9.trans s101
                  have sb11 : Sub F6 F11 := sb8.trans (gr1.mono.trans s101.x.mono)
                  cases k1 with
                  | false =>
                    simp only [Bool.false_eq_true, if_false] at ec11 ⊢
                    exact ⟨hjl, acc1, vacc1, _, F11, A11.off vs1, Stp.rewipe1 hv s111 hw10, sb11, hD11, Reps.sub (gr1.mono.trans s101.x.mono) _ _ rep8, FD11, fun j z => nA11 j (off_sub z), ec11⟩
                  | true =>
                    simp only [if_true] at ec11 ⊢
                    obtain ⟨y', ρ12, e12, ec12⟩ := bind_ok ec11
                    refine ⟨ρ11, F11, A11, s11.r, OutG.ok e12 fun F12 A12 H12 v12 s12 r12 => ?_⟩
                    obtain ⟨hD12, FD12'⟩ := s12.x.keep D _ hD11 nA11
                    have FD12 : F12 D = none := FD12'.trans FD11
                    have nA12 : ∀ j, D ∉ A12 j := fun j hj => by
                      rcases s12.x.new j D hj with ⟨n, hn⟩ | z
                      · exact nA11 n hn
                      · rw [hD11] at z; cases z
                    have rep12 : Reps c.K F12 acc1 vacc1 := Reps.sub ((gr1.mono.trans s101.x.mono).trans s12.x.mono) _ _ rep8
                    split at ec12
                    · rename_i hlen
                      exact ⟨vacc1, hD12, by rw [rep12.length]; exact hlen, hjl, acc1 ++ [y'], vacc1 ++ [v12], _, F12, A12.off vs1, Stp.rewipe1 hv ((s111.trans s12).upd hD FD12 nA12) hw10, sb11.trans s12.x.mono, upd_same, rep12.append (.cons r12 .nil), FD12, fun j z => nA12 j (off_sub z), ec12⟩
                    · cases ec12
              · have e : j = S1.ds.length := by omega
                subst e
                rw [List.drop_length] at ec8
                have ec8 : Res.ok acc1 ρ8 = .ok acc' ρ7 := ec8
                injection ec8 with ea eb
                subst ea; subst eb
                refine .inl ⟨so6.stop F8 A8 ρ8 _ H7 s8.r sb8 st1, hlt, acc1, vacc1, wipeE ρ8 vs, F8, A8.off vs, s8.rewipe (by rw [wipe_sub hv, hw4]), hD8, rep8, FD8, fun j z => nA8 j (off_sub z), ec6⟩
            · cases ec6
      · have e : i = S.ds.length := by omega
        subst e
        rw [List.drop_length] at ec2
        have ec2 : Res.ok acc ρ2 = .ok accF ρF := ec2
        injection ec2 with ea eb
        subst ea; subst eb
        refine .inl ⟨so.stop F2 A2 ρ2 _ H2 s2.r s2.x.mono st, ?_⟩
        have su := s1.unlk hlk ((Stp.refl R1).unw s2)
        refine q1 _ _ H2 (.ref D) [D] ⟨su, ⟨D, vacc, rfl, rfl, FD2, hD2, rep2⟩, by simp, fun j a ha hb => ?_, fun a ha => ?_⟩
        · rw [List.mem_singleton] at hb
          subst hb
          have ha : a ∈ (if j ∈ vs then A1 j else A2 j) := ha
          split at ha
          · obtain ⟨_, o, eo⟩ := R1.own ha
            rw [hD] at eo; cases eo
          · exact nA2 j ha
        · rw [List.mem_singleton] at ha
          subst ha
          exact .inr (s1.x.gone a hD)
    · exact q1.elim
  · exact q1.elim
theorem i_lc2 {elt tgt iter tgt1 iter1 : Expr} {ifs ifs1 : List Expr} {scope : Scope} {own : List (Str × Nat)} {vs1 : List Nat} {src src1 : M Src} {l l1 : List Nat} {tg tg1 : Tg} {cond cond1 : M Bool} {m : M RV} (hc : X.calm = true) (hN : X.N.Nodup) (hi : PI X tgt iter (tII X.wk W src)) (ok : BlkOk X.N X.env.scope scope own) (hv : ∀ i ∈ vs1, i ∈ own.map (·.2))
    (hg : ∀ (s : Shared) (H : Hp) (C : Addr) (cl : List (Str × Addr)) (fp : List Addr), PG (X.blk s H scope (compEnvC scope cl C X.env) fp) tgt (tgI X.wk l tg)) (ht : ∀ (s : Shared) (H : Hp) (C : Addr) (cl : List (Str × Addr)) (fp : List Addr), PTs (X.blk s H scope (compEnvC scope cl C X.env) fp) ifs (tIB X.wk W0 cond))
    (hi1 : ∀ (s : Shared) (H : Hp) (C : Addr) (cl : List (Str × Addr)) (fp : List Addr), PI (X.blk s H scope (compEnvC scope cl C X.env) fp) tgt1 iter1 (tII X.wk W0 src1))
    (hg1 : ∀ (s : Shared) (H : Hp) (C : Addr) (cl : List (Str × Addr)) (fp : List Addr), PG (X.blk s H scope (compEnvC scope cl C X.env) fp) tgt1 (tgI X.wk l1 tg1)) (ht1 : ∀ (s : Shared) (H : Hp) (C : Addr) (cl : List (Str × Addr)) (fp : List Addr), PTs (X.blk s H scope (compEnvC scope cl C X.env) fp) ifs1 (tIB X.wk W0 cond1))
    (he : ∀ (s : Shared) (H : Hp) (C : Addr) (cl : List (Str × Addr)) (fp : List Addr), PE (X.blk s H scope (compEnvC scope cl C X.env) fp) elt (tI X.wk W0 m)) (hl : ∀ j ∈ l, j ∈ own.map (·.2)) (hl1 : ∀ j ∈ l1, j ∈ vs1) (hs : ∀ x, foldedSetIterable iter X.env x = pure x := by intro _; rfl) (hs1 : ∀ env x, foldedSetIterable iter1 env x = pure x := by intro _ _; rfl) :
    PE X (.ListComp elt [⟨tgt, iter, ifs, 0⟩, ⟨tgt1, iter1, ifs1, 0⟩] scope pos) (tI X.wk W (mComp2 src (own.map (·.2)) vs1 tg cond src1 tg1 cond1 m)) :=
  (pe_lc2 hc hN hi ok hv hg ht hi1 hg1 ht1 (fun s H C cl fp => i_esc (X := X.blk s H scope (compEnvC scope cl C X.env) fp) (he s H C cl fp)) hs hs1).to fun σ H Q h => lc2_of hl hl1 hv h
end
end VS
namespace VS
open PySem PySem.Spec PyProof.Rows L2
section
variable {c : WK} {W : WX} {X : Cx} {e e1 e2 e3 : Expr} {es : List Expr} {pos p : Pos} {ma mb mc : M RV} {mt : M (List RV)} {kk : Nat}
/-! ### calls of defs -/
/-- a list of n results -/
def ArgN (n : Nat) (m : M (List RV)) : Prop := ∀ ρ rs ρ', m ρ = .ok rs ρ' → rs.length = n
theorem argN_nil : ArgN 0 mNil := fun ρ rs ρ' e => by
  unfold mNil at e
  injection e with e1 e2
  subst e1; rfl
theorem argN_cons {n : Nat} {a : M RV} {t : M (List RV)} (h : ArgN n t) : ArgN (n + 1) (mCons a t) := fun ρ rs ρ' e => by
  obtain ⟨r, ρ1, e1, e2⟩ := bind_ok e
  obtain ⟨rs', ρ2, e3, e4⟩ := bind_ok e2
  injection e4 with e5 e6
  subst e5
  rw [List.length_cons, h _ _ _ e3]
theorem i_call {j : Nat} {f : Addr} {fd : FuncData} {ps : List Str} {np : Nat} {G : Fn} {x : Str} {ms : M (List RV)} (F : FnOk X.prog X.w X.K X.mg X.base (L2.CX X.prog X.w) j f fd ps (spF X.wk np G)) (hn : ArgN np ms) (hr : Room j X.A) (tk : Takes X W) (hg : Gl X x) (hm : X.mg x = some (.ref f)) (hk : PySem.W.keepIn X.K (.ref f) = true) (hb : Binds X.K fd ps [])
    (ha : PA X (e :: es) (tIA X.wk W ms)) (hdb : (x == ("__debug__" : Str)) = false := by decide) (he : starEach (e :: es) X.env = (false, eval e X.env) :: starEach es X.env := by rfl) (hpl : (backTo pos (starEach es X.env)).any (·.1) = false := by rfl) :
    PE X (.Call (.Name x p) (e :: es) [] pos) (tI X.wk W (mCall G ms)) :=
  (pe_callS (E := WE W) F hr hg hm hk hb (passAt tk) ha hdb he hpl).to fun σ H Q h => call_of hn h
/-! ### a, b = x, y -/
def store2 (i j : Nat) : List RV → M Flo
  | [.fl f, .fl k] => fun ρ => if modeOf (ρ.getD i .un) = .own ∧ i < ρ.length ∧ modeOf (ρ.getD j .un) = .own ∧ j < ρ.length then .ok .nx ((ρ.set i (.fl .own f)).set j (.fl .own k)) else .stuck
  | _ => fun _ => .stuck
def sPar (i j : Nat) (m : M (List RV)) : M Flo := m.bind (store2 i j)
/-- one more box into a slot -/
theorem put_box {F F1 H H1 : Hp} {A A1 : Ow} {ρ ρ1 : Env} {σ σ1 : L2.St} {f : Fld} {v : V} {Bs : List Addr} {i : Nat} (s : Stp c F A ρ σ H F1 A1 ρ1 σ1 H1) (hm : modeOf (ρ1.getD i .un) = .own) (hi : i < ρ1.length) (hf : FldR c F1 H1 f v Bs) (nd : Bs.Nodup) (dj : ∀ j a, a ∈ A1 j → a ∉ Bs) (fr : ∀ a ∈ Bs, (∃ j, a ∈ A j) ∨ H a = none) :
    Stp c F A ρ σ H F1 (A1.put i Bs) (ρ1.set i (.fl .own f)) (σ1.set i (some v)) H1 :=
  ⟨s.r.put i _ Bs hi (.refl _) s.r.le (by rw [List.length_set]) (fun j hj => getD_set2 hj) (by rw [getD_set_same (by rw [← s.r.len]; exact hi)]; exact ⟨v, rfl, hf⟩) nd (fun j hj b o hb h => ⟨h, rfl⟩) (fun j _ a ha => dj j a ha),
    ⟨s.x.mono, s.x.keep, fun j b h => by
      by_cases hj : j = i
      · subst hj; rw [Ow.put_same] at h; exact fr b h
      · rw [Ow.put_ne hj] at h; exact s.x.new j b h, s.x.gone⟩, s.k.trans (Keep.put hm fun j hj => getD_set2 hj), by rw [List.length_set]; exact s.l⟩
theorem s_par {i j : Nat} {x y : Str} {px py pt : Pos} {kt k2 pt2} {m : M (List RV)} (hc : X.calm = true) (hN : X.N.Nodup) (hi : X.N[i]? = some x) (hj : X.N[j]? = some y) (hij : i ≠ j)
    (hx : X.env.scope.names.lookup x = some .local) (hy : X.env.scope.names.lookup y = some .local) (ha : PA X [e1, e2] (tIA X.wk W m))
    (hw : swappedStores [.Tuple [.Name x px, .Name y py] kt pt] (.Tuple [e1, e2] k2 pt2) X.env = pure (some [x, y]))
    (hs : swapsWithSole [.Tuple [.Name x px, .Name y py] kt pt] (.Tuple [e1, e2] k2 pt2) pos.line X.env = pure false := by rfl) :
    PS X (.Assign [.Tuple [.Name x px, .Name y py] kt pt] (.Tuple [e1, e2] k2 pt2) pos) (tIS X.wk W (sPar i j m)) :=
  (ps_par hc hN hi hj hij hx hy ha hw hs).to fun D σ H ⟨ρ, F, A, R0, q⟩ => by
    refine ⟨ρ, F, A, R0, q.bind fun rs ρ1 e1 q1 F1 A1 H1 vs Bs g1 => ?_⟩
    unfold store2 at q1
    split at q1
    · rename_i f k
      split at q1
      · rename_i hp
        cases hvs : g1.v with
        | @cons _ _ v vs As Bs' h1 h2 =>
          cases h2 with
          | @cons _ _ w vs Bs Cs h3 h4 =>
            cases h4
            refine ⟨v, w, rfl, ?_⟩
            have nd := g1.nd
            rw [List.append_nil] at nd
            obtain ⟨n1, n2, n3⟩ := List.nodup_append.mp nd
            have s2 := put_box g1.s hp.1 hp.2.1 h1 n1 (fun m a ha hb => g1.dj m a ha (List.mem_append_left _ hb)) (fun a ha => g1.fr a (List.mem_append_left _ ha))
            have s3 := put_box (i := j) (f := k) (v := w) (Bs := Bs) s2 (by rw [getD_set_ne (Ne.symm hij)]; exact hp.2.2.1) (by rw [List.length_set]; exact hp.2.2.2) h3 n2 (fun m a ha hb => by
              by_cases hm : m = i
              · subst hm; rw [Ow.put_same] at ha; exact n3 a ha a hb rfl
              · rw [Ow.put_ne hm] at ha; exact g1.dj m a ha (List.mem_append_right _ (List.mem_append_left _ hb))) (fun a ha => g1.fr a (List.mem_append_right _ (List.mem_append_left _ ha)))
            exact q1 F1 _ _ H1 s3
      · exact q1.elim
    · exact q1.elim
/-! ### len(set(..)), sorted(set(..)) -/
def ddI (ns : List Int) : List Int := ns.foldl step_dedup []
theorem firstMet_dd (ns : List Int) : firstMet (fun i => ns.getD i 0) ns.length = ddI ns := by
  unfold firstMet ddI
  congr 1
  refine List.ext_getElem (by simp) fun i h1 h2 => ?_
  simp [List.getD_eq_getElem?_getD, h2]
def gLenSet (f : Fld) : Option RV := match asL f with
  | some ds => match intsD ds with
    | some ns => if ns.length < 4000 then some (.v (.int (ddI ns).length)) else none
    | none => none
  | none => none
def rLenSet (K : PySem.W.Frag) : V → Hp → VK → Prop := fun x H1 Q => ∃ (l : Addr) (ns : List Int), x = V.ref l ∧ SqL K H1 l (ns.map V.int) ∧ ns.length < 4000 ∧ Q (.int (ddI ns).length) H1
theorem pe_lenSet {a : Expr} {ta : TE} {p p2 q pos : Pos} (hc : X.calm = true) (hg : Gl X "len") (hm : X.mg "len" = none) (hg2 : Gl X "set") (hm2 : X.mg "set" = none) (ha : PE X a ta)
    (na : starEach [a] X.env = (false, eval a X.env) :: starEach [] X.env := by rfl) : PE X (.Call (.Name "len" p) [.Call (.Name "set" p2) [a] [] q] [] pos) (tUn (rLenSet X.K) ta) := by
  refine ⟨fun pins s σ H Q I h => ?_⟩
  refine Call_ (ld_blt I hg hm PySem.boot_len ?_)
  refine PyProof.Rows.callWith_builtin1 (PyProof.Rows.args_cons ?_ rfl) rfl rfl
  refine Call_ (ld_blt I hg2 hm2 PyProof.Rows.boot_set ?_)
  refine PyProof.Rows.callWith_type1 (PyProof.Rows.args_cons (thn (ha.run pins s σ H _ I h) fun v s1 ⟨x, H1, I1, r1, q1⟩ => PyProof.Rows.args_nil ?_) na) na rfl
  obtain ⟨l, ns, rfl, hq, h1, q1⟩ := q1
  cases r1
  obtain ⟨its, r, pl, hz⟩ := I1.list hq
  have hl : its.toArray.size = ns.length := by rw [List.size_toArray, ← r.length, List.length_map]
  refine call_set_list (I1.ok.hd hc) pl.isList (ns := ns) (by simpa using r.ints) (by unfold scanBound; omega) fun h' tk hS hk => ?_
  rw [hl, firstMet_dd] at hS
  refine PyProof.Rows.args_nil ?_
  have hle : (ddI ns).length ≤ ns.length := by rw [← firstMet_dd]; exact firstMet_length_le _ _
  obtain ⟨o, es, ep, t, ho, hex, hd, _, _, _, hf, hn⟩ := hS
  have I2 : Inv X pins σ H1 { s1 with heap := h', toks := tk } := I1.kept fun b o e => hk b o (Heap.lt_size e) e
  refine call_len_set ho hex hd hf (by rw [hn] <;> omega) ⟨.int (ddI ns).length, H1, I2.tok _, ⟨_, by rw [hn]⟩, q1⟩
theorem i_lenSet {p2 q : Pos} (hc : X.calm = true) (hg : Gl X "len") (hm : X.mg "len" = none) (hg2 : Gl X "set") (hm2 : X.mg "set" = none) (ha : PE X e (tI X.wk W ma)) (na : starEach [e] X.env = (false, eval e X.env) :: starEach [] X.env := by rfl) :
    PE X (.Call (.Name "len" p) [.Call (.Name "set" p2) [e] [] q] [] pos) (tI X.wk W (mOp1 gLenSet ma)) :=
  (pe_lenSet hc hg hm hg2 hm2 ha na).to fun σ H Q h => run1 (fun F H x f q Q s hx e fin => by
    unfold gLenSet at e
    split at e
    · rename_i ds es
      split at e
      · rename_i ns en
        split at e
        · rename_i hz
          cases e
          obtain ⟨a, vs, rfl, q1, r1⟩ := hx.asL s es
          have e2 := reps_ints en r1
          subst e2
          exact ⟨a, ns, rfl, q1, hz, fin.int s⟩
        · cases e
      · cases e
    · cases e) (fun _ z => z) h
/-- pairs of small ints, in order, each once -/
def insP (x : Int × Int) : List (Int × Int) → List (Int × Int)
  | [] => [x]
  | y :: r => if x = y then y :: r else if x.1 < y.1 ∨ (x.1 = y.1 ∧ x.2 < y.2) then x :: y :: r else y :: insP x r
def sortP (ps : List (Int × Int)) : List (Int × Int) := ps.foldr insP []
def prs : List D → Option (List (Int × Int))
  | [] => some []
  | .tup [.int a, .int b] :: ds => (prs ds).map ((a, b) :: ·)
  | _ :: _ => none
def prD (p : Int × Int) : D := .tup [.int p.1, .int p.2]
def ltP (x y : Int × Int) : Prop := x.1 < y.1 ∨ (x.1 = y.1 ∧ x.2 < y.2)
theorem insP_mem (x z : Int × Int) : ∀ l, z ∈ insP x l ↔ z = x ∨ z ∈ l
  | [] => by simp [insP]
  | y :: r => by
    unfold insP
    split
    · rename_i h; subst h; simp
    · split
      · simp
      · simp [insP_mem x z r]; constructor <;> (rintro (h | h | h) <;> simp [h])
theorem sortP_mem (z : Int × Int) : ∀ l, z ∈ sortP l ↔ z ∈ l
  | [] => by simp [sortP]
  | x :: l => by
    show z ∈ insP x (sortP l) ↔ _
    rw [insP_mem, sortP_mem z l, List.mem_cons]
theorem insP_sorted (x : Int × Int) : ∀ l : List (Int × Int), l.Pairwise ltP → (insP x l).Pairwise ltP
  | [], _ => by simp [insP]
  | y :: r, h => by
    obtain ⟨h1, h2⟩ := List.pairwise_cons.mp h
    unfold insP
    split
    · exact h
    · rename_i hne
      split
      · rename_i hlt
        refine List.pairwise_cons.mpr ⟨fun z hz => ?_, h⟩
        rcases List.mem_cons.mp hz with rfl | hz
        · exact hlt
        · have := h1 z hz
          unfold ltP at this ⊢
          omega
      · rename_i hlt
        refine List.pairwise_cons.mpr ⟨fun z hz => ?_, insP_sorted x r h2⟩
        rcases (insP_mem x z r).mp hz with rfl | hz
        · unfold ltP
          have : ¬ (z.1 = y.1 ∧ z.2 = y.2) := fun e => hne (Prod.ext e.1 e.2)
          omega
        · exact h1 z hz
theorem sortP_sorted : ∀ l : List (Int × Int), (sortP l).Pairwise ltP
  | [] => List.Pairwise.nil
  | x :: l => insP_sorted x _ (sortP_sorted l)
theorem sorted_uniq : ∀ {l m : List (Int × Int)}, l.Pairwise ltP → m.Pairwise ltP → (∀ z, z ∈ l ↔ z ∈ m) → l = m
  | [], [], _, _, _ => rfl
  | [], y :: m, _, _, h => absurd ((h y).mpr List.mem_cons_self) (by simp)
  | x :: l, [], _, _, h => absurd ((h x).mp List.mem_cons_self) (by simp)
  | x :: l, y :: m, hl, hm, h => by
    obtain ⟨l1, l2⟩ := List.pairwise_cons.mp hl
    obtain ⟨m1, m2⟩ := List.pairwise_cons.mp hm
    have e : x = y := by
      rcases List.mem_cons.mp ((h x).mp List.mem_cons_self) with e | e
      · exact e
      · rcases List.mem_cons.mp ((h y).mpr List.mem_cons_self) with e' | e'
        · exact e'.symm
        · have a1 := m1 x e
          have a2 := l1 y e'
          unfold ltP at a1 a2
          omega
    subst e
    rw [sorted_uniq l2 m2 fun z => ?_]
    have hz := h z
    rw [List.mem_cons, List.mem_cons] at hz
    constructor
    · intro hzl
      rcases hz.mp (.inr hzl) with e | e
      · subst e
        have a1 := l1 z hzl
        unfold ltP at a1; omega
      · exact e
    · intro hzl
      rcases hz.mpr (.inr hzl) with e | e
      · subst e
        have a1 := m1 z hzl
        unfold ltP at a1; omega
      · exact e
end
end VS
namespace L2
open PySem PySem.Spec PyProof.Rows
section
variable {P : Program} {w : World} {A : Around} {E : Value → Shared → Prop} {s : Shared}
set_option maxRecDepth 100000 in
set_option maxHeartbeats 6400000 in
/-- set(a tuple of tuples of ints) -/
theorem set_of_tuple {l : Addr} {items : Array Value} (ks : List (Addr × List Int)) {Q : Value → Shared → Prop} (hh : A.handled = none) (hl : s.heap.IsTuple l items) (hit : items.toList = ks.map fun p => Value.ref p.1)
    (hk : ∀ p ∈ ks, IsT P w s.heap p.2 p.1) (hfew : ks.length < 64) (hu : A.units + 3 < cLine)
    (h : ∀ (h' : Heap) (tk : Nat) L es ep t, SetTR P w h' s.heap.objs.size L es ep t → Got ks ks.length L → (∀ b o, s.heap.get? b = some o → h'.get? b = some o) → Q (.ref s.heap.objs.size) { s with heap := h', toks := tk }) :
    wpAny (model P w) A (call (.type "set") [.ref l]) Q E s := by
  have hisz : items.size = ks.length := by
    have q := congrArg List.length hit
    rw [Array.length_toList, List.length_map] at q
    exact q
  obtain ⟨c, tl, hmro⟩ := F.called_set.mro
  have hmade := F.called_set.made
  have hsub := F.called_set.sub
  refine wpAny_call (codeAny_of_tree ?_)
  show wpAny _ _ (callAny (.type "set") _) _ _ _
  refine wpAny_pure ⟨Code.quiet_builtin _ (by decide +kernel), codeAny_builtin F.entry_type_call ?_⟩
  rw [Around.under_plain (weight_type_call_type "set" [.ref l] []) rfl]
  have h1 := F.called_set.notType
  have h2 := F.called_set.canCreate
  have hct := F.typeCall_set_1 (.ref l)
  repeat (any_goals (first | assumption | wp_step))
  let set0 : Obj := { cls := .type "set", dict := none, data := .set #[] 0 (.fresh 0 0 (!w.params.followText "set-order")) }
  refine codeAny_mono (code_set_led1 (.ref l) (E := E) (Q₁ := fun obj s₁ => obj = .ref s.heap.objs.size ∧ s₁ = { s with heap := s.heap.push set0 }) ⟨rfl, rfl⟩) fun r s₁ hr => ?_
  cases r with
  | error e => exact hr
  | ok fl =>
    cases fl with
    | ret obj =>
      obtain ⟨rfl, rfl⟩ := hr
      have hS : (s.heap.push set0).get? s.heap.objs.size = some set0 := Heap.get?_push_size _ rfl
      have hT : Shared.TypeIs { s with heap := s.heap.push set0 } (.ref s.heap.objs.size) "set" := ⟨_, hS, rfl⟩
      have hli := F.called_set.init.lookup
      have hbi := F.called_set.init.bind (.ref s.heap.objs.size)
      repeat (any_goals (first | assumption | wp_step))
      refine codeAny_mono (codeAny_call_builtin (R := wants (fun r s₂ => r = .none ∧ ∃ h' tk L es ep t, s₂ = { s with heap := h', toks := tk } ∧ SetTR P w h' s.heap.objs.size L es ep t ∧ Got ks ks.length L ∧
          (∀ b o, s.heap.get? b = some o → h'.get? b = some o)) E) F.called_set.init.plain F.entry_set_init (check_set_init_1 hT ?_)) fun r₂ s₂ hr₂ => ?_
      · obtain ⟨ol, hol, hcl, nl, hdl⟩ := hl
        obtain ⟨ocls, odict, odata, oslots⟩ := ol
        simp only at hcl hdl
        subst hcl; subst hdl
        have hol' : (s.heap.push set0).get? l = some { cls := .type "tuple", dict := odict, data := .seq items nl, slots := oslots } := Heap.get?_push_of_some _ hol
        have hsls := F.sub_tuple_set
        have hslf := F.sub_tuple_frozenset
        have hne : (Value.type "tuple" == Value.type "dict") = false := by decide
        have hl1 : (s.heap.push set0).IsTuple l items := ⟨_, hol', rfl, nl, rfl⟩
        unfold Builtin.«set.__init__» noKeywords Builtin.Frozenset.updateFrom
        generalize hPI : pyIter = PI
        wp_walk
        subst hPI
        refine wpAny_pyIter_tuple hl1 ?_
        refine wpAny_bind (wpAny_runValue ?_)
        have hlS : l < s.heap.objs.size := Heap.lt_size hol
        have hh3 : A.in1.in1.in1.handled = none := by simp [hh]
        have hneI : l ≠ (s.heap.push set0).objs.size := by
          rw [Heap.size_push]; exact Nat.ne_of_lt (Nat.lt_succ_of_lt hlS)
        have hSf : s.heap.objs.size ∉ [(s.heap.push set0).objs.size, l] := by
          rw [Heap.size_push]; simp only [List.mem_cons, List.mem_singleton, List.not_mem_nil, or_false, not_or]
          exact ⟨Nat.ne_of_lt (Nat.lt_succ_self _), Nat.ne_of_gt hlS⟩
        have hval : ∀ (i : Nat) (v : Value), items[i]? = some v → ∃ p, ks[i]? = some p ∧ v = .ref p.1 := fun i v hv => by
          have q : items.toList[i]? = some v := by rw [Array.getElem?_toList]; exact hv
          rw [hit, List.getElem?_map] at q
          cases hq : ks[i]? with
          | none => rw [hq] at q; cases q
          | some p =>
            rw [hq] at q
            exact ⟨p, rfl, (Option.some.inj q).symm⟩
        have none_of : ∀ b, s.heap.objs.size ≤ b → s.heap.get? b = none := fun b hb => by
          cases q : s.heap.get? b with
          | none => rfl
          | some o => exact absurd (Nat.lt_of_lt_of_le (Heap.lt_size q) hb) (Nat.lt_irrefl _)
        refine set_update_tups ((Walks.tuple hh3 _ l hneI items).toS) s.heap.objs.size
          hSf ks hisz hfew hval s.heap hk (none_of _ (Nat.le_refl _)) (fun b hb => none_of b (by
            rw [List.mem_singleton.mp hb, Heap.size_push]
            exact Nat.le_succ _)) hu (items.size - 0) 0 _ (by omega) (Nat.zero_le _)
          ⟨⟨_, Heap.get?_push_size _ rfl, rfl, rfl⟩, ⟨_, Heap.get?_push_of_some _ hol', rfl, nl, rfl⟩⟩ (fun b o e => Heap.get?_push_of_some _ (Heap.get?_push_of_some _ e)) ?hS0 ?hR
        case hS0 =>
          exact ⟨[], #[], 0, _, setTR_fresh (Heap.get?_push_of_some _ hS), Got.zero ks⟩
        case hR =>
          intro s' L es ep t hm hS' g' hkp
          obtain ⟨h', g2, d', tk', os'⟩ := s'
          have eg : g2 = s.gens := hm.gens
          have ed : d' = s.drawn := hm.drawn
          have eo : os' = s.os := hm.os
          subst eg; subst ed; subst eo
          show wpAny _ _ _ _ _ _
          refine wpAny_pure ?_
          show wpAny _ _ (ret Value.none) _ _ _
          rw [hisz] at g'
          exact wpAny_pure ⟨rfl, h', tk', L, es, ep, t, rfl, hS', g', hkp⟩
      · cases r₂ with
        | error e => exact hr₂
        | ok fl₂ =>
          cases fl₂ with
          | ret r =>
            obtain ⟨rfl, h', tk, L, es, ep, t, rfl, hS', g', hk'⟩ := hr₂
            repeat (any_goals (first | assumption | wp_step))
            exact h _ _ _ _ _ _ hS' g' hk'
          | _ => exact hr₂.elim
    | _ => exact hr.elim
end
section
variable {X : Cx}
/-- set of a list, a tuple, of tuples of ints -/
def rSetOfA (K : PySem.W.Frag) (P : Program) (w : World) : List V → Hp → VK → Prop := fun xs H Q => ∃ (l : Addr) (ks : List (Addr × List Int)), xs = [V.ref l] ∧ (SqL K H l (ks.map fun p => V.ref p.1) ∨ SqT K H l (ks.map fun p => V.ref p.1)) ∧ (∀ p ∈ ks, SqT K H p.1 (p.2.map V.int)) ∧ ks.length < 64 ∧
  ∀ a L, H a = none → (∀ p ∈ L, p ∈ ks) → (∀ p ∈ ks, p.2 ∈ L.map (·.2)) → Q (.ref a) (upd H a (SetTO P w a L))
theorem cr_setOfA (hc : X.calm = true) (hu : X.A.units + 64 < cLine) : CallR X (.type "set") (rSetOfA X.K X.prog X.w) := by
  intro pins s σ H xs us Q I r h
  obtain ⟨l, ks, rfl, hl, hk, hf, q⟩ := h
  rcases hl with hl | hl
  · exact cr_setOfT hc hu pins s σ H _ us Q I r ⟨l, ks, rfl, hl, hk, hf, q⟩
  · rw [Vals.ref1 r]
    obtain ⟨its, rv, ⟨o, ho, hcl, n, hd⟩, hz⟩ := I.tuple hl
    have hn : H s.heap.objs.size = none := I.hok.fresh (Nat.le_refl _)
    refine set_of_tuple (P := X.prog) (w := X.w) ks (I.ok.hd hc) ⟨o, ho, hcl, n, hd⟩ (by simpa using refs_of_vals rv) (fun p hp => I.isT (hk p hp)) hf (by omega) fun h' tk L es ep t R g k => ?_
    refine ⟨.ref s.heap.objs.size, upd H s.heap.objs.size (SetTO X.prog X.w s.heap.objs.size L), I.laid (t' := tk) k (Nat.le_refl _) (setTO_new R.t0), rfl, q _ L hn (fun p hp => ?_) fun p hp => ?_⟩
    · exact List.mem_of_mem_take (g.sub p hp)
    · exact g.all p (by rw [List.take_length]; exact hp)
end
end L2
namespace VS
open PySem PySem.Spec PyProof.Rows L2
section
variable {c : WK} {W : WX} {X : Cx} {e e1 e2 e3 : Expr} {es : List Expr} {pos p : Pos} {ma mb mc : M RV} {mt : M (List RV)} {kk : Nat}
/-! ### sorted(set(pairs)) -/
def smallP (x : Int × Int) : Bool := decide (0 ≤ x.1 ∧ x.1 < 64 ∧ 0 ≤ x.2 ∧ x.2 < 64)
def asS (f : Fld) : Option (List D) := match asL f with
  | some ds => some ds
  | none => asT f
def gSortSet (f : Fld) : Option RV := match asS f with
  | some ds => match prs ds with
    | some ps => if ps.length < 64 ∧ ps.all smallP = true then some (.fl (.lst ((sortP ps).map prD))) else none
    | none => none
  | none => none
theorem Lk.asS {F H : Hp} (s : Sub F H) {f : Fld} {v : V} {ds : List D} (h : Lk c F H f v) (e : VS.asS f = some ds) : ∃ a vs, v = .ref a ∧ (SqL c.K H a vs ∨ SqT c.K H a vs) ∧ Reps c.K F ds vs := by
  unfold VS.asS at e
  split at e
  · rename_i ds' es
    cases e
    obtain ⟨a, vs, ea, q, r⟩ := h.asL s es
    exact ⟨a, vs, ea, .inl q, r⟩
  · obtain ⟨a, vs, ea, q, r⟩ := h.asT s e
    exact ⟨a, vs, ea, .inr q, r⟩
theorem prs_map : ∀ {ds : List D} {ps : List (Int × Int)}, prs ds = some ps → ds = ps.map prD
  | [], ps, e => by cases e; rfl
  | d :: ds, ps, e => by
    unfold prs at e
    split at e
    · rename_i h; cases h
    · rename_i a b ds' h
      cases h
      obtain ⟨qs, eq, rfl⟩ := Option.map_eq_some_iff.mp e
      rw [List.map_cons, ← prs_map eq]; rfl
    · cases e
def P2 (x : Int × Int) : List Int := [x.1, x.2]
theorem P2_inj {x y : Int × Int} (h : P2 x = P2 y) : x = y := by
  unfold P2 at h
  injection h with h1 h2
  injection h2 with h3 h4
  exact Prod.ext h1 h3
/-- the tuples of a list of pairs -/
theorem pairs_ks {K : PySem.W.Frag} {F : Hp} : ∀ {ps : List (Int × Int)} {vs : List V}, Reps K F (ps.map prD) vs → ∃ as : List Addr, as.length = ps.length ∧ vs = as.map V.ref ∧ ∀ q ∈ as.zip (ps.map P2), SqT K F q.1 (q.2.map V.int)
  | [], vs, h => ⟨[], rfl, h.inv0, fun q hq => by simp at hq⟩
  | x :: ps, vs, h => by
    obtain ⟨v, w, rfl, h1, h2⟩ := Reps.inv h
    obtain ⟨as, e1, rfl, e3⟩ := pairs_ks h2
    obtain ⟨a, us, rfl, q, r⟩ := Rep.tup_iff.mp h1
    obtain ⟨u, t, rfl, r1, r2⟩ := reps2 r
    cases Rep.int_iff.mp r1
    cases Rep.int_iff.mp r2
    refine ⟨a :: as, by simp [e1], rfl, fun z hz => ?_⟩
    rcases List.mem_cons.mp hz with rfl | hz
    · exact q
    · exact e3 z hz
def rSS (c : WK) : V → Hp → VK → Prop := fun x H Q => ∃ (F : Hp) (l : Addr) (vs : List V) (ps : List (Int × Int)), Sub F H ∧ x = V.ref l ∧ (SqL c.K H l vs ∨ SqT c.K H l vs) ∧ Reps c.K F (ps.map prD) vs ∧ ps.length < 64 ∧ ps.all smallP = true ∧
  ∀ a p u ws, H a = none → (upd H a u) p = none → Reps c.K F ((sortP ps).map prD) ws → Q (.ref p) (upd (upd H a u) p (.lst ws))
theorem code2 (x : Int × Int) : TS.code 64 (P2 x) = x.1 * 64 + x.2 := code_pair x.1 x.2
theorem ss_run {x : V} {H : Hp} {Q : VK} (h : rSS X.wk x H Q) : rSetOfA X.K X.prog X.w [x] H fun y H1 => rSortedT X.K X.prog X.w [y] H1 Q := by
  obtain ⟨F, l, vs, ps, sub, rfl, hl, rs, hz, sm, q⟩ := h
  obtain ⟨as, e1, rfl, e3⟩ := pairs_ks rs
  have hlen : (as.zip (ps.map P2)).length = ps.length := by rw [List.length_zip, List.length_map, e1, Nat.min_self]
  have hfst : (as.zip (ps.map P2)).map (fun p => V.ref p.1) = as.map V.ref := by
    rw [show (fun p : Addr × List Int => V.ref p.1) = V.ref ∘ Prod.fst from rfl, ← List.map_map, List.map_fst_zip (by rw [List.length_map, e1]; exact Nat.le_refl _)]
  have hsnd : (as.zip (ps.map P2)).map (·.2) = ps.map P2 := List.map_snd_zip (by rw [List.length_map, e1]; exact Nat.le_refl _)
  refine ⟨l, as.zip (ps.map P2), rfl, by rw [hfst]; exact hl, fun p hp => sub_t sub (e3 p hp), by rw [hlen]; exact hz, fun a L ha h1 h2 => ?_⟩
  have isP : ∀ q ∈ L, ∃ x ∈ ps, q.2 = P2 x := fun q hq => by
    have : q.2 ∈ (as.zip (ps.map P2)).map (·.2) := List.mem_map.mpr ⟨q, h1 q hq, rfl⟩
    rw [hsnd] at this
    obtain ⟨x, hx, e⟩ := List.mem_map.mp this
    exact ⟨x, hx, e.symm⟩
  have smx : ∀ x ∈ ps, 0 ≤ x.1 ∧ x.1 < 64 ∧ 0 ≤ x.2 ∧ x.2 < 64 := fun x hx => of_decide_eq_true (List.all_eq_true.mp sm x hx)
  refine ⟨a, L, 2, 64, rfl, upd_same, fun q hq => sub_t (Sub.trans sub (.new ha)) (e3 q (h1 q hq)), by omega, fun q hq => ?_, fun L' p pm nd hl' pw hp => ?_⟩
  · obtain ⟨x, hx, e⟩ := isP q hq
    obtain ⟨b1, b2, b3, b4⟩ := smx x hx
    rw [e]
    refine ⟨rfl, fun m hm => ?_⟩
    unfold P2 at hm
    simp at hm
    rcases hm with rfl | rfl
    · exact ⟨b1, b2⟩
    · exact ⟨b3, b4⟩
  · have memL : ∀ q ∈ L', q ∈ L := fun q hq => pm.mem_iff.mp hq
    -- the pairs of L'
    have ex : ∃ xs : List (Int × Int), L'.map (·.2) = xs.map P2 ∧ ∀ x ∈ xs, x ∈ ps := by
      have gen : ∀ M : List (Addr × List Int), (∀ q ∈ M, ∃ x ∈ ps, q.2 = P2 x) → ∃ xs : List (Int × Int), M.map (·.2) = xs.map P2 ∧ ∀ x ∈ xs, x ∈ ps := by
        intro M
        induction M with
        | nil => exact fun _ => ⟨[], rfl, fun x hx => nomatch hx⟩
        | cons q M ih =>
          intro h
          obtain ⟨xs, e1, e2⟩ := ih fun q hq => h q (List.mem_cons_of_mem _ hq)
          obtain ⟨x, hx, e⟩ := h q List.mem_cons_self
          refine ⟨x :: xs, by rw [List.map_cons, List.map_cons, e1, e], fun y hy => ?_⟩
          rcases List.mem_cons.mp hy with rfl | hy
          · exact hx
          · exact e2 y hy
      exact gen L' fun q hq => isP q (memL q hq)
    obtain ⟨xs, ex1, ex2⟩ := ex
    have hsort : xs.Pairwise ltP := by
      have n1 : (xs.map P2).Nodup := by rw [← ex1]; exact nd
      have p1 : (xs.map P2).Pairwise (fun q r => TS.code 64 q ≤ TS.code 64 r) := by rw [← ex1, List.pairwise_map]; exact pw
      rw [List.pairwise_map] at p1
      have n2 := List.pairwise_map.mp n1
      refine List.Pairwise.imp_of_mem (R := fun a b => TS.code 64 (P2 a) ≤ TS.code 64 (P2 b) ∧ P2 a ≠ P2 b) (fun {x y} hx hy h => ?_) (p1.and n2)
      obtain ⟨h1, h2⟩ := h
      rw [code2, code2] at h1
      obtain ⟨b1, b2, b3, b4⟩ := smx x (ex2 x hx)
      obtain ⟨c1, c2, c3, c4⟩ := smx y (ex2 y hy)
      have : ¬ (x.1 = y.1 ∧ x.2 = y.2) := fun e => h2 (congrArg P2 (Prod.ext e.1 e.2))
      unfold ltP
      omega
    have exs : xs = sortP ps := by
      refine sorted_uniq hsort (sortP_sorted ps) fun z => ?_
      rw [sortP_mem]
      refine ⟨ex2 z, fun hz => ?_⟩
      have : P2 z ∈ (as.zip (ps.map P2)).map (·.2) := by rw [hsnd]; exact List.mem_map.mpr ⟨z, hz, rfl⟩
      obtain ⟨q, hq, eq⟩ := List.mem_map.mp this
      have := h2 q hq
      rw [eq] at this
      obtain ⟨r, hr, er⟩ := List.mem_map.mp this
      have : P2 z ∈ L'.map (·.2) := List.mem_map.mpr ⟨r, pm.mem_iff.mpr hr, er⟩
      rw [ex1] at this
      obtain ⟨y, hy, ey⟩ := List.mem_map.mp this
      rw [← P2_inj ey]; exact hy
    have reps : Reps X.wk.K F ((sortP ps).map prD) (L'.map fun q => V.ref q.1) := by
      rw [← exs]
      have gen : ∀ (M : List (Addr × List Int)) (xs : List (Int × Int)), M.map (·.2) = xs.map P2 → (∀ q ∈ M, SqT X.K F q.1 (q.2.map V.int)) → Reps X.wk.K F (xs.map prD) (M.map fun q => V.ref q.1) := by
        intro M
        induction M with
        | nil =>
          intro xs e _
          have : xs = [] := List.map_eq_nil_iff.mp e.symm
          subst this; exact .nil
        | cons q M ih =>
          intro xs e h
          cases xs with
          | nil => cases e
          | cons x xs =>
            rw [List.map_cons, List.map_cons] at e
            injection e with e1 e2
            refine .cons ?_ (ih xs e2 fun r hr => h r (List.mem_cons_of_mem _ hr))
            have := h q List.mem_cons_self
            rw [e1] at this
            exact Rep.tup_iff.mpr ⟨q.1, [.int x.1, .int x.2], rfl, this, .cons (Rep.int_iff.mpr rfl) (.cons (Rep.int_iff.mpr rfl) .nil)⟩
      exact gen L' xs ex1 fun q hq => e3 q (h1 q (memL q hq))
    exact q a p _ _ ha hp reps
theorem i_sortSet {p2 q : Pos} (hc : X.calm = true) (hr : Room kk X.A) (hg : Gl X "sorted") (hm : X.mg "sorted" = none) (hg2 : Gl X "set") (hm2 : X.mg "set" = none) (ha : PE X e (tI X.wk W ma)) (na : starEach [e] X.env = (false, eval e X.env) :: starEach [] X.env := by rfl)
    (na2 : starEach [.Call (.Name "set" p2) [e] [] q] X.env = (false, eval (.Call (.Name "set" p2) [e] [] q) X.env) :: starEach [] X.env := by rfl) (hpl : (backTo q (starEach [] X.env)).any (·.1) = false := by rfl) (hpl2 : (backTo pos (starEach [] X.env)).any (·.1) = false := by rfl) :
    PE X (.Call (.Name "sorted" p) [.Call (.Name "set" p2) [e] [] q] [] pos) (tI X.wk W (mOp1 gSortSet ma)) :=
  (pe_callB (cr_sortedT hc) hg hm (by rfl) (pa_cons (pe_callTy (cr_setOfA hc hr.units) hg2 hm2 (by rfl) (pa_cons ha pa_nil na) (by decide) (by decide) na hpl) pa_nil na2) (by decide) (by decide) na2 hpl2).to fun σ H Q h =>
    run1 (r := fun x H1 Q => rSetOfA X.K X.prog X.w [x] H1 fun y H2 => rSortedT X.K X.prog X.w [y] H2 Q) (fun F H x f q Q s hx e fin => ss_run (by
      unfold gSortSet at e
      split at e
      · rename_i ds es
        split at e
        · rename_i ps ep
          split at e
          · rename_i hz
            cases e
            obtain ⟨a, vs, rfl, q1, r1⟩ := hx.asS s es
            rw [prs_map ep] at r1
            refine ⟨F, a, vs, ps, s, rfl, q1, r1, hz.1, hz.2, fun b p u ws hb hp hw => ?_⟩
            have hp0 : H p = none := by
              by_cases hpb : p = b
              · subst hpb; exact hb
              · rw [upd_ne hpb] at hp; exact hp
            have sb : Sub F (upd H b u) := Sub.trans s (.new hb)
            exact fin F _ (.ref p) [p] ((Grow.box s hb).trans (Grow.box sb hp)) ⟨p, ws, rfl, rfl, s.free hp0, upd_same, hw⟩ (by simp) fun x hx => by rw [List.mem_singleton] at hx; subst hx; exact hp0
          · cases e
        · cases e
      · cases e)) (fun _ z => z) h
/-! ### f() -/
theorem callWith0 {x : Str} {k : Nat} {f : Addr} {fd : FuncData} {ps : List Str} {sp : Sp} {CX : CXT} {E : L2.St → XK} (F : FnOk X.prog X.w X.K X.mg X.base CX k f fd ps sp) (hr : Room k X.A) (hg : Gl X x) (hm : X.mg x = some (.ref f)) (hk : PySem.W.keepIn X.K (.ref f) = true) (hb : Binds X.K fd ps []) (hx : ∀ σ, PassesAt CX X σ (E σ))
    (hdb : (x == ("__debug__" : Str)) = false := by decide) : PE X (.Call (.Name x p) [] [] pos) (tCallS sp E tNil) := by
  refine ⟨fun pins s σ H Q I h => ?_⟩
  refine wpAny_Call_Name_kw (ld_glob I hg hm ?_ hdb)
  exact PySem.W.callWith_K0 I.kIn hk (run_fnS (us := []) F hr hb (hx σ) I .nil h)
theorem i_call0 {j : Nat} {f : Addr} {fd : FuncData} {ps : List Str} {np : Nat} {G : Fn} {x : Str} (F : FnOk X.prog X.w X.K X.mg X.base (L2.CX X.prog X.w) j f fd ps (spF X.wk np G)) (hn : np = 0) (hr : Room j X.A) (tk : Takes X W) (hg : Gl X x) (hm : X.mg x = some (.ref f)) (hk : PySem.W.keepIn X.K (.ref f) = true) (hb : Binds X.K fd ps [])
    (hdb : (x == ("__debug__" : Str)) = false := by decide) : PE X (.Call (.Name x p) [] [] pos) (tI X.wk W (mCall G mNil)) :=
  (callWith0 (E := WE W) F hr hg hm hk hb (passAt tk) hdb).to fun σ H Q h => by
    have := call_of (m := mNil) (np := np) (fun ρ rs ρ' e => by subst hn; exact argN_nil ρ rs ρ' e) h
    obtain ⟨ρ, F, A, R0, q⟩ := this
    exact q F A H [] [] ⟨.refl R0, .nil, List.nodup_nil, (fun _ _ _ h => nomatch h), (fun _ h => nomatch h)⟩
end
end VS
namespace VS
open PySem PySem.Spec PyProof.Rows L2
section
variable {c : WK} {W : WX} {X : Cx} {e e1 e2 e3 : Expr} {es : List Expr} {pos p : Pos} {ma mb mc : M RV} {mt : M (List RV)} {kk : Nat}
/-! ### comparisons as tests -/
theorem test_of {m : M RV} {σ : L2.St} {H : Hp} {Q : Bool → Hp → Prop} (h : tIB c W (mBool m) σ H Q) : tI c W m σ H fun x H' => ∃ k, x = .bl k ∧ Q k H' := by
  obtain ⟨ρ, F, A, R0, q⟩ := h
  refine ⟨ρ, F, A, R0, q.bind fun r1 ρ1 e1 q1 F1 A1 H1 v1 B1 g1 => ?_⟩
  unfold retB at q1
  split at q1
  · rename_i f ef
    split at q1
    · rename_i b eb
      exact ⟨b, blF_ok (look_ok g1.s.r g1.v ef) eb, q1 F1 A1 H1 g1.s⟩
    · exact q1.elim
  · exact q1.elim
theorem b_cmp2 {op : CmpOp} {r : R2} {g : Fld → Fld → Option RV} (ho : OpR X (compareOp op) r) (hs : Snd2 X.wk r g) (ha : PE X e1 (tI X.wk W ma)) (hb : PE X e2 (tI X.wk W mb)) (hm : behindInMarks op e2 = false) : PT X (.Compare e1 [op] [e2] pos) (tIB X.wk W (mBool (mOp2 g ma mb))) :=
  (pt_cmpR ho ha hb hm).to fun σ H Q h => run2 hs (test_of h)
theorem b_lt (hr : Room kk X.A) (ha : PE X e1 (tI X.wk W ma)) (hb : PE X e2 (tI X.wk W mb)) : PT X (.Compare e1 [.Lt] [e2] pos) (tIB X.wk W (mBool (mOp2 gLt ma mb))) := b_cmp2 (OpR.or op_lt (op_ltT hr.units0)) (Snd2.or snd_cmp snd_ltT) ha hb (nobehind _ (by decide) (by decide))
theorem b_le (ha : PE X e1 (tI X.wk W ma)) (hb : PE X e2 (tI X.wk W mb)) : PT X (.Compare e1 [.LtE] [e2] pos) (tIB X.wk W (mBool (mOp2 gLe ma mb))) := b_cmp2 (op_le) (snd_cmp) ha hb (nobehind _ (by decide) (by decide))
theorem b_gt (ha : PE X e1 (tI X.wk W ma)) (hb : PE X e2 (tI X.wk W mb)) : PT X (.Compare e1 [.Gt] [e2] pos) (tIB X.wk W (mBool (mOp2 gGt ma mb))) := b_cmp2 (op_gt) (snd_cmp) ha hb (nobehind _ (by decide) (by decide))
theorem b_ge (ha : PE X e1 (tI X.wk W ma)) (hb : PE X e2 (tI X.wk W mb)) : PT X (.Compare e1 [.GtE] [e2] pos) (tIB X.wk W (mBool (mOp2 gGe ma mb))) := b_cmp2 (op_ge) (snd_cmp) ha hb (nobehind _ (by decide) (by decide))
theorem b_eq (hr : Room kk X.A) (ha : PE X e1 (tI X.wk W ma)) (hb : PE X e2 (tI X.wk W mb)) : PT X (.Compare e1 [.Eq] [e2] pos) (tIB X.wk W (mBool (mOp2 (gEqG false) ma mb))) := b_cmp2 (op_eqD hr.units) (snd_eqD) ha hb (nobehind _ (by decide) (by decide))
theorem b_ne (hr : Room kk X.A) (ha : PE X e1 (tI X.wk W ma)) (hb : PE X e2 (tI X.wk W mb)) : PT X (.Compare e1 [.NotEq] [e2] pos) (tIB X.wk W (mBool (mOp2 (gEqG true) ma mb))) := b_cmp2 (op_neD hr.units) (snd_neD) ha hb (nobehind _ (by decide) (by decide))
theorem b_is (ha : PE X e1 (tI X.wk W ma)) (hb : PE X e2 (tI X.wk W mb)) : PT X (.Compare e1 [.Is] [e2] pos) (tIB X.wk W (mBool (mOp2 (gIs false) ma mb))) := b_cmp2 (OpR.or op_isN op_is_bl) (Snd2.or snd_isN snd_isB) ha hb (nobehind _ (by decide) (by decide))
theorem b_isnot (ha : PE X e1 (tI X.wk W ma)) (hb : PE X e2 (tI X.wk W mb)) : PT X (.Compare e1 [.IsNot] [e2] pos) (tIB X.wk W (mBool (mOp2 (gIs true) ma mb))) := b_cmp2 (OpR.or op_notN op_isnot_bl) (Snd2.or snd_notN snd_notB) ha hb (nobehind _ (by decide) (by decide))
theorem b_in (hr : Room kk X.A) (ha : PE X e1 (tI X.wk W ma)) (hb : PE X e2 (tI X.wk W mb)) (hm : behindInMarks .In e2 = false := by rfl) : PT X (.Compare e1 [.In] [e2] pos) (tIB X.wk W (mBool (mOp2 (gIn false) ma mb))) := b_cmp2 (OpR.or (op_inD (by have := hr.un; omega)) (OpR.or (op_inT (by have := hr.un; omega)) (op_inK hr))) (Snd2.or snd_inL (Snd2.or snd_inT snd_inK)) ha hb hm
theorem b_notin (hr : Room kk X.A) (ha : PE X e1 (tI X.wk W ma)) (hb : PE X e2 (tI X.wk W mb)) (hm : behindInMarks .NotIn e2 = false := by rfl) : PT X (.Compare e1 [.NotIn] [e2] pos) (tIB X.wk W (mBool (mOp2 (gIn true) ma mb))) := b_cmp2 (OpR.or (op_notInD (by have := hr.un; omega)) (OpR.or (op_notInT (by have := hr.un; omega)) (op_notInK hr))) (Snd2.or snd_notInL (Snd2.or snd_inT snd_inK)) ha hb hm
theorem chain_run {p q : Int → Int → Bool} {σ : L2.St} {H : Hp} {Q : VK} (h : tI c W (mChain p q ma mb mc) σ H Q) : tChain (rI0 fun i j => .bl (p i j)) (rI0 fun i j => .bl (q i j)) (tI c W ma) (tI c W mb) (tI c W mc) σ H Q := by
  obtain ⟨ρ, F, A, R0, q0⟩ := h
  refine ⟨ρ, F, A, R0, q0.bind fun r1 ρ1 e1 q1 F1 A1 H1 v1 B1 g1 => ⟨ρ1, F1, A1, g1.s.r, ?_⟩⟩
  refine (OutG.later g1.s q1 fun _ _ _ z => z).bind fun r2 ρ2 e2 q2 F2 A2 H2 v2 B2 g2 => ?_
  unfold retC1 at q2
  split at q2
  · rename_i i j ef ek
    have s2 := g1.s.trans g2.s
    have v1' := g1.v.ext g2.s.x.mono (kept_in g2.s.x g1.dj)
    have ej := (look_ok s2.r g2.v ek).int
    refine ⟨i, j, (look_ok s2.r v1' ef).int, ej, _, rfl, ?_⟩
    split at q2
    · rename_i hp
      rw [if_pos hp]
      refine ⟨ρ2, F2, A2, s2.r, (OutG.later g2.s q2 fun _ _ _ z => z).bind fun r3 ρ3 e3 q3 F3 A3 H3 v3 B3 g3 => ?_⟩
      have s3 := s2.trans g3.s
      unfold retC2 at q3
      split at q3
      · rename_i k el
        refine ⟨j, k, ej, (look_ok s3.r g3.v el).int, ?_⟩
        exact q3 F3 A3 H3 _ _ (blOk s3)
      · exact q3.elim
    · rename_i hp
      rw [if_neg hp]
      exact q2 F2 A2 H2 _ _ (blOk s2)
  · exact q2.elim
theorem b_leLe (ha : PE X e1 (tI X.wk W ma)) (hb : PE X e2 (tI X.wk W mb)) (hc : PE X e3 (tI X.wk W mc)) (hm : lastMarks [.LtE, .LtE] [e2, e3] = false := by with_unfolding_all rfl) : PT X (.Compare e1 [.LtE, .LtE] [e2, e3] pos) (tIB X.wk W (mBool (mChain pLe pLe ma mb mc))) := (pt_chain op_le op_le ha hb hc hm).to fun σ H Q h => chain_run (p := pLe) (q := pLe) (test_of h)
theorem b_leLt (ha : PE X e1 (tI X.wk W ma)) (hb : PE X e2 (tI X.wk W mb)) (hc : PE X e3 (tI X.wk W mc)) (hm : lastMarks [.LtE, .Lt] [e2, e3] = false := by with_unfolding_all rfl) : PT X (.Compare e1 [.LtE, .Lt] [e2, e3] pos) (tIB X.wk W (mBool (mChain pLe pLt ma mb mc))) := (pt_chain op_le op_lt ha hb hc hm).to fun σ H Q h => chain_run (p := pLe) (q := pLt) (test_of h)
theorem b_ltLt (ha : PE X e1 (tI X.wk W ma)) (hb : PE X e2 (tI X.wk W mb)) (hc : PE X e3 (tI X.wk W mc)) (hm : lastMarks [.Lt, .Lt] [e2, e3] = false := by with_unfolding_all rfl) : PT X (.Compare e1 [.Lt, .Lt] [e2, e3] pos) (tIB X.wk W (mBool (mChain pLt pLt ma mb mc))) := (pt_chain op_lt op_lt ha hb hc hm).to fun σ H Q h => chain_run (p := pLt) (q := pLt) (test_of h)
theorem b_ltLe (ha : PE X e1 (tI X.wk W ma)) (hb : PE X e2 (tI X.wk W mb)) (hc : PE X e3 (tI X.wk W mc)) (hm : lastMarks [.Lt, .LtE] [e2, e3] = false := by with_unfolding_all rfl) : PT X (.Compare e1 [.Lt, .LtE] [e2, e3] pos) (tIB X.wk W (mBool (mChain pLt pLe ma mb mc))) := (pt_chain op_lt op_le ha hb hc hm).to fun σ H Q h => chain_run (p := pLt) (q := pLe) (test_of h)
theorem b_w {t : TT} (h : PW X e t) : PT X e t := h.pt
/-! ### names -/
theorem i_pv {i : Nat} {x : Str} (hN : X.N[i]? = some x := by rfl) (hv : Vis X.env.scope x := by first | exact Or.inl rfl | exact Or.inr (Or.inl rfl) | exact Or.inr (Or.inr rfl)) (hd : (x == ("__debug__" : Str)) = false := by decide) (hcd : (x == ("__classdict__" : Str)) = false := by decide) : PE X (.Name x pos) (tI X.wk W (mVar i)) := i_var (pe_var hN hv hd hcd)
theorem i_glob {x : Str} {i : Int} (hg : Gl X x) (hm : ∃ t, X.mg x = some (.int i t)) (hd : (x == ("__debug__" : Str)) = false := by decide) : PE X (.Name x pos) (tI X.wk W (mC (.int i))) :=
  let ⟨t, e⟩ := hm
  i_c (pe_glob (v := .int i) hg e ⟨t, rfl⟩ hd) fun _ => Rep.int_iff.mpr rfl
/-! ### defs by name -/
structure Kn (P : Program) (w : World) (K : PySem.W.Frag) (mg : Str → Option Value) (base : Heap) (x : Str) (k np : Nat) (G : Fn) : Prop where
  ex : ∃ (f : Addr) (fd : FuncData) (ps : List Str), FnOk P w K mg base (L2.CX P w) k f fd ps (spF ⟨P, w, K⟩ np G) ∧ mg x = some (.ref f) ∧ PySem.W.keepIn K (.ref f) = true ∧ Binds K fd ps []
theorem Kn.mono {P : Program} {w : World} {K : PySem.W.Frag} {mg : Str → Option Value} {base : Heap} {x : Str} {k j np : Nat} {G : Fn} (h : Kn P w K mg base x k np G) (hk : k ≤ j) : Kn P w K mg base x j np G :=
  let ⟨f, fd, ps, a, b, c, d⟩ := h.ex
  ⟨f, fd, ps, a.mono hk, b, c, d⟩
theorem i_fn {j k : Nat} {np : Nat} {G : Fn} {x : Str} {ms : M (List RV)} (c : Kn X.prog X.w X.K X.mg X.base x k np G) (hn : ArgN np ms) (hr : Room j X.A) (hk : k ≤ j) (tk : Takes X W) (hg : Gl X x)
    (ha : PA X (e :: es) (tIA X.wk W ms)) (hdb : (x == ("__debug__" : Str)) = false := by decide) (he : starEach (e :: es) X.env = (false, eval e X.env) :: starEach es X.env := by rfl) (hpl : (backTo pos (starEach es X.env)).any (·.1) = false := by rfl) :
    PE X (.Call (.Name x p) (e :: es) [] pos) (tI X.wk W (mCall G ms)) :=
  let ⟨f, fd, ps, F, hm, hkp, hb⟩ := c.ex
  i_call F hn (hr.mono hk) tk hg hm hkp hb ha hdb he hpl
theorem i_fn0 {j k : Nat} {G : Fn} {x : Str} (c : Kn X.prog X.w X.K X.mg X.base x k 0 G) (hr : Room j X.A) (hk : k ≤ j) (tk : Takes X W) (hg : Gl X x) (hdb : (x == ("__debug__" : Str)) = false := by decide) : PE X (.Call (.Name x p) [] [] pos) (tI X.wk W (mCall G mNil)) :=
  let ⟨f, fd, ps, F, hm, hkp, hb⟩ := c.ex
  i_call0 F rfl (hr.mono hk) tk hg hm hkp hb hdb
end
section
variable {P : Program} {w : World} {K : PySem.W.Frag} {mg : Str → Option Value} {base : Heap}
theorem kn_fn {x qual : Str} {st : Stmt} {f : Addr} {fd : FuncData} {N ps : List Str} {k np : Nat} {body : M Flo} (F : Fun K x qual st f fd) (S : FnScope N ps (defScope st)) (hnp : ps.length = np) (hm : mg x = some (.ref f)) (hk : PySem.W.keepIn K (.ref f) = true) (hb : Binds K fd ps [])
    (hbd : ∀ (cdv : Value) (A : Around) (outer : List PySem.Env) (s : Shared) (H : Hp) (E : XK), Room k (A.deeper (envOfC qual (defScope st) s.heap.objs.size f cdv)) →
      PassesOwn (model P w) (A.deeper (envOfC qual (defScope st) s.heap.objs.size f cdv)) (envOfC qual (defScope st) s.heap.objs.size f cdv) (cxOf (L2.CX P w) P w K mg base N qual (defScope st) f cdv A outer s H E).xe → ∀ (W : WX), Takes (cxOf (L2.CX P w) P w K mg base N qual (defScope st) f cdv A outer s H E) W →
      PSs (cxOf (L2.CX P w) P w K mg base N qual (defScope st) f cdv A outer s H E) (defBody st) (tIS ⟨P, w, K⟩ W body)) : Kn P w K mg base x (k + 1) np (fnOf N.length body) := by
  subst hnp
  exact ⟨f, fd, ps, fn_ok F S hbd, hm, hk, hb⟩
/-- a def that is never called -/
theorem kn_no {x : Str} {f : Addr} {fd : FuncData} {ps : List Str} {k np : Nat} (hnp : ps.length = np) (hm : mg x = some (.ref f)) (hk : PySem.W.keepIn K (.ref f) = true) (hb : Binds K fd ps []) : Kn P w K mg base x k np (fun _ => .stuck) := by
  subst hnp
  exact ⟨f, fd, ps, ⟨fun vs H Q E h => h.1, fun A outer s H args us vs Q E hr e0 bt rv h => by
    obtain ⟨_, ss, F, A, r, q⟩ := h
    exact q.elim⟩, hm, hk, hb⟩
end
end VS
namespace VS
open PySem PySem.Spec PyProof.Rows L2
section
variable {c : WK} {W : WX} {X : Cx} {e e1 e2 e3 : Expr} {es : List Expr} {pos p : Pos} {ma mb mc : M RV} {mt : M (List RV)} {kk : Nat}
theorem PI.or {tgt : Expr} {w1 w2 : TI} (h1 : PI X tgt e w1) (h2 : PI X tgt e w2) : PI X tgt e fun σ H R => w1 σ H R ∨ w2 σ H R := ⟨fun pins s σ H R I h => h.elim (fun q => h1.run pins s σ H R I q) fun q => h2.run pins s σ H R I q⟩
/-- a list, a tuple or a text -/
def mSrcA (m : M RV) : M Src := fun ρ => match m ρ with
  | .ok (.fl (.val (.tup ds))) ρ' => .ok ⟨ds, none⟩ ρ'
  | .ok (.fl (.val (.str x))) ρ' => .ok ⟨signsD x, none⟩ ρ'
  | .ok r ρ' => srcL r ρ'
  | .exc x ρ' => .exc x ρ'
  | .stuck => .stuck
theorem p_any {tgt : Expr} {m : M RV} (h : PE X e (tI X.wk W m)) : PI X tgt e (tII X.wk W (mSrcA m)) := (PI.or (p_list h) (PI.or (p_tup h) (p_str h))).to fun σ H Q ⟨ρ, F, A, R0, q⟩ => by
  unfold mSrcA at q
  cases em : m ρ with
  | stuck => rw [em] at q; exact q.elim
  | exc x ρ' =>
    rw [em] at q
    refine .inl ⟨ρ, F, A, R0, ?_⟩
    unfold mSrcL M.bind
    rw [em]; exact q
  | ok r ρ' =>
    rw [em] at q
    split at q
    · rename_i ds ρ1 e1
      injection e1 with e2 e3
      subst e2 e3
      refine .inr (.inl ⟨ρ, F, A, R0, ?_⟩)
      unfold mSrcT M.bind
      rw [em]; exact q
    · rename_i x ρ1 e1
      injection e1 with e2 e3
      subst e2 e3
      refine .inr (.inr ⟨ρ, F, A, R0, ?_⟩)
      unfold M.bind
      rw [em]; exact q
    · rename_i r1 ρ1 _ _ e1
      injection e1 with e2 e3
      subst e2 e3
      refine .inl ⟨ρ, F, A, R0, ?_⟩
      unfold mSrcL M.bind
      rw [em]; exact q
    · rename_i e1; cases e1
    · rename_i e1; cases e1
theorem take0 {s : Shared} {H : Hp} {scope : Scope} {cenv : PySem.Env} {fp : List Addr} : Takes (X.blk s H scope cenv fp) W0 := fun u s' ⟨a, B, sI, pins, σ, H, cls, d, e, I, nb, up, sky, na, os, ag, w⟩ => w.elim
end
/-! ### the law -/
theorem law_end {P : Program} {w : World} {K : PySem.W.Frag} {G : Fn} (h : ∀ ns : List Int, ns.length ≤ 63 → ∃ outs, G [.v (.lst (ns.map .int))] = .ok (.v (.bl true)) outs) (H : Hp) (a : Addr) (ns : List Int) (hl : ns.length ≤ 63) (hS : SqL K H a (ns.map V.int)) :
    spF ⟨P, w, K⟩ 1 G [.ref a] H (fun v _ => v = .bl true) fun _ _ _ => False := by
  refine ⟨rfl, [.v (.lst (ns.map .int))], H, fun _ => [], ⟨.refl H, rfl, fun i => ?_, fun _ => List.nodup_nil, fun _ _ _ h => nomatch h⟩, ?_⟩
  · cases i with
    | zero =>
      refine ⟨.ref a, rfl, rfl, Rep.lst_iff.mpr ⟨a, ns.map V.int, rfl, hS, ?_⟩⟩
      have gen : ∀ ns : List Int, Reps K H (ns.map D.int) (ns.map V.int) := by
        intro ns
        induction ns with
        | nil => exact .nil
        | cons n ns ih => exact .cons (Rep.int_iff.mpr rfl) ih
      exact gen ns
    | succ i => exact rfl
  · obtain ⟨outs, e⟩ := h ns hl
    rw [e]
    intro F' A' H' v Bs g
    exact Rep.bl_iff.mp g.v.2
end VS
/-! wp: what a combinator gives, in plain Lean (no program in sight) -/
namespace VS
open PySem PySem.Spec PyProof.Rows L2
section
variable {α β : Type} {ρ ρ1 ρ2 : Env} {m ma mb mc : M RV}
/-- m ends well, in P -/
def wp (m : M α) (ρ : Env) (P : α → Env → Prop) : Prop := ∃ a ρ', m ρ = .ok a ρ' ∧ P a ρ'
theorem wp_imp {m : M α} {P Q : α → Env → Prop} (h : wp m ρ P) (f : ∀ a ρ', P a ρ' → Q a ρ') : wp m ρ Q := let ⟨a, ρ', e, p⟩ := h; ⟨a, ρ', e, f a ρ' p⟩
theorem wp_ok {m : M α} {a : α} {P : α → Env → Prop} (e : m ρ = .ok a ρ1) (p : P a ρ1) : wp m ρ P := ⟨a, ρ1, e, p⟩
theorem wp_bind {m : M α} {k : α → M β} {P : β → Env → Prop} : wp (m.bind k) ρ P ↔ wp m ρ fun a ρ' => wp (k a) ρ' P := by
  constructor
  · rintro ⟨b, ρ', e, p⟩
    obtain ⟨a, ρ1, e1, e2⟩ := bind_ok e
    exact ⟨a, ρ1, e1, b, ρ', e2, p⟩
  · rintro ⟨a, ρ1, e1, b, ρ', e2, p⟩
    exact ⟨b, ρ', by unfold M.bind; rw [e1]; exact e2, p⟩
theorem wp_pure {a : α} {P : α → Env → Prop} : wp (fun ρ => .ok a ρ) ρ P ↔ P a ρ := by
  constructor
  · rintro ⟨b, ρ', e, p⟩
    injection e with e1 e2
    subst e1; subst e2; exact p
  · exact fun p => ⟨a, ρ, rfl, p⟩
theorem wp_stuck {P : α → Env → Prop} : wp (fun _ => .stuck) ρ P ↔ False := ⟨fun ⟨_, _, e, _⟩ => (nomatch e), False.elim⟩
theorem wp_if {c : Prop} [Decidable c] {a b : M α} {P : α → Env → Prop} : wp (if c then a else b) ρ P ↔ if c then wp a ρ P else wp b ρ P := by split <;> exact Iff.rfl
theorem wp_ite' {c : Prop} [Decidable c] {a b : M α} {P : α → Env → Prop} : wp (fun ρ => (if c then a else b) ρ) ρ P ↔ if c then wp a ρ P else wp b ρ P := by split <;> exact Iff.rfl
/-! ### names, constants -/
theorem wp_c {d : D} {P : RV → Env → Prop} : wp (mC d) ρ P ↔ P (.v d) ρ := wp_pure
theorem wp_var {i : Nat} {md : Mode} {d : D} {P : RV → Env → Prop} (h : ρ.getD i .un = .fl md (.val d)) : wp (mVar i) ρ P ↔ P (.v d) ρ := by
  constructor
  · rintro ⟨b, ρ', e, p⟩
    unfold mVar at e; rw [h] at e
    injection e with e1 e2
    subst e1; subst e2; exact p
  · exact fun p => ⟨_, _, by unfold mVar; rw [h], p⟩
theorem wp_varL {i : Nat} {md : Mode} {ds : List D} {P : RV → Env → Prop} (h : ρ.getD i .un = .fl md (.lst ds)) : wp (mVar i) ρ P ↔ P (.pl i) ρ := by
  constructor
  · rintro ⟨b, ρ', e, p⟩
    unfold mVar at e; rw [h] at e
    injection e with e1 e2
    subst e1; subst e2; exact p
  · exact fun p => ⟨_, _, by unfold mVar; rw [h], p⟩
theorem wp_varD {i : Nat} {md : Mode} {t : Bool} {kvs : List (D × D)} {P : RV → Env → Prop} (h : ρ.getD i .un = .fl md (.dct t kvs)) : wp (mVar i) ρ P ↔ P (.pl i) ρ := by
  constructor
  · rintro ⟨b, ρ', e, p⟩
    unfold mVar at e; rw [h] at e
    injection e with e1 e2
    subst e1; subst e2; exact p
  · exact fun p => ⟨_, _, by unfold mVar; rw [h], p⟩
/-! ### operations -/
theorem wp_op1 {g : Fld → Option RV} {P : RV → Env → Prop} : wp (mOp1 g ma) ρ P ↔ wp ma ρ fun r ρ' => wp (ret1 g r) ρ' P := wp_bind
theorem wp_op2 {g : Fld → Fld → Option RV} {P : RV → Env → Prop} : wp (mOp2 g ma mb) ρ P ↔ wp ma ρ fun r ρ' => wp mb ρ' fun r2 ρ2 => wp (ret2 g r r2) ρ2 P := by
  unfold mOp2
  rw [wp_bind]
  constructor <;> exact fun h => wp_imp h fun a ρ' q => by rw [wp_bind] at *; exact q
theorem wp_opN {g : List Fld → Option RV} {t : M (List RV)} {P : RV → Env → Prop} : wp (mOpN g t) ρ P ↔ wp t ρ fun r ρ' => wp (retN g r) ρ' P := wp_bind
theorem wp_ret1 {g : Fld → Option RV} {r : RV} {f : Fld} {q : RV} {P : RV → Env → Prop} (h : look ρ r = some f) (e : g f = some q) : wp (ret1 g r) ρ P ↔ P q ρ := by
  have : ret1 g r ρ = .ok q ρ := by unfold ret1; rw [h]; simp only; rw [e]
  constructor
  · rintro ⟨b, ρ', e2, p⟩
    rw [this] at e2
    injection e2 with e3 e4
    subst e3; subst e4; exact p
  · exact fun p => ⟨_, _, this, p⟩
theorem wp_ret2 {g : Fld → Fld → Option RV} {r r2 : RV} {f k : Fld} {q : RV} {P : RV → Env → Prop} (h : look ρ r = some f) (h2 : look ρ r2 = some k) (e : g f k = some q) : wp (ret2 g r r2) ρ P ↔ P q ρ := by
  have : ret2 g r r2 ρ = .ok q ρ := by unfold ret2; rw [h, h2]; simp only; rw [e]
  constructor
  · rintro ⟨b, ρ', e2, p⟩
    rw [this] at e2
    injection e2 with e3 e4
    subst e3; subst e4; exact p
  · exact fun p => ⟨_, _, this, p⟩
theorem look_v {f : Fld} : look ρ (.fl f) = some f := rfl
theorem look_pl {i : Nat} {md : Mode} {f : Fld} (h : ρ.getD i .un = .fl md f) : look ρ (.pl i) = some f := by unfold look; simp only; rw [h]
/-- on data -/
theorem wp_ret1v {g : Fld → Option RV} {f : Fld} {P : RV → Env → Prop} : wp (ret1 g (.fl f)) ρ P ↔ ∃ q, g f = some q ∧ P q ρ := by
  constructor
  · rintro ⟨b, ρ', e, p⟩
    unfold ret1 at e
    simp only [look_v] at e
    cases eg : g f with
    | none => rw [eg] at e; cases e
    | some q => rw [eg] at e; injection e with e1 e2; subst e1; subst e2; exact ⟨_, rfl, p⟩
  · rintro ⟨q, e, p⟩
    exact (wp_ret1 look_v e).mpr p
theorem wp_ret2v {g : Fld → Fld → Option RV} {f k : Fld} {P : RV → Env → Prop} : wp (ret2 g (.fl f) (.fl k)) ρ P ↔ ∃ q, g f k = some q ∧ P q ρ := by
  constructor
  · rintro ⟨b, ρ', e, p⟩
    unfold ret2 at e
    simp only [look_v] at e
    cases eg : g f k with
    | none => rw [eg] at e; cases e
    | some q => rw [eg] at e; injection e with e1 e2; subst e1; subst e2; exact ⟨_, rfl, p⟩
  · rintro ⟨q, e, p⟩
    exact (wp_ret2 look_v look_v e).mpr p
theorem wp_retNv {g : List Fld → Option RV} {f : Fld} {P : RV → Env → Prop} : wp (retN g [.fl f]) ρ P ↔ ∃ q, g [f] = some q ∧ P q ρ := by
  constructor
  · rintro ⟨b, ρ', e, p⟩
    unfold retN at e
    simp only [looks, look_v] at e
    cases eg : g [f] with
    | none => rw [eg] at e; cases e
    | some q => rw [eg] at e; injection e with e1 e2; subst e1; subst e2; exact ⟨_, rfl, p⟩
  · rintro ⟨q, e, p⟩
    exact ⟨q, ρ, by unfold retN; simp only [looks, look_v]; rw [e], p⟩
theorem wp_retNp {g : List Fld → Option RV} {i : Nat} {md : Mode} {f : Fld} {q : RV} {P : RV → Env → Prop} (h : ρ.getD i .un = .fl md f) (e : g [f] = some q) : wp (retN g [.pl i]) ρ P ↔ P q ρ := by
  have : retN g [.pl i] ρ = .ok q ρ := by unfold retN; simp only [looks, look_pl h]; rw [e]
  constructor
  · rintro ⟨b, ρ', e2, p⟩
    rw [this] at e2
    injection e2 with e3 e4
    subst e3; subst e4; exact p
  · exact fun p => ⟨_, _, this, p⟩
theorem wp_nil {P : List RV → Env → Prop} : wp mNil ρ P ↔ P [] ρ := wp_pure
theorem wp_cons {a : M RV} {t : M (List RV)} {P : List RV → Env → Prop} : wp (mCons a t) ρ P ↔ wp a ρ fun r ρ' => wp t ρ' fun rs ρ2 => P (r :: rs) ρ2 := by
  unfold mCons
  rw [wp_bind]
  constructor <;> exact fun h => wp_imp h fun a ρ' q => by
    rw [wp_bind] at *
    exact wp_imp q fun rs ρ2 z => by first | exact wp_pure.mp z | exact wp_pure.mpr z
theorem wp_dnil {P : List D → Env → Prop} : wp dNil ρ P ↔ P [] ρ := wp_pure
theorem wp_dcons {a : M RV} {t : M (List D)} {P : List D → Env → Prop} : wp (dCons a t) ρ P ↔ wp (mEsc a) ρ fun r ρ' => wp t ρ' fun rs ρ2 => P (r :: rs) ρ2 := by
  unfold dCons
  rw [wp_bind]
  constructor <;> exact fun h => wp_imp h fun a ρ' q => by
    rw [wp_bind] at *
    exact wp_imp q fun rs ρ2 z => by first | exact wp_pure.mp z | exact wp_pure.mpr z
theorem wp_esc {a : M RV} {P : D → Env → Prop} : wp (mEsc a) ρ P ↔ wp a ρ fun r ρ' => wp (esc r) ρ' P := wp_bind
theorem wp_escv {d : D} {P : D → Env → Prop} : wp (esc (.v d)) ρ P ↔ P d ρ := wp_pure (a := d)
theorem wp_escl {ds : List D} {P : D → Env → Prop} : wp (esc (.fl (.lst ds))) ρ P ↔ P (.lst ds) ρ := wp_pure (a := D.lst ds)
theorem wp_escp {i : Nat} {ds : List D} {P : D → Env → Prop} (h : ρ.getD i .un = .fl .own (.lst ds)) : wp (esc (.pl i)) ρ P ↔ P (.lst ds) (ρ.set i (.v (.lst ds))) := by
  have : esc (.pl i) ρ = .ok (.lst ds) (ρ.set i (.v (.lst ds))) := by unfold esc; simp only; rw [h]
  constructor
  · rintro ⟨b, ρ', e2, p⟩
    rw [this] at e2
    injection e2 with e3 e4
    subst e3; subst e4; exact p
  · exact fun p => ⟨_, _, this, p⟩
theorem wp_tup {t : M (List D)} {P : RV → Env → Prop} : wp (mTup t) ρ P ↔ wp t ρ fun ds ρ' => ds.length ≤ sizeLine ∧ P (.v (.tup ds)) ρ' := by
  unfold mTup
  rw [wp_bind]
  constructor <;> exact fun h => wp_imp h fun ds ρ' q => by
    by_cases hl : ds.length ≤ sizeLine
    · simp only [hl, if_true] at q ⊢
      first | exact ⟨trivial, wp_pure.mp q⟩ | exact wp_pure.mpr q.2
    · simp only [hl, if_false] at q ⊢
      first | exact (wp_stuck.mp q).elim | exact q.1.elim
theorem wp_lst {t : M (List D)} {P : RV → Env → Prop} : wp (mLst t) ρ P ↔ wp t ρ fun ds ρ' => ds.length ≤ sizeLine ∧ P (.fl (.lst ds)) ρ' := by
  unfold mLst
  rw [wp_bind]
  constructor <;> exact fun h => wp_imp h fun ds ρ' q => by
    by_cases hl : ds.length ≤ sizeLine
    · simp only [hl, if_true] at q ⊢
      first | exact ⟨trivial, wp_pure.mp q⟩ | exact wp_pure.mpr q.2
    · simp only [hl, if_false] at q ⊢
      first | exact (wp_stuck.mp q).elim | exact q.1.elim
/-! ### tests -/
theorem wp_retB {g : Fld → Option Bool} {f : Fld} {P : Bool → Env → Prop} : wp (retB g (.fl f)) ρ P ↔ ∃ b, g f = some b ∧ P b ρ := by
  constructor
  · rintro ⟨b, ρ', e, p⟩
    unfold retB at e
    simp only [look_v] at e
    cases eg : g f with
    | none => rw [eg] at e; cases e
    | some q => rw [eg] at e; injection e with e1 e2; subst e1; subst e2; exact ⟨_, rfl, p⟩
  · rintro ⟨q, e, p⟩
    exact ⟨q, ρ, by unfold retB; simp only [look_v]; rw [e], p⟩
theorem wp_bool {P : Bool → Env → Prop} : wp (mBool ma) ρ P ↔ wp ma ρ fun r ρ' => wp (retB blF r) ρ' P := wp_bind
theorem wp_tru {P : Bool → Env → Prop} : wp (mTru ma) ρ P ↔ wp ma ρ fun r ρ' => wp (retB truF r) ρ' P := wp_bind
theorem wp_not {t : M Bool} {P : Bool → Env → Prop} : wp (mNot t) ρ P ↔ wp t ρ fun b ρ' => P (!b) ρ' := by
  unfold mNot
  rw [wp_bind]
  constructor <;> exact fun h => wp_imp h fun b ρ' q => by first | exact wp_pure.mp q | exact wp_pure.mpr q
theorem wp_and {t u : M Bool} {P : Bool → Env → Prop} : wp (mAnd t u) ρ P ↔ wp t ρ fun b ρ' => if b = true then wp u ρ' P else P false ρ' := by
  unfold mAnd
  rw [wp_bind]
  constructor <;> exact fun h => wp_imp h fun b ρ' q => by
    cases b
    · simp only [Bool.false_eq_true, if_false] at q ⊢
      first | exact wp_pure.mp q | exact wp_pure.mpr q
    · simpa using q
theorem wp_or {t u : M Bool} {P : Bool → Env → Prop} : wp (mOr t u) ρ P ↔ wp t ρ fun b ρ' => if b = true then P true ρ' else wp u ρ' P := by
  unfold mOr
  rw [wp_bind]
  constructor <;> exact fun h => wp_imp h fun b ρ' q => by
    cases b
    · simpa using q
    · simp only [if_true] at q ⊢
      first | exact wp_pure.mp q | exact wp_pure.mpr q
theorem wp_mif {t : M Bool} {P : RV → Env → Prop} : wp (mIf t ma mb) ρ P ↔ wp t ρ fun b ρ' => if b = true then wp ma ρ' P else wp mb ρ' P := by
  unfold mIf
  rw [wp_bind]
  constructor <;> exact fun h => wp_imp h fun b ρ' q => by cases b <;> simpa using q
theorem wp_andV {P : RV → Env → Prop} : wp (mAndV ma mb) ρ P ↔ wp (mBool ma) ρ fun b ρ' => if b = true then wp mb ρ' P else P (.v (.bl false)) ρ' := by
  unfold mAndV
  rw [wp_bind]
  constructor <;> exact fun h => wp_imp h fun b ρ' q => by
    cases b
    · simp only [Bool.false_eq_true, if_false] at q ⊢
      first | exact wp_pure.mp q | exact wp_pure.mpr q
    · simpa using q
theorem wp_orV {P : RV → Env → Prop} : wp (mOrV ma mb) ρ P ↔ wp (mBool ma) ρ fun b ρ' => if b = true then P (.v (.bl true)) ρ' else wp mb ρ' P := by
  unfold mOrV
  rw [wp_bind]
  constructor <;> exact fun h => wp_imp h fun b ρ' q => by
    cases b
    · simpa using q
    · simp only [if_true] at q ⊢
      first | exact wp_pure.mp q | exact wp_pure.mpr q
theorem wp_notV {P : RV → Env → Prop} : wp (mNotV ma) ρ P ↔ wp (mBool ma) ρ fun b ρ' => P (.v (.bl (!b))) ρ' := by
  unfold mNotV
  rw [wp_bind]
  constructor <;> exact fun h => wp_imp h fun b ρ' q => by first | exact wp_pure.mp q | exact wp_pure.mpr q
theorem wp_true {P : Bool → Env → Prop} : wp bTrue ρ P ↔ P true ρ := wp_pure
theorem wp_chain {p q : Int → Int → Bool} {P : RV → Env → Prop} : wp (mChain p q ma mb mc) ρ P ↔ wp ma ρ fun r1 ρ1 => wp mb ρ1 fun r2 ρ2 => wp (retC1 p q mc r1 r2) ρ2 P := by
  unfold mChain
  rw [wp_bind]
  constructor <;> exact fun h => wp_imp h fun a ρ' q => by rw [wp_bind] at *; exact q
theorem wp_retC1 {p q : Int → Int → Bool} {i j : Int} {P : RV → Env → Prop} : wp (retC1 p q mc (.v (.int i)) (.v (.int j))) ρ P ↔ if p i j = true then wp mc ρ (fun r ρ' => wp (retC2 q j r) ρ' P) else P (.v (.bl false)) ρ := by
  have : retC1 p q mc (.v (.int i)) (.v (.int j)) ρ = if p i j = true then (mc.bind (retC2 q j)) ρ else .ok (.v (.bl false)) ρ := rfl
  unfold wp
  rw [this]
  by_cases h : p i j = true
  · simp only [h, if_true]
    exact wp_bind (m := mc) (k := retC2 q j)
  · simp only [h]
    exact wp_pure (a := RV.v (.bl false))
theorem wp_retC2 {q : Int → Int → Bool} {j k : Int} {P : RV → Env → Prop} : wp (retC2 q j (.v (.int k))) ρ P ↔ P (.v (.bl (q j k))) ρ := wp_pure (a := RV.v (.bl (q j k)))
/-! ### cuts -/
theorem wp_noPart {P : Option Int → Env → Prop} : wp mNoPart ρ P ↔ P none ρ := wp_pure
theorem wp_part {P : Option Int → Env → Prop} : wp (mPart ma) ρ P ↔ wp ma ρ fun r ρ' => wp (retPart r) ρ' P := wp_bind
theorem wp_retPart {i : Int} {P : Option Int → Env → Prop} : wp (retPart (.v (.int i))) ρ P ↔ P (some i) ρ := wp_pure (a := some i)
theorem wp_cut {l h : M (Option Int)} {P : RV → Env → Prop} : wp (mCut ma l h) ρ P ↔ wp ma ρ fun r ρ1 => wp l ρ1 fun a ρ2 => wp h ρ2 fun b ρ3 => wp (ret1 (gCut a b) r) ρ3 P := by
  unfold mCut
  rw [wp_bind]
  constructor <;> exact fun h => wp_imp h fun a ρ' q => by
    rw [wp_bind] at *
    exact wp_imp q fun b ρ2 z => by rw [wp_bind] at *; exact z
/-! ### statements -/
theorem wp_seq {s t : M Flo} {P : Flo → Env → Prop} : wp (sSeq s t) ρ P ↔ wp s ρ fun f ρ' => match f with
    | .nx => wp t ρ' P
    | f => P f ρ' := by
  unfold sSeq
  rw [wp_bind]
  constructor <;> exact fun h => wp_imp h fun f ρ' q => by
    cases f <;> first | exact q | exact wp_pure.mp q | exact wp_pure.mpr q
theorem wp_snil {P : Flo → Env → Prop} : wp sNil ρ P ↔ P .nx ρ := wp_pure
theorem wp_pass {P : Flo → Env → Prop} : wp sPass ρ P ↔ P .nx ρ := wp_pure
theorem wp_break {P : Flo → Env → Prop} : wp sBreak ρ P ↔ P .bk ρ := wp_pure
theorem wp_cont {P : Flo → Env → Prop} : wp sCont ρ P ↔ P .ct ρ := wp_pure
theorem wp_never {P : Flo → Env → Prop} : wp sNever ρ P ↔ False := wp_stuck
theorem wp_expr {P : Flo → Env → Prop} : wp (sExpr ma) ρ P ↔ wp ma ρ fun _ ρ' => P .nx ρ' := by
  unfold sExpr
  rw [wp_bind]
  constructor <;> exact fun h => wp_imp h fun b ρ' q => by first | exact wp_pure.mp q | exact wp_pure.mpr q
theorem wp_sif {t : M Bool} {a b : M Flo} {P : Flo → Env → Prop} : wp (sIf t a b) ρ P ↔ wp t ρ fun k ρ' => if k = true then wp a ρ' P else wp b ρ' P := by
  unfold sIf
  rw [wp_bind]
  constructor <;> exact fun h => wp_imp h fun b ρ' q => by cases b <;> simpa using q
theorem wp_ret {P : Flo → Env → Prop} : wp (sRet ma) ρ P ↔ wp ma ρ fun r ρ' => wp (retv r) ρ' P := wp_bind
theorem wp_retv {f : Fld} {P : Flo → Env → Prop} : wp (retv (.fl f)) ρ P ↔ P (.rt (.fl f)) ρ := wp_pure (a := Flo.rt (.fl f))
theorem wp_retp {i : Nat} {f : Fld} {P : Flo → Env → Prop} (h : ρ.getD i .un = .fl .own f) : wp (retv (.pl i)) ρ P ↔ P (.rt (.fl f)) (ρ.set i .un) := by
  have : retv (.pl i) ρ = .ok (.rt (.fl f)) (ρ.set i .un) := by unfold retv; simp only; rw [h]
  constructor
  · rintro ⟨b, ρ', e2, p⟩
    rw [this] at e2
    injection e2 with e3 e4
    subst e3; subst e4; exact p
  · exact fun p => ⟨_, _, this, p⟩
theorem wp_retN' {P : Flo → Env → Prop} : wp sRetN ρ P ↔ P (.rt (.v .non)) ρ := wp_pure
theorem wp_asg {i : Nat} {P : Flo → Env → Prop} : wp (sAsg i ma) ρ P ↔ wp ma ρ fun r ρ' => wp (store i r) ρ' P := wp_bind
theorem wp_store {i : Nat} {f : Fld} {P : Flo → Env → Prop} (h1 : modeOf (ρ.getD i .un) = .own) (h2 : i < ρ.length) : wp (store i (.fl f)) ρ P ↔ P .nx (ρ.set i (.fl .own f)) := by
  have : store i (.fl f) ρ = .ok .nx (ρ.set i (.fl .own f)) := by unfold store; simp only; rw [if_pos ⟨h1, h2⟩]
  constructor
  · rintro ⟨b, ρ', e2, p⟩
    rw [this] at e2
    injection e2 with e3 e4
    subst e3; subst e4; exact p
  · exact fun p => ⟨_, _, this, p⟩
theorem wp_par {i j : Nat} {t : M (List RV)} {P : Flo → Env → Prop} : wp (sPar i j t) ρ P ↔ wp t ρ fun rs ρ' => wp (store2 i j rs) ρ' P := wp_bind
theorem wp_store2 {i j : Nat} {f k : Fld} {P : Flo → Env → Prop} (h1 : modeOf (ρ.getD i .un) = .own) (h2 : i < ρ.length) (h3 : modeOf (ρ.getD j .un) = .own) (h4 : j < ρ.length) : wp (store2 i j [.fl f, .fl k]) ρ P ↔ P .nx ((ρ.set i (.fl .own f)).set j (.fl .own k)) := by
  have : store2 i j [.fl f, .fl k] ρ = .ok .nx ((ρ.set i (.fl .own f)).set j (.fl .own k)) := by unfold store2; simp only; rw [if_pos ⟨h1, h2, h3, h4⟩]
  constructor
  · rintro ⟨b, ρ', e2, p⟩
    rw [this] at e2
    injection e2 with e3 e4
    subst e3; subst e4; exact p
  · exact fun p => ⟨_, _, this, p⟩
theorem wp_asgT {t : Tg} {P : Flo → Env → Prop} : wp (sAsgT t ma) ρ P ↔ wp (mEsc ma) ρ fun d ρ' => wp (asgT t d) ρ' P := wp_bind
theorem wp_asgTd {t : Tg} {d : D} {ρ1 : Env} {P : Flo → Env → Prop} (h : t d ρ = some ρ1) : wp (asgT t d) ρ P ↔ P .nx ρ1 := by
  have : asgT t d ρ = .ok .nx ρ1 := by unfold asgT; rw [h]
  constructor
  · rintro ⟨b, ρ', e2, p⟩
    rw [this] at e2
    injection e2 with e3 e4
    subst e3; subst e4; exact p
  · exact fun p => ⟨_, _, this, p⟩
/-! ### calls -/
/-- G on data gives r -/
def FV (G : Fn) (ds : List D) (f : Fld) : Prop := ∃ outs, G (ds.map Sl.v) = .ok (.fl f) outs
theorem places_v : ∀ ds : List D, places (ds.map RV.v) = []
  | [] => rfl
  | d :: ds => places_v ds
theorem backE_v : ∀ (ds : List D) (outs : Env), backE (ds.map RV.v) outs ρ = ρ
  | [], _ => rfl
  | d :: ds, outs => backE_v ds (outs.drop 1)
theorem argSl_v : ∀ ds : List D, (ds.map RV.v).map (argSl ρ) = ds.map Sl.v
  | [] => rfl
  | d :: ds => by rw [List.map_cons, List.map_cons, argSl_v ds]; rfl
theorem callF_v {G : Fn} {ds : List D} {f : Fld} (h : FV G ds f) : callF G (ds.map RV.v) ρ = .ok (.fl f) ρ := by
  obtain ⟨outs, e⟩ := h
  unfold callF
  rw [places_v, argSl_v, e]
  simp only [okPl, places_v, List.nodup_nil, List.all_nil, true_and, if_true, noPl, backE_v]
theorem wp_call {G : Fn} {t : M (List RV)} {P : RV → Env → Prop} : wp (mCall G t) ρ P ↔ wp t ρ fun rs ρ' => wp (callF G rs) ρ' P := wp_bind
theorem wp_fv {G : Fn} {ds : List D} {f : Fld} (h : FV G ds f) {P : RV → Env → Prop} (p : P (.fl f) ρ) : wp (callF G (ds.map RV.v)) ρ P := ⟨_, _, callF_v h, p⟩
theorem wp_fv0 {G : Fn} {f : Fld} (h : FV G [] f) {P : RV → Env → Prop} (p : P (.fl f) ρ) : wp (callF G []) ρ P := wp_fv (ds := []) h p
theorem wp_fv1 {G : Fn} {a : D} {f : Fld} (h : FV G [a] f) {P : RV → Env → Prop} (p : P (.fl f) ρ) : wp (callF G [.v a]) ρ P := wp_fv (ds := [a]) h p
theorem wp_fv2 {G : Fn} {a b : D} {f : Fld} (h : FV G [a, b] f) {P : RV → Env → Prop} (p : P (.fl f) ρ) : wp (callF G [.v a, .v b]) ρ P := wp_fv (ds := [a, b]) h p
theorem wp_fv3 {G : Fn} {a b c : D} {f : Fld} (h : FV G [a, b, c] f) {P : RV → Env → Prop} (p : P (.fl f) ρ) : wp (callF G [.v a, .v b, .v c]) ρ P := wp_fv (ds := [a, b, c]) h p
theorem wp_fv4 {G : Fn} {a b c d : D} {f : Fld} (h : FV G [a, b, c, d] f) {P : RV → Env → Prop} (p : P (.fl f) ρ) : wp (callF G [.v a, .v b, .v c, .v d]) ρ P := wp_fv (ds := [a, b, c, d]) h p
/-- a def's result, from its body -/
theorem fv_of {n : Nat} {b : M Flo} {ds : List D} {f : Fld} (h : wp b (ds.map Sl.v ++ List.replicate (n - ds.length) .un) fun k _ => k = .rt (.fl f) ∨ (k = .nx ∧ f = .val .non)) : FV (fnOf n b) ds f := by
  obtain ⟨k, ρ', e, p⟩ := h
  unfold FV fnOf
  rw [List.length_map, e]
  rcases p with rfl | ⟨rfl, rfl⟩
  · exact ⟨_, rfl⟩
  · exact ⟨_, rfl⟩
/-- a call that lends a list: the first argument -/
theorem wp_lend {G : Fn} {i : Nat} {md : Mode} {cs cs' : List D} {ds : List D} {f : Fld} {md' : Mode} {outs : Env} {P : RV → Env → Prop} (hi : ρ.getD i .un = .fl md (.lst cs)) (h : G (.fl (lend md) (.lst cs) :: ds.map Sl.v) = .ok (.fl f) (.fl md' (.lst cs') :: outs)) (p : P (.fl f) (ρ.set i (.fl md (.lst cs')))) :
    wp (callF G (.pl i :: ds.map RV.v)) ρ P := by
  refine ⟨.fl f, ρ.set i (.fl md (.lst cs')), ?_, p⟩
  unfold callF
  have e1 : places (.pl i :: ds.map RV.v) = [i] := by show i :: places (ds.map RV.v) = [i]; rw [places_v]
  have e2 : (RV.pl i :: ds.map RV.v).map (argSl ρ) = .fl (lend md) (.lst cs) :: ds.map Sl.v := by
    rw [List.map_cons, argSl_v]
    show reM (lend (modeOf (ρ.getD i .un))) (ρ.getD i .un) :: _ = _
    rw [hi]; rfl
  have e3 : okPl ρ (.pl i :: ds.map RV.v) = true := by
    unfold okPl
    rw [e1, List.all_cons, hi]; rfl
  rw [if_pos ⟨by rw [e1]; simp, e3⟩, e2, h]
  simp only [noPl, if_true]
  have e4 : backE (.pl i :: ds.map RV.v) (.fl md' (.lst cs') :: outs) ρ = ρ.set i (.fl md (.lst cs')) := by
    unfold backE
    rw [backE_v, hi]; rfl
  rw [e4]
end
end VS
namespace VS
open PySem PySem.Spec PyProof.Rows L2
section
variable {α β : Type} {ρ ρ1 ρ2 : Env} {m ma mb mc : M RV}
/-! ### sources -/
theorem wp_srcA {P : Src → Env → Prop} (h : wp ma ρ fun r ρ' => (∃ ds, r = .v (.tup ds) ∧ P ⟨ds, none⟩ ρ') ∨ (∃ ds, r = .v (.lst ds) ∧ P ⟨ds, none⟩ ρ') ∨ (∃ ds, r = .fl (.lst ds) ∧ P ⟨ds, none⟩ ρ') ∨ (∃ x, r = .v (.str x) ∧ P ⟨signsD x, none⟩ ρ') ∨ (∃ i md ds, r = .pl i ∧ ρ'.getD i .un = .fl md (.lst ds) ∧ P ⟨ds, some i⟩ ρ')) : wp (mSrcA ma) ρ P := by
  obtain ⟨r, ρ', e, h⟩ := h
  rcases h with ⟨ds, rfl, p⟩ | ⟨ds, rfl, p⟩ | ⟨ds, rfl, p⟩ | ⟨x, rfl, p⟩ | ⟨i, md, ds, rfl, hs, p⟩
  · exact ⟨_, _, by unfold mSrcA; rw [e], p⟩
  · exact ⟨_, _, by unfold mSrcA; rw [e]; rfl, p⟩
  · exact ⟨_, _, by unfold mSrcA; rw [e]; rfl, p⟩
  · exact ⟨_, _, by unfold mSrcA; rw [e], p⟩
  · exact ⟨_, _, by unfold mSrcA; rw [e]; simp only [srcL]; rw [hs], p⟩
theorem wp_srcT {ds : List D} {P : Src → Env → Prop} (h : wp ma ρ fun r ρ' => r = .v (.tup ds) ∧ P ⟨ds, none⟩ ρ') : wp (mSrcA ma) ρ P := wp_srcA (wp_imp h fun r ρ' q => .inl ⟨ds, q⟩)
theorem wp_srcI {i : Nat} {md : Mode} {ds : List D} {P : Src → Env → Prop} (h : ρ.getD i .un = .fl md (.val (.tup ds))) (p : P ⟨ds, none⟩ ρ) : wp (mSrcA (mVar i)) ρ P := wp_srcT ((wp_var h).mpr ⟨rfl, p⟩)
theorem wp_srcIl {i : Nat} {md : Mode} {ds : List D} {P : Src → Env → Prop} (h : ρ.getD i .un = .fl md (.val (.lst ds))) (p : P ⟨ds, none⟩ ρ) : wp (mSrcA (mVar i)) ρ P := wp_srcA ((wp_var h).mpr (.inr (.inl ⟨ds, rfl, p⟩)))
theorem wp_srcIp {i : Nat} {md : Mode} {ds : List D} {P : Src → Env → Prop} (h : ρ.getD i .un = .fl md (.lst ds)) (p : P ⟨ds, some i⟩ ρ) : wp (mSrcA (mVar i)) ρ P := wp_srcA ((wp_varL h).mpr (.inr (.inr (.inr (.inr ⟨i, md, ds, rfl, h, p⟩)))))
theorem wp_srcB {t : M (List RV)} {k : List RV → M Src} {P : Src → Env → Prop} : wp (t.bind k) ρ P ↔ wp t ρ fun rs ρ' => wp (k rs) ρ' P := wp_bind
theorem wp_srcR1 {j : Int} {P : Src → Env → Prop} (h : -(2 ^ 62) ≤ j ∧ j < 2 ^ 62) (p : P ⟨rangeD 0 j, none⟩ ρ) : wp (srcR1 [.v (.int j)]) ρ P := ⟨_, _, by unfold srcR1; simp only; rw [if_pos h], p⟩
theorem wp_srcR2 {i j : Int} {P : Src → Env → Prop} (h : -(2 ^ 62) ≤ i ∧ i < 2 ^ 62 ∧ -(2 ^ 62) ≤ j ∧ j < 2 ^ 62) (p : P ⟨rangeD i j, none⟩ ρ) : wp (srcR2 [.v (.int i), .v (.int j)]) ρ P := ⟨_, _, by unfold srcR2; simp only; rw [if_pos h], p⟩
theorem wp_srcZt {xs ys : List D} {P : Src → Env → Prop} (p : P ⟨List.zipWith pairD xs ys, none⟩ ρ) : wp (srcZ [.tup xs, .tup ys]) ρ P := ⟨_, _, rfl, p⟩
theorem wp_srcZl {xs ys : List D} {P : Src → Env → Prop} (p : P ⟨List.zipWith pairD xs ys, none⟩ ρ) : wp (srcZ [.lst xs, .lst ys]) ρ P := ⟨_, _, rfl, p⟩
theorem wp_srcE {xs : List D} {P : Src → Env → Prop} (p : P ⟨enumD xs, none⟩ ρ) : wp (srcE [.lst xs]) ρ P := ⟨_, _, rfl, p⟩
/-! ### for -/
theorem wp_fin {m : M α} {u : Env → Env} {P : α → Env → Prop} (h : wp m ρ fun a ρ' => P a (u ρ')) : ∃ a ρ', fin u (m ρ) = .ok a ρ' ∧ P a ρ' := by
  obtain ⟨a, ρ', e, p⟩ := h
  exact ⟨a, u ρ', by rw [e]; rfl, p⟩
theorem wp_for {src : M Src} {tg : Tg} {b : M Flo} {P : Flo → Env → Prop} (h : wp src ρ fun S ρ1 => wp (floop tg b S.ds) (lck S ρ1) fun f ρ2 => P f (unlk S ρ1 ρ2)) : wp (sFor src tg b) ρ P := by
  unfold sFor
  rw [wp_bind]
  exact wp_imp h fun S ρ1 q => wp_fin q
/-- one turn's end -/
def turnP (nx : Env → Prop) (Q : Flo → Env → Prop) : Flo → Env → Prop
  | .nx, ρ => nx ρ
  | .ct, ρ => nx ρ
  | .bk, ρ => Q .nx ρ
  | .rt r, ρ => Q (.rt r) ρ
theorem wp_turn {f : Flo} {again : M Flo} {nx : Env → Prop} {Q : Flo → Env → Prop} (h : turnP nx Q f ρ) (hn : nx ρ → wp again ρ Q) : wp (wturn f again) ρ Q := by
  cases f with
  | nx => exact hn h
  | ct => exact hn h
  | bk => exact wp_pure.mpr h
  | rt r => exact wp_pure.mpr h
theorem wp_floop {tg : Tg} {b : M Flo} {Q : Flo → Env → Prop} : ∀ {ds : List D} {ρ : Env} (I : List D → Env → Prop), I ds ρ → (∀ d r ρ, I (d :: r) ρ → ∃ ρ1, tg d ρ = some ρ1 ∧ wp b ρ1 (turnP (I r) Q)) → (∀ ρ, I [] ρ → Q .nx ρ) → wp (floop tg b ds) ρ Q
  | [], ρ, I, h0, hs, he => wp_pure.mpr (he _ h0)
  | d :: ds, ρ, I, h0, hs, he => by
    obtain ⟨ρ1, e, h⟩ := hs d ds ρ h0
    have : wp (fun ρ => match tg d ρ with
      | some ρ1 => (b.bind fun f => wturn f (floop tg b ds)) ρ1
      | none => .stuck) ρ Q := by
      unfold wp
      simp only [e]
      exact wp_bind.mpr (wp_imp h fun f ρ2 q => wp_turn q fun hn => wp_floop I hn hs he)
    exact this
/-! ### while -/
theorem wp_wloop {t : M Bool} {b : M Flo} {Q : Flo → Env → Prop} (I : Nat → Env → Prop) (hs : ∀ n ρ, I n ρ → wp t ρ fun k ρ1 => if k = true then wp b ρ1 (turnP (fun ρ2 => ∃ m, m < n ∧ I m ρ2) Q) else Q .nx ρ1) : ∀ (n : Nat) (ρ : Env), I n ρ → ∃ f, wp (wloop t b f) ρ Q := by
  intro n
  induction n using Nat.strongRecOn with
  | ind n ih =>
    intro ρ h
    obtain ⟨k, ρ1, e1, h1⟩ := hs n ρ h
    cases k with
    | false => exact ⟨1, wp_bind.mpr ⟨false, ρ1, e1, by simpa [wp_pure] using h1⟩⟩
    | true =>
      simp only [if_true] at h1
      obtain ⟨f, ρ2, e2, h2⟩ := h1
      have fin : ∀ j, wp (wturn f (wloop t b j)) ρ2 Q → wp (wloop t b (j + 1)) ρ Q := fun j hj => wp_bind.mpr ⟨true, ρ1, e1, by simp only [if_true]; exact wp_bind.mpr ⟨f, ρ2, e2, hj⟩⟩
      cases f with
      | nx =>
        obtain ⟨m, hm, hi⟩ := h2
        obtain ⟨j, hj⟩ := ih m hm ρ2 hi
        exact ⟨j + 1, fin j hj⟩
      | ct =>
        obtain ⟨m, hm, hi⟩ := h2
        obtain ⟨j, hj⟩ := ih m hm ρ2 hi
        exact ⟨j + 1, fin j hj⟩
      | bk => exact ⟨1, fin 0 (wp_pure.mpr h2)⟩
      | rt r => exact ⟨1, fin 0 (wp_pure.mpr h2)⟩
theorem wp_while {t : M Bool} {b : M Flo} {Q : Flo → Env → Prop} (I : Nat → Env → Prop) {n : Nat} (h0 : I n ρ) (hs : ∀ n ρ, I n ρ → wp t ρ fun k ρ1 => if k = true then wp b ρ1 (turnP (fun ρ2 => ∃ m, m < n ∧ I m ρ2) Q) else Q .nx ρ1) : wp (sWhile t b) ρ Q := by
  obtain ⟨f, a, ρ', e, q⟩ := wp_wloop I hs n ρ h0
  exact ⟨a, ρ', sWhile_eq e (fun z => nomatch z), q⟩
/-! ### comprehensions -/
theorem ext_getD' {l l' : Env} (hl : l.length = l'.length) (h : ∀ j, l.getD j .un = l'.getD j .un) : l = l' := by
  apply List.ext_getElem hl
  intro i h1 h2
  have := h i
  rw [List.getD_eq_getElem?_getD, List.getD_eq_getElem?_getD, List.getElem?_eq_getElem h1, List.getElem?_eq_getElem h2] at this
  exact this
theorem unw_wipe (ρ : Env) (vs : List Nat) : unw ρ vs (wipeE ρ vs) = ρ := by
  refine ext_getD' (by rw [unw_length, wipeE_length]) fun j => ?_
  rw [unw_get (by rw [wipeE_length]), wipeE_get]
  by_cases hj : j ∈ vs
  · rw [if_pos hj]
  · rw [if_neg hj, if_neg hj]
theorem unlk_lck (S : Src) (ρ : Env) (h : ∀ i, S.lk = some i → i < ρ.length ∧ ρ.getD i .un ≠ .un) : unlk S ρ (lck S ρ) = ρ := by
  unfold unlk lck
  cases e : S.lk with
  | none => rfl
  | some i =>
    simp only
    obtain ⟨h1, h2⟩ := h i e
    refine ext_getD' (by simp) fun j => ?_
    by_cases hj : j = i
    · subst hj
      rw [getD_set_same (by simpa using h1), getD_set_same h1]
      cases es : ρ.getD j .un with
      | un => exact absurd es h2
      | fl m f => rfl
      | ob m C fs => rfl
    · rw [getD_set_ne hj, getD_set_ne hj]
/-- the loop of a comprehension, by an invariant of what is left, what is gathered, the slots -/
theorem wp_cloop {tg : Tg} {cond : M Bool} {elt : M RV} {vs : List Nat} {Q : List D → Env → Prop} : ∀ {ds acc : List D} {ρ : Env} (I : List D → List D → Env → Prop), I ds acc ρ →
    (∀ d r acc ρ, I (d :: r) acc ρ → ∃ ρ1, tg d ρ = some ρ1 ∧ wp cond ρ1 fun k ρ2 => if k = true then wp (mEsc elt) ρ2 fun y ρ3 => acc.length < sizeLine ∧ I r (acc ++ [y]) (wipeE ρ3 vs) else I r acc (wipeE ρ2 vs)) → (∀ acc ρ, I [] acc ρ → Q acc ρ) → ∃ acc' ρ', cloop tg cond elt vs ds acc ρ = .ok acc' ρ' ∧ Q acc' ρ'
  | [], acc, ρ, I, h0, hs, he => ⟨acc, ρ, rfl, he _ _ h0⟩
  | d :: ds, acc, ρ, I, h0, hs, he => by
    obtain ⟨ρ1, e, h⟩ := hs d ds acc ρ h0
    obtain ⟨k, ρ2, e2, h2⟩ := h
    unfold cloop
    simp only [e]
    unfold M.bind
    rw [e2]
    simp only
    cases k with
    | false =>
      simp only [Bool.false_eq_true, if_false] at h2 ⊢
      exact wp_cloop I h2 hs he
    | true =>
      simp only [if_true] at h2 ⊢
      obtain ⟨y, ρ3, e3, hl, h3⟩ := h2
      rw [e3]
      simp only [hl, if_true]
      exact wp_cloop I h3 hs he
theorem wp_comp {src : M Src} {vs : List Nat} {tg : Tg} {cond : M Bool} {elt : M RV} {P : RV → Env → Prop} (h : wp src ρ fun S ρ1 => lkOff S vs = true ∧ ∃ acc ρ', cloop tg cond elt vs S.ds [] (wipeE (lck S ρ1) vs) = .ok acc ρ' ∧ P (.fl (.lst acc)) (unlk S ρ1 (unw (lck S ρ1) vs ρ'))) : wp (mComp src vs tg cond elt) ρ P := by
  unfold mComp
  rw [wp_bind]
  refine wp_imp h fun S ρ1 ⟨h1, acc, ρ', e, p⟩ => ?_
  unfold wp
  simp only [h1, if_true, e]
  exact ⟨_, _, rfl, p⟩
/-- a comprehension without effect: p, f by the items -/
theorem cloop_pure {tg : Tg} {cond : M Bool} {elt : M RV} {vs : List Nat} {p : D → Bool} {f : D → D} {ρw : Env} : ∀ {ds acc : List D}, (∀ d ∈ ds, ∃ ρ1, tg d ρw = some ρ1 ∧ wp cond ρ1 fun k ρ2 => k = p d ∧ (p d = false → wipeE ρ2 vs = ρw) ∧ (p d = true → wp (mEsc elt) ρ2 fun y ρ3 => y = f d ∧ wipeE ρ3 vs = ρw)) →
    acc.length + ds.length ≤ sizeLine → cloop tg cond elt vs ds acc ρw = .ok (acc ++ (ds.filter p).map f) ρw
  | [], acc, _, _ => by simp [cloop]
  | d :: ds, acc, h, hz => by
    obtain ⟨ρ1, e, k, ρ2, e2, hk, h0, h1⟩ := h d List.mem_cons_self
    rw [List.length_cons] at hz
    have hr : ∀ d' ∈ ds, ∃ ρ1, tg d' ρw = some ρ1 ∧ wp cond ρ1 fun k ρ2 => k = p d' ∧ (p d' = false → wipeE ρ2 vs = ρw) ∧ (p d' = true → wp (mEsc elt) ρ2 fun y ρ3 => y = f d' ∧ wipeE ρ3 vs = ρw) := fun d' hd => h d' (List.mem_cons_of_mem _ hd)
    unfold cloop
    simp only [e]
    unfold M.bind
    rw [e2]
    simp only
    subst hk
    by_cases hp : p d = true
    · obtain ⟨y, ρ3, e3, ey, ew⟩ := h1 hp
      simp only [hp, if_true]
      rw [e3]
      simp only [show acc.length < sizeLine by omega, if_true, ew]
      rw [cloop_pure hr (by rw [List.length_append, List.length_singleton]; omega), ey]
      simp [hp]
    · have hp : p d = false := by simpa using hp
      simp only [hp, Bool.false_eq_true, if_false, h0 hp]
      rw [cloop_pure hr (by omega)]
      simp [hp]
theorem wp_compP {src : M Src} {vs : List Nat} {tg : Tg} {cond : M Bool} {elt : M RV} {P : RV → Env → Prop} (p : D → Bool) (f : D → D) (h : wp src ρ fun S ρ1 => S.lk = none ∧ S.ds.length ≤ sizeLine ∧ (∀ d ∈ S.ds, ∃ ρ2, tg d (wipeE ρ1 vs) = some ρ2 ∧ wp cond ρ2 fun k ρ3 => k = p d ∧ (p d = false → wipeE ρ3 vs = wipeE ρ1 vs) ∧ (p d = true → wp (mEsc elt) ρ3 fun y ρ4 => y = f d ∧ wipeE ρ4 vs = wipeE ρ1 vs)) ∧
    P (.fl (.lst ((S.ds.filter p).map f))) ρ1) : wp (mComp src vs tg cond elt) ρ P := by
  refine wp_comp (wp_imp h fun S ρ1 ⟨hk, hz, hs, q⟩ => ?_)
  have hl : lck S ρ1 = ρ1 := lck_none hk
  refine ⟨by unfold lkOff; rw [hk], (S.ds.filter p).map f, wipeE ρ1 vs, ?_, ?_⟩
  · rw [hl, cloop_pure hs (by simpa using hz)]; simp
  · rw [hl, unw_wipe]
    have : unlk S ρ1 ρ1 = ρ1 := by unfold unlk; rw [hk]
    rw [this]; exact q
/-! ### changes -/
theorem wp_append {t : M (List D)} {g : List D → List D → Option (D × List D)} {P : RV → Env → Prop} : wp (mLstM g ma t) ρ P ↔ wp ma ρ fun r ρ1 => wp (lstPl r) ρ1 fun i ρ2 => wp t ρ2 fun as ρ3 => wp (updL g i as) ρ3 P := by
  unfold mLstM
  rw [wp_bind]
  constructor <;> exact fun h => wp_imp h fun a ρ' q => by
    rw [wp_bind] at *
    exact wp_imp q fun b ρ2 z => by rw [wp_bind] at *; exact z
theorem wp_lstPl {i : Nat} {md : Mode} {ds : List D} {P : Nat → Env → Prop} (h : ρ.getD i .un = .fl md (.lst ds)) (p : P i ρ) : wp (lstPl (.pl i)) ρ P := ⟨i, ρ, by unfold lstPl; simp only; rw [h], p⟩
theorem wp_updL {g : List D → List D → Option (D × List D)} {i : Nat} {md : Mode} {ds as ds' : List D} {d : D} {P : RV → Env → Prop} (h : ρ.getD i .un = .fl md (.lst ds)) (hm : md ≠ .lk) (e : g ds as = some (d, ds')) (p : P (.v d) (ρ.set i (.fl md (.lst ds')))) : wp (updL g i as) ρ P :=
  ⟨_, _, by unfold updL; rw [h]; simp only [hm, if_false]; rw [e], p⟩
theorem wp_setL {mo mi me : M RV} {P : Flo → Env → Prop} : wp (sSetL mo mi me) ρ P ↔ wp (mEsc me) ρ fun d ρ1 => wp mo ρ1 fun r ρ2 => wp (lstPl r) ρ2 fun i ρ3 => wp mi ρ3 fun r2 ρ4 => wp (intOf r2) ρ4 fun j ρ5 => wp (setAt i j d) ρ5 P := by
  unfold sSetL
  rw [wp_bind]
  constructor <;> exact fun h => wp_imp h fun a ρ' q => by
    rw [wp_bind] at *
    exact wp_imp q fun b ρ2 z => by
      rw [wp_bind] at *
      exact wp_imp z fun b ρ2 z => by
        rw [wp_bind] at *
        exact wp_imp z fun b ρ2 z => by rw [wp_bind] at *; exact z
theorem wp_intOf {i : Int} {P : Int → Env → Prop} : wp (intOf (.v (.int i))) ρ P ↔ P i ρ := wp_pure (a := i)
theorem wp_setAt {i : Nat} {j : Int} {d : D} {md : Mode} {ds : List D} {q : Nat} {P : Flo → Env → Prop} (h : ρ.getD i .un = .fl md (.lst ds)) (hm : md ≠ .lk) (e : ixN ds.length j = some q) (p : P .nx (ρ.set i (.fl md (.lst (ds.set q d))))) : wp (setAt i j d) ρ P :=
  ⟨_, _, by unfold setAt; rw [h]; simp only [hm, if_false]; rw [e], p⟩
theorem wp_augL {i : Nat} {md : Mode} {ds : List D} {P : Flo → Env → Prop} (h : ρ.getD i .un = .fl md (.lst ds)) (p : wp ma ρ fun r ρ1 => ∃ bs ds', r = .fl (.lst bs) ∧ ρ1.getD i .un = .fl md (.lst ds') ∧ md ≠ .lk ∧ ds'.length + bs.length ≤ lim ∧ P .nx (ρ1.set i (.fl md (.lst (ds' ++ bs))))) : wp (sAugAdd i ma) ρ P := by
  have e : sAugAdd i ma ρ = sAugL i ma ρ := by unfold sAugAdd; rw [h]
  obtain ⟨r, ρ1, e1, bs, ds', rfl, h1, hm, hz, p⟩ := p
  refine ⟨.nx, _, ?_, p⟩
  rw [e]
  unfold sAugL M.bind lstPl
  simp only
  rw [h]
  simp only
  rw [e1]
  simp only [extTo]
  rw [h1]
  simp only [hm, if_false, hz, if_true]
theorem wp_augI {i : Nat} {a : Int} {P : Flo → Env → Prop} (h : ρ.getD i .un = .fl .own (.val (.int a))) (hi : i < ρ.length) (p : wp ma ρ fun r ρ1 => ∃ j, r = .v (.int j) ∧ modeOf (ρ1.getD i .un) = .own ∧ i < ρ1.length ∧ P .nx (ρ1.set i (.v (.int (a + j))))) : wp (sAugAdd i ma) ρ P := by
  have e : sAugAdd i ma ρ = sAugI (fun a j => some (a + j)) i ma ρ := by unfold sAugAdd; rw [h]
  obtain ⟨r, ρ1, e1, j, rfl, h1, h2, p⟩ := p
  refine ⟨.nx, _, ?_, p⟩
  rw [e]
  unfold sAugI M.bind isIntSl
  simp only
  rw [h]
  simp only
  rw [e1]
  show (match putv i (.int (a + j)) ρ1 with
    | some ρ' => Res.ok Flo.nx ρ'
    | none => .stuck) = _
  unfold putv
  rw [if_pos ⟨h1, h2⟩]
end
end VS
namespace VS
open PySem PySem.Spec PyProof.Rows L2
section
variable {α β : Type} {ρ ρ1 ρ2 : Env} {m ma mb mc : M RV}
/-! ### the same without premises, for simp -/
theorem wq_var {i : Nat} {P : RV → Env → Prop} : wp (mVar i) ρ P ↔ match ρ.getD i .un with
    | .un => False
    | .fl _ (.val d) => P (.v d) ρ
    | _ => P (.pl i) ρ := by
  unfold wp mVar
  cases ρ.getD i .un with
  | un => exact ⟨fun ⟨_, _, e, _⟩ => (nomatch e), False.elim⟩
  | fl m f =>
    cases f with
    | val d => exact ⟨fun ⟨_, _, e, p⟩ => by injection e with e2 e3; subst e2; subst e3; exact p, fun p => ⟨_, _, rfl, p⟩⟩
    | lst d => exact ⟨fun ⟨_, _, e, p⟩ => by injection e with e2 e3; subst e2; subst e3; exact p, fun p => ⟨_, _, rfl, p⟩⟩
    | dct t d => exact ⟨fun ⟨_, _, e, p⟩ => by injection e with e2 e3; subst e2; subst e3; exact p, fun p => ⟨_, _, rfl, p⟩⟩
  | ob m C fs => exact ⟨fun ⟨_, _, e, p⟩ => by injection e with e2 e3; subst e2; subst e3; exact p, fun p => ⟨_, _, rfl, p⟩⟩
theorem wq_store {i : Nat} {f : Fld} {P : Flo → Env → Prop} : wp (store i (.fl f)) ρ P ↔ (modeOf (ρ.getD i .un) = .own ∧ i < ρ.length) ∧ P .nx (ρ.set i (.fl .own f)) := by
  constructor
  · rintro ⟨a, ρ', e, p⟩
    have e : (if modeOf (ρ.getD i .un) = .own ∧ i < ρ.length then (Res.ok Flo.nx (ρ.set i (.fl .own f)) : Res Flo) else .stuck) = .ok a ρ' := e
    split at e
    · injection e with e2 e3; subst e2; subst e3; exact ⟨by assumption, p⟩
    · cases e
  · rintro ⟨⟨h1, h2⟩, p⟩
    exact (wp_store h1 h2).mpr p
theorem wq_store2 {i j : Nat} {f k : Fld} {P : Flo → Env → Prop} : wp (store2 i j [.fl f, .fl k]) ρ P ↔ (modeOf (ρ.getD i .un) = .own ∧ i < ρ.length ∧ modeOf (ρ.getD j .un) = .own ∧ j < ρ.length) ∧ P .nx ((ρ.set i (.fl .own f)).set j (.fl .own k)) := by
  constructor
  · rintro ⟨a, ρ', e, p⟩
    have e : (if modeOf (ρ.getD i .un) = .own ∧ i < ρ.length ∧ modeOf (ρ.getD j .un) = .own ∧ j < ρ.length then (Res.ok Flo.nx ((ρ.set i (.fl .own f)).set j (.fl .own k)) : Res Flo) else .stuck) = .ok a ρ' := e
    split at e
    · injection e with e2 e3; subst e2; subst e3; exact ⟨by assumption, p⟩
    · cases e
  · rintro ⟨⟨h1, h2, h3, h4⟩, p⟩
    exact (wp_store2 h1 h2 h3 h4).mpr p
theorem wq_ret1 {g : Fld → Option RV} {r : RV} {P : RV → Env → Prop} : wp (ret1 g r) ρ P ↔ ∃ f, look ρ r = some f ∧ ∃ q, g f = some q ∧ P q ρ := by
  constructor
  · rintro ⟨b, ρ', e, p⟩
    unfold ret1 at e
    cases el : look ρ r with
    | none => rw [el] at e; cases e
    | some f =>
      rw [el] at e
      simp only at e
      cases eg : g f with
      | none => rw [eg] at e; cases e
      | some q => rw [eg] at e; injection e with e1 e2; subst e1; subst e2; exact ⟨f, rfl, _, eg, p⟩
  · rintro ⟨f, h, q, e, p⟩
    exact (wp_ret1 h e).mpr p
theorem wq_ret2 {g : Fld → Fld → Option RV} {r r2 : RV} {P : RV → Env → Prop} : wp (ret2 g r r2) ρ P ↔ ∃ f, look ρ r = some f ∧ ∃ k, look ρ r2 = some k ∧ ∃ q, g f k = some q ∧ P q ρ := by
  constructor
  · rintro ⟨b, ρ', e, p⟩
    unfold ret2 at e
    cases el : look ρ r with
    | none => rw [el] at e; cases e
    | some f =>
      cases el2 : look ρ r2 with
      | none => rw [el, el2] at e; cases e
      | some k =>
        rw [el, el2] at e
        simp only at e
        cases eg : g f k with
        | none => rw [eg] at e; cases e
        | some q => rw [eg] at e; injection e with e1 e2; subst e1; subst e2; exact ⟨f, rfl, k, rfl, _, eg, p⟩
  · rintro ⟨f, h, k, h2, q, e, p⟩
    exact (wp_ret2 h h2 e).mpr p
theorem wq_retN {g : List Fld → Option RV} {r : RV} {P : RV → Env → Prop} : wp (retN g [r]) ρ P ↔ ∃ f, look ρ r = some f ∧ ∃ q, g [f] = some q ∧ P q ρ := by
  constructor
  · rintro ⟨b, ρ', e, p⟩
    unfold retN at e
    simp only [looks] at e
    cases el : look ρ r with
    | none => rw [el] at e; cases e
    | some f =>
      rw [el] at e
      simp only at e
      cases eg : g [f] with
      | none => rw [eg] at e; cases e
      | some q => rw [eg] at e; injection e with e1 e2; subst e1; subst e2; exact ⟨f, rfl, _, eg, p⟩
  · rintro ⟨f, h, q, e, p⟩
    exact ⟨q, ρ, by unfold retN; simp only [looks, h]; rw [e], p⟩
theorem wq_retB {g : Fld → Option Bool} {r : RV} {P : Bool → Env → Prop} : wp (retB g r) ρ P ↔ ∃ f, look ρ r = some f ∧ ∃ b, g f = some b ∧ P b ρ := by
  constructor
  · rintro ⟨b, ρ', e, p⟩
    unfold retB at e
    cases el : look ρ r with
    | none => rw [el] at e; cases e
    | some f =>
      rw [el] at e
      simp only at e
      cases eg : g f with
      | none => rw [eg] at e; cases e
      | some q => rw [eg] at e; injection e with e1 e2; subst e1; subst e2; exact ⟨f, rfl, _, eg, p⟩
  · rintro ⟨f, h, q, e, p⟩
    exact ⟨q, ρ, by unfold retB; rw [h]; simp only; rw [e], p⟩
theorem lk_fl {f : Fld} : look ρ (.fl f) = some f := rfl
theorem lk_pl {i : Nat} : look ρ (.pl i) = match ρ.getD i .un with
    | .fl _ f => some f
    | _ => none := rfl
theorem ex_some {γ : Type} {a : γ} {P : γ → Prop} : (∃ q, some a = some q ∧ P q) ↔ P a := ⟨fun ⟨q, e, p⟩ => by injection e with e; subst e; exact p, fun p => ⟨a, rfl, p⟩⟩
/-! ### operations on data -/
theorem gSub_ii {i j : Int} : gSub (.val (.int i)) (.val (.int j)) = some (.v (.int (i - j))) := rfl
theorem gAdd_ii {i j : Int} : gAdd (.val (.int i)) (.val (.int j)) = some (.v (.int (i + j))) := rfl
theorem gAdd_tt {a b : List D} (h : a.length + b.length ≤ lim) : gAdd (.val (.tup a)) (.val (.tup b)) = some (.v (.tup (a ++ b))) := by
  show (gAddI (.val (.tup a)) (.val (.tup b))).or ((gAddL (.val (.tup a)) (.val (.tup b))).or ((gAddT (.val (.tup a)) (.val (.tup b))).or _)) = _
  have : gAddT (.val (.tup a)) (.val (.tup b)) = some (.v (.tup (a ++ b))) := by unfold gAddT asT; simp only; rw [if_pos h]
  rw [this]; rfl
theorem gAdd_ll {f k : Fld} {a b : List D} (ha : asL f = some a) (hb : asL k = some b) (h : a.length + b.length ≤ lim) : gAdd f k = some (.fl (.lst (a ++ b))) := by
  have e1 : gAddI f k = none := by
    unfold asL at ha
    split at ha <;> first | rfl | cases ha
  have : gAddL f k = some (.fl (.lst (a ++ b))) := by unfold gAddL; rw [ha, hb]; simp only; rw [if_pos h]
  unfold gAdd
  rw [e1, this]; rfl
theorem gLt_ii {i j : Int} : gLt (.val (.int i)) (.val (.int j)) = some (.v (.bl (decide (i < j)))) := rfl
theorem gLt_pp {a b c d : Int} : gLt (.val (.tup [.int a, .int b])) (.val (.tup [.int c, .int d])) = some (.v (.bl (decide (a < c ∨ (a = c ∧ b < d))))) := by
  show some (RV.v (.bl (HT.lexLt [a, b] [c, d]))) = _
  congr 3
  simp only [HT.lexLt]
  by_cases h : a = c
  · subst h
    by_cases h2 : b = d
    · subst h2; simp
    · simp [h2]
  · simp [h]
theorem gLe_ii {i j : Int} : gLe (.val (.int i)) (.val (.int j)) = some (.v (.bl (decide (i ≤ j)))) := rfl
theorem gGt_ii {i j : Int} : gGt (.val (.int i)) (.val (.int j)) = some (.v (.bl (decide (j < i)))) := rfl
theorem gGe_ii {i j : Int} : gGe (.val (.int i)) (.val (.int j)) = some (.v (.bl (decide (j ≤ i)))) := rfl
theorem gEq_dd {neg : Bool} {d e : D} (h1 : shp deep d = true) (h2 : shp deep e = true) : gEqG neg (.val d) (.val e) = some (.v (.bl (neg != eqb d e))) := by
  unfold gEqG asD
  simp only
  rw [if_pos ⟨h1, h2⟩]
theorem gEq_ld {neg : Bool} {ds : List D} {e : D} (h1 : shp deep (.lst ds) = true) (h2 : shp deep e = true) : gEqG neg (.lst ds) (.val e) = some (.v (.bl (neg != eqb (.lst ds) e))) := by
  unfold gEqG asD
  simp only
  rw [if_pos ⟨h1, h2⟩]
theorem gEq_ll {neg : Bool} {ds es : List D} (h1 : shp deep (.lst ds) = true) (h2 : shp deep (.lst es) = true) : gEqG neg (.lst ds) (.lst es) = some (.v (.bl (neg != eqb (.lst ds) (.lst es)))) := by
  unfold gEqG asD
  simp only
  rw [if_pos ⟨h1, h2⟩]
theorem shp_int {n : Nat} {i : Int} : shp n (.int i) = true := by cases n <;> rfl
theorem shp_bl {n : Nat} {i : Bool} : shp n (.bl i) = true := by cases n <;> rfl
theorem shp_non {n : Nat} : shp n .non = true := by cases n <;> rfl
theorem shp_pair {n : Nat} {a b : Int} : shp (n + 1) (.tup [.int a, .int b]) = true := by
  show shps n [.int a, .int b] = true
  simp [shps, shp_int]
theorem shp_prD {n : Nat} {p : Int × Int} : shp (n + 1) (prD p) = true := shp_pair
theorem shps_map {α : Type} {n : Nat} {f : α → D} {l : List α} (h : ∀ x ∈ l, shp n (f x) = true) : shps n (l.map f) = true := by
  induction l with
  | nil => cases n <;> rfl
  | cons x l ih =>
    simp only [List.map_cons, shps, h x List.mem_cons_self, ih fun y hy => h y (List.mem_cons_of_mem _ hy), Bool.and_true]
theorem shps_prD {n : Nat} {l : List (Int × Int)} : shps (n + 1) (l.map prD) = true := shps_map fun _ _ => shp_prD
theorem eqb_prD {p q : Int × Int} : eqb (prD p) (prD q) = decide (p = q) := by
  obtain ⟨a, b⟩ := p
  obtain ⟨c, d⟩ := q
  show (eqb (.tup [.int a, .int b]) (.tup [.int c, .int d])) = _
  simp [eqb, eqbs]
  by_cases h1 : a = c <;> by_cases h2 : b = d <;> simp [h1, h2]
theorem eqbs_prD : ∀ {l m : List (Int × Int)}, eqbs (l.map prD) (m.map prD) = decide (l = m)
  | [], [] => rfl
  | [], _ :: _ => by simp [eqbs]
  | _ :: _, [] => by simp [eqbs]
  | x :: l, y :: m => by
    simp only [List.map_cons, eqbs, eqb_prD, eqbs_prD]
    by_cases h1 : x = y <;> by_cases h2 : l = m <;> simp [h1, h2]
theorem any_prD {l : List (Int × Int)} {p : Int × Int} : (l.map prD).any (fun z => eqb z (prD p)) = decide (p ∈ l) := by
  induction l with
  | nil => simp
  | cons x l ih =>
    simp only [List.map_cons, List.any_cons, ih, eqb_prD]
    by_cases h1 : x = p
    · subst h1; simp
    · have : ¬ p = x := fun z => h1 z.symm
      by_cases h2 : p ∈ l <;> simp [h1, h2, this]
end
end VS
namespace VS
open PySem PySem.Spec PyProof.Rows L2
section
variable {α β : Type} {ρ ρ1 ρ2 : Env} {m ma mb mc : M RV}
/-- a comprehension without effect, over typed items -/
theorem cloop_pureT {tg : Tg} {cond : M Bool} {elt : M RV} {vs : List Nat} {g : α → D} {p : α → Bool} {f : α → D} {ρw : Env} : ∀ {L : List α} {acc : List D}, (∀ x ∈ L, ∃ ρ1, tg (g x) ρw = some ρ1 ∧ wp cond ρ1 fun k ρ2 => k = p x ∧ (p x = false → wipeE ρ2 vs = ρw) ∧ (p x = true → wp (mEsc elt) ρ2 fun y ρ3 => y = f x ∧ wipeE ρ3 vs = ρw)) →
    acc.length + L.length ≤ sizeLine → cloop tg cond elt vs (L.map g) acc ρw = .ok (acc ++ (L.filter p).map f) ρw
  | [], acc, _, _ => by simp [cloop]
  | d :: ds, acc, h, hz => by
    obtain ⟨ρ1, e, k, ρ2, e2, hk, h0, h1⟩ := h d List.mem_cons_self
    rw [List.length_cons] at hz
    have hr : ∀ x ∈ ds, ∃ ρ1, tg (g x) ρw = some ρ1 ∧ wp cond ρ1 fun k ρ2 => k = p x ∧ (p x = false → wipeE ρ2 vs = ρw) ∧ (p x = true → wp (mEsc elt) ρ2 fun y ρ3 => y = f x ∧ wipeE ρ3 vs = ρw) := fun d' hd => h d' (List.mem_cons_of_mem _ hd)
    rw [List.map_cons]
    unfold cloop
    simp only [e]
    unfold M.bind
    rw [e2]
    simp only
    subst hk
    by_cases hp : p d = true
    · obtain ⟨y, ρ3, e3, ey, ew⟩ := h1 hp
      simp only [hp, if_true]
      rw [e3]
      simp only [show acc.length < sizeLine by omega, if_true, ew]
      rw [cloop_pureT hr (by rw [List.length_append, List.length_singleton]; omega), ey]
      simp [hp]
    · have hp : p d = false := by simpa using hp
      simp only [hp, Bool.false_eq_true, if_false, h0 hp]
      rw [cloop_pureT hr (by omega)]
      simp [hp]
theorem wp_compT {src : M Src} {vs : List Nat} {tg : Tg} {cond : M Bool} {elt : M RV} {P : RV → Env → Prop} {L : List α} {g : α → D} (p : α → Bool) (f : α → D) (hz : L.length ≤ sizeLine) (h : wp src ρ fun S ρ1 => S = ⟨L.map g, none⟩ ∧ (∀ x ∈ L, ∃ ρ2, tg (g x) (wipeE ρ1 vs) = some ρ2 ∧ wp cond ρ2 fun k ρ3 => k = p x ∧ (p x = false → wipeE ρ3 vs = wipeE ρ1 vs) ∧ (p x = true → wp (mEsc elt) ρ3 fun y ρ4 => y = f x ∧ wipeE ρ4 vs = wipeE ρ1 vs)) ∧
    P (.fl (.lst ((L.filter p).map f))) ρ1) : wp (mComp src vs tg cond elt) ρ P := by
  refine wp_comp (wp_imp h fun S ρ1 ⟨hk, hs, q⟩ => ?_)
  subst hk
  have hl : lck ⟨L.map g, none⟩ ρ1 = ρ1 := rfl
  refine ⟨rfl, (L.filter p).map f, wipeE ρ1 vs, ?_, ?_⟩
  · rw [hl, cloop_pureT hs (by simpa using hz)]; simp
  · rw [hl, unw_wipe]; exact q
/-- the same, no test -/
theorem wp_compM {src : M Src} {vs : List Nat} {tg : Tg} {elt : M RV} {P : RV → Env → Prop} {L : List α} {g : α → D} (f : α → D) (hz : L.length ≤ sizeLine) (h : wp src ρ fun S ρ1 => S = ⟨L.map g, none⟩ ∧ (∀ x ∈ L, ∃ ρ2, tg (g x) (wipeE ρ1 vs) = some ρ2 ∧ wp (mEsc elt) ρ2 fun y ρ4 => y = f x ∧ wipeE ρ4 vs = wipeE ρ1 vs) ∧
    P (.fl (.lst (L.map f))) ρ1) : wp (mComp src vs tg bTrue elt) ρ P :=
  wp_compT (fun _ => true) f hz (wp_imp h fun S ρ1 ⟨h1, h2, h3⟩ => ⟨h1, fun x hx => by
    obtain ⟨ρ2, e, h⟩ := h2 x hx
    exact ⟨ρ2, e, wp_true.mpr ⟨rfl, (fun z => nomatch z), fun _ => h⟩⟩, by rw [show L.filter (fun _ => true) = L from List.filter_eq_self.mpr fun _ _ => rfl]; exact h3⟩)
theorem cut_from {ds : List D} {k : Nat} : cutD ds (some (k : Int)) none = ds.drop k := by
  have e : HT.sIx ds.length 0 (some (k : Int)) = min k ds.length := by
    rw [HT.sIx_nat]
  have e2 : HT.sIx ds.length ds.length none = ds.length := rfl
  unfold cutD
  rw [e, e2]
  rw [List.take_of_length_le (by rw [List.length_drop]; omega)]
  by_cases h : k ≤ ds.length
  · rw [Nat.min_eq_left h]
  · rw [Nat.min_eq_right (by omega), List.drop_length, List.drop_eq_nil_of_le (by omega)]
theorem cut_to {ds : List D} {k : Nat} : cutD ds none (some (k : Int)) = ds.take k := by
  have e : HT.sIx ds.length ds.length (some (k : Int)) = min k ds.length := by
    rw [HT.sIx_nat]
  have e2 : HT.sIx ds.length 0 none = 0 := rfl
  unfold cutD
  rw [e, e2, List.drop_zero, Nat.sub_zero]
  by_cases h : k ≤ ds.length
  · rw [Nat.min_eq_left h]
  · rw [Nat.min_eq_right (by omega), List.take_length, List.take_of_length_le (by omega)]
theorem cut_last {ds : List D} (h : ds ≠ []) : cutD ds (some (-1)) none = ds.drop (ds.length - 1) := by
  have hl : 0 < ds.length := List.length_pos_iff.mpr h
  have e : HT.sIx ds.length 0 (some (-1)) = ds.length - 1 := by
    show (if (-1 : Int) < 0 then (-1 + (ds.length : Int)).toNat else min (-1 : Int).toNat ds.length) = _
    rw [if_pos (by omega)]; omega
  have e2 : HT.sIx ds.length ds.length none = ds.length := rfl
  unfold cutD
  rw [e, e2, List.take_of_length_le (by rw [List.length_drop]; omega)]
theorem gCut_t {lo hi : Option Int} {ds : List D} : gCut lo hi (.val (.tup ds)) = some (.v (.tup (cutD ds lo hi))) := rfl
theorem at_nat {γ : Type} {xs : List γ} {i : Nat} {x : γ} (h : xs[i]? = some x) : atI xs (i : Int) = some x := atI_nat h
theorem gIx_t {ds : List D} {i : Int} {d : D} (h : atI ds i = some d) : gIx (.val (.tup ds)) (.val (.int i)) = some (.v d) := by
  have e : gIxT (.val (.tup ds)) (.val (.int i)) = some (.v d) := by unfold gIxT asT; simp only; rw [h]; rfl
  have e0 : gIxL (.val (.tup ds)) (.val (.int i)) = none := rfl
  unfold gIx
  rw [e0, e]; rfl
theorem gIx_l {ds : List D} {i : Int} {d : D} (h : atI ds i = some d) : gIx (.lst ds) (.val (.int i)) = some (.v d) := by
  have e : gIxL (.lst ds) (.val (.int i)) = some (.v d) := by unfold gIxL asL; simp only; rw [h]; rfl
  unfold gIx
  rw [e]; rfl
theorem gIx_0 {a b : D} : gIx (.val (.tup [a, b])) (.val (.int 0)) = some (.v a) := gIx_t rfl
theorem gIx_1 {a b : D} : gIx (.val (.tup [a, b])) (.val (.int 1)) = some (.v b) := gIx_t rfl
theorem gIn_t {neg : Bool} {l : List (Int × Int)} {p : Int × Int} : gIn neg (.val (prD p)) (.val (.tup (l.map prD))) = some (.v (.bl (neg != decide (p ∈ l)))) := by
  have e : gInT neg (.val (prD p)) (.val (.tup (l.map prD))) = some (.v (.bl (neg != decide (p ∈ l)))) := by
    unfold gInT asD asT
    simp only
    rw [if_pos ⟨shp_prD (n := 11), shps_prD (n := 11)⟩, any_prD]
  have e0 : gInL neg (.val (prD p)) (.val (.tup (l.map prD))) = none := rfl
  unfold gIn
  rw [e0, e]; rfl
end
end VS
/-! dicts with pairs of ints as keys -/
namespace VS
open PySem PySem.Spec PyProof.Rows L2
theorem modeOf_un : modeOf .un = .own := rfl
theorem modeOf_fl {m : Mode} {f : Fld} : modeOf (.fl m f) = m := rfl
theorem gTuple_l {ds : List D} : gTuple (.lst ds) = some (.v (.tup ds)) := rfl
theorem gTuple_t {ds : List D} : gTuple (.val (.tup ds)) = some (.v (.tup ds)) := rfl
theorem gList_l {ds : List D} : gList (.lst ds) = some (.fl (.lst ds)) := rfl
theorem gList_vl {ds : List D} : gList (.val (.lst ds)) = some (.fl (.lst ds)) := rfl
theorem gList_t {ds : List D} : gList (.val (.tup ds)) = some (.fl (.lst ds)) := rfl
theorem gLen_l {ds : List D} : gLen (.lst ds) = some (.v (.int ds.length)) := rfl
theorem gLen_t {ds : List D} : gLen (.val (.tup ds)) = some (.v (.int ds.length)) := rfl
theorem gInt_i {i : Int} : gInt (.val (.int i)) = some (.v (.int i)) := rfl
theorem gNeg_i {i : Int} : gNeg (.val (.int i)) = some (.v (.int (-i))) := rfl
theorem gAppend_1 {ds : List D} {d : D} (h : ds.length < lim) : gAppend ds [d] = some (.non, ds ++ [d]) := by unfold gAppend; simp only; rw [if_pos h]
theorem unlk_n {ds : List D} {ρ ρ' : Env} : unlk ⟨ds, none⟩ ρ ρ' = ρ' := rfl
theorem lck_n {ds : List D} {ρ : Env} : lck ⟨ds, none⟩ ρ = ρ := rfl
theorem wq_retp {ρ : Env} {i : Nat} {P : Flo → Env → Prop} : wp (retv (.pl i)) ρ P ↔ match ρ.getD i .un with
    | .fl .own f => P (.rt (.fl f)) (ρ.set i .un)
    | .ob .own C fs => P (.rt (.ob C fs)) (ρ.set i .un)
    | _ => False := by
  unfold wp retv
  simp only
  cases ρ.getD i .un with
  | un => exact ⟨fun ⟨_, _, e, _⟩ => (nomatch e), False.elim⟩
  | fl m f =>
    cases m with
    | own => exact ⟨fun ⟨_, _, e, p⟩ => by injection e with e2 e3; subst e2; subst e3; exact p, fun p => ⟨_, _, rfl, p⟩⟩
    | pin => exact ⟨fun ⟨_, _, e, _⟩ => (nomatch e), False.elim⟩
    | lk => exact ⟨fun ⟨_, _, e, _⟩ => (nomatch e), False.elim⟩
  | ob m C fs =>
    cases m with
    | own => exact ⟨fun ⟨_, _, e, p⟩ => by injection e with e2 e3; subst e2; subst e3; exact p, fun p => ⟨_, _, rfl, p⟩⟩
    | pin => exact ⟨fun ⟨_, _, e, _⟩ => (nomatch e), False.elim⟩
    | lk => exact ⟨fun ⟨_, _, e, _⟩ => (nomatch e), False.elim⟩
abbrev kP (c : Int × Int) : NestedKey := .tup [.num c.1, .num c.2]
theorem kP_inj {x y : Int × Int} : kP x = kP y ↔ x = y := by
  constructor
  · intro h
    injection h with h1
    injection h1 with h2 h3
    injection h3 with h4 _
    injection h2 with h2
    injection h4 with h4
    exact Prod.ext h2 h4
  · rintro rfl; rfl
theorem keyN_prD {c : Int × Int} : keyN (VS.prD c) = some (kP c) := rfl
theorem keyOf_prD {c : Int × Int} : keyOf (VS.prD c) = some (kP c) := by
  have : keyOf (VS.prD c) = if (kP c).depth ≤ 8 then some (kP c) else none := rfl
  rw [this, if_pos (by simp [NestedKey.depth, NestedKey.depthAll])]
theorem dfind_put {kvs : List (D × D)} {kd : D} {k k' : NestedKey} {v : D} (e : keyN kd = some k) : dfind (dput kvs kd k v) k' = if k = k' then some v else dfind kvs k' := by
  unfold dput
  by_cases h : (dfind kvs k).isSome = true
  · rw [if_pos h]
    have gen : ∀ kvs : List (D × D), (dfind kvs k).isSome = true → dfind (kvs.map fun p => if keyN p.1 = some k then (p.1, v) else p) k' = if k = k' then some v else dfind kvs k' := by
      intro kvs
      induction kvs with
      | nil => intro h; simp [dfind] at h
      | cons p kvs ih =>
        intro h
        by_cases hp : keyN p.1 = some k
        · by_cases hk : k = k'
          · subst hk; simp [dfind, hp]
          · have hk' : ¬ some k = some k' := fun z => hk (Option.some.inj z)
            simp only [List.map_cons, hp, if_true, dfind, List.find?_cons, hk', decide_false, if_neg hk]
            -- the rest may hold k or not
            by_cases h2 : (dfind kvs k).isSome = true
            · have := ih h2
              rw [if_neg hk] at this
              exact this
            · have none2 : ∀ q ∈ kvs, keyN q.1 ≠ some k := by
                intro q hq e2
                apply h2
                unfold dfind
                rw [Option.isSome_map, List.find?_isSome]
                exact ⟨q, hq, by simpa using e2⟩
              have : (kvs.map fun p => if keyN p.1 = some k then (p.1, v) else p) = kvs := by
                refine (List.map_congr_left fun q hq => ?_).trans (List.map_id kvs)
                rw [if_neg (none2 q hq)]; rfl
              rw [this]
        · have h2 : (dfind kvs k).isSome = true := by
            simpa [dfind, List.find?_cons, hp] using h
          have := ih h2
          simp only [List.map_cons, hp, if_false]
          by_cases hq : keyN p.1 = some k'
          · have hk : ¬ k = k' := fun z => hp (by rw [hq, z])
            simp [dfind, List.find?_cons, hq, hk]
          · simpa [dfind, List.find?_cons, hq] using this
    exact gen kvs h
  · rw [if_neg h]
    have hn : dfind kvs k = none := by simpa using h
    unfold dfind at hn ⊢
    rw [List.find?_append]
    by_cases hk : k = k'
    · subst hk
      rw [if_pos rfl]
      have : (kvs.find? fun p => decide (keyN p.1 = some k)) = none := by simpa using hn
      rw [this]
      simp [List.find?_cons, e]
    · rw [if_neg hk]
      have hk' : ¬ some k = some k' := fun z => hk (Option.some.inj z)
      cases hf : kvs.find? fun p => decide (keyN p.1 = some k') with
      | none => simp [List.find?_cons, e, hk']
      | some q => simp
/-- the last value told for c -/
def lookL (L : List ((Int × Int) × D)) (c : Int × Int) (d0 : Option D) : Option D := match L with
  | [] => d0
  | (x, v) :: r => lookL r c (if x = c then some v else d0)
def kvD (x : (Int × Int) × D) : D := .tup [VS.prD x.1, x.2]
theorem dputs_look : ∀ (L : List ((Int × Int) × D)) (kvs : List (D × D)), ∃ kvs', dputs kvs (L.map kvD) = some kvs' ∧ ∀ c, dfind kvs' (kP c) = lookL L c (dfind kvs (kP c))
  | [], kvs => ⟨kvs, rfl, fun _ => rfl⟩
  | (x, v) :: L, kvs => by
    obtain ⟨kvs', e, h⟩ := dputs_look L (dput kvs (VS.prD x) (kP x) v)
    refine ⟨kvs', ?_, fun c => ?_⟩
    · show (match keyOf (VS.prD x) with
        | some n => dputs (dput kvs (VS.prD x) n v) (L.map kvD)
        | none => none) = some kvs'
      rw [keyOf_prD]; exact e
    · rw [h c, dfind_put keyN_prD]
      show lookL L c _ = lookL L c _
      congr 1
      by_cases hx : x = c
      · subst hx; simp
      · rw [if_neg hx, if_neg fun z => hx (kP_inj.mp z)]
theorem lookL_none {c : Int × Int} : ∀ {L : List ((Int × Int) × D)} {d0 : Option D}, (∀ x ∈ L, x.1 ≠ c) → lookL L c d0 = d0
  | [], _, _ => rfl
  | (x, v) :: r, d0, h => by
    show lookL r c (if x = c then some v else d0) = d0
    rw [if_neg (h (x, v) List.mem_cons_self)]
    exact lookL_none fun y hy => h y (List.mem_cons_of_mem _ hy)
/-- one value for c: it stands -/
theorem lookL_one {c : Int × Int} {d : D} : ∀ {L : List ((Int × Int) × D)} {d0 : Option D}, (∀ v, (c, v) ∈ L → v = d) → (d0 = some d ∨ (c, d) ∈ L) → lookL L c d0 = some d
  | [], d0, _, h => by
    rcases h with h | h
    · exact h
    · cases h
  | (x, v) :: r, d0, hu, h => by
    show lookL r c (if x = c then some v else d0) = some d
    refine lookL_one (fun v hv => hu v (List.mem_cons_of_mem _ hv)) ?_
    by_cases hx : x = c
    · subst hx
      rw [if_pos rfl, hu v List.mem_cons_self]; exact .inl rfl
    · rw [if_neg hx]
      rcases h with h | h
      · exact .inl h
      · rcases List.mem_cons.mp h with e | h
        · injection e with e1 _; exact absurd e1.symm hx
        · exact .inr h
theorem gDict_l {L : List ((Int × Int) × D)} (h : L.length ≤ lim) : ∃ kvs, gDict (.lst (L.map kvD)) = some (.fl (.dct true kvs)) ∧ ∀ c, dfind kvs (kP c) = lookL L c none := by
  obtain ⟨kvs, e, hf⟩ := dputs_look L []
  refine ⟨kvs, ?_, fun c => hf c⟩
  unfold gDict asL
  simp only
  rw [if_pos (by simpa using h), e]; rfl
theorem gIn_d {neg : Bool} {kvs : List (D × D)} {c : Int × Int} : gIn neg (.val (VS.prD c)) (.dct true kvs) = some (.v (.bl (neg != (dfind kvs (kP c)).isSome))) := by
  have e : gInK neg (.val (VS.prD c)) (.dct true kvs) = some (.v (.bl (neg != (dfind kvs (kP c)).isSome))) := by
    have : gInK neg (.val (VS.prD c)) (.dct true kvs) = match keyOf (VS.prD c) with
      | some k => some (.v (.bl (neg != (dfind kvs k).isSome)))
      | none => none := rfl
    rw [this, keyOf_prD]
  have e0 : gInL neg (.val (VS.prD c)) (.dct true kvs) = none := rfl
  have e1 : gInT neg (.val (VS.prD c)) (.dct true kvs) = none := rfl
  unfold gIn
  rw [e0, e1, e]; rfl
theorem gIx_d {kvs : List (D × D)} {c : Int × Int} {d : D} (h : dfind kvs (kP c) = some d) : gIx (.dct true kvs) (.val (VS.prD c)) = some (.v d) := by
  have e : gIxK (.dct true kvs) (.val (VS.prD c)) = some (.v d) := by
    have : gIxK (.dct true kvs) (.val (VS.prD c)) = match keyOf (VS.prD c) with
      | some k => (dfind kvs k).map fun d => .v d
      | none => none := rfl
    rw [this, keyOf_prD]
    simp only
    rw [h]; rfl
  have e0 : gIxL (.dct true kvs) (.val (VS.prD c)) = none := rfl
  have e1 : gIxT (.dct true kvs) (.val (VS.prD c)) = none := rfl
  have e2 : gIxS (.dct true kvs) (.val (VS.prD c)) = none := rfl
  unfold gIx
  rw [e0, e1, e2, e]; rfl
theorem lookL_mem {l : List (Int × Int)} {c : Int × Int} {d : D} : (lookL (l.map fun x => (x, d)) c none).isSome = decide (c ∈ l) := by
  by_cases h : c ∈ l
  · rw [lookL_one (d := d) (fun v hv => by
      obtain ⟨x, _, e⟩ := List.mem_map.mp hv
      injection e with _ e; exact e.symm) (.inr (List.mem_map.mpr ⟨c, h, rfl⟩))]
    simp [h]
  · rw [lookL_none fun x hx e => by
      obtain ⟨y, hy, rfl⟩ := List.mem_map.mp hx
      exact h (by rw [← e]; exact hy)]
    simp [h]
end VS
namespace VS
open PySem PySem.Spec PyProof.Rows L2
section
variable {α β : Type} {ρ ρ1 ρ2 : Env} {m ma mb mc : M RV}
/-- two for, no tests, no effects: outer items x, inner items (h x), elements f x y -/
theorem cloop2_pure {tg tg1 : Tg} {src1 : M Src} {elt : M RV} {vs vs1 : List Nat} {g : α → D} {h : α → List β} {g1 : α → β → D} {f : α → β → D} {ρw : Env} : ∀ {L : List α} {acc : List D},
    (∀ x ∈ L, ∃ ρ1, tg (g x) ρw = some ρ1 ∧ wp src1 ρ1 fun S ρ2 => S = ⟨(h x).map (g1 x), none⟩ ∧ (∀ y ∈ h x, ∃ ρ3, tg1 (g1 x y) (wipeE ρ2 vs1) = some ρ3 ∧ wp (mEsc elt) ρ3 fun d ρ4 => d = f x y ∧ wipeE ρ4 vs1 = wipeE ρ2 vs1) ∧ wipeE (wipeE ρ2 vs1) vs = ρw) →
    acc.length + (L.flatMap h).length ≤ sizeLine → cloop2 tg bTrue src1 tg1 bTrue elt vs vs1 (L.map g) acc ρw = .ok (acc ++ L.flatMap fun x => (h x).map (f x)) ρw
  | [], acc, _, _ => by simp [cloop2]
  | x :: L, acc, hx, hz => by
    obtain ⟨ρ1, e, S, ρ2, e2, hS, h3, h4⟩ := hx x List.mem_cons_self
    subst hS
    rw [List.flatMap_cons, List.length_append] at hz
    rw [List.map_cons]
    unfold cloop2
    simp only [e]
    unfold M.bind bTrue
    simp only [if_true]
    rw [e2]
    simp only
    rw [cloop_pureT (p := fun _ => true) (f := f x) (g := g1 x) (L := h x) (ρw := wipeE ρ2 vs1) (cond := fun ρ => .ok true ρ) (fun y hy => by
      obtain ⟨ρ3, e3, h5⟩ := h3 y hy
      exact ⟨ρ3, e3, wp_pure.mpr ⟨rfl, (fun z => nomatch z), fun _ => h5⟩⟩) (by omega)]
    simp only
    rw [h4, show (h x).filter (fun _ => true) = h x from List.filter_eq_self.mpr fun _ _ => rfl]
    have := cloop2_pure (tg := tg) (tg1 := tg1) (src1 := src1) (elt := elt) (vs := vs) (vs1 := vs1) (g := g) (h := h) (g1 := g1) (f := f) (L := L) (acc := acc ++ (h x).map (f x)) (fun y hy => hx y (List.mem_cons_of_mem _ hy)) (by rw [List.length_append, List.length_map]; omega)
    unfold bTrue at this
    rw [this, List.flatMap_cons, List.append_assoc]
theorem wp_comp2 {src src1 : M Src} {vs vs1 : List Nat} {tg tg1 : Tg} {elt : M RV} {P : RV → Env → Prop} {L : List α} {g : α → D} {h : α → List β} {g1 : α → β → D} (f : α → β → D) (hz : (L.flatMap h).length ≤ sizeLine) (q : wp src ρ fun S ρ1 => S = ⟨L.map g, none⟩ ∧
    (∀ x ∈ L, ∃ ρ2, tg (g x) (wipeE ρ1 vs) = some ρ2 ∧ wp src1 ρ2 fun S ρ3 => S = ⟨(h x).map (g1 x), none⟩ ∧ (∀ y ∈ h x, ∃ ρ4, tg1 (g1 x y) (wipeE ρ3 vs1) = some ρ4 ∧ wp (mEsc elt) ρ4 fun d ρ5 => d = f x y ∧ wipeE ρ5 vs1 = wipeE ρ3 vs1) ∧ wipeE (wipeE ρ3 vs1) vs = wipeE ρ1 vs) ∧
    P (.fl (.lst (L.flatMap fun x => (h x).map (f x)))) ρ1) : wp (mComp2 src vs vs1 tg bTrue src1 tg1 bTrue elt) ρ P := by
  unfold mComp2
  rw [wp_bind]
  refine wp_imp q fun S ρ1 ⟨hS, hx, p⟩ => ?_
  subst hS
  have e : cloop2 tg bTrue src1 tg1 bTrue elt vs vs1 (L.map g) [] (wipeE (lck ⟨L.map g, none⟩ ρ1) vs) = .ok (L.flatMap fun x => (h x).map (f x)) (wipeE ρ1 vs) := by
    have := cloop2_pure (acc := []) hx (by simpa using hz)
    rw [List.nil_append] at this
    exact this
  unfold wp
  simp only [show lkOff ⟨L.map g, none⟩ vs = true from rfl, if_true, e]
  refine ⟨_, _, rfl, ?_⟩
  rw [show unlk ⟨L.map g, none⟩ ρ1 (unw (lck ⟨L.map g, none⟩ ρ1) vs (wipeE ρ1 vs)) = ρ1 from unw_wipe ρ1 vs]
  exact p
/-- on a box just made -/
theorem callF_f1 {G : Fn} {f k : Fld} (h : ∃ outs, G [.fl .own f] = .ok (.fl k) outs) : callF G [.fl f] ρ = .ok (.fl k) ρ := by
  obtain ⟨outs, e⟩ := h
  unfold callF
  rw [if_pos ⟨List.nodup_nil, rfl⟩]
  show (match G [.fl .own f] with
    | .ok r outs => if noPl r = true then Res.ok r (backE [.fl f] outs ρ) else Res.stuck
    | .exc x outs => Res.exc x (backE [.fl f] outs ρ)
    | .stuck => Res.stuck) = _
  rw [e]
  simp only [noPl, if_true]
  rfl
theorem wp_ff1 {G : Fn} {f k : Fld} (h : ∃ outs, G [.fl .own f] = .ok (.fl k) outs) {P : RV → Env → Prop} (p : P (.fl k) ρ) : wp (callF G [.fl f]) ρ P := ⟨_, _, callF_f1 h, p⟩
/-- a def on slots -/
theorem fo_of {n : Nat} {b : M Flo} {ss : List Sl} {f : Fld} (h : wp b (ss ++ List.replicate (n - ss.length) .un) fun k _ => k = .rt (.fl f) ∨ (k = .nx ∧ f = .val .non)) : ∃ outs, fnOf n b ss = .ok (.fl f) outs := by
  obtain ⟨k, ρ', e, p⟩ := h
  unfold fnOf
  rw [e]
  rcases p with rfl | ⟨rfl, rfl⟩
  · exact ⟨_, rfl⟩
  · exact ⟨_, rfl⟩
end
end VS
namespace K50
open PySem PySem.Spec PyProof.Rows L2 VS
def top (i : Nat) : Stmt := PySem.Challenge.pw_cellgrounds_k50_whole_slanting_runs.main.body.getD i (.Pass ⟨0, 0, 0, 0⟩)
structure Txt (K : PySem.W.Frag) (mg : Str → Option Value) : Prop where
  g_CELLS : ∃ t, mg "CELLS" = some (.int 400 t)
  g_MANY : ∃ t, mg "MANY" = some (.int 400 t)
  g_SIDE : ∃ t, mg "SIDE" = some (.int 60 t)
  z_abs : mg "abs" = none
  z_all : mg "all" = none
  z_bool : mg "bool" = none
  z_dict : mg "dict" = none
  z_enumerate : mg "enumerate" = none
  z_int : mg "int" = none
  z_isinstance : mg "isinstance" = none
  z_len : mg "len" = none
  z_list : mg "list" = none
  z_range : mg "range" = none
  z_set : mg "set" = none
  z_sorted : mg "sorted" = none
  z_str : mg "str" = none
  z_tuple : mg "tuple" = none
  z_zip : mg "zip" = none
abbrev s__law_cup : Stmt := top 24
theorem sc__law_cup : FnScope ["script", "cell"] ["script"] (defScope s__law_cup) := ⟨rfl, rfl, rfl, by decide +kernel, rfl, by decide +kernel, by decide +kernel⟩
noncomputable def B__law_cup : M Flo := sSeq (sAsg 1 (mOpN (one1 gAbs) (mCons (mOp2 gIx (mOp2 gAdd (mOpN (one1 gList) (mCons (mVar 0) (mNil))) (mLst (dCons (mC (.int 0)) (dNil)))) (mC (.int 0))) (mNil)))) (sRet (mLst (dCons (mIf (mBool (mOp2 gGe (mVar 1) (mOp2 gPow (mC (.int 10)) (mC (.int 18))))) (mOp2 gDiv (mVar 1) (mC (.int 1427))) (mC (.int 0))) (dCons (mOp2 gAdd (mOp2 gMod (mOpN (one1 gInt) (mCons (mOp2 gAdd (mOp2 gMulI (mVar 1) (mC (.int 2003))) (mC (.int 10007))) (mNil))) (mC (.int 2077510001))) (mC (.int 1511))) (dNil)))))
noncomputable def F__law_cup : Fn := fnOf 2 B__law_cup
theorem kn__law_cup {P : Program} {w : World} {K : PySem.W.Frag} {mg : Str → Option Value} {base : Heap} {f : Addr} {fd : FuncData} (F : Fun K "_law_cup" "_law_cup" s__law_cup f fd) (T : Txt K mg) (hm : mg "_law_cup" = some (.ref f)) (hb : Binds K fd ["script"] []) : Kn P w K mg base "_law_cup" 2 1 F__law_cup := kn_fn (k := 1) F sc__law_cup rfl hm F.kp hb fun cdv A outer s H E hr hp W tk => s_cons (s_set (i := 1) sc__law_cup.nd rfl (by first | exact Or.inl rfl | exact Or.inr rfl) (i_abs (by rfl) T.z_abs (ia_cons (i_ix hr (i_add (i_list (by rfl) T.z_list (ia_cons (i_pv) (ia_nil))) (i_lst (ds_cons (i_int) (ds_nil)))) (i_int)) (ia_nil)))) (s_one (s_ret (i_lst (ds_cons (i_if (b_ge (i_pv) (i_pow (i_int) (i_int))) (i_div (i_pv) (i_int)) (i_int)) (ds_cons (i_add (i_mod (i_toint (by rfl) T.z_int (ia_cons (i_add (i_mul (i_pv) (i_int)) (i_int)) (ia_nil))) (i_int)) (i_int)) (ds_nil))))))
abbrev s_is_tuple_of : Stmt := top 8
theorem sc_is_tuple_of : FnScope ["value", "least", "most"] ["value", "least", "most"] (defScope s_is_tuple_of) := ⟨rfl, rfl, rfl, by decide +kernel, rfl, by decide +kernel, by decide +kernel⟩
noncomputable def B_is_tuple_of : M Flo := sRet (mAndV (mOp1 (gIsi .tup) (mVar 0)) (mChain pLe pLe (mVar 1) (mOpN (one1 gLen) (mCons (mVar 0) (mNil))) (mVar 2)))
noncomputable def F_is_tuple_of : Fn := fnOf 3 B_is_tuple_of
theorem kn_is_tuple_of {P : Program} {w : World} {K : PySem.W.Frag} {mg : Str → Option Value} {base : Heap} {f : Addr} {fd : FuncData} (F : Fun K "is_tuple_of" "is_tuple_of" s_is_tuple_of f fd) (T : Txt K mg) (hm : mg "is_tuple_of" = some (.ref f)) (hb : Binds K fd ["value", "least", "most"] []) : Kn P w K mg base "is_tuple_of" 2 3 F_is_tuple_of := kn_fn (k := 1) F sc_is_tuple_of rfl hm F.kp hb fun cdv A outer s H E hr hp W tk => s_one (s_ret (i_and (i_isi (T := .tup) (by decide) (by rfl) T.z_isinstance (by rfl) T.z_tuple (by rfl) (i_pv)) (i_one (i_leLe (i_pv) (i_len (by rfl) T.z_len (ia_cons (i_pv) (ia_nil))) (i_pv)))))
abbrev s_fits_whole : Stmt := top 7
theorem sc_fits_whole : FnScope ["value", "low", "high"] ["value", "low", "high"] (defScope s_fits_whole) := ⟨rfl, rfl, rfl, by decide +kernel, rfl, by decide +kernel, by decide +kernel⟩
noncomputable def B_fits_whole : M Flo := sRet (mAndV (mOp1 (gIsi .int) (mVar 0)) (mAndV (mNotV (mOp1 (gIsi .bl) (mVar 0))) (mChain pLe pLe (mVar 1) (mVar 0) (mVar 2))))
noncomputable def F_fits_whole : Fn := fnOf 3 B_fits_whole
theorem kn_fits_whole {P : Program} {w : World} {K : PySem.W.Frag} {mg : Str → Option Value} {base : Heap} {f : Addr} {fd : FuncData} (F : Fun K "fits_whole" "fits_whole" s_fits_whole f fd) (T : Txt K mg) (hm : mg "fits_whole" = some (.ref f)) (hb : Binds K fd ["value", "low", "high"] []) : Kn P w K mg base "fits_whole" 2 3 F_fits_whole := kn_fn (k := 1) F sc_fits_whole rfl hm F.kp hb fun cdv A outer s H E hr hp W tk => s_one (s_ret (i_and (i_isi (T := .int) (by decide) (by rfl) T.z_isinstance (by rfl) T.z_int (by rfl) (i_pv)) (i_and (i_not (i_isi (T := .bl) (by decide) (by rfl) T.z_isinstance (by rfl) T.z_bool (by rfl) (i_pv))) (i_one (i_leLe (i_pv) (i_pv) (i_pv))))))
abbrev s_fits_cell : Stmt := top 9
theorem sc_fits_cell : FnScope ["value", "place"] ["value"] (defScope s_fits_cell) := ⟨rfl, rfl, rfl, by decide +kernel, rfl, by decide +kernel, by decide +kernel⟩
noncomputable def B_fits_cell : M Flo := sRet (mAndV (mCall (F_is_tuple_of) (mCons (mVar 0) (mCons (mC (.int 2)) (mCons (mC (.int 2)) (mNil))))) (mOpN (one1 (gFold fun bs => bs.all id)) (mCons (mComp (mSrcA (mVar 0)) [1] (putv 1) (bTrue) (mCall (F_fits_whole) (mCons (mVar 1) (mCons (mC (.int 0)) (mCons (mOp2 gSub (mC (.int 60)) (mC (.int 1))) (mNil)))))) (mNil))))
noncomputable def F_fits_cell : Fn := fnOf 2 B_fits_cell
theorem kn_fits_cell {P : Program} {w : World} {K : PySem.W.Frag} {mg : Str → Option Value} {base : Heap} {f : Addr} {fd : FuncData} (F : Fun K "fits_cell" "fits_cell" s_fits_cell f fd) (T : Txt K mg) (hm : mg "fits_cell" = some (.ref f)) (hb : Binds K fd ["value"] []) (c_is_tuple_of : Kn P w K mg base "is_tuple_of" 2 3 F_is_tuple_of) (c_fits_whole : Kn P w K mg base "fits_whole" 2 3 F_fits_whole) : Kn P w K mg base "fits_cell" 3 1 F_fits_cell := kn_fn (k := 2) F sc_fits_cell rfl hm F.kp hb fun cdv A outer s H E hr hp W tk => s_one (s_ret (i_and (i_fn c_is_tuple_of (argN_cons (argN_cons (argN_cons argN_nil))) hr (by decide) tk (by rfl) (ia_cons (i_pv) (ia_cons (i_int) (ia_cons (i_int) (ia_nil))))) (i_one (i_all rfl (by rfl) T.z_all (ia_cons (i_lc (own := [("place", 1)]) rfl sc_fits_cell.nd (p_any (i_pv)) (blkOk_by (N := ["value", "place"]) (sc := defScope s_fits_cell) (by decide +kernel)) (fun _ _ _ _ _ => g_name (i := 1) sc_fits_cell.nd rfl (by first | exact Or.inl rfl | exact Or.inr rfl)) (fun _ _ _ _ _ => bs_nil) (fun _ _ _ _ _ => i_fn c_fits_whole (argN_cons (argN_cons (argN_cons argN_nil))) hr (by decide) take0 (by rfl) (ia_cons (i_pv) (ia_cons (i_int) (ia_cons (i_sub (i_glob (by rfl) T.g_SIDE) (i_int)) (ia_nil))))) (by decide)) (ia_nil))))))
abbrev s_fits_floor : Stmt := top 10
theorem sc_fits_floor : FnScope ["value", "cell", "one", "other"] ["value"] (defScope s_fits_floor) := ⟨rfl, rfl, rfl, by decide +kernel, rfl, by decide +kernel, by decide +kernel⟩
noncomputable def B_fits_floor : M Flo := sSeq (sIf (mOr (mNot (mTru (mCall (F_is_tuple_of) (mCons (mVar 0) (mCons (mC (.int 1)) (mCons (mC (.int 400)) (mNil))))))) (mNot (mTru (mOpN (one1 (gFold fun bs => bs.all id)) (mCons (mComp (mSrcA (mVar 0)) [1] (putv 1) (bTrue) (mCall (F_fits_cell) (mCons (mVar 1) (mNil)))) (mNil)))))) (sRet (mC (.bl false))) (sNil)) (sRet (mOpN (one1 (gFold fun bs => bs.all id)) (mCons (mComp ((dCons (mVar 0) (dCons (mCut (mVar 0) (mPart (mC (.int 1))) (mNoPart)) (dNil))).bind srcZ) [2, 3] (tgTup 2 (tgCons (putv 2) (tgCons (putv 3) (tgNil)))) (bTrue) (mOp2 gLt (mVar 2) (mVar 3))) (mNil))))
noncomputable def F_fits_floor : Fn := fnOf 4 B_fits_floor
theorem kn_fits_floor {P : Program} {w : World} {K : PySem.W.Frag} {mg : Str → Option Value} {base : Heap} {f : Addr} {fd : FuncData} (F : Fun K "fits_floor" "fits_floor" s_fits_floor f fd) (T : Txt K mg) (hm : mg "fits_floor" = some (.ref f)) (hb : Binds K fd ["value"] []) (c_is_tuple_of : Kn P w K mg base "is_tuple_of" 2 3 F_is_tuple_of) (c_fits_cell : Kn P w K mg base "fits_cell" 3 1 F_fits_cell) : Kn P w K mg base "fits_floor" 4 1 F_fits_floor := kn_fn (k := 3) F sc_fits_floor rfl hm F.kp hb fun cdv A outer s H E hr hp W tk => s_cons (s_if (b_w (w_or (b_not (b_tru (i_fn c_is_tuple_of (argN_cons (argN_cons (argN_cons argN_nil))) hr (by decide) tk (by rfl) (ia_cons (i_pv) (ia_cons (i_int) (ia_cons (i_glob (by rfl) T.g_CELLS) (ia_nil))))))) (w_or1 (b_not (b_tru (i_all rfl (by rfl) T.z_all (ia_cons (i_lc (own := [("cell", 1)]) rfl sc_fits_floor.nd (p_any (i_pv)) (blkOk_by (N := ["value", "cell", "one", "other"]) (sc := defScope s_fits_floor) (by decide +kernel)) (fun _ _ _ _ _ => g_name (i := 1) sc_fits_floor.nd rfl (by first | exact Or.inl rfl | exact Or.inr rfl)) (fun _ _ _ _ _ => bs_nil) (fun _ _ _ _ _ => i_fn c_fits_cell (argN_cons argN_nil) hr (by decide) take0 (by rfl) (ia_cons (i_pv) (ia_nil))) (by decide)) (ia_nil)))))))) (s_one (s_ret (i_bl))) (s_nil)) (s_one (s_ret (i_all rfl (by rfl) T.z_all (ia_cons (i_lc (own := [("one", 2), ("other", 3)]) rfl sc_fits_floor.nd (p_zip (by rfl) T.z_zip (ds_cons (i_pv) (ds_cons (i_cut (i_pv) (o_some (i_int)) (o_none)) (ds_nil)))) (blkOk_by (N := ["value", "cell", "one", "other"]) (sc := defScope s_fits_floor) (by decide +kernel)) (fun _ _ _ _ _ => g_tup rfl (gs_cons (g_name (i := 2) sc_fits_floor.nd rfl (by first | exact Or.inl rfl | exact Or.inr rfl)) (gs_cons (g_name (i := 3) sc_fits_floor.nd rfl (by first | exact Or.inl rfl | exact Or.inr rfl)) (gs_nil)))) (fun _ _ _ _ _ => bs_nil) (fun _ _ _ _ _ => i_lt hr (i_pv) (i_pv)) (by decide)) (ia_nil)))))
abbrev s_need_floor : Stmt := top 11
theorem sc_need_floor : FnScope ["floor"] ["floor"] (defScope s_need_floor) := ⟨rfl, rfl, rfl, by decide +kernel, rfl, by decide +kernel, by decide +kernel⟩
noncomputable def B_need_floor : M Flo := sIf (mNot (mTru (mCall (F_fits_floor) (mCons (mVar 0) (mNil))))) (sNever) (sNil)
noncomputable def F_need_floor : Fn := fnOf 1 B_need_floor
theorem kn_need_floor {P : Program} {w : World} {K : PySem.W.Frag} {mg : Str → Option Value} {base : Heap} {f : Addr} {fd : FuncData} (F : Fun K "need_floor" "need_floor" s_need_floor f fd) (T : Txt K mg) (hm : mg "need_floor" = some (.ref f)) (hb : Binds K fd ["floor"] []) (c_fits_floor : Kn P w K mg base "fits_floor" 4 1 F_fits_floor) : Kn P w K mg base "need_floor" 5 1 F_need_floor := kn_fn (k := 4) F sc_need_floor rfl hm F.kp hb fun cdv A outer s H E hr hp W tk => s_one (s_if (b_not (b_tru (i_fn c_fits_floor (argN_cons argN_nil) hr (by decide) tk (by rfl) (ia_cons (i_pv) (ia_nil))))) (s_one (s_never)) (s_nil))
abbrev s_homes_in : Stmt := top 16
theorem sc_homes_in : FnScope ["runs", "at", "run", "cell"] ["runs"] (defScope s_homes_in) := ⟨rfl, rfl, rfl, by decide +kernel, rfl, by decide +kernel, by decide +kernel⟩
noncomputable def B_homes_in : M Flo := sRet (mOpN (one1 gDict) (mCons (mComp2 ((dCons (mVar 0) (dNil)).bind srcE) [1, 2, 3] [3] (tgTup 2 (tgCons (putv 1) (tgCons (putv 2) (tgNil)))) (bTrue) (mSrcA (mVar 2)) (putv 3) (bTrue) (mTup (dCons (mVar 3) (dCons (mVar 1) (dNil))))) (mNil)))
noncomputable def F_homes_in : Fn := fnOf 4 B_homes_in
theorem kn_homes_in {P : Program} {w : World} {K : PySem.W.Frag} {mg : Str → Option Value} {base : Heap} {f : Addr} {fd : FuncData} (F : Fun K "homes_in" "homes_in" s_homes_in f fd) (T : Txt K mg) (hm : mg "homes_in" = some (.ref f)) (hb : Binds K fd ["runs"] []) : Kn P w K mg base "homes_in" 2 1 F_homes_in := kn_fn (k := 1) F sc_homes_in rfl hm F.kp hb fun cdv A outer s H E hr hp W tk => s_one (s_ret (i_dict rfl hr (by rfl) T.z_dict (ia_cons (i_lc2 (own := [("at", 1), ("run", 2), ("cell", 3)]) (vs1 := [3]) rfl sc_homes_in.nd (p_enum (by rfl) T.z_enumerate (ds_cons (i_pv) (ds_nil))) (blkOk_by (N := ["runs", "at", "run", "cell"]) (sc := defScope s_homes_in) (by decide +kernel)) (by decide) (fun _ _ _ _ _ => g_tup rfl (gs_cons (g_name (i := 1) sc_homes_in.nd rfl (by first | exact Or.inl rfl | exact Or.inr rfl)) (gs_cons (g_name (i := 2) sc_homes_in.nd rfl (by first | exact Or.inl rfl | exact Or.inr rfl)) (gs_nil)))) (fun _ _ _ _ _ => bs_nil) (fun _ _ _ _ _ => p_any (i_pv)) (fun _ _ _ _ _ => g_name (i := 3) sc_homes_in.nd rfl (by first | exact Or.inl rfl | exact Or.inr rfl)) (fun _ _ _ _ _ => bs_nil) (fun _ _ _ _ _ => i_tup (ds_cons (i_pv) (ds_cons (i_pv) (ds_nil)))) (by decide) (by decide)) (ia_nil))))
abbrev s_runs_in : Stmt := top 15
theorem sc_runs_in : FnScope ["cells", "across", "inner", "found", "cell", "run", "here"] ["cells", "across"] (defScope s_runs_in) := ⟨rfl, rfl, rfl, by decide +kernel, rfl, by decide +kernel, by decide +kernel⟩
noncomputable def B_runs_in : M Flo := sSeq (sPar 2 3 (mCons (mOpN (one1 gDict) (mCons (mComp (mSrcA (mVar 0)) [4] (putv 4) (bTrue) (mTup (dCons (mVar 4) (dCons (mC (.bl true)) (dNil))))) (mNil))) (mCons (mLst (dNil)) (mNil)))) (sSeq (sFor (mSrcA (mVar 0)) (putv 4) (sIf (mBool (mOp2 (gIn true) (mTup (dCons (mOp2 gSub (mOp2 gIx (mVar 4) (mC (.int 0))) (mC (.int 1))) (dCons (mOp2 gSub (mOp2 gIx (mVar 4) (mC (.int 1))) (mVar 1)) (dNil)))) (mVar 2))) (sSeq (sPar 5 6 (mCons (mLst (dNil)) (mCons (mVar 4) (mNil)))) (sSeq (sWhile (mBool (mOp2 (gIn false) (mVar 6) (mVar 2))) (sSeq (sExpr (mLstM gAppend (mVar 5) (dCons (mVar 6) (dNil)))) (sAsg 6 (mTup (dCons (mOp2 gAdd (mOp2 gIx (mVar 6) (mC (.int 0))) (mC (.int 1))) (dCons (mOp2 gAdd (mOp2 gIx (mVar 6) (mC (.int 1))) (mVar 1)) (dNil))))))) (sExpr (mLstM gAppend (mVar 3) (dCons (mOpN (one1 gTuple) (mCons (mVar 5) (mNil))) (dNil)))))) (sNil))) (sRet (mVar 3)))
noncomputable def F_runs_in : Fn := fnOf 7 B_runs_in
theorem kn_runs_in {P : Program} {w : World} {K : PySem.W.Frag} {mg : Str → Option Value} {base : Heap} {f : Addr} {fd : FuncData} (F : Fun K "runs_in" "runs_in" s_runs_in f fd) (T : Txt K mg) (hm : mg "runs_in" = some (.ref f)) (hb : Binds K fd ["cells", "across"] []) : Kn P w K mg base "runs_in" 2 2 F_runs_in := kn_fn (k := 1) F sc_runs_in rfl hm F.kp hb fun cdv A outer s H E hr hp W tk => s_cons (s_par (i := 2) (j := 3) rfl sc_runs_in.nd rfl rfl (by decide) rfl rfl (ia_cons (i_dict rfl hr (by rfl) T.z_dict (ia_cons (i_lc (own := [("cell", 4)]) rfl sc_runs_in.nd (p_any (i_pv)) (blkOk_by (N := ["cells", "across", "inner", "found", "cell", "run", "here"]) (sc := defScope s_runs_in) (by decide +kernel)) (fun _ _ _ _ _ => g_name (i := 4) sc_runs_in.nd rfl (by first | exact Or.inl rfl | exact Or.inr rfl)) (fun _ _ _ _ _ => bs_nil) (fun _ _ _ _ _ => i_tup (ds_cons (i_pv) (ds_cons (i_bl) (ds_nil)))) (by decide)) (ia_nil))) (ia_cons (i_lst (ds_nil)) (ia_nil))) rfl) (s_cons (s_for hp rfl (p_any (i_pv)) (g_name (i := 4) sc_runs_in.nd rfl (by first | exact Or.inl rfl | exact Or.inr rfl)) (s_one (s_if (b_notin hr (i_tup (ds_cons (i_sub (i_ix hr (i_pv) (i_int)) (i_int)) (ds_cons (i_sub (i_ix hr (i_pv) (i_int)) (i_pv)) (ds_nil)))) (i_pv)) (s_cons (s_par (i := 5) (j := 6) rfl sc_runs_in.nd rfl rfl (by decide) rfl rfl (ia_cons (i_lst (ds_nil)) (ia_cons (i_pv) (ia_nil))) rfl) (s_cons (s_while hp (b_in hr (i_pv) (i_pv)) (s_cons (s_expr (i_append (i_pv) (ds_cons (i_pv) (ds_nil)))) (s_one (s_set (i := 6) sc_runs_in.nd rfl (by first | exact Or.inl rfl | exact Or.inr rfl) (i_tup (ds_cons (i_add (i_ix hr (i_pv) (i_int)) (i_int)) (ds_cons (i_add (i_ix hr (i_pv) (i_int)) (i_pv)) (ds_nil)))))))) (s_one (s_expr (i_append (i_pv) (ds_cons (i_tuple (by rfl) T.z_tuple (ia_cons (i_pv) (ia_nil))) (ds_nil))))))) (s_nil)))) (s_one (s_ret (i_pv))))
abbrev s_is_quiet_in : Stmt := top 18
theorem sc_is_quiet_in : FnScope ["floor", "cells", "across", "homes", "cell"] ["floor", "cells"] (defScope s_is_quiet_in) := ⟨rfl, rfl, rfl, by decide +kernel, rfl, by decide +kernel, by decide +kernel⟩
noncomputable def B_is_quiet_in : M Flo := sSeq (sFor (mSrcA (mTup (dCons (mC (.int 1)) (dCons (mOp1 gNeg (mC (.int 1))) (dNil))))) (putv 2) (sSeq (sAsg 3 (mCall (F_homes_in) (mCons (mCall (F_runs_in) (mCons (mVar 0) (mCons (mVar 2) (mNil)))) (mNil)))) (sIf (mBool (mOp2 gLt (mOp1 gLenSet (mComp (mSrcA (mVar 1)) [4] (putv 4) (bTrue) (mOp2 gIx (mVar 3) (mVar 4)))) (mOpN (one1 gLen) (mCons (mVar 1) (mNil))))) (sRet (mC (.bl false))) (sNil)))) (sRet (mC (.bl true)))
noncomputable def F_is_quiet_in : Fn := fnOf 5 B_is_quiet_in
theorem kn_is_quiet_in {P : Program} {w : World} {K : PySem.W.Frag} {mg : Str → Option Value} {base : Heap} {f : Addr} {fd : FuncData} (F : Fun K "is_quiet_in" "is_quiet_in" s_is_quiet_in f fd) (T : Txt K mg) (hm : mg "is_quiet_in" = some (.ref f)) (hb : Binds K fd ["floor", "cells"] []) (c_homes_in : Kn P w K mg base "homes_in" 2 1 F_homes_in) (c_runs_in : Kn P w K mg base "runs_in" 2 2 F_runs_in) : Kn P w K mg base "is_quiet_in" 3 2 F_is_quiet_in := kn_fn (k := 2) F sc_is_quiet_in rfl hm F.kp hb fun cdv A outer s H E hr hp W tk => s_cons (s_for hp rfl (p_any (i_tup (ds_cons (i_int) (ds_cons (i_neg (i_int)) (ds_nil))))) (g_name (i := 2) sc_is_quiet_in.nd rfl (by first | exact Or.inl rfl | exact Or.inr rfl)) (s_cons (s_set (i := 3) sc_is_quiet_in.nd rfl (by first | exact Or.inl rfl | exact Or.inr rfl) (i_fn c_homes_in (argN_cons argN_nil) hr (by decide) tk (by rfl) (ia_cons (i_fn c_runs_in (argN_cons (argN_cons argN_nil)) hr (by decide) tk (by rfl) (ia_cons (i_pv) (ia_cons (i_pv) (ia_nil)))) (ia_nil)))) (s_one (s_if (b_lt hr (i_lenSet rfl (by rfl) T.z_len (by rfl) T.z_set (i_lc (own := [("cell", 4)]) rfl sc_is_quiet_in.nd (p_any (i_pv)) (blkOk_by (N := ["floor", "cells", "across", "homes", "cell"]) (sc := defScope s_is_quiet_in) (by decide +kernel)) (fun _ _ _ _ _ => g_name (i := 4) sc_is_quiet_in.nd rfl (by first | exact Or.inl rfl | exact Or.inr rfl)) (fun _ _ _ _ _ => bs_nil) (fun _ _ _ _ _ => i_ix hr (i_pv) (i_pv)) (by decide))) (i_len (by rfl) T.z_len (ia_cons (i_pv) (ia_nil)))) (s_one (s_ret (i_bl))) (s_nil))))) (s_one (s_ret (i_bl)))
abbrev s_is_quiet : Stmt := top 22
theorem sc_is_quiet : FnScope ["floor", "value", "cell", "one", "other"] ["floor", "value"] (defScope s_is_quiet) := ⟨rfl, rfl, rfl, by decide +kernel, rfl, by decide +kernel, by decide +kernel⟩
noncomputable def B_is_quiet : M Flo := sSeq (sExpr (mCall (F_need_floor) (mCons (mVar 0) (mNil)))) (sSeq (sIf (mOr (mNot (mTru (mCall (F_is_tuple_of) (mCons (mVar 1) (mCons (mC (.int 0)) (mCons (mC (.int 400)) (mNil))))))) (mNot (mTru (mOpN (one1 (gFold fun bs => bs.all id)) (mCons (mComp (mSrcA (mVar 1)) [2] (putv 2) (bTrue) (mCall (F_fits_cell) (mCons (mVar 2) (mNil)))) (mNil)))))) (sRet (mC (.bl false))) (sNil)) (sSeq (sIf (mOr (mNot (mTru (mOpN (one1 (gFold fun bs => bs.all id)) (mCons (mComp ((dCons (mVar 1) (dCons (mCut (mVar 1) (mPart (mC (.int 1))) (mNoPart)) (dNil))).bind srcZ) [3, 4] (tgTup 2 (tgCons (putv 3) (tgCons (putv 4) (tgNil)))) (bTrue) (mOp2 gLt (mVar 3) (mVar 4))) (mNil))))) (mNot (mTru (mOpN (one1 (gFold fun bs => bs.all id)) (mCons (mComp (mSrcA (mVar 1)) [2] (putv 2) (bTrue) (mOp2 (gIn false) (mVar 2) (mVar 0))) (mNil)))))) (sRet (mC (.bl false))) (sNil)) (sRet (mCall (F_is_quiet_in) (mCons (mVar 0) (mCons (mVar 1) (mNil)))))))
noncomputable def F_is_quiet : Fn := fnOf 5 B_is_quiet
theorem kn_is_quiet {P : Program} {w : World} {K : PySem.W.Frag} {mg : Str → Option Value} {base : Heap} {f : Addr} {fd : FuncData} (F : Fun K "is_quiet" "is_quiet" s_is_quiet f fd) (T : Txt K mg) (hm : mg "is_quiet" = some (.ref f)) (hb : Binds K fd ["floor", "value"] []) (c_need_floor : Kn P w K mg base "need_floor" 5 1 F_need_floor) (c_is_tuple_of : Kn P w K mg base "is_tuple_of" 2 3 F_is_tuple_of) (c_fits_cell : Kn P w K mg base "fits_cell" 3 1 F_fits_cell) (c_is_quiet_in : Kn P w K mg base "is_quiet_in" 3 2 F_is_quiet_in) : Kn P w K mg base "is_quiet" 6 2 F_is_quiet := kn_fn (k := 5) F sc_is_quiet rfl hm F.kp hb fun cdv A outer s H E hr hp W tk => s_cons (s_expr (i_fn c_need_floor (argN_cons argN_nil) hr (by decide) tk (by rfl) (ia_cons (i_pv) (ia_nil)))) (s_cons (s_if (b_w (w_or (b_not (b_tru (i_fn c_is_tuple_of (argN_cons (argN_cons (argN_cons argN_nil))) hr (by decide) tk (by rfl) (ia_cons (i_pv) (ia_cons (i_int) (ia_cons (i_glob (by rfl) T.g_MANY) (ia_nil))))))) (w_or1 (b_not (b_tru (i_all rfl (by rfl) T.z_all (ia_cons (i_lc (own := [("cell", 2)]) rfl sc_is_quiet.nd (p_any (i_pv)) (blkOk_by (N := ["floor", "value", "cell", "one", "other"]) (sc := defScope s_is_quiet) (by decide +kernel)) (fun _ _ _ _ _ => g_name (i := 2) sc_is_quiet.nd rfl (by first | exact Or.inl rfl | exact Or.inr rfl)) (fun _ _ _ _ _ => bs_nil) (fun _ _ _ _ _ => i_fn c_fits_cell (argN_cons argN_nil) hr (by decide) take0 (by rfl) (ia_cons (i_pv) (ia_nil))) (by decide)) (ia_nil)))))))) (s_one (s_ret (i_bl))) (s_nil)) (s_cons (s_if (b_w (w_or (b_not (b_tru (i_all rfl (by rfl) T.z_all (ia_cons (i_lc (own := [("one", 3), ("other", 4)]) rfl sc_is_quiet.nd (p_zip (by rfl) T.z_zip (ds_cons (i_pv) (ds_cons (i_cut (i_pv) (o_some (i_int)) (o_none)) (ds_nil)))) (blkOk_by (N := ["floor", "value", "cell", "one", "other"]) (sc := defScope s_is_quiet) (by decide +kernel)) (fun _ _ _ _ _ => g_tup rfl (gs_cons (g_name (i := 3) sc_is_quiet.nd rfl (by first | exact Or.inl rfl | exact Or.inr rfl)) (gs_cons (g_name (i := 4) sc_is_quiet.nd rfl (by first | exact Or.inl rfl | exact Or.inr rfl)) (gs_nil)))) (fun _ _ _ _ _ => bs_nil) (fun _ _ _ _ _ => i_lt hr (i_pv) (i_pv)) (by decide)) (ia_nil))))) (w_or1 (b_not (b_tru (i_all rfl (by rfl) T.z_all (ia_cons (i_lc (own := [("cell", 2)]) rfl sc_is_quiet.nd (p_any (i_pv)) (blkOk_by (N := ["floor", "value", "cell", "one", "other"]) (sc := defScope s_is_quiet) (by decide +kernel)) (fun _ _ _ _ _ => g_name (i := 2) sc_is_quiet.nd rfl (by first | exact Or.inl rfl | exact Or.inr rfl)) (fun _ _ _ _ _ => bs_nil) (fun _ _ _ _ _ => i_in hr (i_pv) (i_pv)) (by decide)) (ia_nil)))))))) (s_one (s_ret (i_bl))) (s_nil)) (s_one (s_ret (i_fn c_is_quiet_in (argN_cons (argN_cons argN_nil)) hr (by decide) tk (by rfl) (ia_cons (i_pv) (ia_cons (i_pv) (ia_nil))))))))
abbrev s__law_rows_right : Stmt := top 35
theorem sc__law_rows_right : FnScope ["floor", "sets", "own"] [] (defScope s__law_rows_right) := ⟨rfl, rfl, rfl, by decide +kernel, rfl, by decide +kernel, by decide +kernel⟩
noncomputable def B__law_rows_right : M Flo := sSeq (sAsg 0 (mTup (dCons (mTup (dCons (mC (.int 0)) (dCons (mC (.int 0)) (dNil)))) (dCons (mTup (dCons (mC (.int 0)) (dCons (mC (.int 1)) (dNil)))) (dCons (mTup (dCons (mC (.int 1)) (dCons (mC (.int 0)) (dNil)))) (dCons (mTup (dCons (mC (.int 1)) (dCons (mC (.int 1)) (dNil)))) (dCons (mTup (dCons (mC (.int 2)) (dCons (mC (.int 2)) (dNil)))) (dNil)))))))) (sSeq (sAsg 1 (mTup (dCons (mTup (dCons (mTup (dCons (mC (.int 0)) (dCons (mC (.int 1)) (dNil)))) (dCons (mTup (dCons (mC (.int 1)) (dCons (mC (.int 0)) (dNil)))) (dNil)))) (dCons (mTup (dCons (mTup (dCons (mC (.int 0)) (dCons (mC (.int 0)) (dNil)))) (dCons (mTup (dCons (mC (.int 2)) (dCons (mC (.int 2)) (dNil)))) (dNil)))) (dCons (mTup (dCons (mTup (dCons (mC (.int 0)) (dCons (mC (.int 0)) (dNil)))) (dCons (mTup (dCons (mC (.int 0)) (dCons (mC (.int 1)) (dNil)))) (dNil)))) (dNil)))))) (sRet (mOp2 (gEqG false) (mComp (mSrcA (mVar 1)) [2] (putv 2) (bTrue) (mCall (F_is_quiet) (mCons (mVar 0) (mCons (mVar 2) (mNil))))) (mLst (dCons (mC (.bl false)) (dCons (mC (.bl false)) (dCons (mC (.bl true)) (dNil))))))))
noncomputable def F__law_rows_right : Fn := fnOf 3 B__law_rows_right
theorem kn__law_rows_right {P : Program} {w : World} {K : PySem.W.Frag} {mg : Str → Option Value} {base : Heap} {f : Addr} {fd : FuncData} (F : Fun K "_law_rows_right" "_law_rows_right" s__law_rows_right f fd) (T : Txt K mg) (hm : mg "_law_rows_right" = some (.ref f)) (hb : Binds K fd [] []) (c_is_quiet : Kn P w K mg base "is_quiet" 6 2 F_is_quiet) : Kn P w K mg base "_law_rows_right" 7 0 F__law_rows_right := kn_fn (k := 6) F sc__law_rows_right rfl hm F.kp hb fun cdv A outer s H E hr hp W tk => s_cons (s_set (i := 0) sc__law_rows_right.nd rfl (by first | exact Or.inl rfl | exact Or.inr rfl) (i_tup (ds_cons (i_tup (ds_cons (i_int) (ds_cons (i_int) (ds_nil)))) (ds_cons (i_tup (ds_cons (i_int) (ds_cons (i_int) (ds_nil)))) (ds_cons (i_tup (ds_cons (i_int) (ds_cons (i_int) (ds_nil)))) (ds_cons (i_tup (ds_cons (i_int) (ds_cons (i_int) (ds_nil)))) (ds_cons (i_tup (ds_cons (i_int) (ds_cons (i_int) (ds_nil)))) (ds_nil)))))))) (s_cons (s_set (i := 1) sc__law_rows_right.nd rfl (by first | exact Or.inl rfl | exact Or.inr rfl) (i_tup (ds_cons (i_tup (ds_cons (i_tup (ds_cons (i_int) (ds_cons (i_int) (ds_nil)))) (ds_cons (i_tup (ds_cons (i_int) (ds_cons (i_int) (ds_nil)))) (ds_nil)))) (ds_cons (i_tup (ds_cons (i_tup (ds_cons (i_int) (ds_cons (i_int) (ds_nil)))) (ds_cons (i_tup (ds_cons (i_int) (ds_cons (i_int) (ds_nil)))) (ds_nil)))) (ds_cons (i_tup (ds_cons (i_tup (ds_cons (i_int) (ds_cons (i_int) (ds_nil)))) (ds_cons (i_tup (ds_cons (i_int) (ds_cons (i_int) (ds_nil)))) (ds_nil)))) (ds_nil)))))) (s_one (s_ret (i_eq hr (i_lc (own := [("own", 2)]) rfl sc__law_rows_right.nd (p_any (i_pv)) (blkOk_by (N := ["floor", "sets", "own"]) (sc := defScope s__law_rows_right) (by decide +kernel)) (fun _ _ _ _ _ => g_name (i := 2) sc__law_rows_right.nd rfl (by first | exact Or.inl rfl | exact Or.inr rfl)) (fun _ _ _ _ _ => bs_nil) (fun _ _ _ _ _ => i_fn c_is_quiet (argN_cons (argN_cons argN_nil)) hr (by decide) take0 (by rfl) (ia_cons (i_pv) (ia_cons (i_pv) (ia_nil)))) (by decide)) (i_lst (ds_cons (i_bl) (ds_cons (i_bl) (ds_cons (i_bl) (ds_nil)))))))))
abbrev s__law_roll : Stmt := top 25
theorem sc__law_roll : FnScope ["cup", "many", "found", "deep"] ["cup", "many"] (defScope s__law_roll) := ⟨rfl, rfl, rfl, by decide +kernel, rfl, by decide +kernel, by decide +kernel⟩
noncomputable def B__law_roll : M Flo := sSeq (sIf (mBool (mOp2 gGt (mOp2 gIx (mVar 0) (mC (.int 0))) (mC (.int 0)))) (sSeq (sAsg 2 (mOp2 gMod (mOpN (one1 gInt) (mCons (mOp2 gIx (mVar 0) (mC (.int 0))) (mNil))) (mVar 1))) (sSeq (sSetL (mVar 0) (mC (.int 0)) (mOp2 gDiv (mOp2 gIx (mVar 0) (mC (.int 0))) (mVar 1))) (sRet (mVar 2)))) (sNil)) (sSeq (sSetL (mVar 0) (mC (.int 1)) (mOp2 gMod (mOpN (one1 gInt) (mCons (mOp2 gAdd (mOp2 gMulI (mOp2 gIx (mVar 0) (mC (.int 1))) (mC (.int 37013))) (mC (.int 12011))) (mNil))) (mC (.int 2147483423)))) (sSeq (sAsg 3 (mOp2 gMod (mOpN (one1 gInt) (mCons (mOp2 gMulI (mOp2 gIx (mVar 0) (mC (.int 1))) (mOp2 gAdd (mOp2 gIx (mVar 0) (mC (.int 1))) (mC (.int 1801)))) (mNil))) (mC (.int 2147483587)))) (sRet (mOp2 gMod (mOpN (one1 gInt) (mCons (mOp2 gDiv (mVar 3) (mC (.int 2011))) (mNil))) (mVar 1)))))
noncomputable def F__law_roll : Fn := fnOf 4 B__law_roll
theorem kn__law_roll {P : Program} {w : World} {K : PySem.W.Frag} {mg : Str → Option Value} {base : Heap} {f : Addr} {fd : FuncData} (F : Fun K "_law_roll" "_law_roll" s__law_roll f fd) (T : Txt K mg) (hm : mg "_law_roll" = some (.ref f)) (hb : Binds K fd ["cup", "many"] []) : Kn P w K mg base "_law_roll" 2 2 F__law_roll := kn_fn (k := 1) F sc__law_roll rfl hm F.kp hb fun cdv A outer s H E hr hp W tk => s_cons (s_if (b_gt (i_ix hr (i_pv) (i_int)) (i_int)) (s_cons (s_set (i := 2) sc__law_roll.nd rfl (by first | exact Or.inl rfl | exact Or.inr rfl) (i_mod (i_toint (by rfl) T.z_int (ia_cons (i_ix hr (i_pv) (i_int)) (ia_nil))) (i_pv))) (s_cons (s_setL (i_div (i_ix hr (i_pv) (i_int)) (i_pv)) (i_pv) (i_int)) (s_one (s_ret (i_pv))))) (s_nil)) (s_cons (s_setL (i_mod (i_toint (by rfl) T.z_int (ia_cons (i_add (i_mul (i_ix hr (i_pv) (i_int)) (i_int)) (i_int)) (ia_nil))) (i_int)) (i_pv) (i_int)) (s_cons (s_set (i := 3) sc__law_roll.nd rfl (by first | exact Or.inl rfl | exact Or.inr rfl) (i_mod (i_toint (by rfl) T.z_int (ia_cons (i_mul (i_ix hr (i_pv) (i_int)) (i_add (i_ix hr (i_pv) (i_int)) (i_int))) (ia_nil))) (i_int))) (s_one (s_ret (i_mod (i_toint (by rfl) T.z_int (ia_cons (i_div (i_pv) (i_int)) (ia_nil))) (i_pv))))))
abbrev s__law_floor : Stmt := top 28
theorem sc__law_floor : FnScope ["cup", "many", "side", "cells", "turn"] ["cup", "many", "side"] (defScope s__law_floor) := ⟨rfl, rfl, rfl, by decide +kernel, rfl, by decide +kernel, by decide +kernel⟩
noncomputable def B__law_floor : M Flo := sSeq (sAsg 3 (mComp ((mCons (mOp2 gAdd (mC (.int 1)) (mCall (F__law_roll) (mCons (mVar 0) (mCons (mVar 1) (mNil))))) (mNil)).bind srcR1) [4] (putv 4) (bTrue) (mTup (dCons (mCall (F__law_roll) (mCons (mVar 0) (mCons (mVar 2) (mNil)))) (dCons (mCall (F__law_roll) (mCons (mVar 0) (mCons (mVar 2) (mNil)))) (dNil)))))) (sRet (mOpN (one1 gTuple) (mCons (mOp1 gSortSet (mVar 3)) (mNil))))
noncomputable def F__law_floor : Fn := fnOf 5 B__law_floor
theorem kn__law_floor {P : Program} {w : World} {K : PySem.W.Frag} {mg : Str → Option Value} {base : Heap} {f : Addr} {fd : FuncData} (F : Fun K "_law_floor" "_law_floor" s__law_floor f fd) (T : Txt K mg) (hm : mg "_law_floor" = some (.ref f)) (hb : Binds K fd ["cup", "many", "side"] []) (c__law_roll : Kn P w K mg base "_law_roll" 2 2 F__law_roll) : Kn P w K mg base "_law_floor" 3 3 F__law_floor := kn_fn (k := 2) F sc__law_floor rfl hm F.kp hb fun cdv A outer s H E hr hp W tk => s_cons (s_setLc (i := 3) (own := [("turn", 4)]) rfl sc__law_floor.nd rfl rfl (sw_true rfl rfl rfl (by decide +kernel)) (p_range1 (by rfl) T.z_range (ia_cons (i_add (i_int) (i_fn c__law_roll (argN_cons (argN_cons argN_nil)) hr (by decide) tk (by rfl) (ia_cons (i_pv) (ia_cons (i_pv) (ia_nil))))) (ia_nil))) (blkOk_by (N := ["cup", "many", "side", "cells", "turn"]) (sc := defScope s__law_floor) (by decide +kernel)) (fun _ _ _ _ _ => g_name (i := 4) sc__law_floor.nd rfl (by first | exact Or.inl rfl | exact Or.inr rfl)) (fun _ _ _ _ _ => bs_nil) (fun _ _ _ _ _ => i_tup (ds_cons (i_fn c__law_roll (argN_cons (argN_cons argN_nil)) hr (by decide) take0 (by rfl) (ia_cons (i_pv) (ia_cons (i_pv) (ia_nil)))) (ds_cons (i_fn c__law_roll (argN_cons (argN_cons argN_nil)) hr (by decide) take0 (by rfl) (ia_cons (i_pv) (ia_cons (i_pv) (ia_nil)))) (ds_nil)))) (by decide)) (s_one (s_ret (i_tuple (by rfl) T.z_tuple (ia_cons (i_sortSet rfl hr (by rfl) T.z_sorted (by rfl) T.z_set (i_pv)) (ia_nil)))))
abbrev s__law_some : Stmt := top 26
theorem sc__law_some : FnScope ["cup", "things"] ["cup", "things"] (defScope s__law_some) := ⟨rfl, rfl, rfl, by decide +kernel, rfl, by decide +kernel, by decide +kernel⟩
noncomputable def B__law_some : M Flo := sRet (mOp2 gIx (mVar 1) (mCall (F__law_roll) (mCons (mVar 0) (mCons (mOpN (one1 gLen) (mCons (mVar 1) (mNil))) (mNil)))))
noncomputable def F__law_some : Fn := fnOf 2 B__law_some
theorem kn__law_some {P : Program} {w : World} {K : PySem.W.Frag} {mg : Str → Option Value} {base : Heap} {f : Addr} {fd : FuncData} (F : Fun K "_law_some" "_law_some" s__law_some f fd) (T : Txt K mg) (hm : mg "_law_some" = some (.ref f)) (hb : Binds K fd ["cup", "things"] []) (c__law_roll : Kn P w K mg base "_law_roll" 2 2 F__law_roll) : Kn P w K mg base "_law_some" 3 2 F__law_some := kn_fn (k := 2) F sc__law_some rfl hm F.kp hb fun cdv A outer s H E hr hp W tk => s_one (s_ret (i_ix hr (i_pv) (i_fn c__law_roll (argN_cons (argN_cons argN_nil)) hr (by decide) tk (by rfl) (ia_cons (i_pv) (ia_cons (i_len (by rfl) T.z_len (ia_cons (i_pv) (ia_nil))) (ia_nil))))))
abbrev s_rising_runs : Stmt := top 20
theorem sc_rising_runs : FnScope ["floor"] ["floor"] (defScope s_rising_runs) := ⟨rfl, rfl, rfl, by decide +kernel, rfl, by decide +kernel, by decide +kernel⟩
noncomputable def B_rising_runs : M Flo := sSeq (sExpr (mCall (F_need_floor) (mCons (mVar 0) (mNil)))) (sRet (mOpN (one1 gTuple) (mCons (mCall (F_runs_in) (mCons (mVar 0) (mCons (mOp1 gNeg (mC (.int 1))) (mNil)))) (mNil))))
noncomputable def F_rising_runs : Fn := fnOf 1 B_rising_runs
theorem kn_rising_runs {P : Program} {w : World} {K : PySem.W.Frag} {mg : Str → Option Value} {base : Heap} {f : Addr} {fd : FuncData} (F : Fun K "rising_runs" "rising_runs" s_rising_runs f fd) (T : Txt K mg) (hm : mg "rising_runs" = some (.ref f)) (hb : Binds K fd ["floor"] []) (c_need_floor : Kn P w K mg base "need_floor" 5 1 F_need_floor) (c_runs_in : Kn P w K mg base "runs_in" 2 2 F_runs_in) : Kn P w K mg base "rising_runs" 6 1 F_rising_runs := kn_fn (k := 5) F sc_rising_runs rfl hm F.kp hb fun cdv A outer s H E hr hp W tk => s_cons (s_expr (i_fn c_need_floor (argN_cons argN_nil) hr (by decide) tk (by rfl) (ia_cons (i_pv) (ia_nil)))) (s_one (s_ret (i_tuple (by rfl) T.z_tuple (ia_cons (i_fn c_runs_in (argN_cons (argN_cons argN_nil)) hr (by decide) tk (by rfl) (ia_cons (i_pv) (ia_cons (i_neg (i_int)) (ia_nil)))) (ia_nil)))))
abbrev s_falling_runs : Stmt := top 19
theorem sc_falling_runs : FnScope ["floor"] ["floor"] (defScope s_falling_runs) := ⟨rfl, rfl, rfl, by decide +kernel, rfl, by decide +kernel, by decide +kernel⟩
noncomputable def B_falling_runs : M Flo := sSeq (sExpr (mCall (F_need_floor) (mCons (mVar 0) (mNil)))) (sRet (mOpN (one1 gTuple) (mCons (mCall (F_runs_in) (mCons (mVar 0) (mCons (mC (.int 1)) (mNil)))) (mNil))))
noncomputable def F_falling_runs : Fn := fnOf 1 B_falling_runs
theorem kn_falling_runs {P : Program} {w : World} {K : PySem.W.Frag} {mg : Str → Option Value} {base : Heap} {f : Addr} {fd : FuncData} (F : Fun K "falling_runs" "falling_runs" s_falling_runs f fd) (T : Txt K mg) (hm : mg "falling_runs" = some (.ref f)) (hb : Binds K fd ["floor"] []) (c_need_floor : Kn P w K mg base "need_floor" 5 1 F_need_floor) (c_runs_in : Kn P w K mg base "runs_in" 2 2 F_runs_in) : Kn P w K mg base "falling_runs" 6 1 F_falling_runs := kn_fn (k := 5) F sc_falling_runs rfl hm F.kp hb fun cdv A outer s H E hr hp W tk => s_cons (s_expr (i_fn c_need_floor (argN_cons argN_nil) hr (by decide) tk (by rfl) (ia_cons (i_pv) (ia_nil)))) (s_one (s_ret (i_tuple (by rfl) T.z_tuple (ia_cons (i_fn c_runs_in (argN_cons (argN_cons argN_nil)) hr (by decide) tk (by rfl) (ia_cons (i_pv) (ia_cons (i_int) (ia_nil)))) (ia_nil)))))
abbrev s__law_same : Stmt := top 27
theorem sc__law_same : FnScope ["told", "due", "at"] ["told", "due"] (defScope s__law_same) := ⟨rfl, rfl, rfl, by decide +kernel, rfl, by decide +kernel, by decide +kernel⟩
noncomputable def B__law_same (Fr : Fn) : M Flo := sSeq (sIf (mOr (mTru (mOp1 (gIsi .tup) (mVar 1))) (mTru (mOp1 (gIsi .lst) (mVar 1)))) (sSeq (sIf (mOr (mBool (mOp2 (gEqG true) (mOp1 (gIsi .tup) (mVar 0)) (mOp1 (gIsi .tup) (mVar 1)))) (mOr (mBool (mOp2 (gEqG true) (mOp1 (gIsi .lst) (mVar 0)) (mOp1 (gIsi .lst) (mVar 1)))) (mBool (mOp2 (gEqG true) (mOpN (one1 gLen) (mCons (mVar 0) (mNil))) (mOpN (one1 gLen) (mCons (mVar 1) (mNil))))))) (sRet (mC (.bl false))) (sNil)) (sRet (mOp2 (gEqG false) (mComp ((mCons (mOpN (one1 gLen) (mCons (mVar 1) (mNil))) (mNil)).bind srcR1) [2] (putv 2) (mNot (mTru (mCall Fr (mCons (mOp2 gIx (mVar 0) (mVar 2)) (mCons (mOp2 gIx (mVar 1) (mVar 2)) (mNil)))))) (mC (.int 1))) (mLst (dNil))))) (sNil)) (sSeq (sIf (mBool (mOp2 (gIs false) (mVar 1) (mC .non))) (sRet (mOp2 (gIs false) (mVar 0) (mC .non))) (sNil)) (sSeq (sIf (mTru (mOp1 (gIsi .bl) (mVar 1))) (sRet (mIf (mTru (mVar 1)) (mOp2 (gIs false) (mVar 0) (mC (.bl true))) (mOp2 (gIs false) (mVar 0) (mC (.bl false))))) (sNil)) (sSeq (sIf (mTru (mOp1 (gIsi .int) (mVar 1))) (sRet (mAndV (mOp1 (gIsi .int) (mVar 0)) (mAndV (mNotV (mOp1 (gIsi .bl) (mVar 0))) (mOp2 (gEqG false) (mOpN (one1 gInt) (mCons (mVar 0) (mNil))) (mVar 1))))) (sNil)) (sRet (mAndV (mOp1 (gIsi .str) (mVar 0)) (mOp2 (gEqG false) (mOpN (one1 gStr) (mCons (mVar 0) (mNil))) (mVar 1)))))))
noncomputable def R__law_same : Nat → Fn
  | 0 => fun _ => .stuck
  | n + 1 => fnOf 3 (B__law_same (R__law_same n))
noncomputable def F__law_same : Fn := R__law_same 12
theorem kn__law_same {P : Program} {w : World} {K : PySem.W.Frag} {mg : Str → Option Value} {base : Heap} {f : Addr} {fd : FuncData} (F : Fun K "_law_same" "_law_same" s__law_same f fd) (T : Txt K mg) (hm : mg "_law_same" = some (.ref f)) (hb : Binds K fd ["told", "due"] []) : Kn P w K mg base "_law_same" 13 2 F__law_same := by
  have step : ∀ m, Kn P w K mg base "_law_same" (1 + m) 2 (R__law_same m) := by
    intro m
    induction m with
    | zero => exact (kn_no (ps := ["told", "due"]) (k := 1) rfl hm F.kp hb).mono (by omega)
    | succ m c__law_same =>
      have hk0 : 1 ≤ 1 + m := by omega
      exact kn_fn F sc__law_same rfl hm F.kp hb fun cdv A outer s H E hr hp W tk => s_cons (s_if (b_w (w_or (b_tru (i_isi (T := .tup) (by decide) (by rfl) T.z_isinstance (by rfl) T.z_tuple (by rfl) (i_pv))) (w_or1 (b_tru (i_isi (T := .lst) (by decide) (by rfl) T.z_isinstance (by rfl) T.z_list (by rfl) (i_pv)))))) (s_cons (s_if (b_w (w_or (b_ne hr (i_isi (T := .tup) (by decide) (by rfl) T.z_isinstance (by rfl) T.z_tuple (by rfl) (i_pv)) (i_isi (T := .tup) (by decide) (by rfl) T.z_isinstance (by rfl) T.z_tuple (by rfl) (i_pv))) (w_or (b_ne hr (i_isi (T := .lst) (by decide) (by rfl) T.z_isinstance (by rfl) T.z_list (by rfl) (i_pv)) (i_isi (T := .lst) (by decide) (by rfl) T.z_isinstance (by rfl) T.z_list (by rfl) (i_pv))) (w_or1 (b_ne hr (i_len (by rfl) T.z_len (ia_cons (i_pv) (ia_nil))) (i_len (by rfl) T.z_len (ia_cons (i_pv) (ia_nil)))))))) (s_one (s_ret (i_bl))) (s_nil)) (s_one (s_ret (i_eq hr (i_lc (own := [("at", 2)]) rfl sc__law_same.nd (p_range1 (by rfl) T.z_range (ia_cons (i_len (by rfl) T.z_len (ia_cons (i_pv) (ia_nil))) (ia_nil))) (blkOk_by (N := ["told", "due", "at"]) (sc := defScope s__law_same) (by decide +kernel)) (fun _ _ _ _ _ => g_name (i := 2) sc__law_same.nd rfl (by first | exact Or.inl rfl | exact Or.inr rfl)) (fun _ _ _ _ _ => bs_one (b_not (b_tru (i_fn c__law_same (argN_cons (argN_cons argN_nil)) hr (Nat.le_refl _) take0 (by rfl) (ia_cons (i_ix hr (i_pv) (i_pv)) (ia_cons (i_ix hr (i_pv) (i_pv)) (ia_nil))))))) (fun _ _ _ _ _ => i_int) (by decide)) (i_lst (ds_nil)))))) (s_nil)) (s_cons (s_if (b_is (i_pv) (i_non)) (s_one (s_ret (i_is (i_pv) (i_non)))) (s_nil)) (s_cons (s_if (b_tru (i_isi (T := .bl) (by decide) (by rfl) T.z_isinstance (by rfl) T.z_bool (by rfl) (i_pv))) (s_one (s_ret (i_if (b_tru (i_pv)) (i_is (i_pv) (i_bl)) (i_is (i_pv) (i_bl))))) (s_nil)) (s_cons (s_if (b_tru (i_isi (T := .int) (by decide) (by rfl) T.z_isinstance (by rfl) T.z_int (by rfl) (i_pv))) (s_one (s_ret (i_and (i_isi (T := .int) (by decide) (by rfl) T.z_isinstance (by rfl) T.z_int (by rfl) (i_pv)) (i_and (i_not (i_isi (T := .bl) (by decide) (by rfl) T.z_isinstance (by rfl) T.z_bool (by rfl) (i_pv))) (i_one (i_eq hr (i_toint (by rfl) T.z_int (ia_cons (i_pv) (ia_nil))) (i_pv))))))) (s_nil)) (s_one (s_ret (i_and (i_isi (T := .str) (by decide) (by rfl) T.z_isinstance (by rfl) T.z_str (by rfl) (i_pv)) (i_one (i_eq hr (i_tostr (by rfl) T.z_str (ia_cons (i_pv) (ia_nil))) (i_pv)))))))))
  exact step 12
abbrev s__law_runs : Stmt := top 32
theorem sc__law_runs : FnScope ["floor", "across", "found", "row", "column", "run"] ["floor", "across"] (defScope s__law_runs) := ⟨rfl, rfl, rfl, by decide +kernel, rfl, by decide +kernel, by decide +kernel⟩
noncomputable def B__law_runs : M Flo := sSeq (sAsg 2 (mLst (dNil))) (sSeq (sFor (mSrcA (mVar 0)) (tgTup 2 (tgCons (putv 3) (tgCons (putv 4) (tgNil)))) (sIf (mBool (mOp2 (gIn true) (mTup (dCons (mOp2 gSub (mVar 3) (mC (.int 1))) (dCons (mOp2 gSub (mVar 4) (mVar 1)) (dNil)))) (mVar 0))) (sSeq (sAsg 5 (mLst (dCons (mTup (dCons (mVar 3) (dCons (mVar 4) (dNil)))) (dNil)))) (sSeq (sWhile (mBool (mOp2 (gIn false) (mTup (dCons (mOp2 gAdd (mOp2 gIx (mOp2 gIx (mVar 5) (mOp1 gNeg (mC (.int 1)))) (mC (.int 0))) (mC (.int 1))) (dCons (mOp2 gAdd (mOp2 gIx (mOp2 gIx (mVar 5) (mOp1 gNeg (mC (.int 1)))) (mC (.int 1))) (mVar 1)) (dNil)))) (mVar 0))) (sExpr (mLstM gAppend (mVar 5) (dCons (mTup (dCons (mOp2 gAdd (mOp2 gIx (mOp2 gIx (mVar 5) (mOp1 gNeg (mC (.int 1)))) (mC (.int 0))) (mC (.int 1))) (dCons (mOp2 gAdd (mOp2 gIx (mOp2 gIx (mVar 5) (mOp1 gNeg (mC (.int 1)))) (mC (.int 1))) (mVar 1)) (dNil)))) (dNil))))) (sExpr (mLstM gAppend (mVar 2) (dCons (mOpN (one1 gTuple) (mCons (mVar 5) (mNil))) (dNil)))))) (sNil))) (sRet (mVar 2)))
noncomputable def F__law_runs : Fn := fnOf 6 B__law_runs
theorem kn__law_runs {P : Program} {w : World} {K : PySem.W.Frag} {mg : Str → Option Value} {base : Heap} {f : Addr} {fd : FuncData} (F : Fun K "_law_runs" "_law_runs" s__law_runs f fd) (T : Txt K mg) (hm : mg "_law_runs" = some (.ref f)) (hb : Binds K fd ["floor", "across"] []) : Kn P w K mg base "_law_runs" 2 2 F__law_runs := kn_fn (k := 1) F sc__law_runs rfl hm F.kp hb fun cdv A outer s H E hr hp W tk => s_cons (s_set (i := 2) sc__law_runs.nd rfl (by first | exact Or.inl rfl | exact Or.inr rfl) (i_lst (ds_nil))) (s_cons (s_for hp rfl (p_any (i_pv)) (g_tup rfl (gs_cons (g_name (i := 3) sc__law_runs.nd rfl (by first | exact Or.inl rfl | exact Or.inr rfl)) (gs_cons (g_name (i := 4) sc__law_runs.nd rfl (by first | exact Or.inl rfl | exact Or.inr rfl)) (gs_nil)))) (s_one (s_if (b_notin hr (i_tup (ds_cons (i_sub (i_pv) (i_int)) (ds_cons (i_sub (i_pv) (i_pv)) (ds_nil)))) (i_pv)) (s_cons (s_set (i := 5) sc__law_runs.nd rfl (by first | exact Or.inl rfl | exact Or.inr rfl) (i_lst (ds_cons (i_tup (ds_cons (i_pv) (ds_cons (i_pv) (ds_nil)))) (ds_nil)))) (s_cons (s_while hp (b_in hr (i_tup (ds_cons (i_add (i_ix hr (i_ix hr (i_pv) (i_neg (i_int))) (i_int)) (i_int)) (ds_cons (i_add (i_ix hr (i_ix hr (i_pv) (i_neg (i_int))) (i_int)) (i_pv)) (ds_nil)))) (i_pv)) (s_one (s_expr (i_append (i_pv) (ds_cons (i_tup (ds_cons (i_add (i_ix hr (i_ix hr (i_pv) (i_neg (i_int))) (i_int)) (i_int)) (ds_cons (i_add (i_ix hr (i_ix hr (i_pv) (i_neg (i_int))) (i_int)) (i_pv)) (ds_nil)))) (ds_nil)))))) (s_one (s_expr (i_append (i_pv) (ds_cons (i_tuple (by rfl) T.z_tuple (ia_cons (i_pv) (ia_nil))) (ds_nil))))))) (s_nil)))) (s_one (s_ret (i_pv))))
abbrev s__law_strikes : Stmt := top 33
theorem sc__law_strikes : FnScope ["floor", "one", "other", "down", "right", "step", "here"] ["floor", "one", "other"] (defScope s__law_strikes) := ⟨rfl, rfl, rfl, by decide +kernel, rfl, by decide +kernel, by decide +kernel⟩
noncomputable def B__law_strikes : M Flo := sSeq (sPar 3 4 (mCons (mOp2 gSub (mOp2 gIx (mVar 2) (mC (.int 0))) (mOp2 gIx (mVar 1) (mC (.int 0)))) (mCons (mOp2 gSub (mOp2 gIx (mVar 2) (mC (.int 1))) (mOp2 gIx (mVar 1) (mC (.int 1)))) (mNil)))) (sSeq (sIf (mOr (mBool (mOp2 (gEqG false) (mVar 1) (mVar 2))) (mBool (mOp2 (gEqG true) (mOp2 gMulI (mVar 3) (mVar 3)) (mOp2 gMulI (mVar 4) (mVar 4))))) (sRet (mC (.bl false))) (sNil)) (sSeq (sAsg 5 (mTup (dCons (mIf (mBool (mOp2 gGt (mVar 3) (mC (.int 0)))) (mC (.int 1)) (mOp1 gNeg (mC (.int 1)))) (dCons (mIf (mBool (mOp2 gGt (mVar 4) (mC (.int 0)))) (mC (.int 1)) (mOp1 gNeg (mC (.int 1)))) (dNil))))) (sSeq (sAsg 6 (mVar 1)) (sSeq (sWhile (mBool (mOp2 (gEqG true) (mVar 6) (mVar 2))) (sSeq (sAsg 6 (mTup (dCons (mOp2 gAdd (mOp2 gIx (mVar 6) (mC (.int 0))) (mOp2 gIx (mVar 5) (mC (.int 0)))) (dCons (mOp2 gAdd (mOp2 gIx (mVar 6) (mC (.int 1))) (mOp2 gIx (mVar 5) (mC (.int 1)))) (dNil))))) (sIf (mBool (mOp2 (gIn true) (mVar 6) (mVar 0))) (sRet (mC (.bl false))) (sNil)))) (sRet (mC (.bl true)))))))
noncomputable def F__law_strikes : Fn := fnOf 7 B__law_strikes
theorem kn__law_strikes {P : Program} {w : World} {K : PySem.W.Frag} {mg : Str → Option Value} {base : Heap} {f : Addr} {fd : FuncData} (F : Fun K "_law_strikes" "_law_strikes" s__law_strikes f fd) (T : Txt K mg) (hm : mg "_law_strikes" = some (.ref f)) (hb : Binds K fd ["floor", "one", "other"] []) : Kn P w K mg base "_law_strikes" 2 3 F__law_strikes := kn_fn (k := 1) F sc__law_strikes rfl hm F.kp hb fun cdv A outer s H E hr hp W tk => s_cons (s_par (i := 3) (j := 4) rfl sc__law_strikes.nd rfl rfl (by decide) rfl rfl (ia_cons (i_sub (i_ix hr (i_pv) (i_int)) (i_ix hr (i_pv) (i_int))) (ia_cons (i_sub (i_ix hr (i_pv) (i_int)) (i_ix hr (i_pv) (i_int))) (ia_nil))) rfl) (s_cons (s_if (b_w (w_or (b_eq hr (i_pv) (i_pv)) (w_or1 (b_ne hr (i_mul (i_pv) (i_pv)) (i_mul (i_pv) (i_pv)))))) (s_one (s_ret (i_bl))) (s_nil)) (s_cons (s_set (i := 5) sc__law_strikes.nd rfl (by first | exact Or.inl rfl | exact Or.inr rfl) (i_tup (ds_cons (i_if (b_gt (i_pv) (i_int)) (i_int) (i_neg (i_int))) (ds_cons (i_if (b_gt (i_pv) (i_int)) (i_int) (i_neg (i_int))) (ds_nil))))) (s_cons (s_set (i := 6) sc__law_strikes.nd rfl (by first | exact Or.inl rfl | exact Or.inr rfl) (i_pv)) (s_cons (s_while hp (b_ne hr (i_pv) (i_pv)) (s_cons (s_set (i := 6) sc__law_strikes.nd rfl (by first | exact Or.inl rfl | exact Or.inr rfl) (i_tup (ds_cons (i_add (i_ix hr (i_pv) (i_int)) (i_ix hr (i_pv) (i_int))) (ds_cons (i_add (i_ix hr (i_pv) (i_int)) (i_ix hr (i_pv) (i_int))) (ds_nil))))) (s_one (s_if (b_notin hr (i_pv) (i_pv)) (s_one (s_ret (i_bl))) (s_nil))))) (s_one (s_ret (i_bl)))))))
abbrev s_need_cell_of : Stmt := top 12
theorem sc_need_cell_of : FnScope ["floor", "cell"] ["floor", "cell"] (defScope s_need_cell_of) := ⟨rfl, rfl, rfl, by decide +kernel, rfl, by decide +kernel, by decide +kernel⟩
noncomputable def B_need_cell_of : M Flo := sIf (mOr (mNot (mTru (mCall (F_fits_cell) (mCons (mVar 1) (mNil))))) (mBool (mOp2 (gIn true) (mVar 1) (mVar 0)))) (sNever) (sNil)
noncomputable def F_need_cell_of : Fn := fnOf 2 B_need_cell_of
theorem kn_need_cell_of {P : Program} {w : World} {K : PySem.W.Frag} {mg : Str → Option Value} {base : Heap} {f : Addr} {fd : FuncData} (F : Fun K "need_cell_of" "need_cell_of" s_need_cell_of f fd) (T : Txt K mg) (hm : mg "need_cell_of" = some (.ref f)) (hb : Binds K fd ["floor", "cell"] []) (c_fits_cell : Kn P w K mg base "fits_cell" 3 1 F_fits_cell) : Kn P w K mg base "need_cell_of" 4 2 F_need_cell_of := kn_fn (k := 3) F sc_need_cell_of rfl hm F.kp hb fun cdv A outer s H E hr hp W tk => s_one (s_if (b_w (w_or (b_not (b_tru (i_fn c_fits_cell (argN_cons argN_nil) hr (by decide) tk (by rfl) (ia_cons (i_pv) (ia_nil))))) (w_or1 (b_notin hr (i_pv) (i_pv))))) (s_one (s_never)) (s_nil))
abbrev s_struck_in : Stmt := top 17
theorem sc_struck_in : FnScope ["floor", "cell", "found", "across", "run", "other"] ["floor", "cell"] (defScope s_struck_in) := ⟨rfl, rfl, rfl, by decide +kernel, rfl, by decide +kernel, by decide +kernel⟩
noncomputable def B_struck_in : M Flo := sSeq (sAsg 2 (mLst (dNil))) (sSeq (sFor (mSrcA (mTup (dCons (mC (.int 1)) (dCons (mOp1 gNeg (mC (.int 1))) (dNil))))) (putv 3) (sFor (mSrcA (mCall (F_runs_in) (mCons (mVar 0) (mCons (mVar 3) (mNil))))) (putv 4) (sIf (mBool (mOp2 (gIn false) (mVar 1) (mVar 4))) (sAugAdd 2 (mComp (mSrcA (mVar 4)) [5] (putv 5) (mBool (mOp2 (gEqG true) (mVar 5) (mVar 1))) (mVar 5))) (sNil)))) (sRet (mOpN (one1 gSorted) (mCons (mVar 2) (mNil)))))
noncomputable def F_struck_in : Fn := fnOf 6 B_struck_in
theorem kn_struck_in {P : Program} {w : World} {K : PySem.W.Frag} {mg : Str → Option Value} {base : Heap} {f : Addr} {fd : FuncData} (F : Fun K "struck_in" "struck_in" s_struck_in f fd) (T : Txt K mg) (hm : mg "struck_in" = some (.ref f)) (hb : Binds K fd ["floor", "cell"] []) (c_runs_in : Kn P w K mg base "runs_in" 2 2 F_runs_in) : Kn P w K mg base "struck_in" 3 2 F_struck_in := kn_fn (k := 2) F sc_struck_in rfl hm F.kp hb fun cdv A outer s H E hr hp W tk => s_cons (s_set (i := 2) sc_struck_in.nd rfl (by first | exact Or.inl rfl | exact Or.inr rfl) (i_lst (ds_nil))) (s_cons (s_for hp rfl (p_any (i_tup (ds_cons (i_int) (ds_cons (i_neg (i_int)) (ds_nil))))) (g_name (i := 3) sc_struck_in.nd rfl (by first | exact Or.inl rfl | exact Or.inr rfl)) (s_one (s_for hp rfl (p_any (i_fn c_runs_in (argN_cons (argN_cons argN_nil)) hr (by decide) tk (by rfl) (ia_cons (i_pv) (ia_cons (i_pv) (ia_nil))))) (g_name (i := 4) sc_struck_in.nd rfl (by first | exact Or.inl rfl | exact Or.inr rfl)) (s_one (s_if (b_in hr (i_pv) (i_pv)) (s_one (s_augAdd (i := 2) sc_struck_in.nd rfl (by first | exact Or.inl rfl | exact Or.inr rfl) (i_lc (own := [("other", 5)]) rfl sc_struck_in.nd (p_any (i_pv)) (blkOk_by (N := ["floor", "cell", "found", "across", "run", "other"]) (sc := defScope s_struck_in) (by decide +kernel)) (fun _ _ _ _ _ => g_name (i := 5) sc_struck_in.nd rfl (by first | exact Or.inl rfl | exact Or.inr rfl)) (fun _ _ _ _ _ => bs_one (b_ne hr (i_pv) (i_pv))) (fun _ _ _ _ _ => i_pv) (by decide)))) (s_nil)))))) (s_one (s_ret (i_sorted hr (by rfl) T.z_sorted (ia_cons (i_pv) (ia_nil))))))
abbrev s_strikes : Stmt := top 21
theorem sc_strikes : FnScope ["floor", "cell"] ["floor", "cell"] (defScope s_strikes) := ⟨rfl, rfl, rfl, by decide +kernel, rfl, by decide +kernel, by decide +kernel⟩
noncomputable def B_strikes : M Flo := sSeq (sExpr (mCall (F_need_floor) (mCons (mVar 0) (mNil)))) (sSeq (sExpr (mCall (F_need_cell_of) (mCons (mVar 0) (mCons (mVar 1) (mNil))))) (sRet (mOpN (one1 gTuple) (mCons (mCall (F_struck_in) (mCons (mVar 0) (mCons (mVar 1) (mNil)))) (mNil)))))
noncomputable def F_strikes : Fn := fnOf 2 B_strikes
theorem kn_strikes {P : Program} {w : World} {K : PySem.W.Frag} {mg : Str → Option Value} {base : Heap} {f : Addr} {fd : FuncData} (F : Fun K "strikes" "strikes" s_strikes f fd) (T : Txt K mg) (hm : mg "strikes" = some (.ref f)) (hb : Binds K fd ["floor", "cell"] []) (c_need_floor : Kn P w K mg base "need_floor" 5 1 F_need_floor) (c_need_cell_of : Kn P w K mg base "need_cell_of" 4 2 F_need_cell_of) (c_struck_in : Kn P w K mg base "struck_in" 3 2 F_struck_in) : Kn P w K mg base "strikes" 6 2 F_strikes := kn_fn (k := 5) F sc_strikes rfl hm F.kp hb fun cdv A outer s H E hr hp W tk => s_cons (s_expr (i_fn c_need_floor (argN_cons argN_nil) hr (by decide) tk (by rfl) (ia_cons (i_pv) (ia_nil)))) (s_cons (s_expr (i_fn c_need_cell_of (argN_cons (argN_cons argN_nil)) hr (by decide) tk (by rfl) (ia_cons (i_pv) (ia_cons (i_pv) (ia_nil))))) (s_one (s_ret (i_tuple (by rfl) T.z_tuple (ia_cons (i_fn c_struck_in (argN_cons (argN_cons argN_nil)) hr (by decide) tk (by rfl) (ia_cons (i_pv) (ia_cons (i_pv) (ia_nil)))) (ia_nil))))))
abbrev s__law_is_floor : Stmt := top 31
theorem sc__law_is_floor : FnScope ["value", "cell", "one"] ["value"] (defScope s__law_is_floor) := ⟨rfl, rfl, rfl, by decide +kernel, rfl, by decide +kernel, by decide +kernel⟩
noncomputable def B__law_is_floor : M Flo := sSeq (sIf (mOr (mNot (mTru (mOp1 (gIsi .tup) (mVar 0)))) (mNot (mBool (mChain pLe pLe (mC (.int 1)) (mOpN (one1 gLen) (mCons (mVar 0) (mNil))) (mC (.int 400)))))) (sRet (mC (.bl false))) (sNil)) (sSeq (sFor (mSrcA (mVar 0)) (putv 1) (sSeq (sIf (mOr (mNot (mTru (mOp1 (gIsi .tup) (mVar 1)))) (mBool (mOp2 (gEqG true) (mOpN (one1 gLen) (mCons (mVar 1) (mNil))) (mC (.int 2))))) (sRet (mC (.bl false))) (sNil)) (sIf (mBool (mOp2 (gEqG true) (mComp (mSrcA (mVar 1)) [2] (putv 2) (mOr (mTru (mOp1 (gIsi .bl) (mVar 2))) (mOr (mNot (mTru (mOp1 (gIsi .int) (mVar 2)))) (mNot (mBool (mChain pLe pLe (mC (.int 0)) (mVar 2) (mC (.int 59))))))) (mC (.int 1))) (mLst (dNil)))) (sRet (mC (.bl false))) (sNil)))) (sRet (mOp2 (gEqG false) (mOpN (one1 gList) (mCons (mVar 0) (mNil))) (mOp1 gSortSet (mVar 0)))))
noncomputable def F__law_is_floor : Fn := fnOf 3 B__law_is_floor
theorem kn__law_is_floor {P : Program} {w : World} {K : PySem.W.Frag} {mg : Str → Option Value} {base : Heap} {f : Addr} {fd : FuncData} (F : Fun K "_law_is_floor" "_law_is_floor" s__law_is_floor f fd) (T : Txt K mg) (hm : mg "_law_is_floor" = some (.ref f)) (hb : Binds K fd ["value"] []) : Kn P w K mg base "_law_is_floor" 2 1 F__law_is_floor := kn_fn (k := 1) F sc__law_is_floor rfl hm F.kp hb fun cdv A outer s H E hr hp W tk => s_cons (s_if (b_w (w_or (b_not (b_tru (i_isi (T := .tup) (by decide) (by rfl) T.z_isinstance (by rfl) T.z_tuple (by rfl) (i_pv)))) (w_or1 (b_not (b_leLe (i_int) (i_len (by rfl) T.z_len (ia_cons (i_pv) (ia_nil))) (i_int)))))) (s_one (s_ret (i_bl))) (s_nil)) (s_cons (s_for hp rfl (p_any (i_pv)) (g_name (i := 1) sc__law_is_floor.nd rfl (by first | exact Or.inl rfl | exact Or.inr rfl)) (s_cons (s_if (b_w (w_or (b_not (b_tru (i_isi (T := .tup) (by decide) (by rfl) T.z_isinstance (by rfl) T.z_tuple (by rfl) (i_pv)))) (w_or1 (b_ne hr (i_len (by rfl) T.z_len (ia_cons (i_pv) (ia_nil))) (i_int))))) (s_one (s_ret (i_bl))) (s_nil)) (s_one (s_if (b_ne hr (i_lc (own := [("one", 2)]) rfl sc__law_is_floor.nd (p_any (i_pv)) (blkOk_by (N := ["value", "cell", "one"]) (sc := defScope s__law_is_floor) (by decide +kernel)) (fun _ _ _ _ _ => g_name (i := 2) sc__law_is_floor.nd rfl (by first | exact Or.inl rfl | exact Or.inr rfl)) (fun _ _ _ _ _ => bs_one (b_w (w_or (b_tru (i_isi (T := .bl) (by decide) (by rfl) T.z_isinstance (by rfl) T.z_bool (by rfl) (i_pv))) (w_or (b_not (b_tru (i_isi (T := .int) (by decide) (by rfl) T.z_isinstance (by rfl) T.z_int (by rfl) (i_pv)))) (w_or1 (b_not (b_leLe (i_int) (i_pv) (i_int)))))))) (fun _ _ _ _ _ => i_int) (by decide)) (i_lst (ds_nil))) (s_one (s_ret (i_bl))) (s_nil))))) (s_one (s_ret (i_eq hr (i_list (by rfl) T.z_list (ia_cons (i_pv) (ia_nil))) (i_sortSet rfl hr (by rfl) T.z_sorted (by rfl) T.z_set (i_pv))))))
abbrev s__law_is_quiet : Stmt := top 34
theorem sc__law_is_quiet : FnScope ["floor", "value", "pairs", "one", "cell", "other"] ["floor", "value"] (defScope s__law_is_quiet) := ⟨rfl, rfl, rfl, by decide +kernel, rfl, by decide +kernel, by decide +kernel⟩
noncomputable def B__law_is_quiet : M Flo := sSeq (sIf (mOr (mNot (mTru (mOp1 (gIsi .tup) (mVar 1)))) (mAnd (mBool (mOp2 (gEqG true) (mVar 1) (mTup (dNil)))) (mNot (mTru (mCall (F__law_is_floor) (mCons (mVar 1) (mNil))))))) (sRet (mC (.bl false))) (sNil)) (sSeq (sIf (mBool (mOp2 (gEqG true) (mComp (mSrcA (mVar 1)) [4] (putv 4) (mBool (mOp2 (gIn true) (mVar 4) (mVar 0))) (mVar 4)) (mLst (dNil)))) (sRet (mC (.bl false))) (sNil)) (sSeq (sAsg 2 (mLst (dNil))) (sSeq (sFor (mSrcA (mVar 1)) (putv 3) (sAsg 2 (mOp2 gAdd (mVar 2) (mComp (mSrcA (mVar 1)) [5] (putv 5) (mTru (mCall (F__law_strikes) (mCons (mVar 0) (mCons (mVar 3) (mCons (mVar 5) (mNil)))))) (mVar 5))))) (sRet (mOp2 (gEqG false) (mVar 2) (mLst (dNil)))))))
noncomputable def F__law_is_quiet : Fn := fnOf 6 B__law_is_quiet
theorem kn__law_is_quiet {P : Program} {w : World} {K : PySem.W.Frag} {mg : Str → Option Value} {base : Heap} {f : Addr} {fd : FuncData} (F : Fun K "_law_is_quiet" "_law_is_quiet" s__law_is_quiet f fd) (T : Txt K mg) (hm : mg "_law_is_quiet" = some (.ref f)) (hb : Binds K fd ["floor", "value"] []) (c__law_is_floor : Kn P w K mg base "_law_is_floor" 2 1 F__law_is_floor) (c__law_strikes : Kn P w K mg base "_law_strikes" 2 3 F__law_strikes) : Kn P w K mg base "_law_is_quiet" 3 2 F__law_is_quiet := kn_fn (k := 2) F sc__law_is_quiet rfl hm F.kp hb fun cdv A outer s H E hr hp W tk => s_cons (s_if (b_w (w_or (b_not (b_tru (i_isi (T := .tup) (by decide) (by rfl) T.z_isinstance (by rfl) T.z_tuple (by rfl) (i_pv)))) (w_or1 (b_w (w_and (b_ne hr (i_pv) (i_tup (ds_nil))) (w_and1 (b_not (b_tru (i_fn c__law_is_floor (argN_cons argN_nil) hr (by decide) tk (by rfl) (ia_cons (i_pv) (ia_nil))))))))))) (s_one (s_ret (i_bl))) (s_nil)) (s_cons (s_if (b_ne hr (i_lc (own := [("cell", 4)]) rfl sc__law_is_quiet.nd (p_any (i_pv)) (blkOk_by (N := ["floor", "value", "pairs", "one", "cell", "other"]) (sc := defScope s__law_is_quiet) (by decide +kernel)) (fun _ _ _ _ _ => g_name (i := 4) sc__law_is_quiet.nd rfl (by first | exact Or.inl rfl | exact Or.inr rfl)) (fun _ _ _ _ _ => bs_one (b_notin hr (i_pv) (i_pv))) (fun _ _ _ _ _ => i_pv) (by decide)) (i_lst (ds_nil))) (s_one (s_ret (i_bl))) (s_nil)) (s_cons (s_set (i := 2) sc__law_is_quiet.nd rfl (by first | exact Or.inl rfl | exact Or.inr rfl) (i_lst (ds_nil))) (s_cons (s_for hp rfl (p_any (i_pv)) (g_name (i := 3) sc__law_is_quiet.nd rfl (by first | exact Or.inl rfl | exact Or.inr rfl)) (s_one (s_set (i := 2) sc__law_is_quiet.nd rfl (by first | exact Or.inl rfl | exact Or.inr rfl) (i_add (i_pv) (i_lc (own := [("other", 5)]) rfl sc__law_is_quiet.nd (p_any (i_pv)) (blkOk_by (N := ["floor", "value", "pairs", "one", "cell", "other"]) (sc := defScope s__law_is_quiet) (by decide +kernel)) (fun _ _ _ _ _ => g_name (i := 5) sc__law_is_quiet.nd rfl (by first | exact Or.inl rfl | exact Or.inr rfl)) (fun _ _ _ _ _ => bs_one (b_tru (i_fn c__law_strikes (argN_cons (argN_cons (argN_cons argN_nil))) hr (by decide) take0 (by rfl) (ia_cons (i_pv) (ia_cons (i_pv) (ia_cons (i_pv) (ia_nil))))))) (fun _ _ _ _ _ => i_pv) (by decide)))))) (s_one (s_ret (i_eq hr (i_pv) (i_lst (ds_nil))))))))
abbrev s_law : Stmt := top 36
theorem sc_law : FnScope ["script", "cup", "turn", "floor", "told", "run", "cell", "some", "calm", "one", "at", "values", "value", "high", "wide", "cells", "row", "other", "odd", "column"] ["script"] (defScope s_law) := ⟨rfl, rfl, rfl, by decide +kernel, rfl, by decide +kernel, by decide +kernel⟩
noncomputable def B_law : M Flo := sSeq (sAsg 1 (mCall (F__law_cup) (mCons (mVar 0) (mNil)))) (sSeq (sIf (mNot (mTru (mCall (F__law_rows_right) mNil))) (sRet (mC (.bl false))) (sNil)) (sSeq (sFor ((mCons (mC (.int 6)) (mNil)).bind srcR1) (putv 2) (sSeq (sAsg 3 (mCall (F__law_floor) (mCons (mVar 1) (mCons (mCall (F__law_some) (mCons (mVar 1) (mCons (mLst (dCons (mC (.int 4)) (dCons (mC (.int 16)) (dCons (mC (.int 40)) (dNil))))) (mNil)))) (mCons (mCall (F__law_some) (mCons (mVar 1) (mCons (mLst (dCons (mC (.int 3)) (dCons (mC (.int 6)) (dCons (mC (.int 9)) (dNil))))) (mNil)))) (mNil)))))) (sSeq (sAsg 4 (mTup (dCons (mCall (F_falling_runs) (mCons (mVar 3) (mNil))) (dCons (mCall (F_rising_runs) (mCons (mVar 3) (mNil))) (dNil))))) (sSeq (sIf (mNot (mTru (mCall (F__law_same) (mCons (mVar 4) (mCons (mTup (dCons (mOpN (one1 gTuple) (mCons (mCall (F__law_runs) (mCons (mVar 3) (mCons (mC (.int 1)) (mNil)))) (mNil))) (dCons (mOpN (one1 gTuple) (mCons (mCall (F__law_runs) (mCons (mVar 3) (mCons (mOp1 gNeg (mC (.int 1))) (mNil)))) (mNil))) (dNil)))) (mNil)))))) (sRet (mC (.bl false))) (sNil)) (sSeq (sFor (mSrcA (mOp2 gAdd (mOp2 gIx (mVar 4) (mC (.int 0))) (mOp2 gIx (mVar 4) (mC (.int 1))))) (putv 5) (sIf (mBool (mOp2 (gEqG true) (mComp ((dCons (mVar 5) (dCons (mCut (mVar 5) (mPart (mC (.int 1))) (mNoPart)) (dNil))).bind srcZ) [9, 17] (tgTup 2 (tgCons (putv 9) (tgCons (putv 17) (tgNil)))) (mNot (mTru (mCall (F__law_strikes) (mCons (mVar 3) (mCons (mVar 9) (mCons (mVar 17) (mNil))))))) (mC (.int 1))) (mLst (dNil)))) (sRet (mC (.bl false))) (sNil))) (sSeq (sAsg 6 (mCall (F__law_some) (mCons (mVar 1) (mCons (mVar 3) (mNil))))) (sSeq (sIf (mNot (mTru (mCall (F__law_same) (mCons (mCall (F_strikes) (mCons (mVar 3) (mCons (mVar 6) (mNil)))) (mCons (mOpN (one1 gTuple) (mCons (mComp (mSrcA (mVar 3)) [17] (putv 17) (mTru (mCall (F__law_strikes) (mCons (mVar 3) (mCons (mVar 6) (mCons (mVar 17) (mNil)))))) (mVar 17)) (mNil))) (mNil)))))) (sRet (mC (.bl false))) (sNil)) (sSeq (sAsg 7 (mOpN (one1 gTuple) (mCons (mComp (mSrcA (mVar 3)) [9] (putv 9) (mBool (mOp2 (gEqG false) (mCall (F__law_roll) (mCons (mVar 1) (mCons (mC (.int 4)) (mNil)))) (mC (.int 0)))) (mVar 9)) (mNil)))) (sSeq (sAsg 8 (mTup (dNil))) (sSeq (sFor (mSrcA (mVar 3)) (putv 9) (sAsg 8 (mOp2 gAdd (mVar 8) (mIf (mTru (mCall (F__law_is_quiet) (mCons (mVar 3) (mCons (mOp2 gAdd (mVar 8) (mTup (dCons (mVar 9) (dNil)))) (mNil))))) (mTup (dCons (mVar 9) (dNil))) (mTup (dNil)))))) (sSeq (sAsg 10 (mCall (F__law_roll) (mCons (mVar 1) (mCons (mOpN (one1 gLen) (mCons (mVar 8) (mNil))) (mNil))))) (sSeq (sAsg 11 (mLst (dCons (mVar 7) (dCons (mVar 8) (dCons (mOp1 gRev (mVar 8)) (dCons (mOp2 gAdd (mVar 8) (mCut (mVar 8) (mPart (mOp1 gNeg (mC (.int 1)))) (mNoPart))) (dCons (mOpN (one1 gList) (mCons (mVar 8) (mNil))) (dCons (mTup (dNil)) (dCons (mC .non) (dCons (mC (.int 5)) (dCons (mVar 3) (dCons (mTup (dCons (mVar 6) (dNil))) (dCons (mTup (dCons (mTup (dCons (mC (.int 59)) (dCons (mC (.int 59)) (dNil)))) (dNil))) (dCons (mC (.str "00")) (dNil))))))))))))))) (sFor (mSrcA (mOp2 gAdd (mVar 11) (mComp (mSrcA (mTup (dCons (mC .non) (dCons (mTup (dCons (mC (.int 1)) (dNil))) (dCons (mLst (dCons (mC (.int 0)) (dCons (mC (.int 0)) (dNil)))) (dCons (mTup (dCons (mC (.bl true)) (dCons (mC (.int 0)) (dNil)))) (dCons (mTup (dCons (mC (.int 0)) (dCons (mC (.int 60)) (dNil)))) (dCons (mTup (dCons (mOp1 gNeg (mC (.int 1))) (dCons (mC (.int 0)) (dNil)))) (dCons (mTup (dCons (mC (.int 0)) (dCons (mC (.str "0")) (dNil)))) (dCons (mVar 6) (dNil))))))))))) [18] (putv 18) (bTrue) (mOp2 gAdd (mOp2 gAdd (mCut (mVar 8) (mNoPart) (mPart (mVar 10))) (mTup (dCons (mVar 18) (dNil)))) (mCut (mVar 8) (mPart (mOp2 gAdd (mVar 10) (mC (.int 1)))) (mNoPart)))))) (putv 12) (sIf (mNot (mTru (mCall (F__law_same) (mCons (mCall (F_is_quiet) (mCons (mVar 3) (mCons (mVar 12) (mNil)))) (mCons (mCall (F__law_is_quiet) (mCons (mVar 3) (mCons (mVar 12) (mNil)))) (mNil)))))) (sRet (mC (.bl false))) (sNil))))))))))))))) (sSeq (sPar 13 14 (mCons (mOp2 gAdd (mC (.int 1)) (mCall (F__law_roll) (mCons (mVar 1) (mCons (mC (.int 7)) (mNil))))) (mCons (mOp2 gAdd (mC (.int 1)) (mCall (F__law_roll) (mCons (mVar 1) (mCons (mC (.int 7)) (mNil))))) (mNil)))) (sSeq (sAsg 15 (mLst (dNil))) (sSeq (sFor ((mCons (mVar 13) (mNil)).bind srcR1) (putv 16) (sAsg 15 (mOp2 gAdd (mVar 15) (mComp ((mCons (mVar 14) (mNil)).bind srcR1) [19] (putv 19) (bTrue) (mTup (dCons (mVar 16) (dCons (mVar 19) (dNil)))))))) (sSeq (sAsg 4 (mTup (dCons (mOpN (one1 gLen) (mCons (mCall (F_falling_runs) (mCons (mOpN (one1 gTuple) (mCons (mVar 15) (mNil))) (mNil))) (mNil))) (dCons (mOpN (one1 gLen) (mCons (mCall (F_rising_runs) (mCons (mOpN (one1 gTuple) (mCons (mVar 15) (mNil))) (mNil))) (mNil))) (dCons (mCall (F_strikes) (mCons (mTup (dCons (mTup (dCons (mC (.int 0)) (dCons (mC (.int 0)) (dNil)))) (dCons (mTup (dCons (mC (.int 59)) (dCons (mC (.int 59)) (dNil)))) (dNil)))) (mCons (mTup (dCons (mC (.int 59)) (dCons (mC (.int 59)) (dNil)))) (mNil)))) (dNil)))))) (sRet (mCall (F__law_same) (mCons (mVar 4) (mCons (mTup (dCons (mOp2 gSub (mOp2 gAdd (mVar 13) (mVar 14)) (mC (.int 1))) (dCons (mOp2 gSub (mOp2 gAdd (mVar 13) (mVar 14)) (mC (.int 1))) (dCons (mTup (dNil)) (dNil))))) (mNil)))))))))))
noncomputable def F_law : Fn := fnOf 20 B_law
theorem ok_law {P : Program} {w : World} {K : PySem.W.Frag} {mg : Str → Option Value} {base : Heap} {f : Addr} {fd : FuncData} (F : Fun K "law" "law" s_law f fd) (T : Txt K mg) (hm : mg "law" = some (.ref f)) (hb : Binds K fd ["script"] []) (c__law_cup : Kn P w K mg base "_law_cup" 2 1 F__law_cup) (c__law_rows_right : Kn P w K mg base "_law_rows_right" 7 0 F__law_rows_right) (c__law_floor : Kn P w K mg base "_law_floor" 3 3 F__law_floor) (c__law_some : Kn P w K mg base "_law_some" 3 2 F__law_some) (c_rising_runs : Kn P w K mg base "rising_runs" 6 1 F_rising_runs) (c_falling_runs : Kn P w K mg base "falling_runs" 6 1 F_falling_runs) (c__law_same : Kn P w K mg base "_law_same" 13 2 F__law_same) (c__law_runs : Kn P w K mg base "_law_runs" 2 2 F__law_runs) (c__law_strikes : Kn P w K mg base "_law_strikes" 2 3 F__law_strikes) (c_strikes : Kn P w K mg base "strikes" 6 2 F_strikes) (c__law_roll : Kn P w K mg base "_law_roll" 2 2 F__law_roll) (c__law_is_quiet : Kn P w K mg base "_law_is_quiet" 3 2 F__law_is_quiet) (c_is_quiet : Kn P w K mg base "is_quiet" 6 2 F_is_quiet) : FnOk P w K mg base (L2.CX P w) 14 f fd ["script"] (spF ⟨P, w, K⟩ 1 F_law) := fn_ok (k := 13) F sc_law fun cdv A outer s H E hr hp W tk => s_cons (s_set (i := 1) sc_law.nd rfl (by first | exact Or.inl rfl | exact Or.inr rfl) (i_fn c__law_cup (argN_cons argN_nil) hr (by decide) tk (by rfl) (ia_cons (i_pv) (ia_nil)))) (s_cons (s_if (b_not (b_tru (i_fn0 c__law_rows_right hr (by decide) tk (by rfl)))) (s_one (s_ret (i_bl))) (s_nil)) (s_cons (s_for hp rfl (p_range1 (by rfl) T.z_range (ia_cons (i_int) (ia_nil))) (g_name (i := 2) sc_law.nd rfl (by first | exact Or.inl rfl | exact Or.inr rfl)) (s_cons (s_set (i := 3) sc_law.nd rfl (by first | exact Or.inl rfl | exact Or.inr rfl) (i_fn c__law_floor (argN_cons (argN_cons (argN_cons argN_nil))) hr (by decide) tk (by rfl) (ia_cons (i_pv) (ia_cons (i_fn c__law_some (argN_cons (argN_cons argN_nil)) hr (by decide) tk (by rfl) (ia_cons (i_pv) (ia_cons (i_lst (ds_cons (i_int) (ds_cons (i_int) (ds_cons (i_int) (ds_nil))))) (ia_nil)))) (ia_cons (i_fn c__law_some (argN_cons (argN_cons argN_nil)) hr (by decide) tk (by rfl) (ia_cons (i_pv) (ia_cons (i_lst (ds_cons (i_int) (ds_cons (i_int) (ds_cons (i_int) (ds_nil))))) (ia_nil)))) (ia_nil)))))) (s_cons (s_set (i := 4) sc_law.nd rfl (by first | exact Or.inl rfl | exact Or.inr rfl) (i_tup (ds_cons (i_fn c_falling_runs (argN_cons argN_nil) hr (by decide) tk (by rfl) (ia_cons (i_pv) (ia_nil))) (ds_cons (i_fn c_rising_runs (argN_cons argN_nil) hr (by decide) tk (by rfl) (ia_cons (i_pv) (ia_nil))) (ds_nil))))) (s_cons (s_if (b_not (b_tru (i_fn c__law_same (argN_cons (argN_cons argN_nil)) hr (by decide) tk (by rfl) (ia_cons (i_pv) (ia_cons (i_tup (ds_cons (i_tuple (by rfl) T.z_tuple (ia_cons (i_fn c__law_runs (argN_cons (argN_cons argN_nil)) hr (by decide) tk (by rfl) (ia_cons (i_pv) (ia_cons (i_int) (ia_nil)))) (ia_nil))) (ds_cons (i_tuple (by rfl) T.z_tuple (ia_cons (i_fn c__law_runs (argN_cons (argN_cons argN_nil)) hr (by decide) tk (by rfl) (ia_cons (i_pv) (ia_cons (i_neg (i_int)) (ia_nil)))) (ia_nil))) (ds_nil)))) (ia_nil)))))) (s_one (s_ret (i_bl))) (s_nil)) (s_cons (s_for hp rfl (p_any (i_add (i_ix hr (i_pv) (i_int)) (i_ix hr (i_pv) (i_int)))) (g_name (i := 5) sc_law.nd rfl (by first | exact Or.inl rfl | exact Or.inr rfl)) (s_one (s_if (b_ne hr (i_lc (own := [("one", 9), ("other", 17)]) rfl sc_law.nd (p_zip (by rfl) T.z_zip (ds_cons (i_pv) (ds_cons (i_cut (i_pv) (o_some (i_int)) (o_none)) (ds_nil)))) (blkOk_by (N := ["script", "cup", "turn", "floor", "told", "run", "cell", "some", "calm", "one", "at", "values", "value", "high", "wide", "cells", "row", "other", "odd", "column"]) (sc := defScope s_law) (by decide +kernel)) (fun _ _ _ _ _ => g_tup rfl (gs_cons (g_name (i := 9) sc_law.nd rfl (by first | exact Or.inl rfl | exact Or.inr rfl)) (gs_cons (g_name (i := 17) sc_law.nd rfl (by first | exact Or.inl rfl | exact Or.inr rfl)) (gs_nil)))) (fun _ _ _ _ _ => bs_one (b_not (b_tru (i_fn c__law_strikes (argN_cons (argN_cons (argN_cons argN_nil))) hr (by decide) take0 (by rfl) (ia_cons (i_pv) (ia_cons (i_pv) (ia_cons (i_pv) (ia_nil)))))))) (fun _ _ _ _ _ => i_int) (by decide)) (i_lst (ds_nil))) (s_one (s_ret (i_bl))) (s_nil)))) (s_cons (s_set (i := 6) sc_law.nd rfl (by first | exact Or.inl rfl | exact Or.inr rfl) (i_fn c__law_some (argN_cons (argN_cons argN_nil)) hr (by decide) tk (by rfl) (ia_cons (i_pv) (ia_cons (i_pv) (ia_nil))))) (s_cons (s_if (b_not (b_tru (i_fn c__law_same (argN_cons (argN_cons argN_nil)) hr (by decide) tk (by rfl) (ia_cons (i_fn c_strikes (argN_cons (argN_cons argN_nil)) hr (by decide) tk (by rfl) (ia_cons (i_pv) (ia_cons (i_pv) (ia_nil)))) (ia_cons (i_tuple (by rfl) T.z_tuple (ia_cons (i_lc (own := [("other", 17)]) rfl sc_law.nd (p_any (i_pv)) (blkOk_by (N := ["script", "cup", "turn", "floor", "told", "run", "cell", "some", "calm", "one", "at", "values", "value", "high", "wide", "cells", "row", "other", "odd", "column"]) (sc := defScope s_law) (by decide +kernel)) (fun _ _ _ _ _ => g_name (i := 17) sc_law.nd rfl (by first | exact Or.inl rfl | exact Or.inr rfl)) (fun _ _ _ _ _ => bs_one (b_tru (i_fn c__law_strikes (argN_cons (argN_cons (argN_cons argN_nil))) hr (by decide) take0 (by rfl) (ia_cons (i_pv) (ia_cons (i_pv) (ia_cons (i_pv) (ia_nil))))))) (fun _ _ _ _ _ => i_pv) (by decide)) (ia_nil))) (ia_nil)))))) (s_one (s_ret (i_bl))) (s_nil)) (s_cons (s_set (i := 7) sc_law.nd rfl (by first | exact Or.inl rfl | exact Or.inr rfl) (i_tuple (by rfl) T.z_tuple (ia_cons (i_lc (own := [("one", 9)]) rfl sc_law.nd (p_any (i_pv)) (blkOk_by (N := ["script", "cup", "turn", "floor", "told", "run", "cell", "some", "calm", "one", "at", "values", "value", "high", "wide", "cells", "row", "other", "odd", "column"]) (sc := defScope s_law) (by decide +kernel)) (fun _ _ _ _ _ => g_name (i := 9) sc_law.nd rfl (by first | exact Or.inl rfl | exact Or.inr rfl)) (fun _ _ _ _ _ => bs_one (b_eq hr (i_fn c__law_roll (argN_cons (argN_cons argN_nil)) hr (by decide) take0 (by rfl) (ia_cons (i_pv) (ia_cons (i_int) (ia_nil)))) (i_int))) (fun _ _ _ _ _ => i_pv) (by decide)) (ia_nil)))) (s_cons (s_set (i := 8) sc_law.nd rfl (by first | exact Or.inl rfl | exact Or.inr rfl) (i_tup (ds_nil))) (s_cons (s_for hp rfl (p_any (i_pv)) (g_name (i := 9) sc_law.nd rfl (by first | exact Or.inl rfl | exact Or.inr rfl)) (s_one (s_set (i := 8) sc_law.nd rfl (by first | exact Or.inl rfl | exact Or.inr rfl) (i_add (i_pv) (i_if (b_tru (i_fn c__law_is_quiet (argN_cons (argN_cons argN_nil)) hr (by decide) tk (by rfl) (ia_cons (i_pv) (ia_cons (i_add (i_pv) (i_tup (ds_cons (i_pv) (ds_nil)))) (ia_nil))))) (i_tup (ds_cons (i_pv) (ds_nil))) (i_tup (ds_nil))))))) (s_cons (s_set (i := 10) sc_law.nd rfl (by first | exact Or.inl rfl | exact Or.inr rfl) (i_fn c__law_roll (argN_cons (argN_cons argN_nil)) hr (by decide) tk (by rfl) (ia_cons (i_pv) (ia_cons (i_len (by rfl) T.z_len (ia_cons (i_pv) (ia_nil))) (ia_nil))))) (s_cons (s_set (i := 11) sc_law.nd rfl (by first | exact Or.inl rfl | exact Or.inr rfl) (i_lst (ds_cons (i_pv) (ds_cons (i_pv) (ds_cons (i_rev (i_pv)) (ds_cons (i_add (i_pv) (i_cut (i_pv) (o_some (i_neg (i_int))) (o_none))) (ds_cons (i_list (by rfl) T.z_list (ia_cons (i_pv) (ia_nil))) (ds_cons (i_tup (ds_nil)) (ds_cons (i_non) (ds_cons (i_int) (ds_cons (i_pv) (ds_cons (i_tup (ds_cons (i_pv) (ds_nil))) (ds_cons (i_tup (ds_cons (i_tup (ds_cons (i_int) (ds_cons (i_int) (ds_nil)))) (ds_nil))) (ds_cons (i_str) (ds_nil))))))))))))))) (s_one (s_for hp rfl (p_any (i_add (i_pv) (i_lc (own := [("odd", 18)]) rfl sc_law.nd (p_any (i_tup (ds_cons (i_non) (ds_cons (i_tup (ds_cons (i_int) (ds_nil))) (ds_cons (i_lst (ds_cons (i_int) (ds_cons (i_int) (ds_nil)))) (ds_cons (i_tup (ds_cons (i_bl) (ds_cons (i_int) (ds_nil)))) (ds_cons (i_tup (ds_cons (i_int) (ds_cons (i_int) (ds_nil)))) (ds_cons (i_tup (ds_cons (i_neg (i_int)) (ds_cons (i_int) (ds_nil)))) (ds_cons (i_tup (ds_cons (i_int) (ds_cons (i_str) (ds_nil)))) (ds_cons (i_pv) (ds_nil))))))))))) (blkOk_by (N := ["script", "cup", "turn", "floor", "told", "run", "cell", "some", "calm", "one", "at", "values", "value", "high", "wide", "cells", "row", "other", "odd", "column"]) (sc := defScope s_law) (by decide +kernel)) (fun _ _ _ _ _ => g_name (i := 18) sc_law.nd rfl (by first | exact Or.inl rfl | exact Or.inr rfl)) (fun _ _ _ _ _ => bs_nil) (fun _ _ _ _ _ => i_add (i_add (i_cut (i_pv) (o_none) (o_some (i_pv))) (i_tup (ds_cons (i_pv) (ds_nil)))) (i_cut (i_pv) (o_some (i_add (i_pv) (i_int))) (o_none))) (by decide)))) (g_name (i := 12) sc_law.nd rfl (by first | exact Or.inl rfl | exact Or.inr rfl)) (s_one (s_if (b_not (b_tru (i_fn c__law_same (argN_cons (argN_cons argN_nil)) hr (by decide) tk (by rfl) (ia_cons (i_fn c_is_quiet (argN_cons (argN_cons argN_nil)) hr (by decide) tk (by rfl) (ia_cons (i_pv) (ia_cons (i_pv) (ia_nil)))) (ia_cons (i_fn c__law_is_quiet (argN_cons (argN_cons argN_nil)) hr (by decide) tk (by rfl) (ia_cons (i_pv) (ia_cons (i_pv) (ia_nil)))) (ia_nil)))))) (s_one (s_ret (i_bl))) (s_nil))))))))))))))))) (s_cons (s_par (i := 13) (j := 14) rfl sc_law.nd rfl rfl (by decide) rfl rfl (ia_cons (i_add (i_int) (i_fn c__law_roll (argN_cons (argN_cons argN_nil)) hr (by decide) tk (by rfl) (ia_cons (i_pv) (ia_cons (i_int) (ia_nil))))) (ia_cons (i_add (i_int) (i_fn c__law_roll (argN_cons (argN_cons argN_nil)) hr (by decide) tk (by rfl) (ia_cons (i_pv) (ia_cons (i_int) (ia_nil))))) (ia_nil))) rfl) (s_cons (s_set (i := 15) sc_law.nd rfl (by first | exact Or.inl rfl | exact Or.inr rfl) (i_lst (ds_nil))) (s_cons (s_for hp rfl (p_range1 (by rfl) T.z_range (ia_cons (i_pv) (ia_nil))) (g_name (i := 16) sc_law.nd rfl (by first | exact Or.inl rfl | exact Or.inr rfl)) (s_one (s_set (i := 15) sc_law.nd rfl (by first | exact Or.inl rfl | exact Or.inr rfl) (i_add (i_pv) (i_lc (own := [("column", 19)]) rfl sc_law.nd (p_range1 (by rfl) T.z_range (ia_cons (i_pv) (ia_nil))) (blkOk_by (N := ["script", "cup", "turn", "floor", "told", "run", "cell", "some", "calm", "one", "at", "values", "value", "high", "wide", "cells", "row", "other", "odd", "column"]) (sc := defScope s_law) (by decide +kernel)) (fun _ _ _ _ _ => g_name (i := 19) sc_law.nd rfl (by first | exact Or.inl rfl | exact Or.inr rfl)) (fun _ _ _ _ _ => bs_nil) (fun _ _ _ _ _ => i_tup (ds_cons (i_pv) (ds_cons (i_pv) (ds_nil)))) (by decide)))))) (s_cons (s_set (i := 4) sc_law.nd rfl (by first | exact Or.inl rfl | exact Or.inr rfl) (i_tup (ds_cons (i_len (by rfl) T.z_len (ia_cons (i_fn c_falling_runs (argN_cons argN_nil) hr (by decide) tk (by rfl) (ia_cons (i_tuple (by rfl) T.z_tuple (ia_cons (i_pv) (ia_nil))) (ia_nil))) (ia_nil))) (ds_cons (i_len (by rfl) T.z_len (ia_cons (i_fn c_rising_runs (argN_cons argN_nil) hr (by decide) tk (by rfl) (ia_cons (i_tuple (by rfl) T.z_tuple (ia_cons (i_pv) (ia_nil))) (ia_nil))) (ia_nil))) (ds_cons (i_fn c_strikes (argN_cons (argN_cons argN_nil)) hr (by decide) tk (by rfl) (ia_cons (i_tup (ds_cons (i_tup (ds_cons (i_int) (ds_cons (i_int) (ds_nil)))) (ds_cons (i_tup (ds_cons (i_int) (ds_cons (i_int) (ds_nil)))) (ds_nil)))) (ia_cons (i_tup (ds_cons (i_int) (ds_cons (i_int) (ds_nil)))) (ia_nil)))) (ds_nil)))))) (s_one (s_ret (i_fn c__law_same (argN_cons (argN_cons argN_nil)) hr (by decide) tk (by rfl) (ia_cons (i_pv) (ia_cons (i_tup (ds_cons (i_sub (i_add (i_pv) (i_pv)) (i_int)) (ds_cons (i_sub (i_add (i_pv) (i_pv)) (i_int)) (ds_cons (i_tup (ds_nil)) (ds_nil))))) (ia_nil))))))))))))
end K50
/-! k50: the plain law. Floors as lists of pairs, slanting runs, strikes -/
namespace K50
open VS
abbrev Pt := Int × Int
structure FloorOk (l : List Pt) : Prop where
  ne : l ≠ []
  srt : l.Pairwise ltP
  rng : ∀ p ∈ l, 0 ≤ p.1 ∧ p.1 ≤ 59 ∧ 0 ≤ p.2 ∧ p.2 ≤ 59
  len : l.length ≤ 400
def up (a : Int) (c : Pt) : Pt := (c.1 - 1, c.2 - a)
def dn (a : Int) (c : Pt) : Pt := (c.1 + 1, c.2 + a)
/-- k steps down -/
def pa (a : Int) (c : Pt) (k : Nat) : Pt := (c.1 + k, c.2 + k * a)
theorem pa_zero (a : Int) (c : Pt) : pa a c 0 = c := by simp [pa]
theorem pa_dn (a : Int) (c : Pt) (k : Nat) : pa a (dn a c) k = pa a c (k + 1) := by
  simp only [pa, dn, Int.natCast_add, Int.natCast_one, Int.add_mul, Int.one_mul, Prod.mk.injEq]
  omega
theorem dn_pa (a : Int) (c : Pt) (k : Nat) : dn a (pa a c k) = pa a c (k + 1) := by
  simp only [pa, dn, Int.natCast_add, Int.natCast_one, Int.add_mul, Int.one_mul, Prod.mk.injEq]
  omega
theorem pa_pa (a : Int) (c : Pt) (i k : Nat) : pa a (pa a c i) k = pa a c (i + k) := by
  simp only [pa, Int.natCast_add, Int.add_mul, Prod.mk.injEq]
  omega
theorem dn_up (a : Int) (c : Pt) : dn a (up a c) = c := by
  simp only [dn, up]
  exact Prod.ext (by simp) (by simp)
theorem up_pa (a : Int) (c : Pt) (k : Nat) : up a (pa a c (k + 1)) = pa a c k := by
  simp only [pa, up, Int.natCast_add, Int.natCast_one, Int.add_mul, Int.one_mul, Prod.mk.injEq]
  omega
theorem pa_le0 {l : List Pt} {a : Int} {c : Pt} (h : c ∈ l) : ∀ j, j ≤ 0 → pa a c j ∈ l := fun j hj => by
  have e : j = 0 := Nat.le_zero.mp hj
  rw [e, pa_zero]; exact h
def rf (l : List Pt) (a : Int) : Nat → Pt → List Pt
  | 0, _ => []
  | n + 1, c => if c ∈ l then c :: rf l a n (dn a c) else []
def run (l : List Pt) (a : Int) (c : Pt) : List Pt := rf l a 61 c
def heads (l : List Pt) (a : Int) : List Pt := l.filter fun c => decide (up a c ∉ l)
def runs (l : List Pt) (a : Int) : List (List Pt) := (heads l a).map (run l a)
theorem mem_rf {l : List Pt} {a : Int} {d : Pt} : ∀ {n : Nat} {c : Pt}, d ∈ rf l a n c ↔ ∃ k, k < n ∧ d = pa a c k ∧ ∀ j, j ≤ k → pa a c j ∈ l
  | 0, c => by simp [rf]
  | n + 1, c => by
    unfold rf
    by_cases hc : c ∈ l
    · rw [if_pos hc, List.mem_cons, mem_rf]
      constructor
      · rintro (rfl | ⟨k, hk, rfl, h⟩)
        · exact ⟨0, by omega, (pa_zero a d).symm, pa_le0 hc⟩
        · refine ⟨k + 1, by omega, pa_dn a c k, fun j hj => ?_⟩
          cases j with
          | zero => rw [pa_zero]; exact hc
          | succ j => rw [← pa_dn]; exact h j (by omega)
      · rintro ⟨k, hk, rfl, h⟩
        cases k with
        | zero => exact .inl (pa_zero a c)
        | succ k => exact .inr ⟨k, by omega, (pa_dn a c k).symm, fun j hj => by rw [pa_dn]; exact h (j + 1) (by omega)⟩
    · rw [if_neg hc]
      constructor
      · intro h; cases h
      · rintro ⟨k, hk, rfl, h⟩
        exact absurd (by have := h 0 (by omega); rwa [pa_zero] at this) hc
/-- enough fuel: the row gives out -/
theorem rf_stop {l : List Pt} (L : FloorOk l) {a : Int} {n : Nat} {c : Pt} (h : 60 ≤ c.1 + n) (h0 : 0 ≤ c.1) : ∀ m, rf l a (n + m) c = rf l a n c := by
  induction n generalizing c with
  | zero =>
    intro m
    cases m with
    | zero => rfl
    | succ m =>
      have : c ∉ l := fun hc => by have := (L.rng c hc).2.1; omega
      show (if c ∈ l then _ else []) = _
      rw [if_neg this]; rfl
  | succ n ih =>
    intro m
    rw [Nat.add_right_comm]
    unfold rf
    split
    · rw [ih (c := dn a c) (by simp only [dn]; omega) (by simp only [dn]; omega) m]
    · rfl
/-- in one run -/
def Same (l : List Pt) (a : Int) (x y : Pt) : Prop := ∃ k, 1 ≤ k ∧ ((y = pa a x k ∧ ∀ j, j ≤ k → pa a x j ∈ l) ∨ (x = pa a y k ∧ ∀ j, j ≤ k → pa a y j ∈ l))
theorem mem_run {l : List Pt} (L : FloorOk l) {a : Int} {c d : Pt} (hc : c ∈ l) : d ∈ run l a c ↔ ∃ k, d = pa a c k ∧ ∀ j, j ≤ k → pa a c j ∈ l := by
  unfold run
  rw [mem_rf]
  constructor
  · rintro ⟨k, _, h⟩; exact ⟨k, h⟩
  · rintro ⟨k, h1, h2⟩
    refine ⟨k, ?_, h1, h2⟩
    have r1 := (L.rng _ (h2 k (Nat.le_refl _))).2.1
    have r2 := (L.rng c hc).1
    simp only [pa] at r1
    omega
theorem mem_heads {l : List Pt} {a : Int} {c : Pt} : c ∈ heads l a ↔ c ∈ l ∧ up a c ∉ l := by
  unfold heads
  rw [List.mem_filter]
  simp
/-- the head above a cell -/
theorem head_of {l : List Pt} (L : FloorOk l) {a : Int} : ∀ (n : Nat) (x : Pt), x.1 = n → x ∈ l → ∃ c ∈ heads l a, ∃ k, x = pa a c k ∧ ∀ j, j ≤ k → pa a c j ∈ l := by
  intro n
  induction n with
  | zero =>
    intro x hx hl
    refine ⟨x, mem_heads.mpr ⟨hl, fun hu => ?_⟩, 0, (pa_zero a x).symm, pa_le0 hl⟩
    have := (L.rng _ hu).1
    simp only [up] at this
    omega
  | succ n ih =>
    intro x hx hl
    by_cases hu : up a x ∈ l
    · obtain ⟨c, hc, k, e, h⟩ := ih (up a x) (by simp only [up]; omega) hu
      refine ⟨c, hc, k + 1, by rw [← dn_pa, ← e, dn_up], fun j hj => ?_⟩
      by_cases hjk : j ≤ k
      · exact h j hjk
      · have : j = k + 1 := by omega
        subst this
        rw [← dn_pa, ← e, dn_up]; exact hl
    · exact ⟨x, mem_heads.mpr ⟨hl, hu⟩, 0, (pa_zero a x).symm, pa_le0 hl⟩
theorem head_run {l : List Pt} (L : FloorOk l) {a : Int} {x : Pt} (hx : x ∈ l) : ∃ c ∈ heads l a, x ∈ run l a c := by
  have r := (L.rng x hx).1
  obtain ⟨c, hc, k, e, h⟩ := head_of L (a := a) x.1.toNat x (by omega) hx
  exact ⟨c, hc, (mem_run L (mem_heads.mp hc).1).mpr ⟨k, e, h⟩⟩
/-- two heads whose runs meet are one -/
theorem head_uniq {l : List Pt} (L : FloorOk l) {a : Int} {c d x : Pt} (hc : c ∈ heads l a) (hd : d ∈ heads l a) (h1 : x ∈ run l a c) (h2 : x ∈ run l a d) : c = d := by
  obtain ⟨lc, uc⟩ := mem_heads.mp hc
  obtain ⟨ld, ud⟩ := mem_heads.mp hd
  obtain ⟨i, ei, hi⟩ := (mem_run L lc).mp h1
  obtain ⟨j, ej, hj⟩ := (mem_run L ld).mp h2
  have key : ∀ {c d : Pt} {i j : Nat}, up a c ∉ l → (∀ m, m ≤ j → pa a d m ∈ l) → pa a c i = pa a d j → i < j → False := by
    intro c d i j uc hj e hij
    obtain ⟨m, rfl⟩ : ∃ m, j = i + (m + 1) := ⟨j - i - 1, by omega⟩
    have : c = pa a d (m + 1) := by
      simp only [pa, Prod.mk.injEq, Int.natCast_add, Int.natCast_one, Int.add_mul, Int.one_mul] at e ⊢
      exact Prod.ext (by simp; omega) (by simp [Int.add_mul]; omega)
    apply uc
    rw [this, up_pa]
    exact hj m (by omega)
  have e : pa a c i = pa a d j := ei.symm.trans ej
  rcases Nat.lt_trichotomy i j with h | h | h
  · exact (key uc hj e h).elim
  · subst h
    simp only [pa, Prod.mk.injEq] at e
    exact Prod.ext (by omega) (by omega)
  · exact (key ud hi e.symm h).elim
theorem same_iff {l : List Pt} (L : FloorOk l) {a : Int} {x y : Pt} (hx : x ∈ l) (hy : y ∈ l) (hne : x ≠ y) : (∃ c ∈ heads l a, x ∈ run l a c ∧ y ∈ run l a c) ↔ Same l a x y := by
  constructor
  · rintro ⟨c, hc, h1, h2⟩
    obtain ⟨lc, _⟩ := mem_heads.mp hc
    obtain ⟨i, rfl, hi⟩ := (mem_run L lc).mp h1
    obtain ⟨j, rfl, hj⟩ := (mem_run L lc).mp h2
    rcases Nat.lt_trichotomy i j with h | h | h
    · refine ⟨j - i, by omega, .inl ⟨by rw [pa_pa]; congr 1; omega, fun m hm => ?_⟩⟩
      rw [pa_pa]; exact hj _ (by omega)
    · subst h; exact absurd rfl hne
    · refine ⟨i - j, by omega, .inr ⟨by rw [pa_pa]; congr 1; omega, fun m hm => ?_⟩⟩
      rw [pa_pa]; exact hi _ (by omega)
  · rintro ⟨k, hk, h⟩
    have gen : ∀ {x y : Pt}, x ∈ l → y = pa a x k → (∀ j, j ≤ k → pa a x j ∈ l) → ∃ c ∈ heads l a, x ∈ run l a c ∧ y ∈ run l a c := by
      intro x y hx ey h
      have r := (L.rng x hx).1
      obtain ⟨c, hc, m, e, hm⟩ := head_of L (a := a) x.1.toNat x (by omega) hx
      have lc := (mem_heads.mp hc).1
      refine ⟨c, hc, (mem_run L lc).mpr ⟨m, e, hm⟩, (mem_run L lc).mpr ⟨m + k, by rw [ey, e, pa_pa], fun j hj => ?_⟩⟩
      by_cases hjm : j ≤ m
      · exact hm j hjm
      · have := h (j - m) (by omega)
        rw [e, pa_pa] at this
        rwa [show m + (j - m) = j by omega] at this
    rcases h with ⟨e, h⟩ | ⟨e, h⟩
    · exact gen hx e h
    · obtain ⟨c, hc, h1, h2⟩ := gen hy e h
      exact ⟨c, hc, h2, h1⟩
/-- strikes -/
def St (l : List Pt) (x y : Pt) : Prop := Same l 1 x y ∨ Same l (-1) x y
end K50
namespace K50
open VS
def goB (l : List Pt) (sa sb : Int) (y : Pt) : Nat → Pt → Bool
  | 0, h => decide (h = y)
  | n + 1, h => if h = y then true else if (h.1 + sa, h.2 + sb) ∈ l then goB l sa sb y n (h.1 + sa, h.2 + sb) else false
def sgn (d : Int) : Int := if 0 < d then 1 else -1
def stB (l : List Pt) (x y : Pt) : Bool := if x = y ∨ (y.1 - x.1) * (y.1 - x.1) ≠ (y.2 - x.2) * (y.2 - x.2) then false else goB l (sgn (y.1 - x.1)) (sgn (y.2 - x.2)) y (y.1 - x.1).natAbs x
theorem sgn_cases (d : Int) : sgn d = 1 ∨ sgn d = -1 := by unfold sgn; split <;> simp
theorem goB_iff {l : List Pt} {sa sb : Int} (hs : sa = 1 ∨ sa = -1) {y : Pt} : ∀ {n : Nat} {h : Pt}, y.1 = h.1 + sa * n → y.2 = h.2 + sb * n → (goB l sa sb y n h = true ↔ ∀ j : Nat, 1 ≤ j → j ≤ n → (h.1 + sa * j, h.2 + sb * j) ∈ l)
  | 0, h, e1, e2 => by
    have : h = y := Prod.ext (by simp at e1; exact e1.symm) (by simp at e2; exact e2.symm)
    subst this
    simp only [goB, decide_true, true_iff]
    intro j h1 h2; omega
  | n + 1, h, e1, e2 => by
    have hne : ¬ h = y := by
      rintro rfl
      rcases hs with rfl | rfl <;> omega
    unfold goB
    rw [if_neg hne]
    have a1 : y.1 = (h.1 + sa) + sa * n := by rw [e1]; push_cast; rw [Int.mul_add, Int.mul_one]; omega
    have a2 : y.2 = (h.2 + sb) + sb * n := by rw [e2]; push_cast; rw [Int.mul_add, Int.mul_one]; omega
    by_cases hm : (h.1 + sa, h.2 + sb) ∈ l
    · rw [if_pos hm, goB_iff (h := (h.1 + sa, h.2 + sb)) hs a1 a2]
      constructor
      · intro hj j h1 h2
        by_cases h0 : j = 1
        · subst h0; simpa using hm
        · have := hj (j - 1) (by omega) (by omega)
          obtain ⟨i, rfl⟩ : ∃ i, j = i + 1 := ⟨j - 1, by omega⟩
          simp only [Nat.add_sub_cancel] at this
          have e3 : (h.1 + sa + sa * (i : Int), h.2 + sb + sb * (i : Int)) = (h.1 + sa * ((i + 1 : Nat) : Int), h.2 + sb * ((i + 1 : Nat) : Int)) := by
            push_cast
            rw [Int.mul_add, Int.mul_add, Int.mul_one, Int.mul_one]
            exact Prod.ext (by simp; omega) (by simp; omega)
          rwa [e3] at this
      · intro hj j h1 h2
        have := hj (j + 1) (by omega) (by omega)
        have e3 : (h.1 + sa + sa * (j : Int), h.2 + sb + sb * (j : Int)) = (h.1 + sa * ((j + 1 : Nat) : Int), h.2 + sb * ((j + 1 : Nat) : Int)) := by
          push_cast
          rw [Int.mul_add, Int.mul_add, Int.mul_one, Int.mul_one]
          exact Prod.ext (by simp; omega) (by simp; omega)
        rw [e3]; exact this
    · rw [if_neg hm]
      constructor
      · intro z; cases z
      · intro hj
        have := hj 1 (by omega) (by omega)
        simp at this
        exact absurd this hm
theorem sq_eq {a b : Int} : a * a = b * b ↔ a = b ∨ a = -b := by
  constructor
  · intro h
    have : (a - b) * (a + b) = 0 := by
      rw [Int.sub_mul, Int.mul_add, Int.mul_add, h, Int.mul_comm b a]; omega
    rcases Int.mul_eq_zero.mp this with h | h
    · left; omega
    · right; omega
  · rintro (rfl | rfl)
    · rfl
    · rw [Int.neg_mul_neg]
theorem stB_iff {l : List Pt} {x y : Pt} (hx : x ∈ l) (hy : y ∈ l) : stB l x y = true ↔ St l x y := by
  have ext : ∀ {p q : Pt}, p.1 = q.1 → p.2 = q.2 → p = q := fun a b => Prod.ext a b
  unfold stB
  by_cases h0 : x = y
  · subst h0
    rw [if_pos (.inl rfl)]
    constructor
    · intro z; cases z
    · rintro (⟨k, hk, ⟨e, _⟩ | ⟨e, _⟩⟩ | ⟨k, hk, ⟨e, _⟩ | ⟨e, _⟩⟩) <;> (have := congrArg Prod.fst e; simp only [pa] at this; omega)
  · by_cases h1 : (y.1 - x.1) * (y.1 - x.1) ≠ (y.2 - x.2) * (y.2 - x.2)
    · rw [if_pos (.inr h1)]
      constructor
      · intro z; cases z
      · have : ¬ (y.1 - x.1 = y.2 - x.2 ∨ y.1 - x.1 = -(y.2 - x.2)) := fun z => h1 (sq_eq.mpr z)
        rintro (⟨k, hk, ⟨e, _⟩ | ⟨e, _⟩⟩ | ⟨k, hk, ⟨e, _⟩ | ⟨e, _⟩⟩) <;> (have a1 := congrArg Prod.fst e; have a2 := congrArg Prod.snd e; simp only [pa] at a1 a2; omega)
    · have h2 := sq_eq.mp (Classical.not_not.mp h1)
      rw [if_neg (by rintro (z | z); exact h0 z; exact h1 z)]
      have hd : y.1 - x.1 ≠ 0 := fun z => by
        apply h0
        exact ext (by omega) (by omega)
      have e1 : y.1 = x.1 + sgn (y.1 - x.1) * (y.1 - x.1).natAbs := by
        unfold sgn
        split <;> omega
      have e2 : y.2 = x.2 + sgn (y.2 - x.2) * (y.1 - x.1).natAbs := by
        unfold sgn
        split <;> omega
      rw [goB_iff (sgn_cases _) e1 e2]
      generalize hk : (y.1 - x.1).natAbs = k at e1 e2 ⊢
      have hk1 : 1 ≤ k := by omega
      constructor
      · intro hj
        have all : ∀ j : Nat, j ≤ k → (x.1 + sgn (y.1 - x.1) * j, x.2 + sgn (y.2 - x.2) * j) ∈ l := fun j hjk => by
          by_cases hj0 : j = 0
          · subst hj0; simpa using hx
          · exact hj j (by omega) hjk
        rcases sgn_cases (y.1 - x.1) with s1 | s1 <;> rcases sgn_cases (y.2 - x.2) with s2 | s2 <;> rw [s1] at e1 all <;> rw [s2] at e2 all
        · exact .inl ⟨k, hk1, .inl ⟨ext (by simp only [pa]; omega) (by simp only [pa]; omega), fun j hj => by
            have := all j hj
            rwa [show (x.1 + 1 * (j : Int), x.2 + 1 * (j : Int)) = pa 1 x j from ext (by simp only [pa]; omega) (by simp only [pa]; omega)] at this⟩⟩
        · exact .inr ⟨k, hk1, .inl ⟨ext (by simp only [pa]; omega) (by simp only [pa]; omega), fun j hj => by
            have := all j hj
            rwa [show (x.1 + 1 * (j : Int), x.2 + -1 * (j : Int)) = pa (-1) x j from ext (by simp only [pa]; omega) (by simp only [pa]; omega)] at this⟩⟩
        · exact .inr ⟨k, hk1, .inr ⟨ext (by simp only [pa]; omega) (by simp only [pa]; omega), fun j hj => by
            have := all (k - j) (by omega)
            rwa [show (x.1 + -1 * ((k - j : Nat) : Int), x.2 + 1 * ((k - j : Nat) : Int)) = pa (-1) y j from ext (by simp only [pa]; omega) (by simp only [pa]; omega)] at this⟩⟩
        · exact .inl ⟨k, hk1, .inr ⟨ext (by simp only [pa]; omega) (by simp only [pa]; omega), fun j hj => by
            have := all (k - j) (by omega)
            rwa [show (x.1 + -1 * ((k - j : Nat) : Int), x.2 + -1 * ((k - j : Nat) : Int)) = pa 1 y j from ext (by simp only [pa]; omega) (by simp only [pa]; omega)] at this⟩⟩
      · intro hs j hj1 hjk
        have fin : ∀ {p : Pt}, p ∈ l → p.1 = x.1 + sgn (y.1 - x.1) * j → p.2 = x.2 + sgn (y.2 - x.2) * j → (x.1 + sgn (y.1 - x.1) * j, x.2 + sgn (y.2 - x.2) * j) ∈ l := fun {p} hp a b => by
          rw [show (x.1 + sgn (y.1 - x.1) * j, x.2 + sgn (y.2 - x.2) * j) = p from ext a.symm b.symm]; exact hp
        rcases hs with ⟨m, hm, ⟨e, h⟩ | ⟨e, h⟩⟩ | ⟨m, hm, ⟨e, h⟩ | ⟨e, h⟩⟩ <;> (have a1 := congrArg Prod.fst e; have a2 := congrArg Prod.snd e; simp only [pa] at a1 a2)
        · have s1 : sgn (y.1 - x.1) = 1 := by unfold sgn; rw [if_pos (by omega)]
          have s2 : sgn (y.2 - x.2) = 1 := by unfold sgn; rw [if_pos (by omega)]
          exact fin (h j (by omega)) (by simp only [pa]; rw [s1]; omega) (by simp only [pa]; rw [s2]; omega)
        · have s1 : sgn (y.1 - x.1) = -1 := by unfold sgn; rw [if_neg (by omega)]
          have s2 : sgn (y.2 - x.2) = -1 := by unfold sgn; rw [if_neg (by omega)]
          exact fin (h (m - j) (by omega)) (by simp only [pa]; rw [s1]; omega) (by simp only [pa]; rw [s2]; omega)
        · have s1 : sgn (y.1 - x.1) = 1 := by unfold sgn; rw [if_pos (by omega)]
          have s2 : sgn (y.2 - x.2) = -1 := by unfold sgn; rw [if_neg (by omega)]
          exact fin (h j (by omega)) (by simp only [pa]; rw [s1]; omega) (by simp only [pa]; rw [s2]; omega)
        · have s1 : sgn (y.1 - x.1) = -1 := by unfold sgn; rw [if_neg (by omega)]
          have s2 : sgn (y.2 - x.2) = 1 := by unfold sgn; rw [if_pos (by omega)]
          exact fin (h (m - j) (by omega)) (by simp only [pa]; rw [s1]; omega) (by simp only [pa]; rw [s2]; omega)
end K50
namespace K50
open VS
theorem ltP_trans {x y z : Pt} (h : ltP x y) (g : ltP y z) : ltP x z := by unfold ltP at *; omega
theorem ltP_irr {x : Pt} : ¬ ltP x x := by unfold ltP; omega
theorem FloorOk.nodup {l : List Pt} (L : FloorOk l) : l.Nodup := L.srt.imp fun h e => by subst e; exact ltP_irr h
theorem sorted_nodup {l : List Pt} (h : l.Pairwise ltP) : l.Nodup := h.imp fun h e => by subst e; exact ltP_irr h
theorem rf_row {l : List Pt} {a : Int} {z : Pt} : ∀ {n : Nat} {c : Pt}, z ∈ rf l a n c → c.1 ≤ z.1
  | 0, c, h => nomatch h
  | n + 1, c, h => by
    unfold rf at h
    split at h
    · rcases List.mem_cons.mp h with rfl | h
      · omega
      · have := rf_row h
        simp only [dn] at this; omega
    · cases h
theorem rf_nodup {l : List Pt} {a : Int} : ∀ {n : Nat} {c : Pt}, (rf l a n c).Nodup
  | 0, c => List.nodup_nil
  | n + 1, c => by
    unfold rf
    split
    · refine List.nodup_cons.mpr ⟨fun h => ?_, rf_nodup⟩
      have := rf_row h
      simp only [dn] at this; omega
    · exact List.nodup_nil
theorem heads_nodup {l : List Pt} (L : FloorOk l) {a : Int} : (heads l a).Nodup := L.nodup.filter _
theorem only_one {α : Type} {h : α} : ∀ {m : List α}, m.Nodup → (∀ x ∈ m, x = h) → h ∈ m → m = [h]
  | [], _, _, hm => nomatch hm
  | [x], _, ha, _ => by rw [ha x List.mem_cons_self]
  | x :: y :: m, nd, ha, _ => by
    have e1 := ha x List.mem_cons_self
    have e2 := ha y (List.mem_cons_of_mem _ List.mem_cons_self)
    have := (List.nodup_cons.mp nd).1
    rw [e1, ← e2] at this
    exact absurd List.mem_cons_self this
/-- the run of c -/
theorem own_run {l : List Pt} (L : FloorOk l) {a : Int} {c : Pt} (hc : c ∈ l) : ∃ h ∈ heads l a, c ∈ run l a h ∧ (runs l a).filter (fun r => decide (c ∈ r)) = [run l a h] := by
  obtain ⟨h, hh, hr⟩ := head_run L (a := a) hc
  refine ⟨h, hh, hr, ?_⟩
  unfold runs
  rw [List.filter_map]
  have : (heads l a).filter ((fun r => decide (c ∈ r)) ∘ run l a) = [h] := by
    refine only_one ((heads_nodup L).filter _) (fun x hx => ?_) (List.mem_filter.mpr ⟨hh, by simpa using hr⟩)
    obtain ⟨h1, h2⟩ := List.mem_filter.mp hx
    exact head_uniq L h1 hh (by simpa using h2) hr
  rw [this]; rfl
/-- what struck_in gathers -/
def gath (l : List Pt) (a : Int) (c : Pt) : List Pt := ((runs l a).filter fun r => decide (c ∈ r)).flatMap fun r => r.filter fun z => decide (z ≠ c)
theorem run_sub {l : List Pt} (L : FloorOk l) {a : Int} {h z : Pt} (hh : h ∈ heads l a) (hz : z ∈ run l a h) : z ∈ l := by
  obtain ⟨k, rfl, hk⟩ := (mem_run L (mem_heads.mp hh).1).mp hz
  exact hk k (Nat.le_refl _)
theorem gath_mem {l : List Pt} (L : FloorOk l) {a : Int} {c z : Pt} (hc : c ∈ l) : z ∈ gath l a c ↔ z ∈ l ∧ z ≠ c ∧ Same l a c z := by
  obtain ⟨h, hh, hr, e⟩ := own_run L (a := a) hc
  unfold gath
  rw [e]
  simp only [List.flatMap_cons, List.flatMap_nil, List.append_nil, List.mem_filter, decide_eq_true_eq]
  constructor
  · rintro ⟨h1, h2⟩
    have hz := run_sub L hh h1
    exact ⟨hz, h2, (same_iff L hc hz (Ne.symm h2)).mp ⟨h, hh, hr, h1⟩⟩
  · rintro ⟨h1, h2, h3⟩
    obtain ⟨h', hh', a1, a2⟩ := (same_iff L hc h1 (Ne.symm h2)).mpr h3
    rw [head_uniq L hh hh' hr a1]
    exact ⟨a2, h2⟩
theorem gath_nodup {l : List Pt} (L : FloorOk l) {a : Int} {c : Pt} (hc : c ∈ l) : (gath l a c).Nodup := by
  obtain ⟨h, hh, hr, e⟩ := own_run L (a := a) hc
  unfold gath
  rw [e]
  simp only [List.flatMap_cons, List.flatMap_nil, List.append_nil]
  exact rf_nodup.filter _
theorem struck_nodup {l : List Pt} (L : FloorOk l) {c : Pt} (hc : c ∈ l) : (gath l 1 c ++ gath l (-1) c).Nodup := by
  refine List.nodup_append.mpr ⟨gath_nodup L hc, gath_nodup L hc, fun x hx y hy e => ?_⟩
  subst e
  obtain ⟨_, h1, k, hk, h2⟩ := (gath_mem L hc).mp hx
  obtain ⟨_, _, m, hm, h3⟩ := (gath_mem L hc).mp hy
  rcases h2 with ⟨e, _⟩ | ⟨e, _⟩ <;> rcases h3 with ⟨e', _⟩ | ⟨e', _⟩ <;>
    (have a1 := congrArg Prod.fst e; have a2 := congrArg Prod.snd e; have b1 := congrArg Prod.fst e'; have b2 := congrArg Prod.snd e'; simp only [pa] at a1 a2 b1 b2; omega)
theorem struck_mem {l : List Pt} (L : FloorOk l) {c z : Pt} (hc : c ∈ l) : z ∈ gath l 1 c ++ gath l (-1) c ↔ z ∈ l.filter (stB l c) := by
  rw [List.mem_append, gath_mem L hc, gath_mem L hc, List.mem_filter]
  constructor
  · rintro (⟨h1, h2, h3⟩ | ⟨h1, h2, h3⟩)
    · exact ⟨h1, (stB_iff hc h1).mpr (.inl h3)⟩
    · exact ⟨h1, (stB_iff hc h1).mpr (.inr h3)⟩
  · rintro ⟨h1, h2⟩
    have hne : z ≠ c := fun e => by subst e; unfold stB at h2; rw [if_pos (.inl rfl)] at h2; cases h2
    rcases (stB_iff hc h1).mp h2 with h | h
    · exact .inl ⟨h1, hne, h⟩
    · exact .inr ⟨h1, hne, h⟩
/-! ### sorting pairs -/
def leP (x y : Pt) : Bool := !decide (y.1 < x.1 ∨ (y.1 = x.1 ∧ y.2 < x.2))
theorem leD_prD {x y : Pt} : leD (prD x) (prD y) = leP x y := by
  show (!PySem.W.dataLt (.tuple [.int y.1, .int y.2]) (.tuple [.int x.1, .int x.2])) = _
  rw [PySem.W.dataLt_ii]; rfl
theorem sortD_prD {ps : List Pt} : sortD (ps.map prD) = (ps.mergeSort leP).map prD := by
  unfold sortD
  rw [List.map_mergeSort (s := leD) (fun a _ b _ => by rw [leD_prD])]
theorem sorted_eq {ps m : List Pt} (nd : ps.Nodup) (hm : m.Pairwise ltP) (h : ∀ z, z ∈ ps ↔ z ∈ m) : ps.mergeSort leP = m := by
  have pm := List.mergeSort_perm ps leP
  have srt := List.pairwise_mergeSort (le := leP) (fun a b c h1 h2 => by simp only [leP, Bool.not_eq_true', decide_eq_false_iff_not] at *; omega) (fun a b => by simp only [leP, Bool.or_eq_true, Bool.not_eq_true', decide_eq_false_iff_not]; omega) ps
  have nd2 : (ps.mergeSort leP).Nodup := pm.nodup_iff.mpr nd
  refine sorted_uniq ?_ hm fun z => by rw [pm.mem_iff]; exact h z
  refine (List.Pairwise.and srt nd2).imp fun {x y} ⟨h1, h2⟩ => ?_
  simp only [leP, Bool.not_eq_true', decide_eq_false_iff_not] at h1
  unfold ltP
  have : ¬ (x.1 = y.1 ∧ x.2 = y.2) := fun e => h2 (Prod.ext e.1 e.2)
  omega
theorem alike_prD {ps : List Pt} : allAlike (ps.map prD) = true := by
  unfold allAlike
  rw [List.all_eq_true]
  intro d hd
  obtain ⟨x, _, rfl⟩ := List.mem_map.mp hd
  rw [List.all_eq_true]
  intro e he
  obtain ⟨y, _, rfl⟩ := List.mem_map.mp he
  rfl
theorem sortable_prD {ps : List Pt} : sortable (ps.map prD) = true := by
  unfold sortable
  have : (ps.map prD).all isTup1 = true := by
    rw [List.all_eq_true]
    intro d hd
    obtain ⟨x, _, rfl⟩ := List.mem_map.mp hd
    rfl
  rw [this]; rfl
theorem gSorted_prD {ps : List Pt} : gSorted (.lst (ps.map prD)) = some (.fl (.lst ((ps.mergeSort leP).map prD))) := by
  unfold gSorted asL
  simp only
  rw [if_pos ⟨by
    rw [List.all_eq_true]
    intro d hd
    obtain ⟨x, _, rfl⟩ := List.mem_map.mp hd
    exact shp_prD (n := 11), alike_prD, sortable_prD⟩, sortD_prD]
theorem struck_sorted {l : List Pt} (L : FloorOk l) {c : Pt} (hc : c ∈ l) : (gath l 1 c ++ gath l (-1) c).mergeSort leP = l.filter (stB l c) :=
  sorted_eq (struck_nodup L hc) (L.srt.filter _) fun z => struck_mem L hc
end K50
namespace K50
open PySem PySem.Spec PyProof.Rows L2 VS
/-! ### fits_whole, is_tuple_of, fits_cell -/
def fitW (lo hi : Int) (d : D) : Bool := match d with
  | .int i => decide (lo ≤ i) && decide (i ≤ hi)
  | _ => false
theorem p_fits_whole {d : D} {lo hi : Int} (h : shp deep d = true) : FV F_fits_whole [d, .int lo, .int hi] (.val (.bl (fitW lo hi d))) := by
  refine fv_of ?_
  unfold B_fits_whole
  cases d <;> first | (simp [shp, deep] at h; done) | skip
  all_goals
    simp only [wp_bind, wp_c, wq_var, wp_op1, wp_op2, wp_opN, wq_ret1, wq_ret2, wq_retN, wp_nil, wp_cons, wp_dnil, wp_dcons, wp_esc, wp_escv, wp_escl, wp_tup, wp_lst, wp_bool, wp_tru, wq_retB, wp_not, wp_and, wp_or, wp_mif, wp_andV, wp_orV, wp_notV, wp_true, wp_chain, wp_retC1, wp_retC2, wp_noPart, wp_part, wp_retPart, wp_cut, wp_seq, wp_snil, wp_pass, wp_break, wp_cont, wp_never, wp_expr, wp_sif, wp_ret, wp_retv, wp_retN', wp_asg, wq_store, wp_par, wq_store2, wp_asgT, wp_call, lk_fl, lk_pl, ex_some, gSub_ii, gAdd_ii, gLt_ii, gLe_ii, gGt_ii, gGe_ii, gLt_pp, List.getD_cons_zero, List.getD_cons_succ, List.set_cons_zero, List.set_cons_succ, List.map_cons, List.map_nil, List.length_cons, List.length_nil, List.cons_append, List.nil_append, List.replicate, modeOf, one1, wp_if, wp_lstPl, wp_append, wp_setL, wp_intOf, Bool.false_eq_true, if_false, if_true, and_true, true_and, Nat.reduceAdd, Nat.reduceSub, Nat.reduceLT, Nat.reduceLeDiff, gIsi, tyF, isTy, blF, fitW]
    simp
  rename_i i
  by_cases h1 : lo ≤ i <;> by_cases h2 : i ≤ hi <;> simp [h1, h2] <;> omega
def tupB (lo hi : Int) (d : D) : Bool := match d with
  | .tup ds => decide (lo ≤ ds.length) && decide ((ds.length : Int) ≤ hi)
  | _ => false
theorem p_is_tuple_of {d : D} {lo hi : Int} (h : shp deep d = true) : FV F_is_tuple_of [d, .int lo, .int hi] (.val (.bl (tupB lo hi d))) := by
  refine fv_of ?_
  unfold B_is_tuple_of
  cases d <;> first | (simp [shp, deep] at h; done) | skip
  all_goals
    simp only [wp_bind, wp_c, wq_var, wp_op1, wp_op2, wp_opN, wq_ret1, wq_ret2, wq_retN, wp_nil, wp_cons, wp_dnil, wp_dcons, wp_esc, wp_escv, wp_escl, wp_tup, wp_lst, wp_bool, wp_tru, wq_retB, wp_not, wp_and, wp_or, wp_mif, wp_andV, wp_orV, wp_notV, wp_true, wp_chain, wp_retC1, wp_retC2, wp_noPart, wp_part, wp_retPart, wp_cut, wp_seq, wp_snil, wp_pass, wp_break, wp_cont, wp_never, wp_expr, wp_sif, wp_ret, wp_retv, wp_retN', wp_asg, wq_store, wp_par, wq_store2, wp_asgT, wp_call, lk_fl, lk_pl, ex_some, gSub_ii, gAdd_ii, gLt_ii, gLe_ii, gGt_ii, gGe_ii, gLt_pp, List.getD_cons_zero, List.getD_cons_succ, List.set_cons_zero, List.set_cons_succ, List.map_cons, List.map_nil, List.length_cons, List.length_nil, List.cons_append, List.nil_append, List.replicate, modeOf, one1, wp_if, wp_lstPl, wp_append, wp_setL, wp_intOf, Bool.false_eq_true, if_false, if_true, and_true, true_and, Nat.reduceAdd, Nat.reduceSub, Nat.reduceLT, Nat.reduceLeDiff, gIsi, tyF, isTy, blF, tupB, gLen, asL]
    simp
  rename_i ds
  by_cases h1 : lo ≤ ds.length <;> by_cases h2 : (ds.length : Int) ≤ hi <;> simp [h1, h2] <;> omega
def cellB (d : D) : Bool := tupB 2 2 d && match d with
  | .tup ds => ds.all (fitW 0 59)
  | _ => false
theorem shps_mem {n : Nat} : ∀ {ds : List D} {d : D}, shps n ds = true → d ∈ ds → shp n d = true
  | [], d, _, h => nomatch h
  | x :: ds, d, h, hd => by
    simp only [shps, Bool.and_eq_true] at h
    rcases List.mem_cons.mp hd with rfl | hd
    · exact h.1
    · exact shps_mem h.2 hd
theorem shp_le : ∀ {n : Nat} {d : D}, shp n d = true → shp (n + 1) d = true
  | n, d, h => by
    have gen : ∀ (n : Nat), (∀ d : D, shp n d = true → shp (n + 1) d = true) := by
      intro n
      induction n with
      | zero =>
        intro d h
        cases d <;> first | (simp [shp] at h; done) | (simpa [shp] using h)
      | succ n ih =>
        have ihs : ∀ ds : List D, shps n ds = true → shps (n + 1) ds = true := by
          intro ds
          induction ds with
          | nil => intro _; simp [shps]
          | cons x ds ih2 =>
            intro h
            simp only [shps, Bool.and_eq_true] at h ⊢
            exact ⟨ih x h.1, ih2 h.2⟩
        intro d h
        cases d with
        | tup ds => exact ihs ds h
        | lst ds => exact ihs ds h
        | _ => first | (simp [shp] at h; done) | (simpa [shp] using h)
    exact gen n d h
theorem shp_in {ds : List D} {d : D} (h : shp deep (.tup ds) = true) (hd : d ∈ ds) : shp deep d = true := shp_le (n := 11) (shps_mem (n := 11) h hd)
theorem blsD_map {α : Type} {f : α → Bool} {l : List α} : blsD (l.map fun x => .bl (f x)) = some (l.map f) := by
  induction l with
  | nil => rfl
  | cons x l ih => simp only [List.map_cons, blsD, ih, Option.map_some]
theorem gFold_all {α : Type} {f : α → Bool} {l : List α} : gFold (fun bs => bs.all id) (.lst (l.map fun x => .bl (f x))) = some (.v (.bl (l.all f))) := by
  unfold gFold asL
  simp only
  rw [blsD_map]
  simp [List.all_map, Function.comp_def]
theorem filter_true {α : Type} {l : List α} : l.filter (fun _ => true) = l := by simp
theorem p_fits_cell {d : D} (h : shp deep d = true) (hl : ∀ ds, d = .tup ds → ds.length ≤ sizeLine) : FV F_fits_cell [d] (.val (.bl (cellB d))) := by
  refine fv_of ?_
  unfold B_fits_cell
  simp only [wp_bind, wp_c, wq_var, wp_op1, wp_op2, wp_opN, wq_ret1, wq_ret2, wq_retN, wp_nil, wp_cons, wp_dnil, wp_dcons, wp_esc, wp_escv, wp_escl, wp_tup, wp_lst, wp_bool, wp_tru, wq_retB, wp_not, wp_and, wp_or, wp_mif, wp_andV, wp_orV, wp_notV, wp_true, wp_chain, wp_retC1, wp_retC2, wp_noPart, wp_part, wp_retPart, wp_cut, wp_seq, wp_snil, wp_pass, wp_break, wp_cont, wp_never, wp_expr, wp_sif, wp_ret, wp_retv, wp_retN', wp_asg, wq_store, wp_par, wq_store2, wp_asgT, wp_call, lk_fl, lk_pl, ex_some, gSub_ii, gAdd_ii, gLt_ii, gLe_ii, gGt_ii, gGe_ii, gLt_pp, List.getD_cons_zero, List.getD_cons_succ, List.set_cons_zero, List.set_cons_succ, List.map_cons, List.map_nil, List.length_cons, List.length_nil, List.cons_append, List.nil_append, List.replicate, modeOf, one1, wp_if, wp_lstPl, wp_append, wp_setL, wp_intOf, Bool.false_eq_true, if_false, if_true, and_true, true_and, Nat.reduceAdd, Nat.reduceSub, Nat.reduceLT, Nat.reduceLeDiff]
  refine wp_fv3 (p_is_tuple_of h) ?_
  simp only [wp_bind, wp_c, wq_var, wp_op1, wp_op2, wp_opN, wq_ret1, wq_ret2, wq_retN, wp_nil, wp_cons, wp_dnil, wp_dcons, wp_esc, wp_escv, wp_escl, wp_tup, wp_lst, wp_bool, wp_tru, wq_retB, wp_not, wp_and, wp_or, wp_mif, wp_andV, wp_orV, wp_notV, wp_true, wp_chain, wp_retC1, wp_retC2, wp_noPart, wp_part, wp_retPart, wp_cut, wp_seq, wp_snil, wp_pass, wp_break, wp_cont, wp_never, wp_expr, wp_sif, wp_ret, wp_retv, wp_retN', wp_asg, wq_store, wp_par, wq_store2, wp_asgT, wp_call, lk_fl, lk_pl, ex_some, gSub_ii, gAdd_ii, gLt_ii, gLe_ii, gGt_ii, gGe_ii, gLt_pp, List.getD_cons_zero, List.getD_cons_succ, List.set_cons_zero, List.set_cons_succ, List.map_cons, List.map_nil, List.length_cons, List.length_nil, List.cons_append, List.nil_append, List.replicate, modeOf, one1, wp_if, wp_lstPl, wp_append, wp_setL, wp_intOf, Bool.false_eq_true, if_false, if_true, and_true, true_and, Nat.reduceAdd, Nat.reduceSub, Nat.reduceLT, Nat.reduceLeDiff, blF]
  unfold cellB
  by_cases h1 : tupB 2 2 d = true
  · cases d with
    | tup ds =>
      simp only [h1, wp_bind, wp_c, wq_var, wp_op1, wp_op2, wp_opN, wq_ret1, wq_ret2, wq_retN, wp_nil, wp_cons, wp_dnil, wp_dcons, wp_esc, wp_escv, wp_escl, wp_tup, wp_lst, wp_bool, wp_tru, wq_retB, wp_not, wp_and, wp_or, wp_mif, wp_andV, wp_orV, wp_notV, wp_true, wp_chain, wp_retC1, wp_retC2, wp_noPart, wp_part, wp_retPart, wp_cut, wp_seq, wp_snil, wp_pass, wp_break, wp_cont, wp_never, wp_expr, wp_sif, wp_ret, wp_retv, wp_retN', wp_asg, wq_store, wp_par, wq_store2, wp_asgT, wp_call, lk_fl, lk_pl, ex_some, gSub_ii, gAdd_ii, gLt_ii, gLe_ii, gGt_ii, gGe_ii, gLt_pp, List.getD_cons_zero, List.getD_cons_succ, List.set_cons_zero, List.set_cons_succ, List.map_cons, List.map_nil, List.length_cons, List.length_nil, List.cons_append, List.nil_append, List.replicate, modeOf, one1, wp_if, wp_lstPl, wp_append, wp_setL, wp_intOf, Bool.false_eq_true, if_false, if_true, and_true, true_and, Nat.reduceAdd, Nat.reduceSub, Nat.reduceLT, Nat.reduceLeDiff, Bool.true_and]
      refine wp_compP (fun _ => true) (fun x => .bl (fitW 0 59 x)) (wp_srcI (by rfl) ⟨rfl, hl ds rfl, fun x hx => ?_, ?_⟩)
      · refine ⟨[.v (.tup ds), .v x], rfl, ?_⟩
        simp only [wp_bind, wp_c, wq_var, wp_op1, wp_op2, wp_opN, wq_ret1, wq_ret2, wq_retN, wp_nil, wp_cons, wp_dnil, wp_dcons, wp_esc, wp_escv, wp_escl, wp_tup, wp_lst, wp_bool, wp_tru, wq_retB, wp_not, wp_and, wp_or, wp_mif, wp_andV, wp_orV, wp_notV, wp_true, wp_chain, wp_retC1, wp_retC2, wp_noPart, wp_part, wp_retPart, wp_cut, wp_seq, wp_snil, wp_pass, wp_break, wp_cont, wp_never, wp_expr, wp_sif, wp_ret, wp_retv, wp_retN', wp_asg, wq_store, wp_par, wq_store2, wp_asgT, wp_call, lk_fl, lk_pl, ex_some, gSub_ii, gAdd_ii, gLt_ii, gLe_ii, gGt_ii, gGe_ii, gLt_pp, List.getD_cons_zero, List.getD_cons_succ, List.set_cons_zero, List.set_cons_succ, List.map_cons, List.map_nil, List.length_cons, List.length_nil, List.cons_append, List.nil_append, List.replicate, modeOf, one1, wp_if, wp_lstPl, wp_append, wp_setL, wp_intOf, Bool.false_eq_true, if_false, if_true, and_true, true_and, Nat.reduceAdd, Nat.reduceSub, Nat.reduceLT, Nat.reduceLeDiff]
        refine ⟨(fun z => nomatch z), fun _ => wp_fv3 (p_fits_whole (shp_in h hx)) ?_⟩
        simp only [wp_bind, wp_c, wq_var, wp_op1, wp_op2, wp_opN, wq_ret1, wq_ret2, wq_retN, wp_nil, wp_cons, wp_dnil, wp_dcons, wp_esc, wp_escv, wp_escl, wp_tup, wp_lst, wp_bool, wp_tru, wq_retB, wp_not, wp_and, wp_or, wp_mif, wp_andV, wp_orV, wp_notV, wp_true, wp_chain, wp_retC1, wp_retC2, wp_noPart, wp_part, wp_retPart, wp_cut, wp_seq, wp_snil, wp_pass, wp_break, wp_cont, wp_never, wp_expr, wp_sif, wp_ret, wp_retv, wp_retN', wp_asg, wq_store, wp_par, wq_store2, wp_asgT, wp_call, lk_fl, lk_pl, ex_some, gSub_ii, gAdd_ii, gLt_ii, gLe_ii, gGt_ii, gGe_ii, gLt_pp, List.getD_cons_zero, List.getD_cons_succ, List.set_cons_zero, List.set_cons_succ, List.map_cons, List.map_nil, List.length_cons, List.length_nil, List.cons_append, List.nil_append, List.replicate, modeOf, one1, wp_if, wp_lstPl, wp_append, wp_setL, wp_intOf, Bool.false_eq_true, if_false, if_true, and_true, true_and, Nat.reduceAdd, Nat.reduceSub, Nat.reduceLT, Nat.reduceLeDiff]
        exact ⟨rfl, rfl⟩
      · rw [filter_true]
        simp only [wp_bind, wp_c, wq_var, wp_op1, wp_op2, wp_opN, wq_ret1, wq_ret2, wq_retN, wp_nil, wp_cons, wp_dnil, wp_dcons, wp_esc, wp_escv, wp_escl, wp_tup, wp_lst, wp_bool, wp_tru, wq_retB, wp_not, wp_and, wp_or, wp_mif, wp_andV, wp_orV, wp_notV, wp_true, wp_chain, wp_retC1, wp_retC2, wp_noPart, wp_part, wp_retPart, wp_cut, wp_seq, wp_snil, wp_pass, wp_break, wp_cont, wp_never, wp_expr, wp_sif, wp_ret, wp_retv, wp_retN', wp_asg, wq_store, wp_par, wq_store2, wp_asgT, wp_call, lk_fl, lk_pl, ex_some, gSub_ii, gAdd_ii, gLt_ii, gLe_ii, gGt_ii, gGe_ii, gLt_pp, List.getD_cons_zero, List.getD_cons_succ, List.set_cons_zero, List.set_cons_succ, List.map_cons, List.map_nil, List.length_cons, List.length_nil, List.cons_append, List.nil_append, List.replicate, modeOf, one1, wp_if, wp_lstPl, wp_append, wp_setL, wp_intOf, Bool.false_eq_true, if_false, if_true, and_true, true_and, Nat.reduceAdd, Nat.reduceSub, Nat.reduceLT, Nat.reduceLeDiff, gFold_all]
        simp
    | _ => simp [tupB] at h1
  · simp only [h1, wp_bind, wp_c, wq_var, wp_op1, wp_op2, wp_opN, wq_ret1, wq_ret2, wq_retN, wp_nil, wp_cons, wp_dnil, wp_dcons, wp_esc, wp_escv, wp_escl, wp_tup, wp_lst, wp_bool, wp_tru, wq_retB, wp_not, wp_and, wp_or, wp_mif, wp_andV, wp_orV, wp_notV, wp_true, wp_chain, wp_retC1, wp_retC2, wp_noPart, wp_part, wp_retPart, wp_cut, wp_seq, wp_snil, wp_pass, wp_break, wp_cont, wp_never, wp_expr, wp_sif, wp_ret, wp_retv, wp_retN', wp_asg, wq_store, wp_par, wq_store2, wp_asgT, wp_call, lk_fl, lk_pl, ex_some, gSub_ii, gAdd_ii, gLt_ii, gLe_ii, gGt_ii, gGe_ii, gLt_pp, List.getD_cons_zero, List.getD_cons_succ, List.set_cons_zero, List.set_cons_succ, List.map_cons, List.map_nil, List.length_cons, List.length_nil, List.cons_append, List.nil_append, List.replicate, modeOf, one1, wp_if, wp_lstPl, wp_append, wp_setL, wp_intOf, Bool.false_eq_true, if_false, if_true, and_true, true_and, Nat.reduceAdd, Nat.reduceSub, Nat.reduceLT, Nat.reduceLeDiff]
    simp [h1]
end K50
namespace K50
open VS
open PySem (sizeLine)
abbrev FD (l : List Pt) : D := .tup (l.map prD)
theorem shp_FD {l : List Pt} : shp deep (FD l) = true := shps_prD (n := 10)
theorem size_ok {n : Nat} (h : n ≤ 1000000) : n ≤ sizeLine := Nat.le_trans h lim_le
theorem cellB_prD {p : Pt} (h : 0 ≤ p.1 ∧ p.1 ≤ 59 ∧ 0 ≤ p.2 ∧ p.2 ≤ 59) : cellB (prD p) = true := by
  obtain ⟨h1, h2, h3, h4⟩ := h
  simp [cellB, tupB, prD, fitW, h1, h2, h3, h4]
theorem fit_prD {p : Pt} (h : 0 ≤ p.1 ∧ p.1 ≤ 59 ∧ 0 ≤ p.2 ∧ p.2 ≤ 59) : FV F_fits_cell [prD p] (.val (.bl true)) := by
  have := p_fits_cell (d := prD p) (shp_prD (n := 11)) fun ds e => by cases e; exact size_ok (by simp)
  rwa [cellB_prD h] at this
/-- the pairs of neighbours in a list -/
def nb (l : List Pt) : List (Pt × Pt) := l.zip (l.drop 1)
def pp (x : Pt × Pt) : D := pairD (prD x.1) (prD x.2)
theorem zip_nb {l : List Pt} : List.zipWith pairD (l.map prD) ((l.map prD).drop 1) = (nb l).map pp := by
  unfold nb
  rw [← List.map_drop, List.zipWith_map, List.zip, List.map_zipWith]
  rfl
theorem nb_lt : ∀ {l : List Pt}, l.Pairwise ltP → ∀ x ∈ nb l, ltP x.1 x.2
  | [], _, x, hx => by simp [nb] at hx
  | [a], _, x, hx => by simp [nb] at hx
  | a :: b :: l, h, x, hx => by
    obtain ⟨h1, h2⟩ := List.pairwise_cons.mp h
    have e : nb (a :: b :: l) = (a, b) :: nb (b :: l) := rfl
    rw [e] at hx
    rcases List.mem_cons.mp hx with rfl | hx
    · exact h1 b List.mem_cons_self
    · exact nb_lt h2 x hx
theorem nb_sorted : ∀ {l : List Pt}, (∀ x ∈ nb l, ltP x.1 x.2) → l.Pairwise ltP
  | [], _ => .nil
  | [a], _ => by simp
  | a :: b :: l, h => by
    have e : nb (a :: b :: l) = (a, b) :: nb (b :: l) := rfl
    rw [e] at h
    have ih := nb_sorted (l := b :: l) fun x hx => h x (List.mem_cons_of_mem _ hx)
    have hab : ltP a b := h (a, b) List.mem_cons_self
    refine List.pairwise_cons.mpr ⟨fun z hz => ?_, ih⟩
    rcases List.mem_cons.mp hz with rfl | hz
    · exact hab
    · have hbz := (List.pairwise_cons.mp ih).1 z hz
      unfold ltP at *
      omega
theorem nb_len {l : List Pt} : (nb l).length ≤ l.length := by
  unfold nb
  rw [List.length_zip]; omega
instance (x y : Pt) : Decidable (ltP x y) := by unfold ltP; infer_instance
theorem gLt_prD {x y : Pt} : gLt (.val (prD x)) (.val (prD y)) = some (.v (.bl (decide (ltP x y)))) := gLt_pp
/-- the test of the order -/
def srtB (l : List Pt) : Bool := (nb l).all fun x => decide (ltP x.1 x.2)
theorem srtB_iff {l : List Pt} : srtB l = true ↔ l.Pairwise ltP := by
  unfold srtB
  rw [List.all_eq_true]
  constructor
  · exact fun h => nb_sorted fun x hx => of_decide_eq_true (h x hx)
  · exact fun h x hx => decide_eq_true (nb_lt h x hx)
/-- all([one < other for one, other in zip(v, v[1:])]) -/
theorem wp_order {i j k : Nat} {ρ : Env} {l : List Pt} {P : RV → Env → Prop} (hi : ρ.getD i .un = .fl .own (.val (FD l))) (hl : l.length ≤ 1000) (hj : j < ρ.length) (hk : k < ρ.length) (hjk : j ≠ k) (P0 : P (.v (.bl (srtB l))) ρ) :
    wp (mOpN (one1 (gFold fun bs => bs.all id)) (mCons (mComp ((dCons (mVar i) (dCons (mCut (mVar i) (mPart (mC (.int 1))) mNoPart) dNil)).bind srcZ) [j, k] (tgTup 2 (tgCons (putv j) (tgCons (putv k) tgNil))) bTrue (mOp2 gLt (mVar j) (mVar k))) mNil)) ρ P := by
  simp only [wp_bind, wp_c, wq_var, wp_op1, wp_op2, wp_opN, wq_ret1, wq_ret2, wq_retN, wp_nil, wp_cons, wp_dnil, wp_dcons, wp_esc, wp_escv, wp_escl, wp_tup, wp_lst, wp_bool, wp_tru, wq_retB, wp_not, wp_and, wp_or, wp_mif, wp_andV, wp_orV, wp_notV, wp_true, wp_chain, wp_retC1, wp_retC2, wp_noPart, wp_part, wp_retPart, wp_cut, wp_seq, wp_snil, wp_pass, wp_break, wp_cont, wp_never, wp_expr, wp_sif, wp_ret, wp_retv, wp_retN', wp_asg, wq_store, wp_par, wq_store2, wp_asgT, wp_call, lk_fl, lk_pl, ex_some, gSub_ii, gAdd_ii, gLt_ii, gLe_ii, gGt_ii, gGe_ii, gLt_pp, List.getD_cons_zero, List.getD_cons_succ, List.set_cons_zero, List.set_cons_succ, List.map_cons, List.map_nil, List.length_cons, List.length_nil, List.cons_append, List.nil_append, List.replicate, modeOf, one1, wp_if, wp_lstPl, wp_append, wp_setL, wp_intOf, Bool.false_eq_true, if_false, if_true, and_true, true_and, Nat.reduceAdd, Nat.reduceSub, Nat.reduceLT, Nat.reduceLeDiff]
  refine wp_compM (g := pp) (L := nb l) (fun x => .bl (decide (ltP x.1 x.2))) (size_ok (by have := nb_len (l := l); omega)) ?_
  simp only [wp_bind, wp_c, wq_var, wp_op1, wp_op2, wp_opN, wq_ret1, wq_ret2, wq_retN, wp_nil, wp_cons, wp_dnil, wp_dcons, wp_esc, wp_escv, wp_escl, wp_tup, wp_lst, wp_bool, wp_tru, wq_retB, wp_not, wp_and, wp_or, wp_mif, wp_andV, wp_orV, wp_notV, wp_true, wp_chain, wp_retC1, wp_retC2, wp_noPart, wp_part, wp_retPart, wp_cut, wp_seq, wp_snil, wp_pass, wp_break, wp_cont, wp_never, wp_expr, wp_sif, wp_ret, wp_retv, wp_retN', wp_asg, wq_store, wp_par, wq_store2, wp_asgT, wp_call, lk_fl, lk_pl, ex_some, gSub_ii, gAdd_ii, gLt_ii, gLe_ii, gGt_ii, gGe_ii, gLt_pp, List.getD_cons_zero, List.getD_cons_succ, List.set_cons_zero, List.set_cons_succ, List.map_cons, List.map_nil, List.length_cons, List.length_nil, List.cons_append, List.nil_append, List.replicate, modeOf, one1, wp_if, wp_lstPl, wp_append, wp_setL, wp_intOf, Bool.false_eq_true, if_false, if_true, and_true, true_and, Nat.reduceAdd, Nat.reduceSub, Nat.reduceLT, Nat.reduceLeDiff, hi, gCut_t]
  rw [show (1 : Int) = ((1 : Nat) : Int) from rfl, cut_from]
  refine wp_srcZt ⟨by rw [zip_nb], fun x hx => ?_, ?_⟩
  · have hwl : (wipeE ρ [j, k]).length = ρ.length := wipeE_length ρ _
    have gj : (wipeE ρ [j, k]).getD j .un = .un := by rw [wipeE_get]; simp
    have gk : (wipeE ρ [j, k]).getD k .un = .un := by rw [wipeE_get]; simp
    refine ⟨((wipeE ρ [j, k]).set j (.v (prD x.1))).set k (.v (prD x.2)), ?_, ?_⟩
    · show tgTup 2 _ (.tup [prD x.1, prD x.2]) _ = _
      simp only [tgTup, tgCons, tgNil, putv, List.length_cons, List.length_nil]
      rw [if_pos trivial, if_pos ⟨by rw [gj]; rfl, by rw [hwl]; exact hj⟩]
      simp only
      rw [if_pos ⟨by rw [getD_set_ne (Ne.symm hjk), gk]; rfl, by rw [List.length_set, hwl]; exact hk⟩]
    · have e1 : (((wipeE ρ [j, k]).set j (.v (prD x.1))).set k (.v (prD x.2))).getD j .un = .v (prD x.1) := by
        rw [getD_set_ne hjk, getD_set_same (by rw [hwl]; exact hj)]
      have e2 : (((wipeE ρ [j, k]).set j (.v (prD x.1))).set k (.v (prD x.2))).getD k .un = .v (prD x.2) := by
        rw [getD_set_same (by rw [List.length_set, hwl]; exact hk)]
      simp only [wp_bind, wp_c, wq_var, wp_op1, wp_op2, wp_opN, wq_ret1, wq_ret2, wq_retN, wp_nil, wp_cons, wp_dnil, wp_dcons, wp_esc, wp_escv, wp_escl, wp_tup, wp_lst, wp_bool, wp_tru, wq_retB, wp_not, wp_and, wp_or, wp_mif, wp_andV, wp_orV, wp_notV, wp_true, wp_chain, wp_retC1, wp_retC2, wp_noPart, wp_part, wp_retPart, wp_cut, wp_seq, wp_snil, wp_pass, wp_break, wp_cont, wp_never, wp_expr, wp_sif, wp_ret, wp_retv, wp_retN', wp_asg, wq_store, wp_par, wq_store2, wp_asgT, wp_call, lk_fl, lk_pl, ex_some, gSub_ii, gAdd_ii, gLt_ii, gLe_ii, gGt_ii, gGe_ii, gLt_pp, List.getD_cons_zero, List.getD_cons_succ, List.set_cons_zero, List.set_cons_succ, List.map_cons, List.map_nil, List.length_cons, List.length_nil, List.cons_append, List.nil_append, List.replicate, modeOf, one1, wp_if, wp_lstPl, wp_append, wp_setL, wp_intOf, Bool.false_eq_true, if_false, if_true, and_true, true_and, Nat.reduceAdd, Nat.reduceSub, Nat.reduceLT, Nat.reduceLeDiff, e1, e2, gLt_prD]
      refine ext_getD' (by simp [wipeE_length]) fun m => ?_
      rw [wipeE_get, wipeE_get]
      by_cases hm : m ∈ [j, k]
      · rw [if_pos hm, if_pos hm]
      · rw [if_neg hm, if_neg hm]
        simp only [List.mem_cons, List.not_mem_nil, or_false, not_or] at hm
        rw [getD_set_ne hm.2, getD_set_ne hm.1, wipeE_get, if_neg (by simp [hm.1, hm.2])]
  · simp only [wp_bind, wp_c, wq_var, wp_op1, wp_op2, wp_opN, wq_ret1, wq_ret2, wq_retN, wp_nil, wp_cons, wp_dnil, wp_dcons, wp_esc, wp_escv, wp_escl, wp_tup, wp_lst, wp_bool, wp_tru, wq_retB, wp_not, wp_and, wp_or, wp_mif, wp_andV, wp_orV, wp_notV, wp_true, wp_chain, wp_retC1, wp_retC2, wp_noPart, wp_part, wp_retPart, wp_cut, wp_seq, wp_snil, wp_pass, wp_break, wp_cont, wp_never, wp_expr, wp_sif, wp_ret, wp_retv, wp_retN', wp_asg, wq_store, wp_par, wq_store2, wp_asgT, wp_call, lk_fl, lk_pl, ex_some, gSub_ii, gAdd_ii, gLt_ii, gLe_ii, gGt_ii, gGe_ii, gLt_pp, List.getD_cons_zero, List.getD_cons_succ, List.set_cons_zero, List.set_cons_succ, List.map_cons, List.map_nil, List.length_cons, List.length_nil, List.cons_append, List.nil_append, List.replicate, modeOf, one1, wp_if, wp_lstPl, wp_append, wp_setL, wp_intOf, Bool.false_eq_true, if_false, if_true, and_true, true_and, Nat.reduceAdd, Nat.reduceSub, Nat.reduceLT, Nat.reduceLeDiff, gFold_all]
    exact P0
/-- all([fits_cell(c) for c in v]) -/
theorem wp_cells {i j : Nat} {ρ : Env} {ds : List D} {P : RV → Env → Prop} (hi : ρ.getD i .un = .fl .own (.val (.tup ds))) (hs : shp deep (.tup ds) = true) (hl : ds.length ≤ 1000) (hin : ∀ es, D.tup es ∈ ds → es.length ≤ 1000) (hj : j < ρ.length) (P0 : P (.v (.bl (ds.all cellB))) ρ) :
    wp (mOpN (one1 (gFold fun bs => bs.all id)) (mCons (mComp (mSrcA (mVar i)) [j] (putv j) bTrue (mCall F_fits_cell (mCons (mVar j) mNil))) mNil)) ρ P := by
  simp only [wp_bind, wp_c, wq_var, wp_op1, wp_op2, wp_opN, wq_ret1, wq_ret2, wq_retN, wp_nil, wp_cons, wp_dnil, wp_dcons, wp_esc, wp_escv, wp_escl, wp_tup, wp_lst, wp_bool, wp_tru, wq_retB, wp_not, wp_and, wp_or, wp_mif, wp_andV, wp_orV, wp_notV, wp_true, wp_chain, wp_retC1, wp_retC2, wp_noPart, wp_part, wp_retPart, wp_cut, wp_seq, wp_snil, wp_pass, wp_break, wp_cont, wp_never, wp_expr, wp_sif, wp_ret, wp_retv, wp_retN', wp_asg, wq_store, wp_par, wq_store2, wp_asgT, wp_call, lk_fl, lk_pl, ex_some, gSub_ii, gAdd_ii, gLt_ii, gLe_ii, gGt_ii, gGe_ii, gLt_pp, List.getD_cons_zero, List.getD_cons_succ, List.set_cons_zero, List.set_cons_succ, List.map_cons, List.map_nil, List.length_cons, List.length_nil, List.cons_append, List.nil_append, List.replicate, modeOf, one1, wp_if, wp_lstPl, wp_append, wp_setL, wp_intOf, Bool.false_eq_true, if_false, if_true, and_true, true_and, Nat.reduceAdd, Nat.reduceSub, Nat.reduceLT, Nat.reduceLeDiff]
  refine wp_compM (g := id) (L := ds) (fun x => .bl (cellB x)) (size_ok (by omega)) (wp_srcI hi ⟨by simp, fun x hx => ?_, ?_⟩)
  · have hwl : (wipeE ρ [j]).length = ρ.length := wipeE_length ρ _
    have gj : (wipeE ρ [j]).getD j .un = .un := by rw [wipeE_get]; simp
    refine ⟨(wipeE ρ [j]).set j (.v x), ?_, ?_⟩
    · unfold putv
      rw [if_pos ⟨by rw [gj]; rfl, by rw [hwl]; exact hj⟩]; rfl
    · have e1 : ((wipeE ρ [j]).set j (.v x)).getD j .un = .v x := getD_set_same (by rw [hwl]; exact hj)
      simp only [wp_bind, wp_c, wq_var, wp_op1, wp_op2, wp_opN, wq_ret1, wq_ret2, wq_retN, wp_nil, wp_cons, wp_dnil, wp_dcons, wp_esc, wp_escv, wp_escl, wp_tup, wp_lst, wp_bool, wp_tru, wq_retB, wp_not, wp_and, wp_or, wp_mif, wp_andV, wp_orV, wp_notV, wp_true, wp_chain, wp_retC1, wp_retC2, wp_noPart, wp_part, wp_retPart, wp_cut, wp_seq, wp_snil, wp_pass, wp_break, wp_cont, wp_never, wp_expr, wp_sif, wp_ret, wp_retv, wp_retN', wp_asg, wq_store, wp_par, wq_store2, wp_asgT, wp_call, lk_fl, lk_pl, ex_some, gSub_ii, gAdd_ii, gLt_ii, gLe_ii, gGt_ii, gGe_ii, gLt_pp, List.getD_cons_zero, List.getD_cons_succ, List.set_cons_zero, List.set_cons_succ, List.map_cons, List.map_nil, List.length_cons, List.length_nil, List.cons_append, List.nil_append, List.replicate, modeOf, one1, wp_if, wp_lstPl, wp_append, wp_setL, wp_intOf, Bool.false_eq_true, if_false, if_true, and_true, true_and, Nat.reduceAdd, Nat.reduceSub, Nat.reduceLT, Nat.reduceLeDiff, e1]
      refine wp_fv1 (p_fits_cell (shp_in hs hx) fun es e => size_ok (by subst e; have := hin es hx; omega)) ?_
      simp only [wp_bind, wp_c, wq_var, wp_op1, wp_op2, wp_opN, wq_ret1, wq_ret2, wq_retN, wp_nil, wp_cons, wp_dnil, wp_dcons, wp_esc, wp_escv, wp_escl, wp_tup, wp_lst, wp_bool, wp_tru, wq_retB, wp_not, wp_and, wp_or, wp_mif, wp_andV, wp_orV, wp_notV, wp_true, wp_chain, wp_retC1, wp_retC2, wp_noPart, wp_part, wp_retPart, wp_cut, wp_seq, wp_snil, wp_pass, wp_break, wp_cont, wp_never, wp_expr, wp_sif, wp_ret, wp_retv, wp_retN', wp_asg, wq_store, wp_par, wq_store2, wp_asgT, wp_call, lk_fl, lk_pl, ex_some, gSub_ii, gAdd_ii, gLt_ii, gLe_ii, gGt_ii, gGe_ii, gLt_pp, List.getD_cons_zero, List.getD_cons_succ, List.set_cons_zero, List.set_cons_succ, List.map_cons, List.map_nil, List.length_cons, List.length_nil, List.cons_append, List.nil_append, List.replicate, modeOf, one1, wp_if, wp_lstPl, wp_append, wp_setL, wp_intOf, Bool.false_eq_true, if_false, if_true, and_true, true_and, Nat.reduceAdd, Nat.reduceSub, Nat.reduceLT, Nat.reduceLeDiff]
      refine ext_getD' (by simp [wipeE_length]) fun m => ?_
      rw [wipeE_get, wipeE_get]
      by_cases hm : m ∈ [j]
      · rw [if_pos hm, if_pos hm]
      · rw [if_neg hm, if_neg hm]
        simp only [List.mem_cons, List.not_mem_nil, or_false] at hm
        rw [getD_set_ne hm, wipeE_get, if_neg (by simp [hm])]
  · simp only [wp_bind, wp_c, wq_var, wp_op1, wp_op2, wp_opN, wq_ret1, wq_ret2, wq_retN, wp_nil, wp_cons, wp_dnil, wp_dcons, wp_esc, wp_escv, wp_escl, wp_tup, wp_lst, wp_bool, wp_tru, wq_retB, wp_not, wp_and, wp_or, wp_mif, wp_andV, wp_orV, wp_notV, wp_true, wp_chain, wp_retC1, wp_retC2, wp_noPart, wp_part, wp_retPart, wp_cut, wp_seq, wp_snil, wp_pass, wp_break, wp_cont, wp_never, wp_expr, wp_sif, wp_ret, wp_retv, wp_retN', wp_asg, wq_store, wp_par, wq_store2, wp_asgT, wp_call, lk_fl, lk_pl, ex_some, gSub_ii, gAdd_ii, gLt_ii, gLe_ii, gGt_ii, gGe_ii, gLt_pp, List.getD_cons_zero, List.getD_cons_succ, List.set_cons_zero, List.set_cons_succ, List.map_cons, List.map_nil, List.length_cons, List.length_nil, List.cons_append, List.nil_append, List.replicate, modeOf, one1, wp_if, wp_lstPl, wp_append, wp_setL, wp_intOf, Bool.false_eq_true, if_false, if_true, and_true, true_and, Nat.reduceAdd, Nat.reduceSub, Nat.reduceLT, Nat.reduceLeDiff, gFold_all]
    exact P0
theorem wp_order' {i j k : Nat} {ρ : Env} {l : List Pt} {P : RV → Env → Prop} (hi : ρ.getD i .un = .fl .own (.val (FD l))) (hl : l.length ≤ 1000) (hj : j < ρ.length) (hk : k < ρ.length) (hjk : j ≠ k) (P0 : P (.v (.bl (srtB l))) ρ) :
    wp (mComp ((dCons (mVar i) (dCons (mCut (mVar i) (mPart (mC (.int 1))) mNoPart) dNil)).bind srcZ) [j, k] (tgTup 2 (tgCons (putv j) (tgCons (putv k) tgNil))) bTrue (mOp2 gLt (mVar j) (mVar k))) ρ fun r ρ' => ∃ f, look ρ' r = some f ∧ ∃ q, gFold (fun bs => bs.all id) f = some q ∧ P q ρ' := by
  have := wp_order hi hl hj hk hjk P0
  simp only [wp_opN, wp_cons, wp_nil, wq_retN, one1] at this
  exact this
theorem wp_cells' {i j : Nat} {ρ : Env} {ds : List D} {P : RV → Env → Prop} (hi : ρ.getD i .un = .fl .own (.val (.tup ds))) (hs : shp deep (.tup ds) = true) (hl : ds.length ≤ 1000) (hin : ∀ es, D.tup es ∈ ds → es.length ≤ 1000) (hj : j < ρ.length) (P0 : P (.v (.bl (ds.all cellB))) ρ) :
    wp (mComp (mSrcA (mVar i)) [j] (putv j) bTrue (mCall F_fits_cell (mCons (mVar j) mNil))) ρ fun r ρ' => ∃ f, look ρ' r = some f ∧ ∃ q, gFold (fun bs => bs.all id) f = some q ∧ P q ρ' := by
  have := wp_cells hi hs hl hin hj P0
  simp only [wp_opN, wp_cons, wp_nil, wq_retN, one1] at this
  exact this
theorem p_fits_floor {l : List Pt} (L : FloorOk l) : FV F_fits_floor [FD l] (.val (.bl true)) := by
  refine fv_of ?_
  unfold B_fits_floor
  have hlen := L.len
  have hpos : 0 < l.length := List.length_pos_iff.mpr L.ne
  have t1 : tupB 1 400 (FD l) = true := by simp [tupB]; omega
  have t2 : (l.map prD).all cellB = true := by
    rw [List.all_map, List.all_eq_true]
    exact fun p hp => cellB_prD (L.rng p hp)
  simp only [wp_bind, wp_c, wq_var, wp_op1, wp_op2, wp_opN, wq_ret1, wq_ret2, wq_retN, wp_nil, wp_cons, wp_dnil, wp_dcons, wp_esc, wp_escv, wp_escl, wp_tup, wp_lst, wp_bool, wp_tru, wq_retB, wp_not, wp_and, wp_or, wp_mif, wp_andV, wp_orV, wp_notV, wp_true, wp_chain, wp_retC1, wp_retC2, wp_noPart, wp_part, wp_retPart, wp_cut, wp_seq, wp_snil, wp_pass, wp_break, wp_cont, wp_never, wp_expr, wp_sif, wp_ret, wp_retv, wp_retN', wp_asg, wq_store, wp_par, wq_store2, wp_asgT, wp_call, lk_fl, lk_pl, ex_some, gSub_ii, gAdd_ii, gLt_ii, gLe_ii, gGt_ii, gGe_ii, gLt_pp, List.getD_cons_zero, List.getD_cons_succ, List.set_cons_zero, List.set_cons_succ, List.map_cons, List.map_nil, List.length_cons, List.length_nil, List.cons_append, List.nil_append, List.replicate, modeOf, one1, wp_if, wp_lstPl, wp_append, wp_setL, wp_intOf, Bool.false_eq_true, if_false, if_true, and_true, true_and, Nat.reduceAdd, Nat.reduceSub, Nat.reduceLT, Nat.reduceLeDiff]
  refine wp_fv3 (p_is_tuple_of shp_FD) ?_
  simp only [wp_bind, wp_c, wq_var, wp_op1, wp_op2, wp_opN, wq_ret1, wq_ret2, wq_retN, wp_nil, wp_cons, wp_dnil, wp_dcons, wp_esc, wp_escv, wp_escl, wp_tup, wp_lst, wp_bool, wp_tru, wq_retB, wp_not, wp_and, wp_or, wp_mif, wp_andV, wp_orV, wp_notV, wp_true, wp_chain, wp_retC1, wp_retC2, wp_noPart, wp_part, wp_retPart, wp_cut, wp_seq, wp_snil, wp_pass, wp_break, wp_cont, wp_never, wp_expr, wp_sif, wp_ret, wp_retv, wp_retN', wp_asg, wq_store, wp_par, wq_store2, wp_asgT, wp_call, lk_fl, lk_pl, ex_some, gSub_ii, gAdd_ii, gLt_ii, gLe_ii, gGt_ii, gGe_ii, gLt_pp, List.getD_cons_zero, List.getD_cons_succ, List.set_cons_zero, List.set_cons_succ, List.map_cons, List.map_nil, List.length_cons, List.length_nil, List.cons_append, List.nil_append, List.replicate, modeOf, one1, wp_if, wp_lstPl, wp_append, wp_setL, wp_intOf, Bool.false_eq_true, if_false, if_true, and_true, true_and, Nat.reduceAdd, Nat.reduceSub, Nat.reduceLT, Nat.reduceLeDiff, truF, t1, Bool.not_true]
  refine wp_cells' (i := 0) (j := 1) rfl shp_FD (by simp; omega) (fun es he => by
    obtain ⟨p, _, e⟩ := List.mem_map.mp he
    cases e; simp) (by simp) ?_
  simp only [wp_bind, wp_c, wq_var, wp_op1, wp_op2, wp_opN, wq_ret1, wq_ret2, wq_retN, wp_nil, wp_cons, wp_dnil, wp_dcons, wp_esc, wp_escv, wp_escl, wp_tup, wp_lst, wp_bool, wp_tru, wq_retB, wp_not, wp_and, wp_or, wp_mif, wp_andV, wp_orV, wp_notV, wp_true, wp_chain, wp_retC1, wp_retC2, wp_noPart, wp_part, wp_retPart, wp_cut, wp_seq, wp_snil, wp_pass, wp_break, wp_cont, wp_never, wp_expr, wp_sif, wp_ret, wp_retv, wp_retN', wp_asg, wq_store, wp_par, wq_store2, wp_asgT, wp_call, lk_fl, lk_pl, ex_some, gSub_ii, gAdd_ii, gLt_ii, gLe_ii, gGt_ii, gGe_ii, gLt_pp, List.getD_cons_zero, List.getD_cons_succ, List.set_cons_zero, List.set_cons_succ, List.map_cons, List.map_nil, List.length_cons, List.length_nil, List.cons_append, List.nil_append, List.replicate, modeOf, one1, wp_if, wp_lstPl, wp_append, wp_setL, wp_intOf, Bool.false_eq_true, if_false, if_true, and_true, true_and, Nat.reduceAdd, Nat.reduceSub, Nat.reduceLT, Nat.reduceLeDiff, t2, truF, Bool.not_true]
  refine wp_order' (i := 0) (j := 2) (k := 3) rfl (by omega) (by simp) (by simp) (by decide) ?_
  simp only [wp_bind, wp_c, wq_var, wp_op1, wp_op2, wp_opN, wq_ret1, wq_ret2, wq_retN, wp_nil, wp_cons, wp_dnil, wp_dcons, wp_esc, wp_escv, wp_escl, wp_tup, wp_lst, wp_bool, wp_tru, wq_retB, wp_not, wp_and, wp_or, wp_mif, wp_andV, wp_orV, wp_notV, wp_true, wp_chain, wp_retC1, wp_retC2, wp_noPart, wp_part, wp_retPart, wp_cut, wp_seq, wp_snil, wp_pass, wp_break, wp_cont, wp_never, wp_expr, wp_sif, wp_ret, wp_retv, wp_retN', wp_asg, wq_store, wp_par, wq_store2, wp_asgT, wp_call, lk_fl, lk_pl, ex_some, gSub_ii, gAdd_ii, gLt_ii, gLe_ii, gGt_ii, gGe_ii, gLt_pp, List.getD_cons_zero, List.getD_cons_succ, List.set_cons_zero, List.set_cons_succ, List.map_cons, List.map_nil, List.length_cons, List.length_nil, List.cons_append, List.nil_append, List.replicate, modeOf, one1, wp_if, wp_lstPl, wp_append, wp_setL, wp_intOf, Bool.false_eq_true, if_false, if_true, and_true, true_and, Nat.reduceAdd, Nat.reduceSub, Nat.reduceLT, Nat.reduceLeDiff, srtB_iff.mpr L.srt]
  simp
theorem p_need_floor {l : List Pt} (L : FloorOk l) : FV F_need_floor [FD l] (.val .non) := by
  refine fv_of ?_
  unfold B_need_floor
  simp only [wp_bind, wp_c, wq_var, wp_op1, wp_op2, wp_opN, wq_ret1, wq_ret2, wq_retN, wp_nil, wp_cons, wp_dnil, wp_dcons, wp_esc, wp_escv, wp_escl, wp_tup, wp_lst, wp_bool, wp_tru, wq_retB, wp_not, wp_and, wp_or, wp_mif, wp_andV, wp_orV, wp_notV, wp_true, wp_chain, wp_retC1, wp_retC2, wp_noPart, wp_part, wp_retPart, wp_cut, wp_seq, wp_snil, wp_pass, wp_break, wp_cont, wp_never, wp_expr, wp_sif, wp_ret, wp_retv, wp_retN', wp_asg, wq_store, wp_par, wq_store2, wp_asgT, wp_call, lk_fl, lk_pl, ex_some, gSub_ii, gAdd_ii, gLt_ii, gLe_ii, gGt_ii, gGe_ii, gLt_pp, List.getD_cons_zero, List.getD_cons_succ, List.set_cons_zero, List.set_cons_succ, List.map_cons, List.map_nil, List.length_cons, List.length_nil, List.cons_append, List.nil_append, List.replicate, modeOf, one1, wp_if, wp_lstPl, wp_append, wp_setL, wp_intOf, Bool.false_eq_true, if_false, if_true, and_true, true_and, Nat.reduceAdd, Nat.reduceSub, Nat.reduceLT, Nat.reduceLeDiff]
  refine wp_fv1 (p_fits_floor L) ?_
  simp only [wp_bind, wp_c, wq_var, wp_op1, wp_op2, wp_opN, wq_ret1, wq_ret2, wq_retN, wp_nil, wp_cons, wp_dnil, wp_dcons, wp_esc, wp_escv, wp_escl, wp_tup, wp_lst, wp_bool, wp_tru, wq_retB, wp_not, wp_and, wp_or, wp_mif, wp_andV, wp_orV, wp_notV, wp_true, wp_chain, wp_retC1, wp_retC2, wp_noPart, wp_part, wp_retPart, wp_cut, wp_seq, wp_snil, wp_pass, wp_break, wp_cont, wp_never, wp_expr, wp_sif, wp_ret, wp_retv, wp_retN', wp_asg, wq_store, wp_par, wq_store2, wp_asgT, wp_call, lk_fl, lk_pl, ex_some, gSub_ii, gAdd_ii, gLt_ii, gLe_ii, gGt_ii, gGe_ii, gLt_pp, List.getD_cons_zero, List.getD_cons_succ, List.set_cons_zero, List.set_cons_succ, List.map_cons, List.map_nil, List.length_cons, List.length_nil, List.cons_append, List.nil_append, List.replicate, modeOf, one1, wp_if, wp_lstPl, wp_append, wp_setL, wp_intOf, Bool.false_eq_true, if_false, if_true, and_true, true_and, Nat.reduceAdd, Nat.reduceSub, Nat.reduceLT, Nat.reduceLeDiff, truF, Bool.not_true]
  simp
theorem p_need_cell {l : List Pt} (L : FloorOk l) {c : Pt} (hc : c ∈ l) : FV F_need_cell_of [FD l, prD c] (.val .non) := by
  refine fv_of ?_
  unfold B_need_cell_of
  simp only [wp_bind, wp_c, wq_var, wp_op1, wp_op2, wp_opN, wq_ret1, wq_ret2, wq_retN, wp_nil, wp_cons, wp_dnil, wp_dcons, wp_esc, wp_escv, wp_escl, wp_tup, wp_lst, wp_bool, wp_tru, wq_retB, wp_not, wp_and, wp_or, wp_mif, wp_andV, wp_orV, wp_notV, wp_true, wp_chain, wp_retC1, wp_retC2, wp_noPart, wp_part, wp_retPart, wp_cut, wp_seq, wp_snil, wp_pass, wp_break, wp_cont, wp_never, wp_expr, wp_sif, wp_ret, wp_retv, wp_retN', wp_asg, wq_store, wp_par, wq_store2, wp_asgT, wp_call, lk_fl, lk_pl, ex_some, gSub_ii, gAdd_ii, gLt_ii, gLe_ii, gGt_ii, gGe_ii, gLt_pp, List.getD_cons_zero, List.getD_cons_succ, List.set_cons_zero, List.set_cons_succ, List.map_cons, List.map_nil, List.length_cons, List.length_nil, List.cons_append, List.nil_append, List.replicate, modeOf, one1, wp_if, wp_lstPl, wp_append, wp_setL, wp_intOf, Bool.false_eq_true, if_false, if_true, and_true, true_and, Nat.reduceAdd, Nat.reduceSub, Nat.reduceLT, Nat.reduceLeDiff]
  refine wp_fv1 (fit_prD (L.rng c hc)) ?_
  simp only [wp_bind, wp_c, wq_var, wp_op1, wp_op2, wp_opN, wq_ret1, wq_ret2, wq_retN, wp_nil, wp_cons, wp_dnil, wp_dcons, wp_esc, wp_escv, wp_escl, wp_tup, wp_lst, wp_bool, wp_tru, wq_retB, wp_not, wp_and, wp_or, wp_mif, wp_andV, wp_orV, wp_notV, wp_true, wp_chain, wp_retC1, wp_retC2, wp_noPart, wp_part, wp_retPart, wp_cut, wp_seq, wp_snil, wp_pass, wp_break, wp_cont, wp_never, wp_expr, wp_sif, wp_ret, wp_retv, wp_retN', wp_asg, wq_store, wp_par, wq_store2, wp_asgT, wp_call, lk_fl, lk_pl, ex_some, gSub_ii, gAdd_ii, gLt_ii, gLe_ii, gGt_ii, gGe_ii, gLt_pp, List.getD_cons_zero, List.getD_cons_succ, List.set_cons_zero, List.set_cons_succ, List.map_cons, List.map_nil, List.length_cons, List.length_nil, List.cons_append, List.nil_append, List.replicate, modeOf, one1, wp_if, wp_lstPl, wp_append, wp_setL, wp_intOf, Bool.false_eq_true, if_false, if_true, and_true, true_and, Nat.reduceAdd, Nat.reduceSub, Nat.reduceLT, Nat.reduceLeDiff, truF, Bool.not_true, gIn_t, blF, hc, decide_true]
  simp
end K50
namespace K50
open VS
open PySem (sizeLine)
theorem deq (x : Pt) : (D.tup [.int x.1, .int x.2]) = prD x := rfl
theorem ix0 {x : Pt} : gIx (.val (prD x)) (.val (.int 0)) = some (.v (.int x.1)) := gIx_0
theorem ix1 {x : Pt} : gIx (.val (prD x)) (.val (.int 1)) = some (.v (.int x.2)) := gIx_1
theorem two_ok : (2 : Nat) ≤ sizeLine := size_ok (by omega)
theorem zero_ok : (0 : Nat) ≤ sizeLine := Nat.zero_le _
/-- dict([(c, True) for c in cells]) -/
theorem wp_inner {ρ : Env} {l : List Pt} {P : RV → Env → Prop} (hi : ρ.getD 0 .un = .fl .own (.val (FD l))) (hl : l.length ≤ 1000) (h4 : 4 < ρ.length) (P0 : ∀ kvs, (∀ c, (dfind kvs (kP c)).isSome = decide (c ∈ l)) → P (.fl (.dct true kvs)) ρ) :
    wp (mComp (mSrcA (mVar 0)) [4] (putv 4) bTrue (mTup (dCons (mVar 4) (dCons (mC (.bl true)) dNil)))) ρ fun r ρ' => ∃ f, look ρ' r = some f ∧ ∃ q, gDict f = some q ∧ P q ρ' := by
  refine wp_compM (g := prD) (L := l) (fun x => kvD (x, .bl true)) (size_ok (by omega)) (wp_srcI hi ⟨rfl, fun x hx => ?_, ?_⟩)
  · have hwl : (wipeE ρ [4]).length = ρ.length := wipeE_length ρ _
    have gj : (wipeE ρ [4]).getD 4 .un = .un := by rw [wipeE_get]; simp
    refine ⟨(wipeE ρ [4]).set 4 (.v (prD x)), ?_, ?_⟩
    · unfold putv
      rw [if_pos ⟨by rw [gj]; rfl, by rw [hwl]; exact h4⟩]
    · have e1 : ((wipeE ρ [4]).set 4 (.v (prD x))).getD 4 .un = .v (prD x) := getD_set_same (by rw [hwl]; exact h4)
      simp only [wp_bind, wp_c, wq_var, wp_op1, wp_op2, wp_opN, wq_ret1, wq_ret2, wq_retN, wp_nil, wp_cons, wp_dnil, wp_dcons, wp_esc, wp_escv, wp_escl, wp_tup, wp_lst, wp_bool, wp_tru, wq_retB, wp_not, wp_and, wp_or, wp_mif, wp_andV, wp_orV, wp_notV, wp_true, wp_chain, wp_retC1, wp_retC2, wp_noPart, wp_part, wp_retPart, wp_cut, wp_seq, wp_snil, wp_pass, wp_break, wp_cont, wp_never, wp_expr, wp_sif, wp_ret, wp_retv, wp_retN', wp_asg, wq_store, wp_par, wq_store2, wp_asgT, wp_call, lk_fl, lk_pl, ex_some, gSub_ii, gAdd_ii, gLt_ii, gLe_ii, gGt_ii, gGe_ii, gLt_pp, List.getD_cons_zero, List.getD_cons_succ, List.set_cons_zero, List.set_cons_succ, List.map_cons, List.map_nil, List.length_cons, List.length_nil, List.cons_append, List.nil_append, List.replicate, modeOf_un, modeOf_fl, one1, wp_if, wp_append, wp_setL, wp_intOf, unlk_n, lck_n, wq_retp, gTuple_l, gTuple_t, gList_l, gList_vl, gList_t, gLen_l, gLen_t, gInt_i, gNeg_i, Bool.false_eq_true, if_false, if_true, and_true, true_and, Nat.reduceAdd, Nat.reduceSub, Nat.reduceLT, Nat.reduceLeDiff, neg_true, neg_false, Bool.not_true, Bool.not_false, decide_true, decide_false, e1]
      refine ⟨two_ok, rfl, ext_getD' (by simp [wipeE_length]) fun m => ?_⟩
      rw [wipeE_get, wipeE_get]
      by_cases hm : m ∈ [4]
      · rw [if_pos hm, if_pos hm]
      · rw [if_neg hm, if_neg hm]
        simp only [List.mem_cons, List.not_mem_nil, or_false] at hm
        rw [getD_set_ne hm, wipeE_get, if_neg (by simp [hm])]
  · obtain ⟨kvs, e, h⟩ := gDict_l (L := l.map fun x => (x, .bl true)) (by rw [List.length_map]; exact Nat.le_trans hl (by decide))
    rw [List.map_map] at e
    refine ⟨_, lk_fl, _, e, P0 kvs fun c => ?_⟩
    rw [h c, lookL_mem]
/-- the walk down a run -/
theorem wp_walk {l : List Pt} (L : FloorOk l) {a : Int} {c : Pt} (hc : c ∈ l) {kvs : List (D × D)} (hk : ∀ c, (dfind kvs (kP c)).isSome = decide (c ∈ l)) {s0 s3 s4 : Sl} {Q : Flo → Env → Prop} (hQ : ∀ x, Q .nx [s0, .v (.int a), .fl .own (.dct true kvs), s3, s4, .fl .own (.lst ((run l a c).map prD)), .v (prD x)]) :
    wp (sWhile (mBool (mOp2 (gIn false) (mVar 6) (mVar 2))) (sSeq (sExpr (mLstM gAppend (mVar 5) (dCons (mVar 6) dNil))) (sAsg 6 (mTup (dCons (mOp2 gAdd (mOp2 gIx (mVar 6) (mC (.int 0))) (mC (.int 1))) (dCons (mOp2 gAdd (mOp2 gIx (mVar 6) (mC (.int 1))) (mVar 1)) dNil))))))
      [s0, .v (.int a), .fl .own (.dct true kvs), s3, s4, .fl .own (.lst []), .v (prD c)] Q := by
  refine wp_while (fun n ρ => ∃ pre h, pre ++ rf l a n h = run l a c ∧ 60 ≤ h.1 + n ∧ 0 ≤ h.1 ∧ pre.length + n ≤ 61 ∧ ρ = [s0, .v (.int a), .fl .own (.dct true kvs), s3, s4, .fl .own (.lst (pre.map prD)), .v (prD h)]) (n := 61) ⟨[], c, rfl, by have := (L.rng c hc).1; omega, (L.rng c hc).1, by simp, rfl⟩ ?_
  rintro n ρ ⟨pre, h, e, h1, h2, h3, rfl⟩
  simp only [wp_bind, wp_c, wq_var, wp_op1, wp_op2, wp_opN, wq_ret1, wq_ret2, wq_retN, wp_nil, wp_cons, wp_dnil, wp_dcons, wp_esc, wp_escv, wp_escl, wp_tup, wp_lst, wp_bool, wp_tru, wq_retB, wp_not, wp_and, wp_or, wp_mif, wp_andV, wp_orV, wp_notV, wp_true, wp_chain, wp_retC1, wp_retC2, wp_noPart, wp_part, wp_retPart, wp_cut, wp_seq, wp_snil, wp_pass, wp_break, wp_cont, wp_never, wp_expr, wp_sif, wp_ret, wp_retv, wp_retN', wp_asg, wq_store, wp_par, wq_store2, wp_asgT, wp_call, lk_fl, lk_pl, ex_some, gSub_ii, gAdd_ii, gLt_ii, gLe_ii, gGt_ii, gGe_ii, gLt_pp, List.getD_cons_zero, List.getD_cons_succ, List.set_cons_zero, List.set_cons_succ, List.map_cons, List.map_nil, List.length_cons, List.length_nil, List.cons_append, List.nil_append, List.replicate, modeOf_un, modeOf_fl, one1, wp_if, wp_append, wp_setL, wp_intOf, unlk_n, lck_n, wq_retp, gTuple_l, gTuple_t, gList_l, gList_vl, gList_t, gLen_l, gLen_t, gInt_i, gNeg_i, Bool.false_eq_true, if_false, if_true, and_true, true_and, Nat.reduceAdd, Nat.reduceSub, Nat.reduceLT, Nat.reduceLeDiff, neg_true, neg_false, Bool.not_true, Bool.not_false, decide_true, decide_false, gIn_d, hk, blF]
  by_cases hl : h ∈ l
  · simp only [hl, decide_true, wp_bind, wp_c, wq_var, wp_op1, wp_op2, wp_opN, wq_ret1, wq_ret2, wq_retN, wp_nil, wp_cons, wp_dnil, wp_dcons, wp_esc, wp_escv, wp_escl, wp_tup, wp_lst, wp_bool, wp_tru, wq_retB, wp_not, wp_and, wp_or, wp_mif, wp_andV, wp_orV, wp_notV, wp_true, wp_chain, wp_retC1, wp_retC2, wp_noPart, wp_part, wp_retPart, wp_cut, wp_seq, wp_snil, wp_pass, wp_break, wp_cont, wp_never, wp_expr, wp_sif, wp_ret, wp_retv, wp_retN', wp_asg, wq_store, wp_par, wq_store2, wp_asgT, wp_call, lk_fl, lk_pl, ex_some, gSub_ii, gAdd_ii, gLt_ii, gLe_ii, gGt_ii, gGe_ii, gLt_pp, List.getD_cons_zero, List.getD_cons_succ, List.set_cons_zero, List.set_cons_succ, List.map_cons, List.map_nil, List.length_cons, List.length_nil, List.cons_append, List.nil_append, List.replicate, modeOf_un, modeOf_fl, one1, wp_if, wp_append, wp_setL, wp_intOf, unlk_n, lck_n, wq_retp, gTuple_l, gTuple_t, gList_l, gList_vl, gList_t, gLen_l, gLen_t, gInt_i, gNeg_i, Bool.false_eq_true, if_false, if_true, and_true, true_and, Nat.reduceAdd, Nat.reduceSub, Nat.reduceLT, Nat.reduceLeDiff, neg_true, neg_false, Bool.not_true, Bool.not_false, decide_true, decide_false]
    have hr := (L.rng h hl).2.1
    obtain ⟨m, rfl⟩ : ∃ m, n = m + 1 := ⟨n - 1, by omega⟩
    refine wp_lstPl rfl ?_
    simp only [wp_bind, wp_c, wq_var, wp_op1, wp_op2, wp_opN, wq_ret1, wq_ret2, wq_retN, wp_nil, wp_cons, wp_dnil, wp_dcons, wp_esc, wp_escv, wp_escl, wp_tup, wp_lst, wp_bool, wp_tru, wq_retB, wp_not, wp_and, wp_or, wp_mif, wp_andV, wp_orV, wp_notV, wp_true, wp_chain, wp_retC1, wp_retC2, wp_noPart, wp_part, wp_retPart, wp_cut, wp_seq, wp_snil, wp_pass, wp_break, wp_cont, wp_never, wp_expr, wp_sif, wp_ret, wp_retv, wp_retN', wp_asg, wq_store, wp_par, wq_store2, wp_asgT, wp_call, lk_fl, lk_pl, ex_some, gSub_ii, gAdd_ii, gLt_ii, gLe_ii, gGt_ii, gGe_ii, gLt_pp, List.getD_cons_zero, List.getD_cons_succ, List.set_cons_zero, List.set_cons_succ, List.map_cons, List.map_nil, List.length_cons, List.length_nil, List.cons_append, List.nil_append, List.replicate, modeOf_un, modeOf_fl, one1, wp_if, wp_append, wp_setL, wp_intOf, unlk_n, lck_n, wq_retp, gTuple_l, gTuple_t, gList_l, gList_vl, gList_t, gLen_l, gLen_t, gInt_i, gNeg_i, Bool.false_eq_true, if_false, if_true, and_true, true_and, Nat.reduceAdd, Nat.reduceSub, Nat.reduceLT, Nat.reduceLeDiff, neg_true, neg_false, Bool.not_true, Bool.not_false, decide_true, decide_false]
    refine wp_updL rfl (by decide) (by unfold gAppend; simp only; rw [if_pos (by rw [List.length_map]; exact Nat.lt_of_lt_of_le (Nat.lt_of_le_of_lt (show pre.length ≤ 61 by omega) (show 61 < 1000 by decide)) (by decide))]) ?_
    simp only [wp_bind, wp_c, wq_var, wp_op1, wp_op2, wp_opN, wq_ret1, wq_ret2, wq_retN, wp_nil, wp_cons, wp_dnil, wp_dcons, wp_esc, wp_escv, wp_escl, wp_tup, wp_lst, wp_bool, wp_tru, wq_retB, wp_not, wp_and, wp_or, wp_mif, wp_andV, wp_orV, wp_notV, wp_true, wp_chain, wp_retC1, wp_retC2, wp_noPart, wp_part, wp_retPart, wp_cut, wp_seq, wp_snil, wp_pass, wp_break, wp_cont, wp_never, wp_expr, wp_sif, wp_ret, wp_retv, wp_retN', wp_asg, wq_store, wp_par, wq_store2, wp_asgT, wp_call, lk_fl, lk_pl, ex_some, gSub_ii, gAdd_ii, gLt_ii, gLe_ii, gGt_ii, gGe_ii, gLt_pp, List.getD_cons_zero, List.getD_cons_succ, List.set_cons_zero, List.set_cons_succ, List.map_cons, List.map_nil, List.length_cons, List.length_nil, List.cons_append, List.nil_append, List.replicate, modeOf_un, modeOf_fl, one1, wp_if, wp_append, wp_setL, wp_intOf, unlk_n, lck_n, wq_retp, gTuple_l, gTuple_t, gList_l, gList_vl, gList_t, gLen_l, gLen_t, gInt_i, gNeg_i, Bool.false_eq_true, if_false, if_true, and_true, true_and, Nat.reduceAdd, Nat.reduceSub, Nat.reduceLT, Nat.reduceLeDiff, neg_true, neg_false, Bool.not_true, Bool.not_false, decide_true, decide_false, ix0, ix1]
    refine ⟨two_ok, ?_⟩
    refine ⟨m, by omega, pre ++ [h], dn a h, ?_, by simp only [dn]; omega, by simp only [dn]; omega, by simp; omega, ?_⟩
    · rw [← e]
      show _ = pre ++ (if h ∈ l then h :: rf l a m (dn a h) else [])
      rw [if_pos hl]; simp
    · simp [dn, prD]
  · simp only [hl, decide_false, wp_bind, wp_c, wq_var, wp_op1, wp_op2, wp_opN, wq_ret1, wq_ret2, wq_retN, wp_nil, wp_cons, wp_dnil, wp_dcons, wp_esc, wp_escv, wp_escl, wp_tup, wp_lst, wp_bool, wp_tru, wq_retB, wp_not, wp_and, wp_or, wp_mif, wp_andV, wp_orV, wp_notV, wp_true, wp_chain, wp_retC1, wp_retC2, wp_noPart, wp_part, wp_retPart, wp_cut, wp_seq, wp_snil, wp_pass, wp_break, wp_cont, wp_never, wp_expr, wp_sif, wp_ret, wp_retv, wp_retN', wp_asg, wq_store, wp_par, wq_store2, wp_asgT, wp_call, lk_fl, lk_pl, ex_some, gSub_ii, gAdd_ii, gLt_ii, gLe_ii, gGt_ii, gGe_ii, gLt_pp, List.getD_cons_zero, List.getD_cons_succ, List.set_cons_zero, List.set_cons_succ, List.map_cons, List.map_nil, List.length_cons, List.length_nil, List.cons_append, List.nil_append, List.replicate, modeOf_un, modeOf_fl, one1, wp_if, wp_append, wp_setL, wp_intOf, unlk_n, lck_n, wq_retp, gTuple_l, gTuple_t, gList_l, gList_vl, gList_t, gLen_l, gLen_t, gInt_i, gNeg_i, Bool.false_eq_true, if_false, if_true, and_true, true_and, Nat.reduceAdd, Nat.reduceSub, Nat.reduceLT, Nat.reduceLeDiff, neg_true, neg_false, Bool.not_true, Bool.not_false, decide_true, decide_false]
    have : rf l a n h = [] := by
      cases n with
      | zero => rfl
      | succ n => show (if h ∈ l then _ else []) = []; rw [if_neg hl]
    rw [this, List.append_nil] at e
    subst e
    exact hQ h
theorem wp_storeB {ρ : Env} {i : Nat} {f : Fld} {P : Flo → Env → Prop} (h1 : modeOf (ρ.getD i .un) = .own) (h2 : i < ρ.length) (p : P .nx (ρ.set i (.fl .own f))) : wp (store i (.fl f)) ρ P := (wp_store h1 h2).mpr p
theorem runs_app {l : List Pt} {a : Int} {dn' : List Pt} {c : Pt} : ((dn' ++ [c]).filter fun c => decide (up a c ∉ l)).map (run l a) = ((dn'.filter fun c => decide (up a c ∉ l)).map (run l a)) ++ if up a c ∉ l then [run l a c] else [] := by
  rw [List.filter_append, List.map_append]
  by_cases h : up a c ∈ l <;> simp [h]
theorem p_runs_in {l : List Pt} (L : FloorOk l) {a : Int} : FV F_runs_in [FD l, .int a] (.lst ((runs l a).map FD)) := by
  refine fv_of ?_
  unfold B_runs_in
  simp only [wp_bind, wp_c, wq_var, wp_op1, wp_op2, wp_opN, wq_ret1, wq_ret2, wq_retN, wp_nil, wp_cons, wp_dnil, wp_dcons, wp_esc, wp_escv, wp_escl, wp_tup, wp_lst, wp_bool, wp_tru, wq_retB, wp_not, wp_and, wp_or, wp_mif, wp_andV, wp_orV, wp_notV, wp_true, wp_chain, wp_retC1, wp_retC2, wp_noPart, wp_part, wp_retPart, wp_cut, wp_seq, wp_snil, wp_pass, wp_break, wp_cont, wp_never, wp_expr, wp_sif, wp_ret, wp_retv, wp_retN', wp_asg, wq_store, wp_par, wq_store2, wp_asgT, wp_call, lk_fl, lk_pl, ex_some, gSub_ii, gAdd_ii, gLt_ii, gLe_ii, gGt_ii, gGe_ii, gLt_pp, List.getD_cons_zero, List.getD_cons_succ, List.set_cons_zero, List.set_cons_succ, List.map_cons, List.map_nil, List.length_cons, List.length_nil, List.cons_append, List.nil_append, List.replicate, modeOf_un, modeOf_fl, one1, wp_if, wp_append, wp_setL, wp_intOf, unlk_n, lck_n, wq_retp, gTuple_l, gTuple_t, gList_l, gList_vl, gList_t, gLen_l, gLen_t, gInt_i, gNeg_i, Bool.false_eq_true, if_false, if_true, and_true, true_and, Nat.reduceAdd, Nat.reduceSub, Nat.reduceLT, Nat.reduceLeDiff, neg_true, neg_false, Bool.not_true, Bool.not_false, decide_true, decide_false]
  refine wp_inner rfl (by have := L.len; omega) (by simp) fun kvs hk => ?_
  simp only [wp_bind, wp_c, wq_var, wp_op1, wp_op2, wp_opN, wq_ret1, wq_ret2, wq_retN, wp_nil, wp_cons, wp_dnil, wp_dcons, wp_esc, wp_escv, wp_escl, wp_tup, wp_lst, wp_bool, wp_tru, wq_retB, wp_not, wp_and, wp_or, wp_mif, wp_andV, wp_orV, wp_notV, wp_true, wp_chain, wp_retC1, wp_retC2, wp_noPart, wp_part, wp_retPart, wp_cut, wp_seq, wp_snil, wp_pass, wp_break, wp_cont, wp_never, wp_expr, wp_sif, wp_ret, wp_retv, wp_retN', wp_asg, wq_store, wp_par, wq_store2, wp_asgT, wp_call, lk_fl, lk_pl, ex_some, gSub_ii, gAdd_ii, gLt_ii, gLe_ii, gGt_ii, gGe_ii, gLt_pp, List.getD_cons_zero, List.getD_cons_succ, List.set_cons_zero, List.set_cons_succ, List.map_cons, List.map_nil, List.length_cons, List.length_nil, List.cons_append, List.nil_append, List.replicate, modeOf_un, modeOf_fl, one1, wp_if, wp_append, wp_setL, wp_intOf, unlk_n, lck_n, wq_retp, gTuple_l, gTuple_t, gList_l, gList_vl, gList_t, gLen_l, gLen_t, gInt_i, gNeg_i, Bool.false_eq_true, if_false, if_true, and_true, true_and, Nat.reduceAdd, Nat.reduceSub, Nat.reduceLT, Nat.reduceLeDiff, neg_true, neg_false, Bool.not_true, Bool.not_false, decide_true, decide_false]
  refine ⟨zero_ok, wp_for (wp_srcI rfl ?_)⟩
  refine wp_floop (fun ds ρ => ∃ dn' rs, l = dn' ++ rs ∧ ds = rs.map prD ∧ ∃ s4 s5 s6, modeOf s4 = .own ∧ modeOf s5 = .own ∧ modeOf s6 = .own ∧ ρ = [.v (FD l), .v (.int a), .fl .own (.dct true kvs), .fl .own (.lst (((dn'.filter fun c => decide (up a c ∉ l)).map (run l a)).map FD)), s4, s5, s6]) ⟨[], l, rfl, rfl, .un, .un, .un, rfl, rfl, rfl, rfl⟩ ?_ ?_
  · rintro d r ρ ⟨dn', rs, hl, hd, s4, s5, s6, m4, m5, m6, rfl⟩
    cases rs with
    | nil => cases hd
    | cons c rs =>
      injection hd with h1 h2
      subst h1 h2
      have hc : c ∈ l := by rw [hl]; simp
      refine ⟨[.v (FD l), .v (.int a), .fl .own (.dct true kvs), .fl .own (.lst (((dn'.filter fun c => decide (up a c ∉ l)).map (run l a)).map FD)), .v (prD c), s5, s6], ?_, ?_⟩
      · unfold putv
        rw [if_pos ⟨m4, by simp⟩]; rfl
      · have nxt : ∀ s5 s6 found, modeOf s5 = .own → modeOf s6 = .own → found = (((dn' ++ [c]).filter fun c => decide (up a c ∉ l)).map (run l a)).map FD → ∃ dn' rs', l = dn' ++ rs' ∧ rs.map prD = rs'.map prD ∧ ∃ s4 s5' s6', modeOf s4 = .own ∧ modeOf s5' = .own ∧ modeOf s6' = .own ∧
            ([.v (FD l), .v (.int a), .fl .own (.dct true kvs), .fl .own (.lst found), .v (prD c), s5, s6] : Env) = [.v (FD l), .v (.int a), .fl .own (.dct true kvs), .fl .own (.lst (((dn'.filter fun c => decide (up a c ∉ l)).map (run l a)).map FD)), s4, s5', s6'] := by
          intro s5 s6 found h5 h6 hf
          exact ⟨dn' ++ [c], rs, by rw [hl]; simp, rfl, .v (prD c), s5, s6, rfl, h5, h6, by rw [hf]⟩
        have eu : D.tup [.int (c.1 - 1), .int (c.2 - a)] = prD (up a c) := rfl
        simp only [wp_bind, wp_c, wq_var, wp_op1, wp_op2, wp_opN, wq_ret1, wq_ret2, wq_retN, wp_nil, wp_cons, wp_dnil, wp_dcons, wp_esc, wp_escv, wp_escl, wp_tup, wp_lst, wp_bool, wp_tru, wq_retB, wp_not, wp_and, wp_or, wp_mif, wp_andV, wp_orV, wp_notV, wp_true, wp_chain, wp_retC1, wp_retC2, wp_noPart, wp_part, wp_retPart, wp_cut, wp_seq, wp_snil, wp_pass, wp_break, wp_cont, wp_never, wp_expr, wp_sif, wp_ret, wp_retv, wp_retN', wp_asg, wq_store, wp_par, wq_store2, wp_asgT, wp_call, lk_fl, lk_pl, ex_some, gSub_ii, gAdd_ii, gLt_ii, gLe_ii, gGt_ii, gGe_ii, gLt_pp, List.getD_cons_zero, List.getD_cons_succ, List.set_cons_zero, List.set_cons_succ, List.map_cons, List.map_nil, List.length_cons, List.length_nil, List.cons_append, List.nil_append, List.replicate, modeOf_un, modeOf_fl, one1, wp_if, wp_append, wp_setL, wp_intOf, unlk_n, lck_n, wq_retp, gTuple_l, gTuple_t, gList_l, gList_vl, gList_t, gLen_l, gLen_t, gInt_i, gNeg_i, Bool.false_eq_true, if_false, if_true, and_true, true_and, Nat.reduceAdd, Nat.reduceSub, Nat.reduceLT, Nat.reduceLeDiff, neg_true, neg_false, Bool.not_true, Bool.not_false, decide_true, decide_false, ix0, ix1]
        refine ⟨two_ok, ?_⟩
        simp only [eu, gIn_d, hk, wp_bind, wp_c, wq_var, wp_op1, wp_op2, wp_opN, wq_ret1, wq_ret2, wq_retN, wp_nil, wp_cons, wp_dnil, wp_dcons, wp_esc, wp_escv, wp_escl, wp_tup, wp_lst, wp_bool, wp_tru, wq_retB, wp_not, wp_and, wp_or, wp_mif, wp_andV, wp_orV, wp_notV, wp_true, wp_chain, wp_retC1, wp_retC2, wp_noPart, wp_part, wp_retPart, wp_cut, wp_seq, wp_snil, wp_pass, wp_break, wp_cont, wp_never, wp_expr, wp_sif, wp_ret, wp_retv, wp_retN', wp_asg, wq_store, wp_par, wq_store2, wp_asgT, wp_call, lk_fl, lk_pl, ex_some, gSub_ii, gAdd_ii, gLt_ii, gLe_ii, gGt_ii, gGe_ii, gLt_pp, List.getD_cons_zero, List.getD_cons_succ, List.set_cons_zero, List.set_cons_succ, List.map_cons, List.map_nil, List.length_cons, List.length_nil, List.cons_append, List.nil_append, List.replicate, modeOf_un, modeOf_fl, one1, wp_if, wp_append, wp_setL, wp_intOf, unlk_n, lck_n, wq_retp, gTuple_l, gTuple_t, gList_l, gList_vl, gList_t, gLen_l, gLen_t, gInt_i, gNeg_i, Bool.false_eq_true, if_false, if_true, and_true, true_and, Nat.reduceAdd, Nat.reduceSub, Nat.reduceLT, Nat.reduceLeDiff, neg_true, neg_false, Bool.not_true, Bool.not_false, decide_true, decide_false, blF]
        by_cases hu : up a c ∈ l
        · simp only [hu, decide_true, wp_bind, wp_c, wq_var, wp_op1, wp_op2, wp_opN, wq_ret1, wq_ret2, wq_retN, wp_nil, wp_cons, wp_dnil, wp_dcons, wp_esc, wp_escv, wp_escl, wp_tup, wp_lst, wp_bool, wp_tru, wq_retB, wp_not, wp_and, wp_or, wp_mif, wp_andV, wp_orV, wp_notV, wp_true, wp_chain, wp_retC1, wp_retC2, wp_noPart, wp_part, wp_retPart, wp_cut, wp_seq, wp_snil, wp_pass, wp_break, wp_cont, wp_never, wp_expr, wp_sif, wp_ret, wp_retv, wp_retN', wp_asg, wq_store, wp_par, wq_store2, wp_asgT, wp_call, lk_fl, lk_pl, ex_some, gSub_ii, gAdd_ii, gLt_ii, gLe_ii, gGt_ii, gGe_ii, gLt_pp, List.getD_cons_zero, List.getD_cons_succ, List.set_cons_zero, List.set_cons_succ, List.map_cons, List.map_nil, List.length_cons, List.length_nil, List.cons_append, List.nil_append, List.replicate, modeOf_un, modeOf_fl, one1, wp_if, wp_append, wp_setL, wp_intOf, unlk_n, lck_n, wq_retp, gTuple_l, gTuple_t, gList_l, gList_vl, gList_t, gLen_l, gLen_t, gInt_i, gNeg_i, Bool.false_eq_true, if_false, if_true, and_true, true_and, Nat.reduceAdd, Nat.reduceSub, Nat.reduceLT, Nat.reduceLeDiff, neg_true, neg_false, Bool.not_true, Bool.not_false, decide_true, decide_false]
          exact nxt s5 s6 _ m5 m6 (by rw [runs_app]; simp [hu])
        · simp only [hu, decide_false, wp_bind, wp_c, wq_var, wp_op1, wp_op2, wp_opN, wq_ret1, wq_ret2, wq_retN, wp_nil, wp_cons, wp_dnil, wp_dcons, wp_esc, wp_escv, wp_escl, wp_tup, wp_lst, wp_bool, wp_tru, wq_retB, wp_not, wp_and, wp_or, wp_mif, wp_andV, wp_orV, wp_notV, wp_true, wp_chain, wp_retC1, wp_retC2, wp_noPart, wp_part, wp_retPart, wp_cut, wp_seq, wp_snil, wp_pass, wp_break, wp_cont, wp_never, wp_expr, wp_sif, wp_ret, wp_retv, wp_retN', wp_asg, wq_store, wp_par, wq_store2, wp_asgT, wp_call, lk_fl, lk_pl, ex_some, gSub_ii, gAdd_ii, gLt_ii, gLe_ii, gGt_ii, gGe_ii, gLt_pp, List.getD_cons_zero, List.getD_cons_succ, List.set_cons_zero, List.set_cons_succ, List.map_cons, List.map_nil, List.length_cons, List.length_nil, List.cons_append, List.nil_append, List.replicate, modeOf_un, modeOf_fl, one1, wp_if, wp_append, wp_setL, wp_intOf, unlk_n, lck_n, wq_retp, gTuple_l, gTuple_t, gList_l, gList_vl, gList_t, gLen_l, gLen_t, gInt_i, gNeg_i, Bool.false_eq_true, if_false, if_true, and_true, true_and, Nat.reduceAdd, Nat.reduceSub, Nat.reduceLT, Nat.reduceLeDiff, neg_true, neg_false, Bool.not_true, Bool.not_false, decide_true, decide_false, m5, m6]
          refine ⟨zero_ok, ?_⟩
          refine wp_walk L hc hk fun x => ?_
          simp only [wp_bind, wp_c, wq_var, wp_op1, wp_op2, wp_opN, wq_ret1, wq_ret2, wq_retN, wp_nil, wp_cons, wp_dnil, wp_dcons, wp_esc, wp_escv, wp_escl, wp_tup, wp_lst, wp_bool, wp_tru, wq_retB, wp_not, wp_and, wp_or, wp_mif, wp_andV, wp_orV, wp_notV, wp_true, wp_chain, wp_retC1, wp_retC2, wp_noPart, wp_part, wp_retPart, wp_cut, wp_seq, wp_snil, wp_pass, wp_break, wp_cont, wp_never, wp_expr, wp_sif, wp_ret, wp_retv, wp_retN', wp_asg, wq_store, wp_par, wq_store2, wp_asgT, wp_call, lk_fl, lk_pl, ex_some, gSub_ii, gAdd_ii, gLt_ii, gLe_ii, gGt_ii, gGe_ii, gLt_pp, List.getD_cons_zero, List.getD_cons_succ, List.set_cons_zero, List.set_cons_succ, List.map_cons, List.map_nil, List.length_cons, List.length_nil, List.cons_append, List.nil_append, List.replicate, modeOf_un, modeOf_fl, one1, wp_if, wp_append, wp_setL, wp_intOf, unlk_n, lck_n, wq_retp, gTuple_l, gTuple_t, gList_l, gList_vl, gList_t, gLen_l, gLen_t, gInt_i, gNeg_i, Bool.false_eq_true, if_false, if_true, and_true, true_and, Nat.reduceAdd, Nat.reduceSub, Nat.reduceLT, Nat.reduceLeDiff, neg_true, neg_false, Bool.not_true, Bool.not_false, decide_true, decide_false]
          refine wp_lstPl rfl ?_
          simp only [wp_bind, wp_c, wq_var, wp_op1, wp_op2, wp_opN, wq_ret1, wq_ret2, wq_retN, wp_nil, wp_cons, wp_dnil, wp_dcons, wp_esc, wp_escv, wp_escl, wp_tup, wp_lst, wp_bool, wp_tru, wq_retB, wp_not, wp_and, wp_or, wp_mif, wp_andV, wp_orV, wp_notV, wp_true, wp_chain, wp_retC1, wp_retC2, wp_noPart, wp_part, wp_retPart, wp_cut, wp_seq, wp_snil, wp_pass, wp_break, wp_cont, wp_never, wp_expr, wp_sif, wp_ret, wp_retv, wp_retN', wp_asg, wq_store, wp_par, wq_store2, wp_asgT, wp_call, lk_fl, lk_pl, ex_some, gSub_ii, gAdd_ii, gLt_ii, gLe_ii, gGt_ii, gGe_ii, gLt_pp, List.getD_cons_zero, List.getD_cons_succ, List.set_cons_zero, List.set_cons_succ, List.map_cons, List.map_nil, List.length_cons, List.length_nil, List.cons_append, List.nil_append, List.replicate, modeOf_un, modeOf_fl, one1, wp_if, wp_append, wp_setL, wp_intOf, unlk_n, lck_n, wq_retp, gTuple_l, gTuple_t, gList_l, gList_vl, gList_t, gLen_l, gLen_t, gInt_i, gNeg_i, Bool.false_eq_true, if_false, if_true, and_true, true_and, Nat.reduceAdd, Nat.reduceSub, Nat.reduceLT, Nat.reduceLeDiff, neg_true, neg_false, Bool.not_true, Bool.not_false, decide_true, decide_false]
          refine wp_updL rfl (by decide) (gAppend_1 (Nat.lt_of_le_of_lt ?_ (show 1000 < lim by decide))) ?_
          · rw [List.length_map, List.length_map]
            refine Nat.le_trans (List.length_filter_le _ _) ?_
            have := L.len
            rw [hl] at this
            simp at this
            omega
          · simp only [wp_bind, wp_c, wq_var, wp_op1, wp_op2, wp_opN, wq_ret1, wq_ret2, wq_retN, wp_nil, wp_cons, wp_dnil, wp_dcons, wp_esc, wp_escv, wp_escl, wp_tup, wp_lst, wp_bool, wp_tru, wq_retB, wp_not, wp_and, wp_or, wp_mif, wp_andV, wp_orV, wp_notV, wp_true, wp_chain, wp_retC1, wp_retC2, wp_noPart, wp_part, wp_retPart, wp_cut, wp_seq, wp_snil, wp_pass, wp_break, wp_cont, wp_never, wp_expr, wp_sif, wp_ret, wp_retv, wp_retN', wp_asg, wq_store, wp_par, wq_store2, wp_asgT, wp_call, lk_fl, lk_pl, ex_some, gSub_ii, gAdd_ii, gLt_ii, gLe_ii, gGt_ii, gGe_ii, gLt_pp, List.getD_cons_zero, List.getD_cons_succ, List.set_cons_zero, List.set_cons_succ, List.map_cons, List.map_nil, List.length_cons, List.length_nil, List.cons_append, List.nil_append, List.replicate, modeOf_un, modeOf_fl, one1, wp_if, wp_append, wp_setL, wp_intOf, unlk_n, lck_n, wq_retp, gTuple_l, gTuple_t, gList_l, gList_vl, gList_t, gLen_l, gLen_t, gInt_i, gNeg_i, Bool.false_eq_true, if_false, if_true, and_true, true_and, Nat.reduceAdd, Nat.reduceSub, Nat.reduceLT, Nat.reduceLeDiff, neg_true, neg_false, Bool.not_true, Bool.not_false, decide_true, decide_false]
            exact nxt _ _ _ rfl rfl (by rw [runs_app]; simp [hu])
  · rintro ρ ⟨dn', rs, hl, hd, s4, s5, s6, m4, m5, m6, rfl⟩
    cases rs with
    | cons c rs => cases hd
    | nil =>
      rw [List.append_nil] at hl
      subst hl
      simp only [wp_bind, wp_c, wq_var, wp_op1, wp_op2, wp_opN, wq_ret1, wq_ret2, wq_retN, wp_nil, wp_cons, wp_dnil, wp_dcons, wp_esc, wp_escv, wp_escl, wp_tup, wp_lst, wp_bool, wp_tru, wq_retB, wp_not, wp_and, wp_or, wp_mif, wp_andV, wp_orV, wp_notV, wp_true, wp_chain, wp_retC1, wp_retC2, wp_noPart, wp_part, wp_retPart, wp_cut, wp_seq, wp_snil, wp_pass, wp_break, wp_cont, wp_never, wp_expr, wp_sif, wp_ret, wp_retv, wp_retN', wp_asg, wq_store, wp_par, wq_store2, wp_asgT, wp_call, lk_fl, lk_pl, ex_some, gSub_ii, gAdd_ii, gLt_ii, gLe_ii, gGt_ii, gGe_ii, gLt_pp, List.getD_cons_zero, List.getD_cons_succ, List.set_cons_zero, List.set_cons_succ, List.map_cons, List.map_nil, List.length_cons, List.length_nil, List.cons_append, List.nil_append, List.replicate, modeOf_un, modeOf_fl, one1, wp_if, wp_append, wp_setL, wp_intOf, unlk_n, lck_n, wq_retp, gTuple_l, gTuple_t, gList_l, gList_vl, gList_t, gLen_l, gLen_t, gInt_i, gNeg_i, Bool.false_eq_true, if_false, if_true, and_true, true_and, Nat.reduceAdd, Nat.reduceSub, Nat.reduceLT, Nat.reduceLeDiff, neg_true, neg_false, Bool.not_true, Bool.not_false, decide_true, decide_false]
      exact .inl rfl
end K50
namespace K50
open VS
open PySem (sizeLine)
theorem runs_small {l : List Pt} (L : FloorOk l) {a : Int} : (runs l a).length ≤ 400 := by
  unfold runs heads
  rw [List.length_map]
  exact Nat.le_trans (List.length_filter_le _ _) L.len
theorem p_falling {l : List Pt} (L : FloorOk l) : FV F_falling_runs [FD l] (.val (.tup ((runs l 1).map FD))) := by
  refine fv_of ?_
  unfold B_falling_runs
  simp only [wp_bind, wp_c, wq_var, wp_op1, wp_op2, wp_opN, wq_ret1, wq_ret2, wq_retN, wp_nil, wp_cons, wp_dnil, wp_dcons, wp_esc, wp_escv, wp_escl, wp_tup, wp_lst, wp_bool, wp_tru, wq_retB, wp_not, wp_and, wp_or, wp_mif, wp_andV, wp_orV, wp_notV, wp_true, wp_chain, wp_retC1, wp_retC2, wp_noPart, wp_part, wp_retPart, wp_cut, wp_seq, wp_snil, wp_pass, wp_break, wp_cont, wp_never, wp_expr, wp_sif, wp_ret, wp_retv, wp_retN', wp_asg, wq_store, wp_par, wq_store2, wp_asgT, wp_call, lk_fl, lk_pl, ex_some, gSub_ii, gAdd_ii, gLt_ii, gLe_ii, gGt_ii, gGe_ii, gLt_pp, List.getD_cons_zero, List.getD_cons_succ, List.set_cons_zero, List.set_cons_succ, List.map_cons, List.map_nil, List.length_cons, List.length_nil, List.cons_append, List.nil_append, List.replicate, modeOf_un, modeOf_fl, one1, wp_if, wp_append, wp_setL, wp_intOf, unlk_n, lck_n, wq_retp, gTuple_l, gTuple_t, gList_l, gList_vl, gList_t, gLen_l, gLen_t, gInt_i, gNeg_i, Bool.false_eq_true, if_false, if_true, and_true, true_and, Nat.reduceAdd, Nat.reduceSub, Nat.reduceLT, Nat.reduceLeDiff, neg_true, neg_false, Bool.not_true, Bool.not_false, decide_true, decide_false]
  refine wp_fv1 (p_need_floor L) ?_
  simp only [wp_bind, wp_c, wq_var, wp_op1, wp_op2, wp_opN, wq_ret1, wq_ret2, wq_retN, wp_nil, wp_cons, wp_dnil, wp_dcons, wp_esc, wp_escv, wp_escl, wp_tup, wp_lst, wp_bool, wp_tru, wq_retB, wp_not, wp_and, wp_or, wp_mif, wp_andV, wp_orV, wp_notV, wp_true, wp_chain, wp_retC1, wp_retC2, wp_noPart, wp_part, wp_retPart, wp_cut, wp_seq, wp_snil, wp_pass, wp_break, wp_cont, wp_never, wp_expr, wp_sif, wp_ret, wp_retv, wp_retN', wp_asg, wq_store, wp_par, wq_store2, wp_asgT, wp_call, lk_fl, lk_pl, ex_some, gSub_ii, gAdd_ii, gLt_ii, gLe_ii, gGt_ii, gGe_ii, gLt_pp, List.getD_cons_zero, List.getD_cons_succ, List.set_cons_zero, List.set_cons_succ, List.map_cons, List.map_nil, List.length_cons, List.length_nil, List.cons_append, List.nil_append, List.replicate, modeOf_un, modeOf_fl, one1, wp_if, wp_append, wp_setL, wp_intOf, unlk_n, lck_n, wq_retp, gTuple_l, gTuple_t, gList_l, gList_vl, gList_t, gLen_l, gLen_t, gInt_i, gNeg_i, Bool.false_eq_true, if_false, if_true, and_true, true_and, Nat.reduceAdd, Nat.reduceSub, Nat.reduceLT, Nat.reduceLeDiff, neg_true, neg_false, Bool.not_true, Bool.not_false, decide_true, decide_false]
  refine wp_fv2 (p_runs_in L) ?_
  simp only [wp_bind, wp_c, wq_var, wp_op1, wp_op2, wp_opN, wq_ret1, wq_ret2, wq_retN, wp_nil, wp_cons, wp_dnil, wp_dcons, wp_esc, wp_escv, wp_escl, wp_tup, wp_lst, wp_bool, wp_tru, wq_retB, wp_not, wp_and, wp_or, wp_mif, wp_andV, wp_orV, wp_notV, wp_true, wp_chain, wp_retC1, wp_retC2, wp_noPart, wp_part, wp_retPart, wp_cut, wp_seq, wp_snil, wp_pass, wp_break, wp_cont, wp_never, wp_expr, wp_sif, wp_ret, wp_retv, wp_retN', wp_asg, wq_store, wp_par, wq_store2, wp_asgT, wp_call, lk_fl, lk_pl, ex_some, gSub_ii, gAdd_ii, gLt_ii, gLe_ii, gGt_ii, gGe_ii, gLt_pp, List.getD_cons_zero, List.getD_cons_succ, List.set_cons_zero, List.set_cons_succ, List.map_cons, List.map_nil, List.length_cons, List.length_nil, List.cons_append, List.nil_append, List.replicate, modeOf_un, modeOf_fl, one1, wp_if, wp_append, wp_setL, wp_intOf, unlk_n, lck_n, wq_retp, gTuple_l, gTuple_t, gList_l, gList_vl, gList_t, gLen_l, gLen_t, gInt_i, gNeg_i, Bool.false_eq_true, if_false, if_true, and_true, true_and, Nat.reduceAdd, Nat.reduceSub, Nat.reduceLT, Nat.reduceLeDiff, neg_true, neg_false, Bool.not_true, Bool.not_false, decide_true, decide_false]
  simp
theorem p_rising {l : List Pt} (L : FloorOk l) : FV F_rising_runs [FD l] (.val (.tup ((runs l (-1)).map FD))) := by
  refine fv_of ?_
  unfold B_rising_runs
  simp only [wp_bind, wp_c, wq_var, wp_op1, wp_op2, wp_opN, wq_ret1, wq_ret2, wq_retN, wp_nil, wp_cons, wp_dnil, wp_dcons, wp_esc, wp_escv, wp_escl, wp_tup, wp_lst, wp_bool, wp_tru, wq_retB, wp_not, wp_and, wp_or, wp_mif, wp_andV, wp_orV, wp_notV, wp_true, wp_chain, wp_retC1, wp_retC2, wp_noPart, wp_part, wp_retPart, wp_cut, wp_seq, wp_snil, wp_pass, wp_break, wp_cont, wp_never, wp_expr, wp_sif, wp_ret, wp_retv, wp_retN', wp_asg, wq_store, wp_par, wq_store2, wp_asgT, wp_call, lk_fl, lk_pl, ex_some, gSub_ii, gAdd_ii, gLt_ii, gLe_ii, gGt_ii, gGe_ii, gLt_pp, List.getD_cons_zero, List.getD_cons_succ, List.set_cons_zero, List.set_cons_succ, List.map_cons, List.map_nil, List.length_cons, List.length_nil, List.cons_append, List.nil_append, List.replicate, modeOf_un, modeOf_fl, one1, wp_if, wp_append, wp_setL, wp_intOf, unlk_n, lck_n, wq_retp, gTuple_l, gTuple_t, gList_l, gList_vl, gList_t, gLen_l, gLen_t, gInt_i, gNeg_i, Bool.false_eq_true, if_false, if_true, and_true, true_and, Nat.reduceAdd, Nat.reduceSub, Nat.reduceLT, Nat.reduceLeDiff, neg_true, neg_false, Bool.not_true, Bool.not_false, decide_true, decide_false]
  refine wp_fv1 (p_need_floor L) ?_
  simp only [wp_bind, wp_c, wq_var, wp_op1, wp_op2, wp_opN, wq_ret1, wq_ret2, wq_retN, wp_nil, wp_cons, wp_dnil, wp_dcons, wp_esc, wp_escv, wp_escl, wp_tup, wp_lst, wp_bool, wp_tru, wq_retB, wp_not, wp_and, wp_or, wp_mif, wp_andV, wp_orV, wp_notV, wp_true, wp_chain, wp_retC1, wp_retC2, wp_noPart, wp_part, wp_retPart, wp_cut, wp_seq, wp_snil, wp_pass, wp_break, wp_cont, wp_never, wp_expr, wp_sif, wp_ret, wp_retv, wp_retN', wp_asg, wq_store, wp_par, wq_store2, wp_asgT, wp_call, lk_fl, lk_pl, ex_some, gSub_ii, gAdd_ii, gLt_ii, gLe_ii, gGt_ii, gGe_ii, gLt_pp, List.getD_cons_zero, List.getD_cons_succ, List.set_cons_zero, List.set_cons_succ, List.map_cons, List.map_nil, List.length_cons, List.length_nil, List.cons_append, List.nil_append, List.replicate, modeOf_un, modeOf_fl, one1, wp_if, wp_append, wp_setL, wp_intOf, unlk_n, lck_n, wq_retp, gTuple_l, gTuple_t, gList_l, gList_vl, gList_t, gLen_l, gLen_t, gInt_i, gNeg_i, Bool.false_eq_true, if_false, if_true, and_true, true_and, Nat.reduceAdd, Nat.reduceSub, Nat.reduceLT, Nat.reduceLeDiff, neg_true, neg_false, Bool.not_true, Bool.not_false, decide_true, decide_false]
  refine wp_fv2 (p_runs_in L) ?_
  simp only [wp_bind, wp_c, wq_var, wp_op1, wp_op2, wp_opN, wq_ret1, wq_ret2, wq_retN, wp_nil, wp_cons, wp_dnil, wp_dcons, wp_esc, wp_escv, wp_escl, wp_tup, wp_lst, wp_bool, wp_tru, wq_retB, wp_not, wp_and, wp_or, wp_mif, wp_andV, wp_orV, wp_notV, wp_true, wp_chain, wp_retC1, wp_retC2, wp_noPart, wp_part, wp_retPart, wp_cut, wp_seq, wp_snil, wp_pass, wp_break, wp_cont, wp_never, wp_expr, wp_sif, wp_ret, wp_retv, wp_retN', wp_asg, wq_store, wp_par, wq_store2, wp_asgT, wp_call, lk_fl, lk_pl, ex_some, gSub_ii, gAdd_ii, gLt_ii, gLe_ii, gGt_ii, gGe_ii, gLt_pp, List.getD_cons_zero, List.getD_cons_succ, List.set_cons_zero, List.set_cons_succ, List.map_cons, List.map_nil, List.length_cons, List.length_nil, List.cons_append, List.nil_append, List.replicate, modeOf_un, modeOf_fl, one1, wp_if, wp_append, wp_setL, wp_intOf, unlk_n, lck_n, wq_retp, gTuple_l, gTuple_t, gList_l, gList_vl, gList_t, gLen_l, gLen_t, gInt_i, gNeg_i, Bool.false_eq_true, if_false, if_true, and_true, true_and, Nat.reduceAdd, Nat.reduceSub, Nat.reduceLT, Nat.reduceLeDiff, neg_true, neg_false, Bool.not_true, Bool.not_false, decide_true, decide_false]
  simp
/-! ### the law's own runs -/
theorem ix_last {ds : List D} {d : D} : gIx (.lst (ds ++ [d])) (.val (.int (-1))) = some (.v d) := gIx_l (L2.atI_last ds d)
theorem map_snoc {pre : List Pt} {h : Pt} : (pre ++ [h]).map prD = pre.map prD ++ [prD h] := by simp
theorem wp_lawalk {l : List Pt} (L : FloorOk l) {a : Int} {c : Pt} (hc : c ∈ l) {s2 s3 s4 : Sl} {Q : Flo → Env → Prop} (hQ : Q .nx [.v (FD l), .v (.int a), s2, s3, s4, .fl .own (.lst ((run l a c).map prD))]) :
    wp (sWhile (mBool (mOp2 (gIn false) (mTup (dCons (mOp2 gAdd (mOp2 gIx (mOp2 gIx (mVar 5) (mOp1 gNeg (mC (.int 1)))) (mC (.int 0))) (mC (.int 1))) (dCons (mOp2 gAdd (mOp2 gIx (mOp2 gIx (mVar 5) (mOp1 gNeg (mC (.int 1)))) (mC (.int 1))) (mVar 1)) dNil))) (mVar 0)))
      (sExpr (mLstM gAppend (mVar 5) (dCons (mTup (dCons (mOp2 gAdd (mOp2 gIx (mOp2 gIx (mVar 5) (mOp1 gNeg (mC (.int 1)))) (mC (.int 0))) (mC (.int 1))) (dCons (mOp2 gAdd (mOp2 gIx (mOp2 gIx (mVar 5) (mOp1 gNeg (mC (.int 1)))) (mC (.int 1))) (mVar 1)) dNil))) dNil))))
      [.v (FD l), .v (.int a), s2, s3, s4, .fl .own (.lst [prD c])] Q := by
  have e0 : run l a c = [c] ++ rf l a 60 (dn a c) := by
    show (if c ∈ l then _ else []) = _
    rw [if_pos hc]; rfl
  refine wp_while (fun n ρ => ∃ pre h, (pre ++ [h]) ++ rf l a n (dn a h) = run l a c ∧ 60 ≤ h.1 + 1 + n ∧ 0 ≤ h.1 ∧ pre.length + n ≤ 61 ∧ ρ = [.v (FD l), .v (.int a), s2, s3, s4, .fl .own (.lst ((pre ++ [h]).map prD))]) (n := 60) ⟨[], c, e0.symm, by have := (L.rng c hc).1; omega, (L.rng c hc).1, by simp, rfl⟩ ?_
  rintro n ρ ⟨pre, h, e, h1, h2, h3, rfl⟩
  have ed : D.tup [.int (h.1 + 1), .int (h.2 + a)] = prD (dn a h) := rfl
  simp only [map_snoc, wp_bind, wp_c, wq_var, wp_op1, wp_op2, wp_opN, wq_ret1, wq_ret2, wq_retN, wp_nil, wp_cons, wp_dnil, wp_dcons, wp_esc, wp_escv, wp_escl, wp_tup, wp_lst, wp_bool, wp_tru, wq_retB, wp_not, wp_and, wp_or, wp_mif, wp_andV, wp_orV, wp_notV, wp_true, wp_chain, wp_retC1, wp_retC2, wp_noPart, wp_part, wp_retPart, wp_cut, wp_seq, wp_snil, wp_pass, wp_break, wp_cont, wp_never, wp_expr, wp_sif, wp_ret, wp_retv, wp_retN', wp_asg, wq_store, wp_par, wq_store2, wp_asgT, wp_call, lk_fl, lk_pl, ex_some, gSub_ii, gAdd_ii, gLt_ii, gLe_ii, gGt_ii, gGe_ii, gLt_pp, List.getD_cons_zero, List.getD_cons_succ, List.set_cons_zero, List.set_cons_succ, List.map_cons, List.map_nil, List.length_cons, List.length_nil, List.cons_append, List.nil_append, List.replicate, modeOf_un, modeOf_fl, one1, wp_if, wp_append, wp_setL, wp_intOf, unlk_n, lck_n, wq_retp, gTuple_l, gTuple_t, gList_l, gList_vl, gList_t, gLen_l, gLen_t, gInt_i, gNeg_i, Bool.false_eq_true, if_false, if_true, and_true, true_and, Nat.reduceAdd, Nat.reduceSub, Nat.reduceLT, Nat.reduceLeDiff, neg_true, neg_false, Bool.not_true, Bool.not_false, decide_true, decide_false, ix_last, ix0, ix1]
  refine ⟨two_ok, ?_⟩
  simp only [ed, gIn_t, blF, wp_bind, wp_c, wq_var, wp_op1, wp_op2, wp_opN, wq_ret1, wq_ret2, wq_retN, wp_nil, wp_cons, wp_dnil, wp_dcons, wp_esc, wp_escv, wp_escl, wp_tup, wp_lst, wp_bool, wp_tru, wq_retB, wp_not, wp_and, wp_or, wp_mif, wp_andV, wp_orV, wp_notV, wp_true, wp_chain, wp_retC1, wp_retC2, wp_noPart, wp_part, wp_retPart, wp_cut, wp_seq, wp_snil, wp_pass, wp_break, wp_cont, wp_never, wp_expr, wp_sif, wp_ret, wp_retv, wp_retN', wp_asg, wq_store, wp_par, wq_store2, wp_asgT, wp_call, lk_fl, lk_pl, ex_some, gSub_ii, gAdd_ii, gLt_ii, gLe_ii, gGt_ii, gGe_ii, gLt_pp, List.getD_cons_zero, List.getD_cons_succ, List.set_cons_zero, List.set_cons_succ, List.map_cons, List.map_nil, List.length_cons, List.length_nil, List.cons_append, List.nil_append, List.replicate, modeOf_un, modeOf_fl, one1, wp_if, wp_append, wp_setL, wp_intOf, unlk_n, lck_n, wq_retp, gTuple_l, gTuple_t, gList_l, gList_vl, gList_t, gLen_l, gLen_t, gInt_i, gNeg_i, Bool.false_eq_true, if_false, if_true, and_true, true_and, Nat.reduceAdd, Nat.reduceSub, Nat.reduceLT, Nat.reduceLeDiff, neg_true, neg_false, Bool.not_true, Bool.not_false, decide_true, decide_false]
  by_cases hl : dn a h ∈ l
  · simp only [hl, wp_bind, wp_c, wq_var, wp_op1, wp_op2, wp_opN, wq_ret1, wq_ret2, wq_retN, wp_nil, wp_cons, wp_dnil, wp_dcons, wp_esc, wp_escv, wp_escl, wp_tup, wp_lst, wp_bool, wp_tru, wq_retB, wp_not, wp_and, wp_or, wp_mif, wp_andV, wp_orV, wp_notV, wp_true, wp_chain, wp_retC1, wp_retC2, wp_noPart, wp_part, wp_retPart, wp_cut, wp_seq, wp_snil, wp_pass, wp_break, wp_cont, wp_never, wp_expr, wp_sif, wp_ret, wp_retv, wp_retN', wp_asg, wq_store, wp_par, wq_store2, wp_asgT, wp_call, lk_fl, lk_pl, ex_some, gSub_ii, gAdd_ii, gLt_ii, gLe_ii, gGt_ii, gGe_ii, gLt_pp, List.getD_cons_zero, List.getD_cons_succ, List.set_cons_zero, List.set_cons_succ, List.map_cons, List.map_nil, List.length_cons, List.length_nil, List.cons_append, List.nil_append, List.replicate, modeOf_un, modeOf_fl, one1, wp_if, wp_append, wp_setL, wp_intOf, unlk_n, lck_n, wq_retp, gTuple_l, gTuple_t, gList_l, gList_vl, gList_t, gLen_l, gLen_t, gInt_i, gNeg_i, Bool.false_eq_true, if_false, if_true, and_true, true_and, Nat.reduceAdd, Nat.reduceSub, Nat.reduceLT, Nat.reduceLeDiff, neg_true, neg_false, Bool.not_true, Bool.not_false, decide_true, decide_false]
    have hr := (L.rng _ hl).2.1
    simp only [dn] at hr
    obtain ⟨m, rfl⟩ : ∃ m, n = m + 1 := ⟨n - 1, by omega⟩
    refine wp_lstPl rfl ?_
    simp only [wp_bind, wp_c, wq_var, wp_op1, wp_op2, wp_opN, wq_ret1, wq_ret2, wq_retN, wp_nil, wp_cons, wp_dnil, wp_dcons, wp_esc, wp_escv, wp_escl, wp_tup, wp_lst, wp_bool, wp_tru, wq_retB, wp_not, wp_and, wp_or, wp_mif, wp_andV, wp_orV, wp_notV, wp_true, wp_chain, wp_retC1, wp_retC2, wp_noPart, wp_part, wp_retPart, wp_cut, wp_seq, wp_snil, wp_pass, wp_break, wp_cont, wp_never, wp_expr, wp_sif, wp_ret, wp_retv, wp_retN', wp_asg, wq_store, wp_par, wq_store2, wp_asgT, wp_call, lk_fl, lk_pl, ex_some, gSub_ii, gAdd_ii, gLt_ii, gLe_ii, gGt_ii, gGe_ii, gLt_pp, List.getD_cons_zero, List.getD_cons_succ, List.set_cons_zero, List.set_cons_succ, List.map_cons, List.map_nil, List.length_cons, List.length_nil, List.cons_append, List.nil_append, List.replicate, modeOf_un, modeOf_fl, one1, wp_if, wp_append, wp_setL, wp_intOf, unlk_n, lck_n, wq_retp, gTuple_l, gTuple_t, gList_l, gList_vl, gList_t, gLen_l, gLen_t, gInt_i, gNeg_i, Bool.false_eq_true, if_false, if_true, and_true, true_and, Nat.reduceAdd, Nat.reduceSub, Nat.reduceLT, Nat.reduceLeDiff, neg_true, neg_false, Bool.not_true, Bool.not_false, decide_true, decide_false, ix_last, ix0, ix1]
    refine ⟨two_ok, ?_⟩
    refine wp_updL rfl (by decide) (gAppend_1 (Nat.lt_of_le_of_lt ?_ (show 1000 < lim by decide))) ?_
    · simp; omega
    · refine ⟨m, by omega, pre ++ [h], dn a h, ?_, by simp only [dn]; omega, by simp only [dn]; omega, by simp; omega, ?_⟩
      · rw [← e]
        show _ = (pre ++ [h]) ++ (if dn a h ∈ l then dn a h :: rf l a m (dn a (dn a h)) else [])
        rw [if_pos hl]; simp
      · simp [ed]
  · simp only [hl, wp_bind, wp_c, wq_var, wp_op1, wp_op2, wp_opN, wq_ret1, wq_ret2, wq_retN, wp_nil, wp_cons, wp_dnil, wp_dcons, wp_esc, wp_escv, wp_escl, wp_tup, wp_lst, wp_bool, wp_tru, wq_retB, wp_not, wp_and, wp_or, wp_mif, wp_andV, wp_orV, wp_notV, wp_true, wp_chain, wp_retC1, wp_retC2, wp_noPart, wp_part, wp_retPart, wp_cut, wp_seq, wp_snil, wp_pass, wp_break, wp_cont, wp_never, wp_expr, wp_sif, wp_ret, wp_retv, wp_retN', wp_asg, wq_store, wp_par, wq_store2, wp_asgT, wp_call, lk_fl, lk_pl, ex_some, gSub_ii, gAdd_ii, gLt_ii, gLe_ii, gGt_ii, gGe_ii, gLt_pp, List.getD_cons_zero, List.getD_cons_succ, List.set_cons_zero, List.set_cons_succ, List.map_cons, List.map_nil, List.length_cons, List.length_nil, List.cons_append, List.nil_append, List.replicate, modeOf_un, modeOf_fl, one1, wp_if, wp_append, wp_setL, wp_intOf, unlk_n, lck_n, wq_retp, gTuple_l, gTuple_t, gList_l, gList_vl, gList_t, gLen_l, gLen_t, gInt_i, gNeg_i, Bool.false_eq_true, if_false, if_true, and_true, true_and, Nat.reduceAdd, Nat.reduceSub, Nat.reduceLT, Nat.reduceLeDiff, neg_true, neg_false, Bool.not_true, Bool.not_false, decide_true, decide_false]
    have : rf l a n (dn a h) = [] := by
      cases n with
      | zero => rfl
      | succ n => show (if dn a h ∈ l then _ else []) = []; rw [if_neg hl]
    rw [this, List.append_nil] at e
    rw [← map_snoc, e]
    exact hQ
theorem p_law_runs {l : List Pt} (L : FloorOk l) {a : Int} : FV F__law_runs [FD l, .int a] (.lst ((runs l a).map FD)) := by
  refine fv_of ?_
  unfold B__law_runs
  simp only [wp_bind, wp_c, wq_var, wp_op1, wp_op2, wp_opN, wq_ret1, wq_ret2, wq_retN, wp_nil, wp_cons, wp_dnil, wp_dcons, wp_esc, wp_escv, wp_escl, wp_tup, wp_lst, wp_bool, wp_tru, wq_retB, wp_not, wp_and, wp_or, wp_mif, wp_andV, wp_orV, wp_notV, wp_true, wp_chain, wp_retC1, wp_retC2, wp_noPart, wp_part, wp_retPart, wp_cut, wp_seq, wp_snil, wp_pass, wp_break, wp_cont, wp_never, wp_expr, wp_sif, wp_ret, wp_retv, wp_retN', wp_asg, wq_store, wp_par, wq_store2, wp_asgT, wp_call, lk_fl, lk_pl, ex_some, gSub_ii, gAdd_ii, gLt_ii, gLe_ii, gGt_ii, gGe_ii, gLt_pp, List.getD_cons_zero, List.getD_cons_succ, List.set_cons_zero, List.set_cons_succ, List.map_cons, List.map_nil, List.length_cons, List.length_nil, List.cons_append, List.nil_append, List.replicate, modeOf_un, modeOf_fl, one1, wp_if, wp_append, wp_setL, wp_intOf, unlk_n, lck_n, wq_retp, gTuple_l, gTuple_t, gList_l, gList_vl, gList_t, gLen_l, gLen_t, gInt_i, gNeg_i, Bool.false_eq_true, if_false, if_true, and_true, true_and, Nat.reduceAdd, Nat.reduceSub, Nat.reduceLT, Nat.reduceLeDiff, neg_true, neg_false, Bool.not_true, Bool.not_false, decide_true, decide_false]
  refine ⟨zero_ok, wp_for (wp_srcI rfl ?_)⟩
  refine wp_floop (fun ds ρ => ∃ dn' rs, l = dn' ++ rs ∧ ds = rs.map prD ∧ ∃ s3 s4 s5, modeOf s3 = .own ∧ modeOf s4 = .own ∧ modeOf s5 = .own ∧ ρ = [.v (FD l), .v (.int a), .fl .own (.lst (((dn'.filter fun c => decide (up a c ∉ l)).map (run l a)).map FD)), s3, s4, s5]) ⟨[], l, rfl, rfl, .un, .un, .un, rfl, rfl, rfl, rfl⟩ ?_ ?_
  · rintro d r ρ ⟨dn', rs, hl, hd, s3, s4, s5, m3, m4, m5, rfl⟩
    cases rs with
    | nil => cases hd
    | cons c rs =>
      injection hd with h1 h2
      subst h1 h2
      have hc : c ∈ l := by rw [hl]; simp
      refine ⟨[.v (FD l), .v (.int a), .fl .own (.lst (((dn'.filter fun c => decide (up a c ∉ l)).map (run l a)).map FD)), .v (.int c.1), .v (.int c.2), s5], ?_, ?_⟩
      · show tgTup 2 _ (.tup [.int c.1, .int c.2]) _ = _
        simp only [tgTup, tgCons, tgNil, putv, wp_bind, wp_c, wq_var, wp_op1, wp_op2, wp_opN, wq_ret1, wq_ret2, wq_retN, wp_nil, wp_cons, wp_dnil, wp_dcons, wp_esc, wp_escv, wp_escl, wp_tup, wp_lst, wp_bool, wp_tru, wq_retB, wp_not, wp_and, wp_or, wp_mif, wp_andV, wp_orV, wp_notV, wp_true, wp_chain, wp_retC1, wp_retC2, wp_noPart, wp_part, wp_retPart, wp_cut, wp_seq, wp_snil, wp_pass, wp_break, wp_cont, wp_never, wp_expr, wp_sif, wp_ret, wp_retv, wp_retN', wp_asg, wq_store, wp_par, wq_store2, wp_asgT, wp_call, lk_fl, lk_pl, ex_some, gSub_ii, gAdd_ii, gLt_ii, gLe_ii, gGt_ii, gGe_ii, gLt_pp, List.getD_cons_zero, List.getD_cons_succ, List.set_cons_zero, List.set_cons_succ, List.map_cons, List.map_nil, List.length_cons, List.length_nil, List.cons_append, List.nil_append, List.replicate, modeOf_un, modeOf_fl, one1, wp_if, wp_append, wp_setL, wp_intOf, unlk_n, lck_n, wq_retp, gTuple_l, gTuple_t, gList_l, gList_vl, gList_t, gLen_l, gLen_t, gInt_i, gNeg_i, Bool.false_eq_true, if_false, if_true, and_true, true_and, Nat.reduceAdd, Nat.reduceSub, Nat.reduceLT, Nat.reduceLeDiff, neg_true, neg_false, Bool.not_true, Bool.not_false, decide_true, decide_false, m3, m4]
      · have nxt : ∀ s5 found, modeOf s5 = .own → found = (((dn' ++ [c]).filter fun c => decide (up a c ∉ l)).map (run l a)).map FD → ∃ dn' rs', l = dn' ++ rs' ∧ rs.map prD = rs'.map prD ∧ ∃ s3' s4' s5', modeOf s3' = .own ∧ modeOf s4' = .own ∧ modeOf s5' = .own ∧
            ([.v (FD l), .v (.int a), .fl .own (.lst found), .v (.int c.1), .v (.int c.2), s5] : Env) = [.v (FD l), .v (.int a), .fl .own (.lst (((dn'.filter fun c => decide (up a c ∉ l)).map (run l a)).map FD)), s3', s4', s5'] := by
          intro s5 found h5 hf
          exact ⟨dn' ++ [c], rs, by rw [hl]; simp, rfl, .v (.int c.1), .v (.int c.2), s5, rfl, rfl, h5, by rw [hf]⟩
        have eu : D.tup [.int (c.1 - 1), .int (c.2 - a)] = prD (up a c) := rfl
        simp only [wp_bind, wp_c, wq_var, wp_op1, wp_op2, wp_opN, wq_ret1, wq_ret2, wq_retN, wp_nil, wp_cons, wp_dnil, wp_dcons, wp_esc, wp_escv, wp_escl, wp_tup, wp_lst, wp_bool, wp_tru, wq_retB, wp_not, wp_and, wp_or, wp_mif, wp_andV, wp_orV, wp_notV, wp_true, wp_chain, wp_retC1, wp_retC2, wp_noPart, wp_part, wp_retPart, wp_cut, wp_seq, wp_snil, wp_pass, wp_break, wp_cont, wp_never, wp_expr, wp_sif, wp_ret, wp_retv, wp_retN', wp_asg, wq_store, wp_par, wq_store2, wp_asgT, wp_call, lk_fl, lk_pl, ex_some, gSub_ii, gAdd_ii, gLt_ii, gLe_ii, gGt_ii, gGe_ii, gLt_pp, List.getD_cons_zero, List.getD_cons_succ, List.set_cons_zero, List.set_cons_succ, List.map_cons, List.map_nil, List.length_cons, List.length_nil, List.cons_append, List.nil_append, List.replicate, modeOf_un, modeOf_fl, one1, wp_if, wp_append, wp_setL, wp_intOf, unlk_n, lck_n, wq_retp, gTuple_l, gTuple_t, gList_l, gList_vl, gList_t, gLen_l, gLen_t, gInt_i, gNeg_i, Bool.false_eq_true, if_false, if_true, and_true, true_and, Nat.reduceAdd, Nat.reduceSub, Nat.reduceLT, Nat.reduceLeDiff, neg_true, neg_false, Bool.not_true, Bool.not_false, decide_true, decide_false]
        refine ⟨two_ok, ?_⟩
        simp only [eu, gIn_t, wp_bind, wp_c, wq_var, wp_op1, wp_op2, wp_opN, wq_ret1, wq_ret2, wq_retN, wp_nil, wp_cons, wp_dnil, wp_dcons, wp_esc, wp_escv, wp_escl, wp_tup, wp_lst, wp_bool, wp_tru, wq_retB, wp_not, wp_and, wp_or, wp_mif, wp_andV, wp_orV, wp_notV, wp_true, wp_chain, wp_retC1, wp_retC2, wp_noPart, wp_part, wp_retPart, wp_cut, wp_seq, wp_snil, wp_pass, wp_break, wp_cont, wp_never, wp_expr, wp_sif, wp_ret, wp_retv, wp_retN', wp_asg, wq_store, wp_par, wq_store2, wp_asgT, wp_call, lk_fl, lk_pl, ex_some, gSub_ii, gAdd_ii, gLt_ii, gLe_ii, gGt_ii, gGe_ii, gLt_pp, List.getD_cons_zero, List.getD_cons_succ, List.set_cons_zero, List.set_cons_succ, List.map_cons, List.map_nil, List.length_cons, List.length_nil, List.cons_append, List.nil_append, List.replicate, modeOf_un, modeOf_fl, one1, wp_if, wp_append, wp_setL, wp_intOf, unlk_n, lck_n, wq_retp, gTuple_l, gTuple_t, gList_l, gList_vl, gList_t, gLen_l, gLen_t, gInt_i, gNeg_i, Bool.false_eq_true, if_false, if_true, and_true, true_and, Nat.reduceAdd, Nat.reduceSub, Nat.reduceLT, Nat.reduceLeDiff, neg_true, neg_false, Bool.not_true, Bool.not_false, decide_true, decide_false, blF]
        by_cases hu : up a c ∈ l
        · simp only [hu, wp_bind, wp_c, wq_var, wp_op1, wp_op2, wp_opN, wq_ret1, wq_ret2, wq_retN, wp_nil, wp_cons, wp_dnil, wp_dcons, wp_esc, wp_escv, wp_escl, wp_tup, wp_lst, wp_bool, wp_tru, wq_retB, wp_not, wp_and, wp_or, wp_mif, wp_andV, wp_orV, wp_notV, wp_true, wp_chain, wp_retC1, wp_retC2, wp_noPart, wp_part, wp_retPart, wp_cut, wp_seq, wp_snil, wp_pass, wp_break, wp_cont, wp_never, wp_expr, wp_sif, wp_ret, wp_retv, wp_retN', wp_asg, wq_store, wp_par, wq_store2, wp_asgT, wp_call, lk_fl, lk_pl, ex_some, gSub_ii, gAdd_ii, gLt_ii, gLe_ii, gGt_ii, gGe_ii, gLt_pp, List.getD_cons_zero, List.getD_cons_succ, List.set_cons_zero, List.set_cons_succ, List.map_cons, List.map_nil, List.length_cons, List.length_nil, List.cons_append, List.nil_append, List.replicate, modeOf_un, modeOf_fl, one1, wp_if, wp_append, wp_setL, wp_intOf, unlk_n, lck_n, wq_retp, gTuple_l, gTuple_t, gList_l, gList_vl, gList_t, gLen_l, gLen_t, gInt_i, gNeg_i, Bool.false_eq_true, if_false, if_true, and_true, true_and, Nat.reduceAdd, Nat.reduceSub, Nat.reduceLT, Nat.reduceLeDiff, neg_true, neg_false, Bool.not_true, Bool.not_false, decide_true, decide_false]
          exact nxt s5 _ m5 (by rw [runs_app]; simp [hu])
        · simp only [hu, wp_bind, wp_c, wq_var, wp_op1, wp_op2, wp_opN, wq_ret1, wq_ret2, wq_retN, wp_nil, wp_cons, wp_dnil, wp_dcons, wp_esc, wp_escv, wp_escl, wp_tup, wp_lst, wp_bool, wp_tru, wq_retB, wp_not, wp_and, wp_or, wp_mif, wp_andV, wp_orV, wp_notV, wp_true, wp_chain, wp_retC1, wp_retC2, wp_noPart, wp_part, wp_retPart, wp_cut, wp_seq, wp_snil, wp_pass, wp_break, wp_cont, wp_never, wp_expr, wp_sif, wp_ret, wp_retv, wp_retN', wp_asg, wq_store, wp_par, wq_store2, wp_asgT, wp_call, lk_fl, lk_pl, ex_some, gSub_ii, gAdd_ii, gLt_ii, gLe_ii, gGt_ii, gGe_ii, gLt_pp, List.getD_cons_zero, List.getD_cons_succ, List.set_cons_zero, List.set_cons_succ, List.map_cons, List.map_nil, List.length_cons, List.length_nil, List.cons_append, List.nil_append, List.replicate, modeOf_un, modeOf_fl, one1, wp_if, wp_append, wp_setL, wp_intOf, unlk_n, lck_n, wq_retp, gTuple_l, gTuple_t, gList_l, gList_vl, gList_t, gLen_l, gLen_t, gInt_i, gNeg_i, Bool.false_eq_true, if_false, if_true, and_true, true_and, Nat.reduceAdd, Nat.reduceSub, Nat.reduceLT, Nat.reduceLeDiff, neg_true, neg_false, Bool.not_true, Bool.not_false, decide_true, decide_false, m5]
          refine ⟨two_ok, size_ok (by omega), ?_⟩
          simp only [deq]
          refine wp_lawalk L hc ?_
          simp only [wp_bind, wp_c, wq_var, wp_op1, wp_op2, wp_opN, wq_ret1, wq_ret2, wq_retN, wp_nil, wp_cons, wp_dnil, wp_dcons, wp_esc, wp_escv, wp_escl, wp_tup, wp_lst, wp_bool, wp_tru, wq_retB, wp_not, wp_and, wp_or, wp_mif, wp_andV, wp_orV, wp_notV, wp_true, wp_chain, wp_retC1, wp_retC2, wp_noPart, wp_part, wp_retPart, wp_cut, wp_seq, wp_snil, wp_pass, wp_break, wp_cont, wp_never, wp_expr, wp_sif, wp_ret, wp_retv, wp_retN', wp_asg, wq_store, wp_par, wq_store2, wp_asgT, wp_call, lk_fl, lk_pl, ex_some, gSub_ii, gAdd_ii, gLt_ii, gLe_ii, gGt_ii, gGe_ii, gLt_pp, List.getD_cons_zero, List.getD_cons_succ, List.set_cons_zero, List.set_cons_succ, List.map_cons, List.map_nil, List.length_cons, List.length_nil, List.cons_append, List.nil_append, List.replicate, modeOf_un, modeOf_fl, one1, wp_if, wp_append, wp_setL, wp_intOf, unlk_n, lck_n, wq_retp, gTuple_l, gTuple_t, gList_l, gList_vl, gList_t, gLen_l, gLen_t, gInt_i, gNeg_i, Bool.false_eq_true, if_false, if_true, and_true, true_and, Nat.reduceAdd, Nat.reduceSub, Nat.reduceLT, Nat.reduceLeDiff, neg_true, neg_false, Bool.not_true, Bool.not_false, decide_true, decide_false]
          refine wp_lstPl rfl ?_
          simp only [wp_bind, wp_c, wq_var, wp_op1, wp_op2, wp_opN, wq_ret1, wq_ret2, wq_retN, wp_nil, wp_cons, wp_dnil, wp_dcons, wp_esc, wp_escv, wp_escl, wp_tup, wp_lst, wp_bool, wp_tru, wq_retB, wp_not, wp_and, wp_or, wp_mif, wp_andV, wp_orV, wp_notV, wp_true, wp_chain, wp_retC1, wp_retC2, wp_noPart, wp_part, wp_retPart, wp_cut, wp_seq, wp_snil, wp_pass, wp_break, wp_cont, wp_never, wp_expr, wp_sif, wp_ret, wp_retv, wp_retN', wp_asg, wq_store, wp_par, wq_store2, wp_asgT, wp_call, lk_fl, lk_pl, ex_some, gSub_ii, gAdd_ii, gLt_ii, gLe_ii, gGt_ii, gGe_ii, gLt_pp, List.getD_cons_zero, List.getD_cons_succ, List.set_cons_zero, List.set_cons_succ, List.map_cons, List.map_nil, List.length_cons, List.length_nil, List.cons_append, List.nil_append, List.replicate, modeOf_un, modeOf_fl, one1, wp_if, wp_append, wp_setL, wp_intOf, unlk_n, lck_n, wq_retp, gTuple_l, gTuple_t, gList_l, gList_vl, gList_t, gLen_l, gLen_t, gInt_i, gNeg_i, Bool.false_eq_true, if_false, if_true, and_true, true_and, Nat.reduceAdd, Nat.reduceSub, Nat.reduceLT, Nat.reduceLeDiff, neg_true, neg_false, Bool.not_true, Bool.not_false, decide_true, decide_false]
          refine wp_updL rfl (by decide) (gAppend_1 (Nat.lt_of_le_of_lt ?_ (show 1000 < lim by decide))) ?_
          · rw [List.length_map, List.length_map]
            refine Nat.le_trans (List.length_filter_le _ _) ?_
            have := L.len
            rw [hl] at this
            simp at this
            omega
          · simp only [wp_bind, wp_c, wq_var, wp_op1, wp_op2, wp_opN, wq_ret1, wq_ret2, wq_retN, wp_nil, wp_cons, wp_dnil, wp_dcons, wp_esc, wp_escv, wp_escl, wp_tup, wp_lst, wp_bool, wp_tru, wq_retB, wp_not, wp_and, wp_or, wp_mif, wp_andV, wp_orV, wp_notV, wp_true, wp_chain, wp_retC1, wp_retC2, wp_noPart, wp_part, wp_retPart, wp_cut, wp_seq, wp_snil, wp_pass, wp_break, wp_cont, wp_never, wp_expr, wp_sif, wp_ret, wp_retv, wp_retN', wp_asg, wq_store, wp_par, wq_store2, wp_asgT, wp_call, lk_fl, lk_pl, ex_some, gSub_ii, gAdd_ii, gLt_ii, gLe_ii, gGt_ii, gGe_ii, gLt_pp, List.getD_cons_zero, List.getD_cons_succ, List.set_cons_zero, List.set_cons_succ, List.map_cons, List.map_nil, List.length_cons, List.length_nil, List.cons_append, List.nil_append, List.replicate, modeOf_un, modeOf_fl, one1, wp_if, wp_append, wp_setL, wp_intOf, unlk_n, lck_n, wq_retp, gTuple_l, gTuple_t, gList_l, gList_vl, gList_t, gLen_l, gLen_t, gInt_i, gNeg_i, Bool.false_eq_true, if_false, if_true, and_true, true_and, Nat.reduceAdd, Nat.reduceSub, Nat.reduceLT, Nat.reduceLeDiff, neg_true, neg_false, Bool.not_true, Bool.not_false, decide_true, decide_false]
            exact nxt _ _ rfl (by rw [runs_app]; simp [hu])
  · rintro ρ ⟨dn', rs, hl, hd, s3, s4, s5, m3, m4, m5, rfl⟩
    cases rs with
    | cons c rs => cases hd
    | nil =>
      rw [List.append_nil] at hl
      subst hl
      simp only [wp_bind, wp_c, wq_var, wp_op1, wp_op2, wp_opN, wq_ret1, wq_ret2, wq_retN, wp_nil, wp_cons, wp_dnil, wp_dcons, wp_esc, wp_escv, wp_escl, wp_tup, wp_lst, wp_bool, wp_tru, wq_retB, wp_not, wp_and, wp_or, wp_mif, wp_andV, wp_orV, wp_notV, wp_true, wp_chain, wp_retC1, wp_retC2, wp_noPart, wp_part, wp_retPart, wp_cut, wp_seq, wp_snil, wp_pass, wp_break, wp_cont, wp_never, wp_expr, wp_sif, wp_ret, wp_retv, wp_retN', wp_asg, wq_store, wp_par, wq_store2, wp_asgT, wp_call, lk_fl, lk_pl, ex_some, gSub_ii, gAdd_ii, gLt_ii, gLe_ii, gGt_ii, gGe_ii, gLt_pp, List.getD_cons_zero, List.getD_cons_succ, List.set_cons_zero, List.set_cons_succ, List.map_cons, List.map_nil, List.length_cons, List.length_nil, List.cons_append, List.nil_append, List.replicate, modeOf_un, modeOf_fl, one1, wp_if, wp_append, wp_setL, wp_intOf, unlk_n, lck_n, wq_retp, gTuple_l, gTuple_t, gList_l, gList_vl, gList_t, gLen_l, gLen_t, gInt_i, gNeg_i, Bool.false_eq_true, if_false, if_true, and_true, true_and, Nat.reduceAdd, Nat.reduceSub, Nat.reduceLT, Nat.reduceLeDiff, neg_true, neg_false, Bool.not_true, Bool.not_false, decide_true, decide_false]
      exact .inl rfl
end K50
namespace K50
open VS
open PySem (sizeLine)
theorem gEq_pp {neg : Bool} {x y : Pt} : gEqG neg (.val (prD x)) (.val (prD y)) = some (.v (.bl (neg != decide (x = y)))) := by
  rw [gEq_dd (shp_prD (n := 11)) (shp_prD (n := 11)), eqb_prD]
theorem gEq_ii {neg : Bool} {x y : Int} : gEqG neg (.val (.int x)) (.val (.int y)) = some (.v (.bl (neg != decide (x = y)))) := by
  rw [gEq_dd shp_int shp_int]
  have : eqb (.int x) (.int y) = decide (x = y) := by
    show (x == y) = decide (x = y)
    by_cases h : x = y <;> simp [h]
  rw [this]
theorem gMul_small {x y : Int} (h : -1000 < x ∧ x < 1000) : gMulI (.val (.int x)) (.val (.int y)) = some (.v (.int (x * y))) := by
  have : small64 x = true := by unfold small64; exact decide_eq_true (by omega)
  show (if small64 x || small64 y then some (D.int (x * y)) else none).map (fun d => RV.v d) = _
  rw [this]; rfl
theorem sIx0 {a b : Int} : gIx (.val (.tup [.int a, .int b])) (.val (.int 0)) = some (.v (.int a)) := gIx_0
theorem sIx1 {a b : Int} : gIx (.val (.tup [.int a, .int b])) (.val (.int 1)) = some (.v (.int b)) := gIx_1
theorem wp_strikewalk {l : List Pt} {x y : Pt} {sa sb : Int} (hs : sa = 1 ∨ sa = -1) {n : Nat} (e1 : y.1 = x.1 + sa * n) (e2 : y.2 = x.2 + sb * n) {s1 s3 s4 : Sl} {Q : Flo → Env → Prop} (q1 : goB l sa sb y n x = true → ∀ ρ, Q .nx ρ) (q2 : goB l sa sb y n x = false → ∀ ρ, Q (.rt (.v (.bl false))) ρ) :
    wp (sWhile (mBool (mOp2 (gEqG true) (mVar 6) (mVar 2)))
      (sSeq (sAsg 6 (mTup (dCons (mOp2 gAdd (mOp2 gIx (mVar 6) (mC (.int 0))) (mOp2 gIx (mVar 5) (mC (.int 0)))) (dCons (mOp2 gAdd (mOp2 gIx (mVar 6) (mC (.int 1))) (mOp2 gIx (mVar 5) (mC (.int 1)))) dNil)))) (sIf (mBool (mOp2 (gIn true) (mVar 6) (mVar 0))) (sRet (mC (.bl false))) sNil)))
      [.v (FD l), s1, .v (prD y), s3, s4, .v (.tup [.int sa, .int sb]), .v (prD x)] Q := by
  refine wp_while (fun m ρ => ∃ h : Pt, y.1 = h.1 + sa * m ∧ y.2 = h.2 + sb * m ∧ goB l sa sb y m h = goB l sa sb y n x ∧ ρ = [.v (FD l), s1, .v (prD y), s3, s4, .v (.tup [.int sa, .int sb]), .v (prD h)]) (n := n) ⟨x, e1, e2, rfl, rfl⟩ ?_
  rintro m ρ ⟨h, a1, a2, eg, rfl⟩
  simp only [wp_bind, wp_c, wq_var, wp_op1, wp_op2, wp_opN, wq_ret1, wq_ret2, wq_retN, wp_nil, wp_cons, wp_dnil, wp_dcons, wp_esc, wp_escv, wp_escl, wp_tup, wp_lst, wp_bool, wp_tru, wq_retB, wp_not, wp_and, wp_or, wp_mif, wp_andV, wp_orV, wp_notV, wp_true, wp_chain, wp_retC1, wp_retC2, wp_noPart, wp_part, wp_retPart, wp_cut, wp_seq, wp_snil, wp_pass, wp_break, wp_cont, wp_never, wp_expr, wp_sif, wp_ret, wp_retv, wp_retN', wp_asg, wq_store, wp_par, wq_store2, wp_asgT, wp_call, lk_fl, lk_pl, ex_some, gSub_ii, gAdd_ii, gLt_ii, gLe_ii, gGt_ii, gGe_ii, gLt_pp, List.getD_cons_zero, List.getD_cons_succ, List.set_cons_zero, List.set_cons_succ, List.map_cons, List.map_nil, List.length_cons, List.length_nil, List.cons_append, List.nil_append, List.replicate, modeOf_un, modeOf_fl, one1, wp_if, wp_append, wp_setL, wp_intOf, unlk_n, lck_n, wq_retp, gTuple_l, gTuple_t, gList_l, gList_vl, gList_t, gLen_l, gLen_t, gInt_i, gNeg_i, Bool.false_eq_true, if_false, if_true, and_true, true_and, Nat.reduceAdd, Nat.reduceSub, Nat.reduceLT, Nat.reduceLeDiff, neg_true, neg_false, Bool.not_true, Bool.not_false, decide_true, decide_false, gEq_pp, blF]
  by_cases hy : h = y
  · subst hy
    simp only [wp_bind, wp_c, wq_var, wp_op1, wp_op2, wp_opN, wq_ret1, wq_ret2, wq_retN, wp_nil, wp_cons, wp_dnil, wp_dcons, wp_esc, wp_escv, wp_escl, wp_tup, wp_lst, wp_bool, wp_tru, wq_retB, wp_not, wp_and, wp_or, wp_mif, wp_andV, wp_orV, wp_notV, wp_true, wp_chain, wp_retC1, wp_retC2, wp_noPart, wp_part, wp_retPart, wp_cut, wp_seq, wp_snil, wp_pass, wp_break, wp_cont, wp_never, wp_expr, wp_sif, wp_ret, wp_retv, wp_retN', wp_asg, wq_store, wp_par, wq_store2, wp_asgT, wp_call, lk_fl, lk_pl, ex_some, gSub_ii, gAdd_ii, gLt_ii, gLe_ii, gGt_ii, gGe_ii, gLt_pp, List.getD_cons_zero, List.getD_cons_succ, List.set_cons_zero, List.set_cons_succ, List.map_cons, List.map_nil, List.length_cons, List.length_nil, List.cons_append, List.nil_append, List.replicate, modeOf_un, modeOf_fl, one1, wp_if, wp_append, wp_setL, wp_intOf, unlk_n, lck_n, wq_retp, gTuple_l, gTuple_t, gList_l, gList_vl, gList_t, gLen_l, gLen_t, gInt_i, gNeg_i, Bool.false_eq_true, if_false, if_true, and_true, true_and, Nat.reduceAdd, Nat.reduceSub, Nat.reduceLT, Nat.reduceLeDiff, neg_true, neg_false, Bool.not_true, Bool.not_false, decide_true, decide_false]
    refine q1 ?_ _
    rw [← eg]
    cases m with
    | zero => simp [goB]
    | succ m => simp [goB]
  · simp only [hy, wp_bind, wp_c, wq_var, wp_op1, wp_op2, wp_opN, wq_ret1, wq_ret2, wq_retN, wp_nil, wp_cons, wp_dnil, wp_dcons, wp_esc, wp_escv, wp_escl, wp_tup, wp_lst, wp_bool, wp_tru, wq_retB, wp_not, wp_and, wp_or, wp_mif, wp_andV, wp_orV, wp_notV, wp_true, wp_chain, wp_retC1, wp_retC2, wp_noPart, wp_part, wp_retPart, wp_cut, wp_seq, wp_snil, wp_pass, wp_break, wp_cont, wp_never, wp_expr, wp_sif, wp_ret, wp_retv, wp_retN', wp_asg, wq_store, wp_par, wq_store2, wp_asgT, wp_call, lk_fl, lk_pl, ex_some, gSub_ii, gAdd_ii, gLt_ii, gLe_ii, gGt_ii, gGe_ii, gLt_pp, List.getD_cons_zero, List.getD_cons_succ, List.set_cons_zero, List.set_cons_succ, List.map_cons, List.map_nil, List.length_cons, List.length_nil, List.cons_append, List.nil_append, List.replicate, modeOf_un, modeOf_fl, one1, wp_if, wp_append, wp_setL, wp_intOf, unlk_n, lck_n, wq_retp, gTuple_l, gTuple_t, gList_l, gList_vl, gList_t, gLen_l, gLen_t, gInt_i, gNeg_i, Bool.false_eq_true, if_false, if_true, and_true, true_and, Nat.reduceAdd, Nat.reduceSub, Nat.reduceLT, Nat.reduceLeDiff, neg_true, neg_false, Bool.not_true, Bool.not_false, decide_true, decide_false, ix0, ix1, sIx0, sIx1]
    refine ⟨two_ok, ?_⟩
    have en : D.tup [.int (h.1 + sa), .int (h.2 + sb)] = prD (h.1 + sa, h.2 + sb) := rfl
    simp only [en, gIn_t, blF, wp_bind, wp_c, wq_var, wp_op1, wp_op2, wp_opN, wq_ret1, wq_ret2, wq_retN, wp_nil, wp_cons, wp_dnil, wp_dcons, wp_esc, wp_escv, wp_escl, wp_tup, wp_lst, wp_bool, wp_tru, wq_retB, wp_not, wp_and, wp_or, wp_mif, wp_andV, wp_orV, wp_notV, wp_true, wp_chain, wp_retC1, wp_retC2, wp_noPart, wp_part, wp_retPart, wp_cut, wp_seq, wp_snil, wp_pass, wp_break, wp_cont, wp_never, wp_expr, wp_sif, wp_ret, wp_retv, wp_retN', wp_asg, wq_store, wp_par, wq_store2, wp_asgT, wp_call, lk_fl, lk_pl, ex_some, gSub_ii, gAdd_ii, gLt_ii, gLe_ii, gGt_ii, gGe_ii, gLt_pp, List.getD_cons_zero, List.getD_cons_succ, List.set_cons_zero, List.set_cons_succ, List.map_cons, List.map_nil, List.length_cons, List.length_nil, List.cons_append, List.nil_append, List.replicate, modeOf_un, modeOf_fl, one1, wp_if, wp_append, wp_setL, wp_intOf, unlk_n, lck_n, wq_retp, gTuple_l, gTuple_t, gList_l, gList_vl, gList_t, gLen_l, gLen_t, gInt_i, gNeg_i, Bool.false_eq_true, if_false, if_true, and_true, true_and, Nat.reduceAdd, Nat.reduceSub, Nat.reduceLT, Nat.reduceLeDiff, neg_true, neg_false, Bool.not_true, Bool.not_false, decide_true, decide_false]
    cases m with
    | zero =>
      apply absurd (Prod.ext _ _) hy
      · simp at a1; exact a1.symm
      · simp at a2; exact a2.symm
    | succ m =>
      have eg : (if h = y then true else if (h.1 + sa, h.2 + sb) ∈ l then goB l sa sb y m (h.1 + sa, h.2 + sb) else false) = goB l sa sb y n x := eg
      rw [if_neg hy] at eg
      by_cases hm : (h.1 + sa, h.2 + sb) ∈ l
      · rw [if_pos hm] at eg
        simp only [hm, wp_bind, wp_c, wq_var, wp_op1, wp_op2, wp_opN, wq_ret1, wq_ret2, wq_retN, wp_nil, wp_cons, wp_dnil, wp_dcons, wp_esc, wp_escv, wp_escl, wp_tup, wp_lst, wp_bool, wp_tru, wq_retB, wp_not, wp_and, wp_or, wp_mif, wp_andV, wp_orV, wp_notV, wp_true, wp_chain, wp_retC1, wp_retC2, wp_noPart, wp_part, wp_retPart, wp_cut, wp_seq, wp_snil, wp_pass, wp_break, wp_cont, wp_never, wp_expr, wp_sif, wp_ret, wp_retv, wp_retN', wp_asg, wq_store, wp_par, wq_store2, wp_asgT, wp_call, lk_fl, lk_pl, ex_some, gSub_ii, gAdd_ii, gLt_ii, gLe_ii, gGt_ii, gGe_ii, gLt_pp, List.getD_cons_zero, List.getD_cons_succ, List.set_cons_zero, List.set_cons_succ, List.map_cons, List.map_nil, List.length_cons, List.length_nil, List.cons_append, List.nil_append, List.replicate, modeOf_un, modeOf_fl, one1, wp_if, wp_append, wp_setL, wp_intOf, unlk_n, lck_n, wq_retp, gTuple_l, gTuple_t, gList_l, gList_vl, gList_t, gLen_l, gLen_t, gInt_i, gNeg_i, Bool.false_eq_true, if_false, if_true, and_true, true_and, Nat.reduceAdd, Nat.reduceSub, Nat.reduceLT, Nat.reduceLeDiff, neg_true, neg_false, Bool.not_true, Bool.not_false, decide_true, decide_false]
        refine ⟨m, by omega, (h.1 + sa, h.2 + sb), ?_, ?_, eg, rfl⟩
        · rw [a1]; push_cast; rw [Int.mul_add, Int.mul_one]; omega
        · rw [a2]; push_cast; rw [Int.mul_add, Int.mul_one]; omega
      · rw [if_neg hm] at eg
        simp only [hm, wp_bind, wp_c, wq_var, wp_op1, wp_op2, wp_opN, wq_ret1, wq_ret2, wq_retN, wp_nil, wp_cons, wp_dnil, wp_dcons, wp_esc, wp_escv, wp_escl, wp_tup, wp_lst, wp_bool, wp_tru, wq_retB, wp_not, wp_and, wp_or, wp_mif, wp_andV, wp_orV, wp_notV, wp_true, wp_chain, wp_retC1, wp_retC2, wp_noPart, wp_part, wp_retPart, wp_cut, wp_seq, wp_snil, wp_pass, wp_break, wp_cont, wp_never, wp_expr, wp_sif, wp_ret, wp_retv, wp_retN', wp_asg, wq_store, wp_par, wq_store2, wp_asgT, wp_call, lk_fl, lk_pl, ex_some, gSub_ii, gAdd_ii, gLt_ii, gLe_ii, gGt_ii, gGe_ii, gLt_pp, List.getD_cons_zero, List.getD_cons_succ, List.set_cons_zero, List.set_cons_succ, List.map_cons, List.map_nil, List.length_cons, List.length_nil, List.cons_append, List.nil_append, List.replicate, modeOf_un, modeOf_fl, one1, wp_if, wp_append, wp_setL, wp_intOf, unlk_n, lck_n, wq_retp, gTuple_l, gTuple_t, gList_l, gList_vl, gList_t, gLen_l, gLen_t, gInt_i, gNeg_i, Bool.false_eq_true, if_false, if_true, and_true, true_and, Nat.reduceAdd, Nat.reduceSub, Nat.reduceLT, Nat.reduceLeDiff, neg_true, neg_false, Bool.not_true, Bool.not_false, decide_true, decide_false]
        exact q2 eg.symm _
theorem p_law_strikes {l : List Pt} (L : FloorOk l) {x y : Pt} (hx : x ∈ l) (hy : y ∈ l) : FV F__law_strikes [FD l, prD x, prD y] (.val (.bl (stB l x y))) := by
  refine fv_of ?_
  unfold B__law_strikes
  have rx := L.rng x hx
  have ry := L.rng y hy
  simp only [wp_bind, wp_c, wq_var, wp_op1, wp_op2, wp_opN, wq_ret1, wq_ret2, wq_retN, wp_nil, wp_cons, wp_dnil, wp_dcons, wp_esc, wp_escv, wp_escl, wp_tup, wp_lst, wp_bool, wp_tru, wq_retB, wp_not, wp_and, wp_or, wp_mif, wp_andV, wp_orV, wp_notV, wp_true, wp_chain, wp_retC1, wp_retC2, wp_noPart, wp_part, wp_retPart, wp_cut, wp_seq, wp_snil, wp_pass, wp_break, wp_cont, wp_never, wp_expr, wp_sif, wp_ret, wp_retv, wp_retN', wp_asg, wq_store, wp_par, wq_store2, wp_asgT, wp_call, lk_fl, lk_pl, ex_some, gSub_ii, gAdd_ii, gLt_ii, gLe_ii, gGt_ii, gGe_ii, gLt_pp, List.getD_cons_zero, List.getD_cons_succ, List.set_cons_zero, List.set_cons_succ, List.map_cons, List.map_nil, List.length_cons, List.length_nil, List.cons_append, List.nil_append, List.replicate, modeOf_un, modeOf_fl, one1, wp_if, wp_append, wp_setL, wp_intOf, unlk_n, lck_n, wq_retp, gTuple_l, gTuple_t, gList_l, gList_vl, gList_t, gLen_l, gLen_t, gInt_i, gNeg_i, Bool.false_eq_true, if_false, if_true, and_true, true_and, Nat.reduceAdd, Nat.reduceSub, Nat.reduceLT, Nat.reduceLeDiff, neg_true, neg_false, Bool.not_true, Bool.not_false, decide_true, decide_false, ix0, ix1, gEq_pp, blF]
  by_cases h0 : x = y
  · have : stB l x y = false := by unfold stB; rw [if_pos (.inl h0)]
    rw [this]
    simp [h0]
  · simp only [h0, wp_bind, wp_c, wq_var, wp_op1, wp_op2, wp_opN, wq_ret1, wq_ret2, wq_retN, wp_nil, wp_cons, wp_dnil, wp_dcons, wp_esc, wp_escv, wp_escl, wp_tup, wp_lst, wp_bool, wp_tru, wq_retB, wp_not, wp_and, wp_or, wp_mif, wp_andV, wp_orV, wp_notV, wp_true, wp_chain, wp_retC1, wp_retC2, wp_noPart, wp_part, wp_retPart, wp_cut, wp_seq, wp_snil, wp_pass, wp_break, wp_cont, wp_never, wp_expr, wp_sif, wp_ret, wp_retv, wp_retN', wp_asg, wq_store, wp_par, wq_store2, wp_asgT, wp_call, lk_fl, lk_pl, ex_some, gSub_ii, gAdd_ii, gLt_ii, gLe_ii, gGt_ii, gGe_ii, gLt_pp, List.getD_cons_zero, List.getD_cons_succ, List.set_cons_zero, List.set_cons_succ, List.map_cons, List.map_nil, List.length_cons, List.length_nil, List.cons_append, List.nil_append, List.replicate, modeOf_un, modeOf_fl, one1, wp_if, wp_append, wp_setL, wp_intOf, unlk_n, lck_n, wq_retp, gTuple_l, gTuple_t, gList_l, gList_vl, gList_t, gLen_l, gLen_t, gInt_i, gNeg_i, Bool.false_eq_true, if_false, if_true, and_true, true_and, Nat.reduceAdd, Nat.reduceSub, Nat.reduceLT, Nat.reduceLeDiff, neg_true, neg_false, Bool.not_true, Bool.not_false, decide_true, decide_false]
    rw [gMul_small (by omega), gMul_small (by omega)]
    simp only [wp_bind, wp_c, wq_var, wp_op1, wp_op2, wp_opN, wq_ret1, wq_ret2, wq_retN, wp_nil, wp_cons, wp_dnil, wp_dcons, wp_esc, wp_escv, wp_escl, wp_tup, wp_lst, wp_bool, wp_tru, wq_retB, wp_not, wp_and, wp_or, wp_mif, wp_andV, wp_orV, wp_notV, wp_true, wp_chain, wp_retC1, wp_retC2, wp_noPart, wp_part, wp_retPart, wp_cut, wp_seq, wp_snil, wp_pass, wp_break, wp_cont, wp_never, wp_expr, wp_sif, wp_ret, wp_retv, wp_retN', wp_asg, wq_store, wp_par, wq_store2, wp_asgT, wp_call, lk_fl, lk_pl, ex_some, gSub_ii, gAdd_ii, gLt_ii, gLe_ii, gGt_ii, gGe_ii, gLt_pp, List.getD_cons_zero, List.getD_cons_succ, List.set_cons_zero, List.set_cons_succ, List.map_cons, List.map_nil, List.length_cons, List.length_nil, List.cons_append, List.nil_append, List.replicate, modeOf_un, modeOf_fl, one1, wp_if, wp_append, wp_setL, wp_intOf, unlk_n, lck_n, wq_retp, gTuple_l, gTuple_t, gList_l, gList_vl, gList_t, gLen_l, gLen_t, gInt_i, gNeg_i, Bool.false_eq_true, if_false, if_true, and_true, true_and, Nat.reduceAdd, Nat.reduceSub, Nat.reduceLT, Nat.reduceLeDiff, neg_true, neg_false, Bool.not_true, Bool.not_false, decide_true, decide_false, gEq_ii, blF]
    by_cases h1 : (y.1 - x.1) * (y.1 - x.1) = (y.2 - x.2) * (y.2 - x.2)
    · have eg : stB l x y = goB l (sgn (y.1 - x.1)) (sgn (y.2 - x.2)) y (y.1 - x.1).natAbs x := by
        unfold stB; rw [if_neg (by rintro (z | z); exact h0 z; exact z h1)]
      have h2 := sq_eq.mp h1
      have e1 : y.1 = x.1 + sgn (y.1 - x.1) * (y.1 - x.1).natAbs := by
        unfold sgn
        split <;> omega
      have e2 : y.2 = x.2 + sgn (y.2 - x.2) * (y.1 - x.1).natAbs := by
        unfold sgn
        split <;> omega
      simp only [h1, wp_bind, wp_c, wq_var, wp_op1, wp_op2, wp_opN, wq_ret1, wq_ret2, wq_retN, wp_nil, wp_cons, wp_dnil, wp_dcons, wp_esc, wp_escv, wp_escl, wp_tup, wp_lst, wp_bool, wp_tru, wq_retB, wp_not, wp_and, wp_or, wp_mif, wp_andV, wp_orV, wp_notV, wp_true, wp_chain, wp_retC1, wp_retC2, wp_noPart, wp_part, wp_retPart, wp_cut, wp_seq, wp_snil, wp_pass, wp_break, wp_cont, wp_never, wp_expr, wp_sif, wp_ret, wp_retv, wp_retN', wp_asg, wq_store, wp_par, wq_store2, wp_asgT, wp_call, lk_fl, lk_pl, ex_some, gSub_ii, gAdd_ii, gLt_ii, gLe_ii, gGt_ii, gGe_ii, gLt_pp, List.getD_cons_zero, List.getD_cons_succ, List.set_cons_zero, List.set_cons_succ, List.map_cons, List.map_nil, List.length_cons, List.length_nil, List.cons_append, List.nil_append, List.replicate, modeOf_un, modeOf_fl, one1, wp_if, wp_append, wp_setL, wp_intOf, unlk_n, lck_n, wq_retp, gTuple_l, gTuple_t, gList_l, gList_vl, gList_t, gLen_l, gLen_t, gInt_i, gNeg_i, Bool.false_eq_true, if_false, if_true, and_true, true_and, Nat.reduceAdd, Nat.reduceSub, Nat.reduceLT, Nat.reduceLeDiff, neg_true, neg_false, Bool.not_true, Bool.not_false, decide_true, decide_false]
      by_cases s1 : 0 < y.1 - x.1 <;> by_cases s2 : 0 < y.2 - x.2 <;> simp only [s1, s2, wp_bind, wp_c, wq_var, wp_op1, wp_op2, wp_opN, wq_ret1, wq_ret2, wq_retN, wp_nil, wp_cons, wp_dnil, wp_dcons, wp_esc, wp_escv, wp_escl, wp_tup, wp_lst, wp_bool, wp_tru, wq_retB, wp_not, wp_and, wp_or, wp_mif, wp_andV, wp_orV, wp_notV, wp_true, wp_chain, wp_retC1, wp_retC2, wp_noPart, wp_part, wp_retPart, wp_cut, wp_seq, wp_snil, wp_pass, wp_break, wp_cont, wp_never, wp_expr, wp_sif, wp_ret, wp_retv, wp_retN', wp_asg, wq_store, wp_par, wq_store2, wp_asgT, wp_call, lk_fl, lk_pl, ex_some, gSub_ii, gAdd_ii, gLt_ii, gLe_ii, gGt_ii, gGe_ii, gLt_pp, List.getD_cons_zero, List.getD_cons_succ, List.set_cons_zero, List.set_cons_succ, List.map_cons, List.map_nil, List.length_cons, List.length_nil, List.cons_append, List.nil_append, List.replicate, modeOf_un, modeOf_fl, one1, wp_if, wp_append, wp_setL, wp_intOf, unlk_n, lck_n, wq_retp, gTuple_l, gTuple_t, gList_l, gList_vl, gList_t, gLen_l, gLen_t, gInt_i, gNeg_i, Bool.false_eq_true, if_false, if_true, and_true, true_and, Nat.reduceAdd, Nat.reduceSub, Nat.reduceLT, Nat.reduceLeDiff, neg_true, neg_false, Bool.not_true, Bool.not_false, decide_true, decide_false] <;> refine ⟨two_ok, ?_⟩
      · rw [show sgn (y.1 - x.1) = 1 from if_pos s1] at e1 eg
        rw [show sgn (y.2 - x.2) = 1 from if_pos s2] at e2 eg
        exact wp_strikewalk (.inl rfl) e1 e2 (fun h ρ => .inl (by rw [eg, h])) fun h ρ => .inl (by rw [eg, h])
      · rw [show sgn (y.1 - x.1) = 1 from if_pos s1] at e1 eg
        rw [show sgn (y.2 - x.2) = -1 from if_neg s2] at e2 eg
        exact wp_strikewalk (.inl rfl) e1 e2 (fun h ρ => .inl (by rw [eg, h])) fun h ρ => .inl (by rw [eg, h])
      · rw [show sgn (y.1 - x.1) = -1 from if_neg s1] at e1 eg
        rw [show sgn (y.2 - x.2) = 1 from if_pos s2] at e2 eg
        exact wp_strikewalk (.inr rfl) e1 e2 (fun h ρ => .inl (by rw [eg, h])) fun h ρ => .inl (by rw [eg, h])
      · rw [show sgn (y.1 - x.1) = -1 from if_neg s1] at e1 eg
        rw [show sgn (y.2 - x.2) = -1 from if_neg s2] at e2 eg
        exact wp_strikewalk (.inr rfl) e1 e2 (fun h ρ => .inl (by rw [eg, h])) fun h ρ => .inl (by rw [eg, h])
    · have : stB l x y = false := by unfold stB; rw [if_pos (.inr h1)]
      simp [h1, this]
end K50
namespace K50
open VS
open PySem (sizeLine)
theorem rf_len {l : List Pt} {a : Int} : ∀ {n : Nat} {c : Pt}, (rf l a n c).length ≤ n
  | 0, _ => Nat.le_refl _
  | n + 1, c => by
    unfold rf
    split
    · rw [List.length_cons]; exact Nat.succ_le_succ rf_len
    · exact Nat.zero_le _
theorem run_len {l : List Pt} {a : Int} {c : Pt} : (run l a c).length ≤ 61 := rf_len
def gat (c : Pt) (rs : List (List Pt)) : List Pt := (rs.filter fun r => decide (c ∈ r)).flatMap fun r => r.filter fun z => decide (z ≠ c)
theorem gat_snoc {c : Pt} {rs : List (List Pt)} {r : List Pt} : gat c (rs ++ [r]) = gat c rs ++ if c ∈ r then r.filter (fun z => decide (z ≠ c)) else [] := by
  unfold gat
  rw [List.filter_append, List.flatMap_append]
  by_cases h : c ∈ r <;> simp [h]
theorem gat_len {c : Pt} : ∀ {rs : List (List Pt)}, (∀ r ∈ rs, r.length ≤ 61) → (gat c rs).length ≤ 61 * rs.length
  | [], _ => by simp [gat]
  | r :: rs, h => by
    have ih := gat_len (c := c) (rs := rs) fun x hx => h x (List.mem_cons_of_mem _ hx)
    have hr := h r List.mem_cons_self
    have hf : (r.filter fun z => decide (z ≠ c)).length ≤ 61 := Nat.le_trans (List.length_filter_le _ _) hr
    unfold gat at ih ⊢
    rw [List.length_cons]
    by_cases hc : c ∈ r
    · rw [List.filter_cons, if_pos (by simpa using hc), List.flatMap_cons, List.length_append]; omega
    · rw [List.filter_cons, if_neg (by simpa using hc)]; omega
theorem runs_61 {l : List Pt} {a : Int} : ∀ r ∈ runs l a, r.length ≤ 61 := fun r hr => by
  unfold runs at hr
  obtain ⟨c, _, rfl⟩ := List.mem_map.mp hr
  exact run_len
/-- the others of a run -/
theorem wp_others {ρ : Env} {r : List Pt} {c : Pt} {P : RV → Env → Prop} (h4 : ρ.getD 4 .un = .v (FD r)) (h1 : ρ.getD 1 .un = .v (prD c)) (hl : ρ.length = 6) (hr : r.length ≤ 61) (p : P (.fl (.lst ((r.filter fun z => decide (z ≠ c)).map prD))) ρ) :
    wp (mComp (mSrcA (mVar 4)) [5] (putv 5) (mBool (mOp2 (gEqG true) (mVar 5) (mVar 1))) (mVar 5)) ρ P := by
  refine wp_compT (L := r) (g := prD) (fun z => decide (z ≠ c)) prD (size_ok (by omega)) (wp_srcI h4 ⟨rfl, fun x hx => ?_, p⟩)
  have hwl : (wipeE ρ [5]).length = ρ.length := wipeE_length ρ _
  have gj : (wipeE ρ [5]).getD 5 .un = .un := by rw [wipeE_get]; simp
  have e5 : ((wipeE ρ [5]).set 5 (.v (prD x))).getD 5 .un = .v (prD x) := getD_set_same (by rw [hwl]; omega)
  have e1 : ((wipeE ρ [5]).set 5 (.v (prD x))).getD 1 .un = .v (prD c) := by rw [getD_set_ne (by decide), wipeE_get, if_neg (by decide), h1]
  have ew : wipeE ((wipeE ρ [5]).set 5 (.v (prD x))) [5] = wipeE ρ [5] := by
    refine ext_getD' (by simp [wipeE_length]) fun m => ?_
    rw [wipeE_get, wipeE_get]
    by_cases hm : m ∈ [5]
    · rw [if_pos hm, if_pos hm]
    · rw [if_neg hm, if_neg hm]
      simp only [List.mem_cons, List.not_mem_nil, or_false] at hm
      rw [getD_set_ne hm, wipeE_get, if_neg (by simp [hm])]
  refine ⟨(wipeE ρ [5]).set 5 (.v (prD x)), ?_, ?_⟩
  · unfold putv
    rw [if_pos ⟨by rw [gj]; rfl, by rw [hwl]; omega⟩]
  · simp only [wp_bind, wp_c, wq_var, wp_op1, wp_op2, wp_opN, wq_ret1, wq_ret2, wq_retN, wp_nil, wp_cons, wp_dnil, wp_dcons, wp_esc, wp_escv, wp_escl, wp_tup, wp_lst, wp_bool, wp_tru, wq_retB, wp_not, wp_and, wp_or, wp_mif, wp_andV, wp_orV, wp_notV, wp_true, wp_chain, wp_retC1, wp_retC2, wp_noPart, wp_part, wp_retPart, wp_cut, wp_seq, wp_snil, wp_pass, wp_break, wp_cont, wp_never, wp_expr, wp_sif, wp_ret, wp_retv, wp_retN', wp_asg, wq_store, wp_par, wq_store2, wp_asgT, wp_call, lk_fl, lk_pl, ex_some, gSub_ii, gAdd_ii, gLt_ii, gLe_ii, gGt_ii, gGe_ii, gLt_pp, List.getD_cons_zero, List.getD_cons_succ, List.set_cons_zero, List.set_cons_succ, List.map_cons, List.map_nil, List.length_cons, List.length_nil, List.cons_append, List.nil_append, List.replicate, modeOf_un, modeOf_fl, one1, wp_if, wp_append, wp_setL, wp_intOf, unlk_n, lck_n, wq_retp, gTuple_l, gTuple_t, gList_l, gList_vl, gList_t, gLen_l, gLen_t, gInt_i, gNeg_i, Bool.false_eq_true, if_false, if_true, and_true, true_and, Nat.reduceAdd, Nat.reduceSub, Nat.reduceLT, Nat.reduceLeDiff, neg_true, neg_false, Bool.not_true, Bool.not_false, decide_true, decide_false, e5, e1, gEq_pp, blF]
    refine ⟨by simp, fun _ => ew, fun _ => ew⟩
theorem wp_gather {l : List Pt} (L : FloorOk l) {a : Int} {c : Pt} {acc : List Pt} (ha : acc.length ≤ 61 * 400) {s4 s5 : Sl} (m4 : modeOf s4 = .own) (m5 : modeOf s5 = .own) {Q : Flo → Env → Prop}
    (hQ : ∀ s4 s5, modeOf s4 = .own → modeOf s5 = .own → Q .nx [.v (FD l), .v (prD c), .fl .own (.lst ((acc ++ gath l a c).map prD)), .v (.int a), s4, s5]) :
    wp (sFor (mSrcA (mCall F_runs_in (mCons (mVar 0) (mCons (mVar 3) mNil)))) (putv 4) (sIf (mBool (mOp2 (gIn false) (mVar 1) (mVar 4))) (sAugAdd 2 (mComp (mSrcA (mVar 4)) [5] (putv 5) (mBool (mOp2 (gEqG true) (mVar 5) (mVar 1))) (mVar 5))) sNil))
      [.v (FD l), .v (prD c), .fl .own (.lst (acc.map prD)), .v (.int a), s4, s5] Q := by
  refine wp_for (wp_srcA ?_)
  simp only [wp_bind, wp_c, wq_var, wp_op1, wp_op2, wp_opN, wq_ret1, wq_ret2, wq_retN, wp_nil, wp_cons, wp_dnil, wp_dcons, wp_esc, wp_escv, wp_escl, wp_tup, wp_lst, wp_bool, wp_tru, wq_retB, wp_not, wp_and, wp_or, wp_mif, wp_andV, wp_orV, wp_notV, wp_true, wp_chain, wp_retC1, wp_retC2, wp_noPart, wp_part, wp_retPart, wp_cut, wp_seq, wp_snil, wp_pass, wp_break, wp_cont, wp_never, wp_expr, wp_sif, wp_ret, wp_retv, wp_retN', wp_asg, wq_store, wp_par, wq_store2, wp_asgT, wp_call, lk_fl, lk_pl, ex_some, gSub_ii, gAdd_ii, gLt_ii, gLe_ii, gGt_ii, gGe_ii, gLt_pp, List.getD_cons_zero, List.getD_cons_succ, List.set_cons_zero, List.set_cons_succ, List.map_cons, List.map_nil, List.length_cons, List.length_nil, List.cons_append, List.nil_append, List.replicate, modeOf_un, modeOf_fl, one1, wp_if, wp_append, wp_setL, wp_intOf, unlk_n, lck_n, wq_retp, gTuple_l, gTuple_t, gList_l, gList_vl, gList_t, gLen_l, gLen_t, gInt_i, gNeg_i, Bool.false_eq_true, if_false, if_true, and_true, true_and, Nat.reduceAdd, Nat.reduceSub, Nat.reduceLT, Nat.reduceLeDiff, neg_true, neg_false, Bool.not_true, Bool.not_false, decide_true, decide_false]
  refine wp_fv2 (p_runs_in L) ?_
  refine .inr (.inr (.inl ⟨_, rfl, ?_⟩))
  refine wp_floop (fun ds ρ => ∃ dn' rs, runs l a = dn' ++ rs ∧ ds = rs.map FD ∧ ∃ s4 s5, modeOf s4 = .own ∧ modeOf s5 = .own ∧ ρ = [.v (FD l), .v (prD c), .fl .own (.lst ((acc ++ gat c dn').map prD)), .v (.int a), s4, s5]) ⟨[], runs l a, rfl, rfl, s4, s5, m4, m5, by simp [gat]⟩ ?_ ?_
  · rintro d r ρ ⟨dn', rs, hl, hd, s4, s5, m4, m5, rfl⟩
    cases rs with
    | nil => cases hd
    | cons x rs =>
      injection hd with h1 h2
      subst h1 h2
      refine ⟨[.v (FD l), .v (prD c), .fl .own (.lst ((acc ++ gat c dn').map prD)), .v (.int a), .v (FD x), s5], ?_, ?_⟩
      · unfold putv
        rw [if_pos ⟨m4, by simp⟩]; rfl
      · have hx : x.length ≤ 61 := runs_61 x (by rw [hl]; simp)
        have hrl := runs_small L (a := a)
        rw [hl] at hrl
        simp at hrl
        have hg : (gat c dn').length ≤ 61 * 400 := Nat.le_trans (gat_len fun r hr => runs_61 (l := l) (a := a) r (by rw [hl]; simp [hr])) (Nat.mul_le_mul_left _ (by omega))
        simp only [wp_bind, wp_c, wq_var, wp_op1, wp_op2, wp_opN, wq_ret1, wq_ret2, wq_retN, wp_nil, wp_cons, wp_dnil, wp_dcons, wp_esc, wp_escv, wp_escl, wp_tup, wp_lst, wp_bool, wp_tru, wq_retB, wp_not, wp_and, wp_or, wp_mif, wp_andV, wp_orV, wp_notV, wp_true, wp_chain, wp_retC1, wp_retC2, wp_noPart, wp_part, wp_retPart, wp_cut, wp_seq, wp_snil, wp_pass, wp_break, wp_cont, wp_never, wp_expr, wp_sif, wp_ret, wp_retv, wp_retN', wp_asg, wq_store, wp_par, wq_store2, wp_asgT, wp_call, lk_fl, lk_pl, ex_some, gSub_ii, gAdd_ii, gLt_ii, gLe_ii, gGt_ii, gGe_ii, gLt_pp, List.getD_cons_zero, List.getD_cons_succ, List.set_cons_zero, List.set_cons_succ, List.map_cons, List.map_nil, List.length_cons, List.length_nil, List.cons_append, List.nil_append, List.replicate, modeOf_un, modeOf_fl, one1, wp_if, wp_append, wp_setL, wp_intOf, unlk_n, lck_n, wq_retp, gTuple_l, gTuple_t, gList_l, gList_vl, gList_t, gLen_l, gLen_t, gInt_i, gNeg_i, Bool.false_eq_true, if_false, if_true, and_true, true_and, Nat.reduceAdd, Nat.reduceSub, Nat.reduceLT, Nat.reduceLeDiff, neg_true, neg_false, Bool.not_true, Bool.not_false, decide_true, decide_false, gIn_t, blF]
        by_cases hc : c ∈ x
        · simp only [hc, wp_bind, wp_c, wq_var, wp_op1, wp_op2, wp_opN, wq_ret1, wq_ret2, wq_retN, wp_nil, wp_cons, wp_dnil, wp_dcons, wp_esc, wp_escv, wp_escl, wp_tup, wp_lst, wp_bool, wp_tru, wq_retB, wp_not, wp_and, wp_or, wp_mif, wp_andV, wp_orV, wp_notV, wp_true, wp_chain, wp_retC1, wp_retC2, wp_noPart, wp_part, wp_retPart, wp_cut, wp_seq, wp_snil, wp_pass, wp_break, wp_cont, wp_never, wp_expr, wp_sif, wp_ret, wp_retv, wp_retN', wp_asg, wq_store, wp_par, wq_store2, wp_asgT, wp_call, lk_fl, lk_pl, ex_some, gSub_ii, gAdd_ii, gLt_ii, gLe_ii, gGt_ii, gGe_ii, gLt_pp, List.getD_cons_zero, List.getD_cons_succ, List.set_cons_zero, List.set_cons_succ, List.map_cons, List.map_nil, List.length_cons, List.length_nil, List.cons_append, List.nil_append, List.replicate, modeOf_un, modeOf_fl, one1, wp_if, wp_append, wp_setL, wp_intOf, unlk_n, lck_n, wq_retp, gTuple_l, gTuple_t, gList_l, gList_vl, gList_t, gLen_l, gLen_t, gInt_i, gNeg_i, Bool.false_eq_true, if_false, if_true, and_true, true_and, Nat.reduceAdd, Nat.reduceSub, Nat.reduceLT, Nat.reduceLeDiff, neg_true, neg_false, Bool.not_true, Bool.not_false, decide_true, decide_false]
          refine wp_augL rfl (wp_others rfl rfl rfl hx ⟨_, _, rfl, rfl, by decide, ?_, ?_⟩)
          · have := List.length_filter_le (fun z => decide (z ≠ c)) x
            simp only [List.length_map, List.length_append]
            exact Nat.le_trans (show _ ≤ 100000 by omega) (by decide)
          · exact ⟨dn' ++ [x], rs, by rw [hl]; simp, rfl, .v (FD x), s5, rfl, m5, by rw [gat_snoc, if_pos hc]; simp⟩
        · simp only [hc, wp_bind, wp_c, wq_var, wp_op1, wp_op2, wp_opN, wq_ret1, wq_ret2, wq_retN, wp_nil, wp_cons, wp_dnil, wp_dcons, wp_esc, wp_escv, wp_escl, wp_tup, wp_lst, wp_bool, wp_tru, wq_retB, wp_not, wp_and, wp_or, wp_mif, wp_andV, wp_orV, wp_notV, wp_true, wp_chain, wp_retC1, wp_retC2, wp_noPart, wp_part, wp_retPart, wp_cut, wp_seq, wp_snil, wp_pass, wp_break, wp_cont, wp_never, wp_expr, wp_sif, wp_ret, wp_retv, wp_retN', wp_asg, wq_store, wp_par, wq_store2, wp_asgT, wp_call, lk_fl, lk_pl, ex_some, gSub_ii, gAdd_ii, gLt_ii, gLe_ii, gGt_ii, gGe_ii, gLt_pp, List.getD_cons_zero, List.getD_cons_succ, List.set_cons_zero, List.set_cons_succ, List.map_cons, List.map_nil, List.length_cons, List.length_nil, List.cons_append, List.nil_append, List.replicate, modeOf_un, modeOf_fl, one1, wp_if, wp_append, wp_setL, wp_intOf, unlk_n, lck_n, wq_retp, gTuple_l, gTuple_t, gList_l, gList_vl, gList_t, gLen_l, gLen_t, gInt_i, gNeg_i, Bool.false_eq_true, if_false, if_true, and_true, true_and, Nat.reduceAdd, Nat.reduceSub, Nat.reduceLT, Nat.reduceLeDiff, neg_true, neg_false, Bool.not_true, Bool.not_false, decide_true, decide_false]
          exact ⟨dn' ++ [x], rs, by rw [hl]; simp, rfl, .v (FD x), s5, rfl, m5, by rw [gat_snoc, if_neg hc]; simp⟩
  · rintro ρ ⟨dn', rs, hl, hd, s4, s5, m4, m5, rfl⟩
    cases rs with
    | cons c rs => cases hd
    | nil =>
      rw [List.append_nil] at hl
      have : gat c dn' = gath l a c := by rw [← hl]; rfl
      rw [this]
      exact hQ s4 s5 m4 m5
theorem gath_len {l : List Pt} (L : FloorOk l) {a : Int} {c : Pt} : (gath l a c).length ≤ 61 * 400 := Nat.le_trans (gat_len runs_61) (Nat.mul_le_mul_left _ (runs_small L))
theorem wp_fcons {tg : Tg} {b : M Flo} {d : D} {ds : List D} {ρ ρ1 : Env} {Q : Flo → Env → Prop} (e : tg d ρ = some ρ1) (h : wp b ρ1 (turnP (fun ρ => wp (floop tg b ds) ρ Q) Q)) : wp (floop tg b (d :: ds)) ρ Q := by
  show wp (fun ρ => match tg d ρ with
    | some ρ1 => (b.bind fun f => wturn f (floop tg b ds)) ρ1
    | none => .stuck) ρ Q
  unfold wp
  simp only [e]
  exact wp_bind.mpr (wp_imp h fun f ρ2 q => wp_turn q fun hn => hn)
theorem wp_fnil {tg : Tg} {b : M Flo} {ρ : Env} {Q : Flo → Env → Prop} (h : Q .nx ρ) : wp (floop tg b []) ρ Q := wp_pure.mpr h
theorem p_struck_in {l : List Pt} (L : FloorOk l) {c : Pt} (hc : c ∈ l) : FV F_struck_in [FD l, prD c] (.lst ((l.filter (stB l c)).map prD)) := by
  refine fv_of ?_
  unfold B_struck_in
  simp only [wp_bind, wp_c, wq_var, wp_op1, wp_op2, wp_opN, wq_ret1, wq_ret2, wq_retN, wp_nil, wp_cons, wp_dnil, wp_dcons, wp_esc, wp_escv, wp_escl, wp_tup, wp_lst, wp_bool, wp_tru, wq_retB, wp_not, wp_and, wp_or, wp_mif, wp_andV, wp_orV, wp_notV, wp_true, wp_chain, wp_retC1, wp_retC2, wp_noPart, wp_part, wp_retPart, wp_cut, wp_seq, wp_snil, wp_pass, wp_break, wp_cont, wp_never, wp_expr, wp_sif, wp_ret, wp_retv, wp_retN', wp_asg, wq_store, wp_par, wq_store2, wp_asgT, wp_call, lk_fl, lk_pl, ex_some, gSub_ii, gAdd_ii, gLt_ii, gLe_ii, gGt_ii, gGe_ii, gLt_pp, List.getD_cons_zero, List.getD_cons_succ, List.set_cons_zero, List.set_cons_succ, List.map_cons, List.map_nil, List.length_cons, List.length_nil, List.cons_append, List.nil_append, List.replicate, modeOf_un, modeOf_fl, one1, wp_if, wp_append, wp_setL, wp_intOf, unlk_n, lck_n, wq_retp, gTuple_l, gTuple_t, gList_l, gList_vl, gList_t, gLen_l, gLen_t, gInt_i, gNeg_i, Bool.false_eq_true, if_false, if_true, and_true, true_and, Nat.reduceAdd, Nat.reduceSub, Nat.reduceLT, Nat.reduceLeDiff, neg_true, neg_false, Bool.not_true, Bool.not_false, decide_true, decide_false]
  refine ⟨zero_ok, wp_for (wp_srcT (ds := [.int 1, .int (-1)]) ?_)⟩
  simp only [wp_bind, wp_c, wq_var, wp_op1, wp_op2, wp_opN, wq_ret1, wq_ret2, wq_retN, wp_nil, wp_cons, wp_dnil, wp_dcons, wp_esc, wp_escv, wp_escl, wp_tup, wp_lst, wp_bool, wp_tru, wq_retB, wp_not, wp_and, wp_or, wp_mif, wp_andV, wp_orV, wp_notV, wp_true, wp_chain, wp_retC1, wp_retC2, wp_noPart, wp_part, wp_retPart, wp_cut, wp_seq, wp_snil, wp_pass, wp_break, wp_cont, wp_never, wp_expr, wp_sif, wp_ret, wp_retv, wp_retN', wp_asg, wq_store, wp_par, wq_store2, wp_asgT, wp_call, lk_fl, lk_pl, ex_some, gSub_ii, gAdd_ii, gLt_ii, gLe_ii, gGt_ii, gGe_ii, gLt_pp, List.getD_cons_zero, List.getD_cons_succ, List.set_cons_zero, List.set_cons_succ, List.map_cons, List.map_nil, List.length_cons, List.length_nil, List.cons_append, List.nil_append, List.replicate, modeOf_un, modeOf_fl, one1, wp_if, wp_append, wp_setL, wp_intOf, unlk_n, lck_n, wq_retp, gTuple_l, gTuple_t, gList_l, gList_vl, gList_t, gLen_l, gLen_t, gInt_i, gNeg_i, Bool.false_eq_true, if_false, if_true, and_true, true_and, Nat.reduceAdd, Nat.reduceSub, Nat.reduceLT, Nat.reduceLeDiff, neg_true, neg_false, Bool.not_true, Bool.not_false, decide_true, decide_false]
  refine ⟨two_ok, ?_⟩
  refine wp_fcons (ρ1 := [.v (FD l), .v (prD c), .fl .own (.lst []), .v (.int 1), .un, .un]) rfl ?_
  refine wp_gather L (acc := []) (by simp) rfl rfl fun s4 s5 m4 m5 => ?_
  refine wp_fcons (ρ1 := [.v (FD l), .v (prD c), .fl .own (.lst (([] ++ gath l 1 c).map prD)), .v (.int (-1)), s4, s5]) rfl ?_
  refine wp_gather L (by simpa using gath_len L) m4 m5 fun s4 s5 m4 m5 => ?_
  refine wp_fnil ?_
  simp only [wp_bind, wp_c, wq_var, wp_op1, wp_op2, wp_opN, wq_ret1, wq_ret2, wq_retN, wp_nil, wp_cons, wp_dnil, wp_dcons, wp_esc, wp_escv, wp_escl, wp_tup, wp_lst, wp_bool, wp_tru, wq_retB, wp_not, wp_and, wp_or, wp_mif, wp_andV, wp_orV, wp_notV, wp_true, wp_chain, wp_retC1, wp_retC2, wp_noPart, wp_part, wp_retPart, wp_cut, wp_seq, wp_snil, wp_pass, wp_break, wp_cont, wp_never, wp_expr, wp_sif, wp_ret, wp_retv, wp_retN', wp_asg, wq_store, wp_par, wq_store2, wp_asgT, wp_call, lk_fl, lk_pl, ex_some, gSub_ii, gAdd_ii, gLt_ii, gLe_ii, gGt_ii, gGe_ii, gLt_pp, List.getD_cons_zero, List.getD_cons_succ, List.set_cons_zero, List.set_cons_succ, List.map_cons, List.map_nil, List.length_cons, List.length_nil, List.cons_append, List.nil_append, List.replicate, modeOf_un, modeOf_fl, one1, wp_if, wp_append, wp_setL, wp_intOf, unlk_n, lck_n, wq_retp, gTuple_l, gTuple_t, gList_l, gList_vl, gList_t, gLen_l, gLen_t, gInt_i, gNeg_i, Bool.false_eq_true, if_false, if_true, and_true, true_and, Nat.reduceAdd, Nat.reduceSub, Nat.reduceLT, Nat.reduceLeDiff, neg_true, neg_false, Bool.not_true, Bool.not_false, decide_true, decide_false, gSorted_prD]
  rw [struck_sorted L hc]
  exact .inl rfl
theorem p_strikes {l : List Pt} (L : FloorOk l) {c : Pt} (hc : c ∈ l) : FV F_strikes [FD l, prD c] (.val (FD (l.filter (stB l c)))) := by
  refine fv_of ?_
  unfold B_strikes
  simp only [wp_bind, wp_c, wq_var, wp_op1, wp_op2, wp_opN, wq_ret1, wq_ret2, wq_retN, wp_nil, wp_cons, wp_dnil, wp_dcons, wp_esc, wp_escv, wp_escl, wp_tup, wp_lst, wp_bool, wp_tru, wq_retB, wp_not, wp_and, wp_or, wp_mif, wp_andV, wp_orV, wp_notV, wp_true, wp_chain, wp_retC1, wp_retC2, wp_noPart, wp_part, wp_retPart, wp_cut, wp_seq, wp_snil, wp_pass, wp_break, wp_cont, wp_never, wp_expr, wp_sif, wp_ret, wp_retv, wp_retN', wp_asg, wq_store, wp_par, wq_store2, wp_asgT, wp_call, lk_fl, lk_pl, ex_some, gSub_ii, gAdd_ii, gLt_ii, gLe_ii, gGt_ii, gGe_ii, gLt_pp, List.getD_cons_zero, List.getD_cons_succ, List.set_cons_zero, List.set_cons_succ, List.map_cons, List.map_nil, List.length_cons, List.length_nil, List.cons_append, List.nil_append, List.replicate, modeOf_un, modeOf_fl, one1, wp_if, wp_append, wp_setL, wp_intOf, unlk_n, lck_n, wq_retp, gTuple_l, gTuple_t, gList_l, gList_vl, gList_t, gLen_l, gLen_t, gInt_i, gNeg_i, Bool.false_eq_true, if_false, if_true, and_true, true_and, Nat.reduceAdd, Nat.reduceSub, Nat.reduceLT, Nat.reduceLeDiff, neg_true, neg_false, Bool.not_true, Bool.not_false, decide_true, decide_false]
  refine wp_fv1 (p_need_floor L) ?_
  simp only [wp_bind, wp_c, wq_var, wp_op1, wp_op2, wp_opN, wq_ret1, wq_ret2, wq_retN, wp_nil, wp_cons, wp_dnil, wp_dcons, wp_esc, wp_escv, wp_escl, wp_tup, wp_lst, wp_bool, wp_tru, wq_retB, wp_not, wp_and, wp_or, wp_mif, wp_andV, wp_orV, wp_notV, wp_true, wp_chain, wp_retC1, wp_retC2, wp_noPart, wp_part, wp_retPart, wp_cut, wp_seq, wp_snil, wp_pass, wp_break, wp_cont, wp_never, wp_expr, wp_sif, wp_ret, wp_retv, wp_retN', wp_asg, wq_store, wp_par, wq_store2, wp_asgT, wp_call, lk_fl, lk_pl, ex_some, gSub_ii, gAdd_ii, gLt_ii, gLe_ii, gGt_ii, gGe_ii, gLt_pp, List.getD_cons_zero, List.getD_cons_succ, List.set_cons_zero, List.set_cons_succ, List.map_cons, List.map_nil, List.length_cons, List.length_nil, List.cons_append, List.nil_append, List.replicate, modeOf_un, modeOf_fl, one1, wp_if, wp_append, wp_setL, wp_intOf, unlk_n, lck_n, wq_retp, gTuple_l, gTuple_t, gList_l, gList_vl, gList_t, gLen_l, gLen_t, gInt_i, gNeg_i, Bool.false_eq_true, if_false, if_true, and_true, true_and, Nat.reduceAdd, Nat.reduceSub, Nat.reduceLT, Nat.reduceLeDiff, neg_true, neg_false, Bool.not_true, Bool.not_false, decide_true, decide_false]
  refine wp_fv2 (p_need_cell L hc) ?_
  simp only [wp_bind, wp_c, wq_var, wp_op1, wp_op2, wp_opN, wq_ret1, wq_ret2, wq_retN, wp_nil, wp_cons, wp_dnil, wp_dcons, wp_esc, wp_escv, wp_escl, wp_tup, wp_lst, wp_bool, wp_tru, wq_retB, wp_not, wp_and, wp_or, wp_mif, wp_andV, wp_orV, wp_notV, wp_true, wp_chain, wp_retC1, wp_retC2, wp_noPart, wp_part, wp_retPart, wp_cut, wp_seq, wp_snil, wp_pass, wp_break, wp_cont, wp_never, wp_expr, wp_sif, wp_ret, wp_retv, wp_retN', wp_asg, wq_store, wp_par, wq_store2, wp_asgT, wp_call, lk_fl, lk_pl, ex_some, gSub_ii, gAdd_ii, gLt_ii, gLe_ii, gGt_ii, gGe_ii, gLt_pp, List.getD_cons_zero, List.getD_cons_succ, List.set_cons_zero, List.set_cons_succ, List.map_cons, List.map_nil, List.length_cons, List.length_nil, List.cons_append, List.nil_append, List.replicate, modeOf_un, modeOf_fl, one1, wp_if, wp_append, wp_setL, wp_intOf, unlk_n, lck_n, wq_retp, gTuple_l, gTuple_t, gList_l, gList_vl, gList_t, gLen_l, gLen_t, gInt_i, gNeg_i, Bool.false_eq_true, if_false, if_true, and_true, true_and, Nat.reduceAdd, Nat.reduceSub, Nat.reduceLT, Nat.reduceLeDiff, neg_true, neg_false, Bool.not_true, Bool.not_false, decide_true, decide_false]
  refine wp_fv2 (p_struck_in L hc) ?_
  simp only [wp_bind, wp_c, wq_var, wp_op1, wp_op2, wp_opN, wq_ret1, wq_ret2, wq_retN, wp_nil, wp_cons, wp_dnil, wp_dcons, wp_esc, wp_escv, wp_escl, wp_tup, wp_lst, wp_bool, wp_tru, wq_retB, wp_not, wp_and, wp_or, wp_mif, wp_andV, wp_orV, wp_notV, wp_true, wp_chain, wp_retC1, wp_retC2, wp_noPart, wp_part, wp_retPart, wp_cut, wp_seq, wp_snil, wp_pass, wp_break, wp_cont, wp_never, wp_expr, wp_sif, wp_ret, wp_retv, wp_retN', wp_asg, wq_store, wp_par, wq_store2, wp_asgT, wp_call, lk_fl, lk_pl, ex_some, gSub_ii, gAdd_ii, gLt_ii, gLe_ii, gGt_ii, gGe_ii, gLt_pp, List.getD_cons_zero, List.getD_cons_succ, List.set_cons_zero, List.set_cons_succ, List.map_cons, List.map_nil, List.length_cons, List.length_nil, List.cons_append, List.nil_append, List.replicate, modeOf_un, modeOf_fl, one1, wp_if, wp_append, wp_setL, wp_intOf, unlk_n, lck_n, wq_retp, gTuple_l, gTuple_t, gList_l, gList_vl, gList_t, gLen_l, gLen_t, gInt_i, gNeg_i, Bool.false_eq_true, if_false, if_true, and_true, true_and, Nat.reduceAdd, Nat.reduceSub, Nat.reduceLT, Nat.reduceLeDiff, neg_true, neg_false, Bool.not_true, Bool.not_false, decide_true, decide_false]
  simp
end K50
namespace K50
open VS
open PySem (sizeLine)
/-- the cells with the places of their runs -/
def homeL (rs : List (List Pt)) : List (Pt × D) := rs.zipIdx.flatMap fun p => p.1.map fun y => (y, .int (p.2 : Nat))
theorem homeL_len {rs : List (List Pt)} (h : ∀ r ∈ rs, r.length ≤ 61) : (homeL rs).length ≤ 61 * rs.length := by
  unfold homeL
  have gen : ∀ (ps : List (List Pt × Nat)), (∀ p ∈ ps, p.1.length ≤ 61) → (ps.flatMap fun p => p.1.map fun y => ((y, .int (p.2 : Nat)) : Pt × D)).length ≤ 61 * ps.length := by
    intro ps
    induction ps with
    | nil => intro _; simp
    | cons p ps ih =>
      intro h
      have h1 := h p List.mem_cons_self
      have h2 := ih fun x hx => h x (List.mem_cons_of_mem _ hx)
      rw [List.flatMap_cons, List.length_append, List.length_map, List.length_cons]; omega
  have := gen rs.zipIdx fun p hp => h p.1 (by
    have := List.mem_zipIdx hp
    obtain ⟨_, _, e⟩ := this
    rw [e]; exact List.getElem_mem _)
  rwa [List.length_zipIdx] at this
theorem homeL_map {rs : List (List Pt)} : (rs.zipIdx.flatMap fun p => p.1.map fun y => kvD (y, .int (p.2 : Nat))) = (homeL rs).map kvD := by
  unfold homeL
  rw [List.map_flatMap]
  simp [Function.comp_def]
theorem p_homes {rs : List (List Pt)} (h1 : ∀ r ∈ rs, r.length ≤ 61) (h2 : rs.length ≤ 400) : ∃ kvs, (∃ outs, F_homes_in [.fl .own (.lst (rs.map FD))] = .ok (.fl (.dct true kvs)) outs) ∧ ∀ c, dfind kvs (kP c) = lookL (homeL rs) c none := by
  have hl := homeL_len h1
  obtain ⟨kvs, e, hk⟩ := gDict_l (L := homeL rs) (Nat.le_trans (show _ ≤ 61 * 400 by omega) (by decide))
  refine ⟨kvs, fo_of ?_, hk⟩
  unfold B_homes_in
  simp only [wp_bind, wp_c, wq_var, wp_op1, wp_op2, wp_opN, wq_ret1, wq_ret2, wq_retN, wp_nil, wp_cons, wp_dnil, wp_dcons, wp_esc, wp_escv, wp_escl, wp_tup, wp_lst, wp_bool, wp_tru, wq_retB, wp_not, wp_and, wp_or, wp_mif, wp_andV, wp_orV, wp_notV, wp_true, wp_chain, wp_retC1, wp_retC2, wp_noPart, wp_part, wp_retPart, wp_cut, wp_seq, wp_snil, wp_pass, wp_break, wp_cont, wp_never, wp_expr, wp_sif, wp_ret, wp_retv, wp_retN', wp_asg, wq_store, wp_par, wq_store2, wp_asgT, wp_call, lk_fl, lk_pl, ex_some, gSub_ii, gAdd_ii, gLt_ii, gLe_ii, gGt_ii, gGe_ii, gLt_pp, List.getD_cons_zero, List.getD_cons_succ, List.set_cons_zero, List.set_cons_succ, List.map_cons, List.map_nil, List.length_cons, List.length_nil, List.cons_append, List.nil_append, List.replicate, modeOf_un, modeOf_fl, one1, wp_if, wp_append, wp_setL, wp_intOf, unlk_n, lck_n, wq_retp, gTuple_l, gTuple_t, gList_l, gList_vl, gList_t, gLen_l, gLen_t, gInt_i, gNeg_i, Bool.false_eq_true, if_false, if_true, and_true, true_and, Nat.reduceAdd, Nat.reduceSub, Nat.reduceLT, Nat.reduceLeDiff, neg_true, neg_false, Bool.not_true, Bool.not_false, decide_true, decide_false]
  have hz : (rs.zipIdx.flatMap (fun p : List Pt × Nat => p.1)).length ≤ sizeLine := by
    have e1 : (rs.zipIdx.flatMap (fun p : List Pt × Nat => p.1)).length = (homeL rs).length := by
      unfold homeL
      rw [List.length_flatMap, List.length_flatMap]
      simp
    rw [e1]; exact size_ok (by omega)
  refine wp_comp2 (L := rs.zipIdx) (g := fun p => pairD (.int (p.2 : Nat)) (FD p.1)) (h := fun p => p.1) (g1 := fun _ y => prD y) (fun p y => kvD (y, .int (p.2 : Nat))) hz ?_
  simp only [wp_bind, wp_c, wq_var, wp_op1, wp_op2, wp_opN, wq_ret1, wq_ret2, wq_retN, wp_nil, wp_cons, wp_dnil, wp_dcons, wp_esc, wp_escv, wp_escl, wp_tup, wp_lst, wp_bool, wp_tru, wq_retB, wp_not, wp_and, wp_or, wp_mif, wp_andV, wp_orV, wp_notV, wp_true, wp_chain, wp_retC1, wp_retC2, wp_noPart, wp_part, wp_retPart, wp_cut, wp_seq, wp_snil, wp_pass, wp_break, wp_cont, wp_never, wp_expr, wp_sif, wp_ret, wp_retv, wp_retN', wp_asg, wq_store, wp_par, wq_store2, wp_asgT, wp_call, lk_fl, lk_pl, ex_some, gSub_ii, gAdd_ii, gLt_ii, gLe_ii, gGt_ii, gGe_ii, gLt_pp, List.getD_cons_zero, List.getD_cons_succ, List.set_cons_zero, List.set_cons_succ, List.map_cons, List.map_nil, List.length_cons, List.length_nil, List.cons_append, List.nil_append, List.replicate, modeOf_un, modeOf_fl, one1, wp_if, wp_append, wp_setL, wp_intOf, unlk_n, lck_n, wq_retp, gTuple_l, gTuple_t, gList_l, gList_vl, gList_t, gLen_l, gLen_t, gInt_i, gNeg_i, Bool.false_eq_true, if_false, if_true, and_true, true_and, Nat.reduceAdd, Nat.reduceSub, Nat.reduceLT, Nat.reduceLeDiff, neg_true, neg_false, Bool.not_true, Bool.not_false, decide_true, decide_false]
  refine (wp_escp (by rfl)).mpr ?_
  simp only [wp_bind, wp_c, wq_var, wp_op1, wp_op2, wp_opN, wq_ret1, wq_ret2, wq_retN, wp_nil, wp_cons, wp_dnil, wp_dcons, wp_esc, wp_escv, wp_escl, wp_tup, wp_lst, wp_bool, wp_tru, wq_retB, wp_not, wp_and, wp_or, wp_mif, wp_andV, wp_orV, wp_notV, wp_true, wp_chain, wp_retC1, wp_retC2, wp_noPart, wp_part, wp_retPart, wp_cut, wp_seq, wp_snil, wp_pass, wp_break, wp_cont, wp_never, wp_expr, wp_sif, wp_ret, wp_retv, wp_retN', wp_asg, wq_store, wp_par, wq_store2, wp_asgT, wp_call, lk_fl, lk_pl, ex_some, gSub_ii, gAdd_ii, gLt_ii, gLe_ii, gGt_ii, gGe_ii, gLt_pp, List.getD_cons_zero, List.getD_cons_succ, List.set_cons_zero, List.set_cons_succ, List.map_cons, List.map_nil, List.length_cons, List.length_nil, List.cons_append, List.nil_append, List.replicate, modeOf_un, modeOf_fl, one1, wp_if, wp_append, wp_setL, wp_intOf, unlk_n, lck_n, wq_retp, gTuple_l, gTuple_t, gList_l, gList_vl, gList_t, gLen_l, gLen_t, gInt_i, gNeg_i, Bool.false_eq_true, if_false, if_true, and_true, true_and, Nat.reduceAdd, Nat.reduceSub, Nat.reduceLT, Nat.reduceLeDiff, neg_true, neg_false, Bool.not_true, Bool.not_false, decide_true, decide_false]
  refine wp_srcE ⟨?_, fun p hp => ?_, ?_⟩
  · unfold enumD
    rw [List.zipIdx_map, List.map_map]
    rfl
  · refine ⟨[.v (.lst (rs.map FD)), .v (.int (p.2 : Nat)), .v (FD p.1), .un], rfl, ?_⟩
    refine wp_srcI rfl ⟨rfl, fun y hy => ⟨[.v (.lst (rs.map FD)), .v (.int (p.2 : Nat)), .v (FD p.1), .v (prD y)], rfl, ?_⟩, rfl⟩
    simp only [wp_bind, wp_c, wq_var, wp_op1, wp_op2, wp_opN, wq_ret1, wq_ret2, wq_retN, wp_nil, wp_cons, wp_dnil, wp_dcons, wp_esc, wp_escv, wp_escl, wp_tup, wp_lst, wp_bool, wp_tru, wq_retB, wp_not, wp_and, wp_or, wp_mif, wp_andV, wp_orV, wp_notV, wp_true, wp_chain, wp_retC1, wp_retC2, wp_noPart, wp_part, wp_retPart, wp_cut, wp_seq, wp_snil, wp_pass, wp_break, wp_cont, wp_never, wp_expr, wp_sif, wp_ret, wp_retv, wp_retN', wp_asg, wq_store, wp_par, wq_store2, wp_asgT, wp_call, lk_fl, lk_pl, ex_some, gSub_ii, gAdd_ii, gLt_ii, gLe_ii, gGt_ii, gGe_ii, gLt_pp, List.getD_cons_zero, List.getD_cons_succ, List.set_cons_zero, List.set_cons_succ, List.map_cons, List.map_nil, List.length_cons, List.length_nil, List.cons_append, List.nil_append, List.replicate, modeOf_un, modeOf_fl, one1, wp_if, wp_append, wp_setL, wp_intOf, unlk_n, lck_n, wq_retp, gTuple_l, gTuple_t, gList_l, gList_vl, gList_t, gLen_l, gLen_t, gInt_i, gNeg_i, Bool.false_eq_true, if_false, if_true, and_true, true_and, Nat.reduceAdd, Nat.reduceSub, Nat.reduceLT, Nat.reduceLeDiff, neg_true, neg_false, Bool.not_true, Bool.not_false, decide_true, decide_false]
    exact ⟨two_ok, rfl, rfl⟩
  · rw [homeL_map]
    simp only [e, wp_bind, wp_c, wq_var, wp_op1, wp_op2, wp_opN, wq_ret1, wq_ret2, wq_retN, wp_nil, wp_cons, wp_dnil, wp_dcons, wp_esc, wp_escv, wp_escl, wp_tup, wp_lst, wp_bool, wp_tru, wq_retB, wp_not, wp_and, wp_or, wp_mif, wp_andV, wp_orV, wp_notV, wp_true, wp_chain, wp_retC1, wp_retC2, wp_noPart, wp_part, wp_retPart, wp_cut, wp_seq, wp_snil, wp_pass, wp_break, wp_cont, wp_never, wp_expr, wp_sif, wp_ret, wp_retv, wp_retN', wp_asg, wq_store, wp_par, wq_store2, wp_asgT, wp_call, lk_fl, lk_pl, ex_some, gSub_ii, gAdd_ii, gLt_ii, gLe_ii, gGt_ii, gGe_ii, gLt_pp, List.getD_cons_zero, List.getD_cons_succ, List.set_cons_zero, List.set_cons_succ, List.map_cons, List.map_nil, List.length_cons, List.length_nil, List.cons_append, List.nil_append, List.replicate, modeOf_un, modeOf_fl, one1, wp_if, wp_append, wp_setL, wp_intOf, unlk_n, lck_n, wq_retp, gTuple_l, gTuple_t, gList_l, gList_vl, gList_t, gLen_l, gLen_t, gInt_i, gNeg_i, Bool.false_eq_true, if_false, if_true, and_true, true_and, Nat.reduceAdd, Nat.reduceSub, Nat.reduceLT, Nat.reduceLeDiff, neg_true, neg_false, Bool.not_true, Bool.not_false, decide_true, decide_false]
    exact .inl trivial
/-! ### homes of cells -/
theorem homeL_mem {rs : List (List Pt)} {c : Pt} {v : D} : (c, v) ∈ homeL rs ↔ ∃ i r, rs[i]? = some r ∧ c ∈ r ∧ v = .int (i : Nat) := by
  unfold homeL
  rw [List.mem_flatMap]
  constructor
  · rintro ⟨⟨r, i⟩, hp, hm⟩
    obtain ⟨y, hy, e⟩ := List.mem_map.mp hm
    injection e with e1 e2
    subst e1
    have := List.mem_zipIdx' hp
    refine ⟨i, r, ?_, hy, e2.symm⟩
    obtain ⟨h1, h2⟩ := this
    rw [h2]; simp
  · rintro ⟨i, r, e, hc, rfl⟩
    refine ⟨(r, i), ?_, List.mem_map.mpr ⟨c, hc, rfl⟩⟩
    exact List.mem_zipIdx_iff_getElem?.mpr e
theorem nodup_idx {α : Type} {xs : List α} (nd : xs.Nodup) {i j : Nat} {hi : i < xs.length} {hj : j < xs.length} (e : xs[i] = xs[j]) : i = j := by
  rcases Nat.lt_trichotomy i j with h | h | h
  · exact absurd e (List.pairwise_iff_getElem.mp nd i j hi hj h)
  · exact h
  · exact absurd e.symm (List.pairwise_iff_getElem.mp nd j i hj hi h)
/-- the place of the run of c -/
def home (l : List Pt) (a : Int) (c : Pt) : Nat := (heads l a).findIdx fun h => decide (c ∈ run l a h)
theorem home_at {l : List Pt} (L : FloorOk l) {a : Int} {c : Pt} (hc : c ∈ l) {i : Nat} {r : List Pt} (e : (runs l a)[i]? = some r) (hr : c ∈ r) : i = home l a c := by
  unfold runs at e
  rw [List.getElem?_map] at e
  obtain ⟨h, eh, rfl⟩ := Option.map_eq_some_iff.mp e
  obtain ⟨hi, eg⟩ := List.getElem?_eq_some_iff.mp eh
  have hm : h ∈ heads l a := by rw [← eg]; exact List.getElem_mem _
  have hlt : home l a c < (heads l a).length := List.findIdx_lt_length_of_exists ⟨h, hm, by simpa using hr⟩
  have hp : c ∈ run l a (heads l a)[home l a c] := by
    have := List.findIdx_getElem (xs := heads l a) (p := fun h => decide (c ∈ run l a h)) (w := hlt)
    exact of_decide_eq_true this
  have := head_uniq L hm (List.getElem_mem _) hr hp
  rw [← eg] at this
  exact nodup_idx (heads_nodup L) this
theorem home_look {l : List Pt} (L : FloorOk l) {a : Int} {c : Pt} (hc : c ∈ l) : lookL (homeL (runs l a)) c none = some (.int (home l a c : Nat)) := by
  obtain ⟨h, hh, hr⟩ := head_run L (a := a) hc
  obtain ⟨i, hi, eg⟩ := List.getElem_of_mem hh
  have e : (runs l a)[i]? = some (run l a h) := by
    unfold runs
    rw [List.getElem?_map, List.getElem?_eq_getElem hi, eg]; rfl
  refine lookL_one (fun v hv => ?_) (.inr ?_)
  · obtain ⟨j, r, ej, hj, rfl⟩ := homeL_mem.mp hv
    rw [home_at L hc ej hj]
  · rw [← home_at L hc e hr]
    exact homeL_mem.mpr ⟨i, _, e, hr, rfl⟩
theorem home_eq {l : List Pt} (L : FloorOk l) {a : Int} {x y : Pt} (hx : x ∈ l) (hy : y ∈ l) (hne : x ≠ y) : home l a x = home l a y ↔ Same l a x y := by
  rw [← same_iff L hx hy hne]
  obtain ⟨h, hh, hr⟩ := head_run L (a := a) hx
  obtain ⟨k, kh, kr⟩ := head_run L (a := a) hy
  obtain ⟨i, hi, ei⟩ := List.getElem_of_mem hh
  obtain ⟨j, hj, ej⟩ := List.getElem_of_mem kh
  have a1 : (runs l a)[i]? = some (run l a h) := by unfold runs; rw [List.getElem?_map, List.getElem?_eq_getElem hi, ei]; rfl
  have a2 : (runs l a)[j]? = some (run l a k) := by unfold runs; rw [List.getElem?_map, List.getElem?_eq_getElem hj, ej]; rfl
  rw [← home_at L hx a1 hr, ← home_at L hy a2 kr]
  constructor
  · rintro rfl
    have : h = k := by rw [← ei, ← ej]
    subst this
    exact ⟨h, hh, hr, kr⟩
  · rintro ⟨c, hc, b1, b2⟩
    have e1 := head_uniq L hh hc hr b1
    have e2 := head_uniq L kh hc kr b2
    subst e1
    subst e2
    exact nodup_idx (heads_nodup L) (ei.trans ej.symm)
/-- no two in one run -/
def apartB (l : List Pt) (a : Int) (v : List Pt) : Bool := decide ((v.map fun c => home l a c).Nodup)
theorem dd_lt {ns : List Int} : (ddI ns).length < ns.length ↔ ¬ ns.Nodup := by
  have gen : ∀ (ns acc : List Int), acc.Nodup → (ns.foldl PyProof.Rows.step_dedup acc).length ≤ acc.length + ns.length ∧ ((ns.foldl PyProof.Rows.step_dedup acc).length = acc.length + ns.length ↔ (acc ++ ns).Nodup) := by
    intro ns
    induction ns with
    | nil => intro acc ha; simp [ha]
    | cons n ns ih =>
      intro acc ha
      rw [List.foldl_cons]
      by_cases hn : n ∈ acc
      · have e : PyProof.Rows.step_dedup acc n = acc := by
          unfold PyProof.Rows.step_dedup
          rw [if_pos (by simpa using hn)]
        rw [e]
        obtain ⟨i1, i2⟩ := ih acc ha
        refine ⟨by rw [List.length_cons]; omega, ?_⟩
        constructor
        · intro h; rw [List.length_cons] at h; omega
        · intro h
          exact absurd rfl ((List.nodup_append.mp h).2.2 n hn n List.mem_cons_self)
      · have e : PyProof.Rows.step_dedup acc n = acc ++ [n] := by
          unfold PyProof.Rows.step_dedup
          rw [if_neg (by simpa using hn)]
        rw [e]
        obtain ⟨i1, i2⟩ := ih (acc ++ [n]) (List.nodup_append.mpr ⟨ha, by simp, fun x hx y hy exy => by
          rw [List.mem_singleton] at hy; rw [exy, hy] at hx; exact hn hx⟩)
        rw [List.length_append, List.length_singleton] at i1 i2
        refine ⟨by rw [List.length_cons]; omega, ?_⟩
        rw [List.length_cons, show acc.length + (ns.length + 1) = acc.length + 1 + ns.length by omega, i2, List.append_assoc, List.singleton_append]
  obtain ⟨h1, h2⟩ := gen ns [] List.nodup_nil
  unfold ddI
  rw [List.length_nil, Nat.zero_add] at h1 h2
  rw [List.nil_append] at h2
  rw [← h2]
  omega
end K50
namespace K50
open VS
open PySem (sizeLine)
theorem intsD_map {α : Type} {f : α → Int} {l : List α} : intsD (l.map fun x => .int (f x)) = some (l.map f) := by
  induction l with
  | nil => rfl
  | cons x l ih => simp only [List.map_cons, intsD, ih, Option.map_some]
theorem gLenSet_ints {α : Type} {f : α → Int} {l : List α} (h : l.length < 4000) : gLenSet (.lst (l.map fun x => .int (f x))) = some (.v (.int (ddI (l.map f)).length)) := by
  unfold gLenSet asL
  simp only
  rw [intsD_map]
  simp only
  rw [if_pos (by simpa using h)]
theorem apart_iff {l : List Pt} {a : Int} {v : List Pt} : apartB l a v = true ↔ (v.map fun c => ((home l a c : Nat) : Int)).Nodup := by
  unfold apartB
  rw [decide_eq_true_iff]
  have e : (v.map fun c => ((home l a c : Nat) : Int)) = (v.map fun c => home l a c).map fun n : Nat => (n : Int) := by rw [List.map_map]; rfl
  rw [e]
  constructor
  · intro h
    exact List.pairwise_map.mpr (h.imp fun hne e => hne (by omega))
  · intro h
    exact (List.pairwise_map.mp h).imp fun hne e => hne (by rw [e])
theorem wp_quiet1 {l : List Pt} (L : FloorOk l) {v : List Pt} (hv : ∀ c ∈ v, c ∈ l) (hl : v.length ≤ 400) {a : Int} {s3 s4 : Sl} (m3 : modeOf s3 = .own) (m4 : modeOf s4 = .own) {Q : Flo → Env → Prop} (q1 : apartB l a v = true → ∀ s3, modeOf s3 = .own → Q .nx [.v (FD l), .v (FD v), .v (.int a), s3, s4]) (q2 : apartB l a v = false → ∀ ρ, Q (.rt (.v (.bl false))) ρ) :
    wp (sSeq (sAsg 3 (mCall F_homes_in (mCons (mCall F_runs_in (mCons (mVar 0) (mCons (mVar 2) mNil))) mNil))) (sIf (mBool (mOp2 gLt (mOp1 gLenSet (mComp (mSrcA (mVar 1)) [4] (putv 4) bTrue (mOp2 gIx (mVar 3) (mVar 4)))) (mOpN (one1 gLen) (mCons (mVar 1) mNil)))) (sRet (mC (.bl false))) sNil))
      [.v (FD l), .v (FD v), .v (.int a), s3, s4] Q := by
  obtain ⟨kvs, hh, hk⟩ := p_homes (rs := runs l a) runs_61 (runs_small L)
  simp only [wp_bind, wp_c, wq_var, wp_op1, wp_op2, wp_opN, wq_ret1, wq_ret2, wq_retN, wp_nil, wp_cons, wp_dnil, wp_dcons, wp_esc, wp_escv, wp_escl, wp_tup, wp_lst, wp_bool, wp_tru, wq_retB, wp_not, wp_and, wp_or, wp_mif, wp_andV, wp_orV, wp_notV, wp_true, wp_chain, wp_retC1, wp_retC2, wp_noPart, wp_part, wp_retPart, wp_cut, wp_seq, wp_snil, wp_pass, wp_break, wp_cont, wp_never, wp_expr, wp_sif, wp_ret, wp_retv, wp_retN', wp_asg, wq_store, wp_par, wq_store2, wp_asgT, wp_call, lk_fl, lk_pl, ex_some, gSub_ii, gAdd_ii, gLt_ii, gLe_ii, gGt_ii, gGe_ii, gLt_pp, List.getD_cons_zero, List.getD_cons_succ, List.set_cons_zero, List.set_cons_succ, List.map_cons, List.map_nil, List.length_cons, List.length_nil, List.cons_append, List.nil_append, List.replicate, modeOf_un, modeOf_fl, one1, wp_if, wp_append, wp_setL, wp_intOf, unlk_n, lck_n, wq_retp, gTuple_l, gTuple_t, gList_l, gList_vl, gList_t, gLen_l, gLen_t, gInt_i, gNeg_i, Bool.false_eq_true, if_false, if_true, and_true, true_and, Nat.reduceAdd, Nat.reduceSub, Nat.reduceLT, Nat.reduceLeDiff, neg_true, neg_false, Bool.not_true, Bool.not_false, decide_true, decide_false]
  refine wp_fv2 (p_runs_in L) ?_
  refine wp_ff1 hh ?_
  simp only [wp_bind, wp_c, wq_var, wp_op1, wp_op2, wp_opN, wq_ret1, wq_ret2, wq_retN, wp_nil, wp_cons, wp_dnil, wp_dcons, wp_esc, wp_escv, wp_escl, wp_tup, wp_lst, wp_bool, wp_tru, wq_retB, wp_not, wp_and, wp_or, wp_mif, wp_andV, wp_orV, wp_notV, wp_true, wp_chain, wp_retC1, wp_retC2, wp_noPart, wp_part, wp_retPart, wp_cut, wp_seq, wp_snil, wp_pass, wp_break, wp_cont, wp_never, wp_expr, wp_sif, wp_ret, wp_retv, wp_retN', wp_asg, wq_store, wp_par, wq_store2, wp_asgT, wp_call, lk_fl, lk_pl, ex_some, gSub_ii, gAdd_ii, gLt_ii, gLe_ii, gGt_ii, gGe_ii, gLt_pp, List.getD_cons_zero, List.getD_cons_succ, List.set_cons_zero, List.set_cons_succ, List.map_cons, List.map_nil, List.length_cons, List.length_nil, List.cons_append, List.nil_append, List.replicate, modeOf_un, modeOf_fl, one1, wp_if, wp_append, wp_setL, wp_intOf, unlk_n, lck_n, wq_retp, gTuple_l, gTuple_t, gList_l, gList_vl, gList_t, gLen_l, gLen_t, gInt_i, gNeg_i, Bool.false_eq_true, if_false, if_true, and_true, true_and, Nat.reduceAdd, Nat.reduceSub, Nat.reduceLT, Nat.reduceLeDiff, neg_true, neg_false, Bool.not_true, Bool.not_false, decide_true, decide_false, m3]
  refine wp_compM (L := v) (g := prD) (fun c => .int (home l a c : Nat)) (size_ok (by omega)) (wp_srcI rfl ⟨rfl, fun x hx => ?_, ?_⟩)
  · refine ⟨[.v (FD l), .v (FD v), .v (.int a), .fl .own (.dct true kvs), .v (prD x)], ?_, ?_⟩
    · show putv 4 (prD x) [.v (FD l), .v (FD v), .v (.int a), .fl .own (.dct true kvs), .un] = _
      rfl
    · have e := gIx_d (kvs := kvs) (c := x) (d := .int (home l a x : Nat)) (by rw [hk, home_look L (hv x hx)])
      simp only [wp_bind, wp_c, wq_var, wp_op1, wp_op2, wp_opN, wq_ret1, wq_ret2, wq_retN, wp_nil, wp_cons, wp_dnil, wp_dcons, wp_esc, wp_escv, wp_escl, wp_tup, wp_lst, wp_bool, wp_tru, wq_retB, wp_not, wp_and, wp_or, wp_mif, wp_andV, wp_orV, wp_notV, wp_true, wp_chain, wp_retC1, wp_retC2, wp_noPart, wp_part, wp_retPart, wp_cut, wp_seq, wp_snil, wp_pass, wp_break, wp_cont, wp_never, wp_expr, wp_sif, wp_ret, wp_retv, wp_retN', wp_asg, wq_store, wp_par, wq_store2, wp_asgT, wp_call, lk_fl, lk_pl, ex_some, gSub_ii, gAdd_ii, gLt_ii, gLe_ii, gGt_ii, gGe_ii, gLt_pp, List.getD_cons_zero, List.getD_cons_succ, List.set_cons_zero, List.set_cons_succ, List.map_cons, List.map_nil, List.length_cons, List.length_nil, List.cons_append, List.nil_append, List.replicate, modeOf_un, modeOf_fl, one1, wp_if, wp_append, wp_setL, wp_intOf, unlk_n, lck_n, wq_retp, gTuple_l, gTuple_t, gList_l, gList_vl, gList_t, gLen_l, gLen_t, gInt_i, gNeg_i, Bool.false_eq_true, if_false, if_true, and_true, true_and, Nat.reduceAdd, Nat.reduceSub, Nat.reduceLT, Nat.reduceLeDiff, neg_true, neg_false, Bool.not_true, Bool.not_false, decide_true, decide_false, e]
      rfl
  · simp only [wp_bind, wp_c, wq_var, wp_op1, wp_op2, wp_opN, wq_ret1, wq_ret2, wq_retN, wp_nil, wp_cons, wp_dnil, wp_dcons, wp_esc, wp_escv, wp_escl, wp_tup, wp_lst, wp_bool, wp_tru, wq_retB, wp_not, wp_and, wp_or, wp_mif, wp_andV, wp_orV, wp_notV, wp_true, wp_chain, wp_retC1, wp_retC2, wp_noPart, wp_part, wp_retPart, wp_cut, wp_seq, wp_snil, wp_pass, wp_break, wp_cont, wp_never, wp_expr, wp_sif, wp_ret, wp_retv, wp_retN', wp_asg, wq_store, wp_par, wq_store2, wp_asgT, wp_call, lk_fl, lk_pl, ex_some, gSub_ii, gAdd_ii, gLt_ii, gLe_ii, gGt_ii, gGe_ii, gLt_pp, List.getD_cons_zero, List.getD_cons_succ, List.set_cons_zero, List.set_cons_succ, List.map_cons, List.map_nil, List.length_cons, List.length_nil, List.cons_append, List.nil_append, List.replicate, modeOf_un, modeOf_fl, one1, wp_if, wp_append, wp_setL, wp_intOf, unlk_n, lck_n, wq_retp, gTuple_l, gTuple_t, gList_l, gList_vl, gList_t, gLen_l, gLen_t, gInt_i, gNeg_i, Bool.false_eq_true, if_false, if_true, and_true, true_and, Nat.reduceAdd, Nat.reduceSub, Nat.reduceLT, Nat.reduceLeDiff, neg_true, neg_false, Bool.not_true, Bool.not_false, decide_true, decide_false, gLenSet_ints (f := fun c => ((home l a c : Nat) : Int)) (l := v) (by omega), blF]
    have key : decide (((ddI (v.map fun c => ((home l a c : Nat) : Int))).length : Int) < ((v.length : Nat) : Int)) = !apartB l a v := by
      have := dd_lt (ns := v.map fun c => ((home l a c : Nat) : Int))
      rw [List.length_map] at this
      by_cases h : apartB l a v = true
      · rw [h]
        have h2 := apart_iff.mp h
        simp only [Bool.not_true, decide_eq_false_iff_not]
        intro z
        exact (this.mp (by omega)) h2
      · have h2 : ¬ (v.map fun c => ((home l a c : Nat) : Int)).Nodup := fun z => h (apart_iff.mpr z)
        have h3 : apartB l a v = false := by simpa using h
        rw [h3]
        simp only [Bool.not_false, decide_eq_true_eq]
        have := this.mpr h2
        omega
    rw [List.length_map, key]
    cases h : apartB l a v with
    | true =>
      simp only [wp_bind, wp_c, wq_var, wp_op1, wp_op2, wp_opN, wq_ret1, wq_ret2, wq_retN, wp_nil, wp_cons, wp_dnil, wp_dcons, wp_esc, wp_escv, wp_escl, wp_tup, wp_lst, wp_bool, wp_tru, wq_retB, wp_not, wp_and, wp_or, wp_mif, wp_andV, wp_orV, wp_notV, wp_true, wp_chain, wp_retC1, wp_retC2, wp_noPart, wp_part, wp_retPart, wp_cut, wp_seq, wp_snil, wp_pass, wp_break, wp_cont, wp_never, wp_expr, wp_sif, wp_ret, wp_retv, wp_retN', wp_asg, wq_store, wp_par, wq_store2, wp_asgT, wp_call, lk_fl, lk_pl, ex_some, gSub_ii, gAdd_ii, gLt_ii, gLe_ii, gGt_ii, gGe_ii, gLt_pp, List.getD_cons_zero, List.getD_cons_succ, List.set_cons_zero, List.set_cons_succ, List.map_cons, List.map_nil, List.length_cons, List.length_nil, List.cons_append, List.nil_append, List.replicate, modeOf_un, modeOf_fl, one1, wp_if, wp_append, wp_setL, wp_intOf, unlk_n, lck_n, wq_retp, gTuple_l, gTuple_t, gList_l, gList_vl, gList_t, gLen_l, gLen_t, gInt_i, gNeg_i, Bool.false_eq_true, if_false, if_true, and_true, true_and, Nat.reduceAdd, Nat.reduceSub, Nat.reduceLT, Nat.reduceLeDiff, neg_true, neg_false, Bool.not_true, Bool.not_false, decide_true, decide_false]
      exact q1 h _ rfl
    | false =>
      simp only [wp_bind, wp_c, wq_var, wp_op1, wp_op2, wp_opN, wq_ret1, wq_ret2, wq_retN, wp_nil, wp_cons, wp_dnil, wp_dcons, wp_esc, wp_escv, wp_escl, wp_tup, wp_lst, wp_bool, wp_tru, wq_retB, wp_not, wp_and, wp_or, wp_mif, wp_andV, wp_orV, wp_notV, wp_true, wp_chain, wp_retC1, wp_retC2, wp_noPart, wp_part, wp_retPart, wp_cut, wp_seq, wp_snil, wp_pass, wp_break, wp_cont, wp_never, wp_expr, wp_sif, wp_ret, wp_retv, wp_retN', wp_asg, wq_store, wp_par, wq_store2, wp_asgT, wp_call, lk_fl, lk_pl, ex_some, gSub_ii, gAdd_ii, gLt_ii, gLe_ii, gGt_ii, gGe_ii, gLt_pp, List.getD_cons_zero, List.getD_cons_succ, List.set_cons_zero, List.set_cons_succ, List.map_cons, List.map_nil, List.length_cons, List.length_nil, List.cons_append, List.nil_append, List.replicate, modeOf_un, modeOf_fl, one1, wp_if, wp_append, wp_setL, wp_intOf, unlk_n, lck_n, wq_retp, gTuple_l, gTuple_t, gList_l, gList_vl, gList_t, gLen_l, gLen_t, gInt_i, gNeg_i, Bool.false_eq_true, if_false, if_true, and_true, true_and, Nat.reduceAdd, Nat.reduceSub, Nat.reduceLT, Nat.reduceLeDiff, neg_true, neg_false, Bool.not_true, Bool.not_false, decide_true, decide_false]
      exact q2 h _
theorem p_is_quiet_in {l : List Pt} (L : FloorOk l) {v : List Pt} (hv : ∀ c ∈ v, c ∈ l) (hl : v.length ≤ 400) : FV F_is_quiet_in [FD l, FD v] (.val (.bl (apartB l 1 v && apartB l (-1) v))) := by
  refine fv_of ?_
  unfold B_is_quiet_in
  simp only [wp_bind, wp_c, wq_var, wp_op1, wp_op2, wp_opN, wq_ret1, wq_ret2, wq_retN, wp_nil, wp_cons, wp_dnil, wp_dcons, wp_esc, wp_escv, wp_escl, wp_tup, wp_lst, wp_bool, wp_tru, wq_retB, wp_not, wp_and, wp_or, wp_mif, wp_andV, wp_orV, wp_notV, wp_true, wp_chain, wp_retC1, wp_retC2, wp_noPart, wp_part, wp_retPart, wp_cut, wp_seq, wp_snil, wp_pass, wp_break, wp_cont, wp_never, wp_expr, wp_sif, wp_ret, wp_retv, wp_retN', wp_asg, wq_store, wp_par, wq_store2, wp_asgT, wp_call, lk_fl, lk_pl, ex_some, gSub_ii, gAdd_ii, gLt_ii, gLe_ii, gGt_ii, gGe_ii, gLt_pp, List.getD_cons_zero, List.getD_cons_succ, List.set_cons_zero, List.set_cons_succ, List.map_cons, List.map_nil, List.length_cons, List.length_nil, List.cons_append, List.nil_append, List.replicate, modeOf_un, modeOf_fl, one1, wp_if, wp_append, wp_setL, wp_intOf, unlk_n, lck_n, wq_retp, gTuple_l, gTuple_t, gList_l, gList_vl, gList_t, gLen_l, gLen_t, gInt_i, gNeg_i, Bool.false_eq_true, if_false, if_true, and_true, true_and, Nat.reduceAdd, Nat.reduceSub, Nat.reduceLT, Nat.reduceLeDiff, neg_true, neg_false, Bool.not_true, Bool.not_false, decide_true, decide_false]
  refine wp_for (wp_srcT (ds := [.int 1, .int (-1)]) ?_)
  simp only [wp_bind, wp_c, wq_var, wp_op1, wp_op2, wp_opN, wq_ret1, wq_ret2, wq_retN, wp_nil, wp_cons, wp_dnil, wp_dcons, wp_esc, wp_escv, wp_escl, wp_tup, wp_lst, wp_bool, wp_tru, wq_retB, wp_not, wp_and, wp_or, wp_mif, wp_andV, wp_orV, wp_notV, wp_true, wp_chain, wp_retC1, wp_retC2, wp_noPart, wp_part, wp_retPart, wp_cut, wp_seq, wp_snil, wp_pass, wp_break, wp_cont, wp_never, wp_expr, wp_sif, wp_ret, wp_retv, wp_retN', wp_asg, wq_store, wp_par, wq_store2, wp_asgT, wp_call, lk_fl, lk_pl, ex_some, gSub_ii, gAdd_ii, gLt_ii, gLe_ii, gGt_ii, gGe_ii, gLt_pp, List.getD_cons_zero, List.getD_cons_succ, List.set_cons_zero, List.set_cons_succ, List.map_cons, List.map_nil, List.length_cons, List.length_nil, List.cons_append, List.nil_append, List.replicate, modeOf_un, modeOf_fl, one1, wp_if, wp_append, wp_setL, wp_intOf, unlk_n, lck_n, wq_retp, gTuple_l, gTuple_t, gList_l, gList_vl, gList_t, gLen_l, gLen_t, gInt_i, gNeg_i, Bool.false_eq_true, if_false, if_true, and_true, true_and, Nat.reduceAdd, Nat.reduceSub, Nat.reduceLT, Nat.reduceLeDiff, neg_true, neg_false, Bool.not_true, Bool.not_false, decide_true, decide_false]
  refine ⟨two_ok, ?_⟩
  refine wp_fcons (ρ1 := [.v (FD l), .v (FD v), .v (.int 1), .un, .un]) rfl ?_
  refine wp_quiet1 L hv hl rfl rfl (fun h1 s3 m3 => ?_) fun h1 ρ => .inl (by rw [h1]; rfl)
  refine wp_fcons (ρ1 := [.v (FD l), .v (FD v), .v (.int (-1)), s3, .un]) rfl ?_
  refine wp_quiet1 L hv hl m3 rfl (fun h2 s3 m3 => wp_fnil ?_) fun h2 ρ => .inl (by rw [h1, h2]; rfl)
  simp only [wp_bind, wp_c, wq_var, wp_op1, wp_op2, wp_opN, wq_ret1, wq_ret2, wq_retN, wp_nil, wp_cons, wp_dnil, wp_dcons, wp_esc, wp_escv, wp_escl, wp_tup, wp_lst, wp_bool, wp_tru, wq_retB, wp_not, wp_and, wp_or, wp_mif, wp_andV, wp_orV, wp_notV, wp_true, wp_chain, wp_retC1, wp_retC2, wp_noPart, wp_part, wp_retPart, wp_cut, wp_seq, wp_snil, wp_pass, wp_break, wp_cont, wp_never, wp_expr, wp_sif, wp_ret, wp_retv, wp_retN', wp_asg, wq_store, wp_par, wq_store2, wp_asgT, wp_call, lk_fl, lk_pl, ex_some, gSub_ii, gAdd_ii, gLt_ii, gLe_ii, gGt_ii, gGe_ii, gLt_pp, List.getD_cons_zero, List.getD_cons_succ, List.set_cons_zero, List.set_cons_succ, List.map_cons, List.map_nil, List.length_cons, List.length_nil, List.cons_append, List.nil_append, List.replicate, modeOf_un, modeOf_fl, one1, wp_if, wp_append, wp_setL, wp_intOf, unlk_n, lck_n, wq_retp, gTuple_l, gTuple_t, gList_l, gList_vl, gList_t, gLen_l, gLen_t, gInt_i, gNeg_i, Bool.false_eq_true, if_false, if_true, and_true, true_and, Nat.reduceAdd, Nat.reduceSub, Nat.reduceLT, Nat.reduceLeDiff, neg_true, neg_false, Bool.not_true, Bool.not_false, decide_true, decide_false, h1, h2, Bool.and_self]
  exact .inl trivial
end K50
namespace K50
open VS
open PySem (sizeLine)
/-- what is handed in as a value -/
structure VOk (d : D) : Prop where
  sh : shp deep d = true
  few : ∀ ds, d = .tup ds → ds.length < 64
  inn : ∀ ds, d = .tup ds → ∀ es, D.tup es ∈ ds → es.length ≤ 1000
theorem fit_int {lo hi : Int} {d : D} (h : fitW lo hi d = true) : ∃ i, d = .int i ∧ lo ≤ i ∧ i ≤ hi := by
  cases d with
  | int i => simp [fitW] at h; exact ⟨i, rfl, h.1, h.2⟩
  | _ => simp [fitW] at h
theorem cell_pt {d : D} (h : cellB d = true) : ∃ p : Pt, d = prD p ∧ 0 ≤ p.1 ∧ p.1 ≤ 59 ∧ 0 ≤ p.2 ∧ p.2 ≤ 59 := by
  unfold cellB at h
  rw [Bool.and_eq_true] at h
  obtain ⟨h1, h2⟩ := h
  cases d with
  | tup ds =>
    simp only [tupB, Bool.and_eq_true, decide_eq_true_eq] at h1
    match ds, h1, h2 with
    | [a, b], _, h2 =>
      simp only [List.all_cons, List.all_nil, Bool.and_true, Bool.and_eq_true] at h2
      obtain ⟨i, rfl, i1, i2⟩ := fit_int h2.1
      obtain ⟨j, rfl, j1, j2⟩ := fit_int h2.2
      exact ⟨(i, j), rfl, i1, i2, j1, j2⟩
    | [], h1, _ => simp at h1
    | [a], h1, _ => simp at h1
    | a :: b :: c :: r, h1, _ => simp at h1; omega
  | _ => simp [tupB] at h1
theorem cells_pts : ∀ {ds : List D}, ds.all cellB = true → ∃ v : List Pt, ds = v.map prD ∧ ∀ p ∈ v, 0 ≤ p.1 ∧ p.1 ≤ 59 ∧ 0 ≤ p.2 ∧ p.2 ≤ 59
  | [], _ => ⟨[], rfl, fun _ h => nomatch h⟩
  | d :: ds, h => by
    rw [List.all_cons, Bool.and_eq_true] at h
    obtain ⟨p, rfl, hp⟩ := cell_pt h.1
    obtain ⟨v, rfl, hv⟩ := cells_pts h.2
    refine ⟨p :: v, rfl, fun q hq => ?_⟩
    rcases List.mem_cons.mp hq with rfl | hq
    · exact hp
    · exact hv q hq
theorem prs_prD : ∀ {v : List Pt}, prs (v.map prD) = some v
  | [] => rfl
  | x :: v => by
    show (prs (v.map prD)).map (x :: ·) = some (x :: v)
    rw [prs_prD]; rfl
def inB (l v : List Pt) : Bool := v.all fun c => decide (c ∈ l)
def quietP (l v : List Pt) : Bool := srtB v && inB l v && (apartB l 1 v && apartB l (-1) v)
def quietB (l : List Pt) (d : D) : Bool := match d with
  | .tup ds => ds.all cellB && match prs ds with
    | some v => quietP l v
    | none => false
  | _ => false
theorem wp_in' {l v : List Pt} {s3 s4 : Sl} {P : RV → Env → Prop} (hl : v.length ≤ 1000) (P0 : P (.v (.bl (inB l v))) [.v (FD l), .v (FD v), .un, s3, s4]) :
    wp (mComp (mSrcA (mVar 1)) [2] (putv 2) bTrue (mOp2 (gIn false) (mVar 2) (mVar 0))) [.v (FD l), .v (FD v), .un, s3, s4] fun r ρ' => ∃ f, look ρ' r = some f ∧ ∃ q, gFold (fun bs => bs.all id) f = some q ∧ P q ρ' := by
  refine wp_compM (L := v) (g := prD) (fun c => .bl (decide (c ∈ l))) (size_ok (by omega)) (wp_srcI rfl ⟨rfl, fun x hx => ?_, ?_⟩)
  · refine ⟨[.v (FD l), .v (FD v), .v (prD x), s3, s4], rfl, ?_⟩
    simp only [wp_bind, wp_c, wq_var, wp_op1, wp_op2, wp_opN, wq_ret1, wq_ret2, wq_retN, wp_nil, wp_cons, wp_dnil, wp_dcons, wp_esc, wp_escv, wp_escl, wp_tup, wp_lst, wp_bool, wp_tru, wq_retB, wp_not, wp_and, wp_or, wp_mif, wp_andV, wp_orV, wp_notV, wp_true, wp_chain, wp_retC1, wp_retC2, wp_noPart, wp_part, wp_retPart, wp_cut, wp_seq, wp_snil, wp_pass, wp_break, wp_cont, wp_never, wp_expr, wp_sif, wp_ret, wp_retv, wp_retN', wp_asg, wq_store, wp_par, wq_store2, wp_asgT, wp_call, lk_fl, lk_pl, ex_some, gSub_ii, gAdd_ii, gLt_ii, gLe_ii, gGt_ii, gGe_ii, gLt_pp, List.getD_cons_zero, List.getD_cons_succ, List.set_cons_zero, List.set_cons_succ, List.map_cons, List.map_nil, List.length_cons, List.length_nil, List.cons_append, List.nil_append, List.replicate, modeOf_un, modeOf_fl, one1, wp_if, wp_append, wp_setL, wp_intOf, unlk_n, lck_n, wq_retp, gTuple_l, gTuple_t, gList_l, gList_vl, gList_t, gLen_l, gLen_t, gInt_i, gNeg_i, Bool.false_eq_true, if_false, if_true, and_true, true_and, Nat.reduceAdd, Nat.reduceSub, Nat.reduceLT, Nat.reduceLeDiff, neg_true, neg_false, Bool.not_true, Bool.not_false, decide_true, decide_false, gIn_t]
    rfl
  · exact ⟨_, lk_fl, _, gFold_all, P0⟩
theorem p_is_quiet {l : List Pt} (L : FloorOk l) {d : D} (V : VOk d) : FV F_is_quiet [FD l, d] (.val (.bl (quietB l d))) := by
  refine fv_of ?_
  unfold B_is_quiet
  simp only [wp_bind, wp_c, wq_var, wp_op1, wp_op2, wp_opN, wq_ret1, wq_ret2, wq_retN, wp_nil, wp_cons, wp_dnil, wp_dcons, wp_esc, wp_escv, wp_escl, wp_tup, wp_lst, wp_bool, wp_tru, wq_retB, wp_not, wp_and, wp_or, wp_mif, wp_andV, wp_orV, wp_notV, wp_true, wp_chain, wp_retC1, wp_retC2, wp_noPart, wp_part, wp_retPart, wp_cut, wp_seq, wp_snil, wp_pass, wp_break, wp_cont, wp_never, wp_expr, wp_sif, wp_ret, wp_retv, wp_retN', wp_asg, wq_store, wp_par, wq_store2, wp_asgT, wp_call, lk_fl, lk_pl, ex_some, gSub_ii, gAdd_ii, gLt_ii, gLe_ii, gGt_ii, gGe_ii, gLt_pp, List.getD_cons_zero, List.getD_cons_succ, List.set_cons_zero, List.set_cons_succ, List.map_cons, List.map_nil, List.length_cons, List.length_nil, List.cons_append, List.nil_append, List.replicate, modeOf_un, modeOf_fl, one1, wp_if, wp_append, wp_setL, wp_intOf, unlk_n, lck_n, wq_retp, gTuple_l, gTuple_t, gList_l, gList_vl, gList_t, gLen_l, gLen_t, gInt_i, gNeg_i, Bool.false_eq_true, if_false, if_true, and_true, true_and, Nat.reduceAdd, Nat.reduceSub, Nat.reduceLT, Nat.reduceLeDiff, neg_true, neg_false, Bool.not_true, Bool.not_false, decide_true, decide_false]
  refine wp_fv1 (p_need_floor L) ?_
  simp only [wp_bind, wp_c, wq_var, wp_op1, wp_op2, wp_opN, wq_ret1, wq_ret2, wq_retN, wp_nil, wp_cons, wp_dnil, wp_dcons, wp_esc, wp_escv, wp_escl, wp_tup, wp_lst, wp_bool, wp_tru, wq_retB, wp_not, wp_and, wp_or, wp_mif, wp_andV, wp_orV, wp_notV, wp_true, wp_chain, wp_retC1, wp_retC2, wp_noPart, wp_part, wp_retPart, wp_cut, wp_seq, wp_snil, wp_pass, wp_break, wp_cont, wp_never, wp_expr, wp_sif, wp_ret, wp_retv, wp_retN', wp_asg, wq_store, wp_par, wq_store2, wp_asgT, wp_call, lk_fl, lk_pl, ex_some, gSub_ii, gAdd_ii, gLt_ii, gLe_ii, gGt_ii, gGe_ii, gLt_pp, List.getD_cons_zero, List.getD_cons_succ, List.set_cons_zero, List.set_cons_succ, List.map_cons, List.map_nil, List.length_cons, List.length_nil, List.cons_append, List.nil_append, List.replicate, modeOf_un, modeOf_fl, one1, wp_if, wp_append, wp_setL, wp_intOf, unlk_n, lck_n, wq_retp, gTuple_l, gTuple_t, gList_l, gList_vl, gList_t, gLen_l, gLen_t, gInt_i, gNeg_i, Bool.false_eq_true, if_false, if_true, and_true, true_and, Nat.reduceAdd, Nat.reduceSub, Nat.reduceLT, Nat.reduceLeDiff, neg_true, neg_false, Bool.not_true, Bool.not_false, decide_true, decide_false]
  refine wp_fv3 (p_is_tuple_of V.sh) ?_
  by_cases ht : ∃ ds, d = .tup ds
  · obtain ⟨ds, rfl⟩ := ht
    have hlen := V.few ds rfl
    have t1 : tupB 0 400 (.tup ds) = true := by simp [tupB]; omega
    simp only [wp_bind, wp_c, wq_var, wp_op1, wp_op2, wp_opN, wq_ret1, wq_ret2, wq_retN, wp_nil, wp_cons, wp_dnil, wp_dcons, wp_esc, wp_escv, wp_escl, wp_tup, wp_lst, wp_bool, wp_tru, wq_retB, wp_not, wp_and, wp_or, wp_mif, wp_andV, wp_orV, wp_notV, wp_true, wp_chain, wp_retC1, wp_retC2, wp_noPart, wp_part, wp_retPart, wp_cut, wp_seq, wp_snil, wp_pass, wp_break, wp_cont, wp_never, wp_expr, wp_sif, wp_ret, wp_retv, wp_retN', wp_asg, wq_store, wp_par, wq_store2, wp_asgT, wp_call, lk_fl, lk_pl, ex_some, gSub_ii, gAdd_ii, gLt_ii, gLe_ii, gGt_ii, gGe_ii, gLt_pp, List.getD_cons_zero, List.getD_cons_succ, List.set_cons_zero, List.set_cons_succ, List.map_cons, List.map_nil, List.length_cons, List.length_nil, List.cons_append, List.nil_append, List.replicate, modeOf_un, modeOf_fl, one1, wp_if, wp_append, wp_setL, wp_intOf, unlk_n, lck_n, wq_retp, gTuple_l, gTuple_t, gList_l, gList_vl, gList_t, gLen_l, gLen_t, gInt_i, gNeg_i, Bool.false_eq_true, if_false, if_true, and_true, true_and, Nat.reduceAdd, Nat.reduceSub, Nat.reduceLT, Nat.reduceLeDiff, neg_true, neg_false, Bool.not_true, Bool.not_false, decide_true, decide_false, truF, t1]
    refine wp_cells' (i := 1) (j := 2) rfl V.sh (by omega) (V.inn ds rfl) (by simp) ?_
    simp only [wp_bind, wp_c, wq_var, wp_op1, wp_op2, wp_opN, wq_ret1, wq_ret2, wq_retN, wp_nil, wp_cons, wp_dnil, wp_dcons, wp_esc, wp_escv, wp_escl, wp_tup, wp_lst, wp_bool, wp_tru, wq_retB, wp_not, wp_and, wp_or, wp_mif, wp_andV, wp_orV, wp_notV, wp_true, wp_chain, wp_retC1, wp_retC2, wp_noPart, wp_part, wp_retPart, wp_cut, wp_seq, wp_snil, wp_pass, wp_break, wp_cont, wp_never, wp_expr, wp_sif, wp_ret, wp_retv, wp_retN', wp_asg, wq_store, wp_par, wq_store2, wp_asgT, wp_call, lk_fl, lk_pl, ex_some, gSub_ii, gAdd_ii, gLt_ii, gLe_ii, gGt_ii, gGe_ii, gLt_pp, List.getD_cons_zero, List.getD_cons_succ, List.set_cons_zero, List.set_cons_succ, List.map_cons, List.map_nil, List.length_cons, List.length_nil, List.cons_append, List.nil_append, List.replicate, modeOf_un, modeOf_fl, one1, wp_if, wp_append, wp_setL, wp_intOf, unlk_n, lck_n, wq_retp, gTuple_l, gTuple_t, gList_l, gList_vl, gList_t, gLen_l, gLen_t, gInt_i, gNeg_i, Bool.false_eq_true, if_false, if_true, and_true, true_and, Nat.reduceAdd, Nat.reduceSub, Nat.reduceLT, Nat.reduceLeDiff, neg_true, neg_false, Bool.not_true, Bool.not_false, decide_true, decide_false, truF]
    by_cases hc : ds.all cellB = true
    · obtain ⟨v, rfl, hv⟩ := cells_pts hc
      rw [List.length_map] at hlen
      have eq : quietB l (FD v) = quietP l v := by
        show ((v.map prD).all cellB && match prs (v.map prD) with
          | some v => quietP l v
          | none => false) = _
        rw [hc, prs_prD]; rfl
      simp only [hc, wp_bind, wp_c, wq_var, wp_op1, wp_op2, wp_opN, wq_ret1, wq_ret2, wq_retN, wp_nil, wp_cons, wp_dnil, wp_dcons, wp_esc, wp_escv, wp_escl, wp_tup, wp_lst, wp_bool, wp_tru, wq_retB, wp_not, wp_and, wp_or, wp_mif, wp_andV, wp_orV, wp_notV, wp_true, wp_chain, wp_retC1, wp_retC2, wp_noPart, wp_part, wp_retPart, wp_cut, wp_seq, wp_snil, wp_pass, wp_break, wp_cont, wp_never, wp_expr, wp_sif, wp_ret, wp_retv, wp_retN', wp_asg, wq_store, wp_par, wq_store2, wp_asgT, wp_call, lk_fl, lk_pl, ex_some, gSub_ii, gAdd_ii, gLt_ii, gLe_ii, gGt_ii, gGe_ii, gLt_pp, List.getD_cons_zero, List.getD_cons_succ, List.set_cons_zero, List.set_cons_succ, List.map_cons, List.map_nil, List.length_cons, List.length_nil, List.cons_append, List.nil_append, List.replicate, modeOf_un, modeOf_fl, one1, wp_if, wp_append, wp_setL, wp_intOf, unlk_n, lck_n, wq_retp, gTuple_l, gTuple_t, gList_l, gList_vl, gList_t, gLen_l, gLen_t, gInt_i, gNeg_i, Bool.false_eq_true, if_false, if_true, and_true, true_and, Nat.reduceAdd, Nat.reduceSub, Nat.reduceLT, Nat.reduceLeDiff, neg_true, neg_false, Bool.not_true, Bool.not_false, decide_true, decide_false]
      refine wp_order' (i := 1) (j := 3) (k := 4) rfl (by omega) (by simp) (by simp) (by decide) ?_
      simp only [wp_bind, wp_c, wq_var, wp_op1, wp_op2, wp_opN, wq_ret1, wq_ret2, wq_retN, wp_nil, wp_cons, wp_dnil, wp_dcons, wp_esc, wp_escv, wp_escl, wp_tup, wp_lst, wp_bool, wp_tru, wq_retB, wp_not, wp_and, wp_or, wp_mif, wp_andV, wp_orV, wp_notV, wp_true, wp_chain, wp_retC1, wp_retC2, wp_noPart, wp_part, wp_retPart, wp_cut, wp_seq, wp_snil, wp_pass, wp_break, wp_cont, wp_never, wp_expr, wp_sif, wp_ret, wp_retv, wp_retN', wp_asg, wq_store, wp_par, wq_store2, wp_asgT, wp_call, lk_fl, lk_pl, ex_some, gSub_ii, gAdd_ii, gLt_ii, gLe_ii, gGt_ii, gGe_ii, gLt_pp, List.getD_cons_zero, List.getD_cons_succ, List.set_cons_zero, List.set_cons_succ, List.map_cons, List.map_nil, List.length_cons, List.length_nil, List.cons_append, List.nil_append, List.replicate, modeOf_un, modeOf_fl, one1, wp_if, wp_append, wp_setL, wp_intOf, unlk_n, lck_n, wq_retp, gTuple_l, gTuple_t, gList_l, gList_vl, gList_t, gLen_l, gLen_t, gInt_i, gNeg_i, Bool.false_eq_true, if_false, if_true, and_true, true_and, Nat.reduceAdd, Nat.reduceSub, Nat.reduceLT, Nat.reduceLeDiff, neg_true, neg_false, Bool.not_true, Bool.not_false, decide_true, decide_false, truF]
      rw [eq]
      cases hs : srtB v with
      | false =>
        have : quietP l v = false := by unfold quietP; rw [hs]; rfl
        rw [this]
        simp only [wp_bind, wp_c, wq_var, wp_op1, wp_op2, wp_opN, wq_ret1, wq_ret2, wq_retN, wp_nil, wp_cons, wp_dnil, wp_dcons, wp_esc, wp_escv, wp_escl, wp_tup, wp_lst, wp_bool, wp_tru, wq_retB, wp_not, wp_and, wp_or, wp_mif, wp_andV, wp_orV, wp_notV, wp_true, wp_chain, wp_retC1, wp_retC2, wp_noPart, wp_part, wp_retPart, wp_cut, wp_seq, wp_snil, wp_pass, wp_break, wp_cont, wp_never, wp_expr, wp_sif, wp_ret, wp_retv, wp_retN', wp_asg, wq_store, wp_par, wq_store2, wp_asgT, wp_call, lk_fl, lk_pl, ex_some, gSub_ii, gAdd_ii, gLt_ii, gLe_ii, gGt_ii, gGe_ii, gLt_pp, List.getD_cons_zero, List.getD_cons_succ, List.set_cons_zero, List.set_cons_succ, List.map_cons, List.map_nil, List.length_cons, List.length_nil, List.cons_append, List.nil_append, List.replicate, modeOf_un, modeOf_fl, one1, wp_if, wp_append, wp_setL, wp_intOf, unlk_n, lck_n, wq_retp, gTuple_l, gTuple_t, gList_l, gList_vl, gList_t, gLen_l, gLen_t, gInt_i, gNeg_i, Bool.false_eq_true, if_false, if_true, and_true, true_and, Nat.reduceAdd, Nat.reduceSub, Nat.reduceLT, Nat.reduceLeDiff, neg_true, neg_false, Bool.not_true, Bool.not_false, decide_true, decide_false]
        exact .inl trivial
      | true =>
        simp only [wp_bind, wp_c, wq_var, wp_op1, wp_op2, wp_opN, wq_ret1, wq_ret2, wq_retN, wp_nil, wp_cons, wp_dnil, wp_dcons, wp_esc, wp_escv, wp_escl, wp_tup, wp_lst, wp_bool, wp_tru, wq_retB, wp_not, wp_and, wp_or, wp_mif, wp_andV, wp_orV, wp_notV, wp_true, wp_chain, wp_retC1, wp_retC2, wp_noPart, wp_part, wp_retPart, wp_cut, wp_seq, wp_snil, wp_pass, wp_break, wp_cont, wp_never, wp_expr, wp_sif, wp_ret, wp_retv, wp_retN', wp_asg, wq_store, wp_par, wq_store2, wp_asgT, wp_call, lk_fl, lk_pl, ex_some, gSub_ii, gAdd_ii, gLt_ii, gLe_ii, gGt_ii, gGe_ii, gLt_pp, List.getD_cons_zero, List.getD_cons_succ, List.set_cons_zero, List.set_cons_succ, List.map_cons, List.map_nil, List.length_cons, List.length_nil, List.cons_append, List.nil_append, List.replicate, modeOf_un, modeOf_fl, one1, wp_if, wp_append, wp_setL, wp_intOf, unlk_n, lck_n, wq_retp, gTuple_l, gTuple_t, gList_l, gList_vl, gList_t, gLen_l, gLen_t, gInt_i, gNeg_i, Bool.false_eq_true, if_false, if_true, and_true, true_and, Nat.reduceAdd, Nat.reduceSub, Nat.reduceLT, Nat.reduceLeDiff, neg_true, neg_false, Bool.not_true, Bool.not_false, decide_true, decide_false]
        refine wp_in' (by omega) ?_
        simp only [wp_bind, wp_c, wq_var, wp_op1, wp_op2, wp_opN, wq_ret1, wq_ret2, wq_retN, wp_nil, wp_cons, wp_dnil, wp_dcons, wp_esc, wp_escv, wp_escl, wp_tup, wp_lst, wp_bool, wp_tru, wq_retB, wp_not, wp_and, wp_or, wp_mif, wp_andV, wp_orV, wp_notV, wp_true, wp_chain, wp_retC1, wp_retC2, wp_noPart, wp_part, wp_retPart, wp_cut, wp_seq, wp_snil, wp_pass, wp_break, wp_cont, wp_never, wp_expr, wp_sif, wp_ret, wp_retv, wp_retN', wp_asg, wq_store, wp_par, wq_store2, wp_asgT, wp_call, lk_fl, lk_pl, ex_some, gSub_ii, gAdd_ii, gLt_ii, gLe_ii, gGt_ii, gGe_ii, gLt_pp, List.getD_cons_zero, List.getD_cons_succ, List.set_cons_zero, List.set_cons_succ, List.map_cons, List.map_nil, List.length_cons, List.length_nil, List.cons_append, List.nil_append, List.replicate, modeOf_un, modeOf_fl, one1, wp_if, wp_append, wp_setL, wp_intOf, unlk_n, lck_n, wq_retp, gTuple_l, gTuple_t, gList_l, gList_vl, gList_t, gLen_l, gLen_t, gInt_i, gNeg_i, Bool.false_eq_true, if_false, if_true, and_true, true_and, Nat.reduceAdd, Nat.reduceSub, Nat.reduceLT, Nat.reduceLeDiff, neg_true, neg_false, Bool.not_true, Bool.not_false, decide_true, decide_false, truF]
        cases hi : inB l v with
        | false =>
          have : quietP l v = false := by unfold quietP; rw [hs, hi]; rfl
          rw [this]
          simp only [wp_bind, wp_c, wq_var, wp_op1, wp_op2, wp_opN, wq_ret1, wq_ret2, wq_retN, wp_nil, wp_cons, wp_dnil, wp_dcons, wp_esc, wp_escv, wp_escl, wp_tup, wp_lst, wp_bool, wp_tru, wq_retB, wp_not, wp_and, wp_or, wp_mif, wp_andV, wp_orV, wp_notV, wp_true, wp_chain, wp_retC1, wp_retC2, wp_noPart, wp_part, wp_retPart, wp_cut, wp_seq, wp_snil, wp_pass, wp_break, wp_cont, wp_never, wp_expr, wp_sif, wp_ret, wp_retv, wp_retN', wp_asg, wq_store, wp_par, wq_store2, wp_asgT, wp_call, lk_fl, lk_pl, ex_some, gSub_ii, gAdd_ii, gLt_ii, gLe_ii, gGt_ii, gGe_ii, gLt_pp, List.getD_cons_zero, List.getD_cons_succ, List.set_cons_zero, List.set_cons_succ, List.map_cons, List.map_nil, List.length_cons, List.length_nil, List.cons_append, List.nil_append, List.replicate, modeOf_un, modeOf_fl, one1, wp_if, wp_append, wp_setL, wp_intOf, unlk_n, lck_n, wq_retp, gTuple_l, gTuple_t, gList_l, gList_vl, gList_t, gLen_l, gLen_t, gInt_i, gNeg_i, Bool.false_eq_true, if_false, if_true, and_true, true_and, Nat.reduceAdd, Nat.reduceSub, Nat.reduceLT, Nat.reduceLeDiff, neg_true, neg_false, Bool.not_true, Bool.not_false, decide_true, decide_false]
          exact .inl trivial
        | true =>
          simp only [wp_bind, wp_c, wq_var, wp_op1, wp_op2, wp_opN, wq_ret1, wq_ret2, wq_retN, wp_nil, wp_cons, wp_dnil, wp_dcons, wp_esc, wp_escv, wp_escl, wp_tup, wp_lst, wp_bool, wp_tru, wq_retB, wp_not, wp_and, wp_or, wp_mif, wp_andV, wp_orV, wp_notV, wp_true, wp_chain, wp_retC1, wp_retC2, wp_noPart, wp_part, wp_retPart, wp_cut, wp_seq, wp_snil, wp_pass, wp_break, wp_cont, wp_never, wp_expr, wp_sif, wp_ret, wp_retv, wp_retN', wp_asg, wq_store, wp_par, wq_store2, wp_asgT, wp_call, lk_fl, lk_pl, ex_some, gSub_ii, gAdd_ii, gLt_ii, gLe_ii, gGt_ii, gGe_ii, gLt_pp, List.getD_cons_zero, List.getD_cons_succ, List.set_cons_zero, List.set_cons_succ, List.map_cons, List.map_nil, List.length_cons, List.length_nil, List.cons_append, List.nil_append, List.replicate, modeOf_un, modeOf_fl, one1, wp_if, wp_append, wp_setL, wp_intOf, unlk_n, lck_n, wq_retp, gTuple_l, gTuple_t, gList_l, gList_vl, gList_t, gLen_l, gLen_t, gInt_i, gNeg_i, Bool.false_eq_true, if_false, if_true, and_true, true_and, Nat.reduceAdd, Nat.reduceSub, Nat.reduceLT, Nat.reduceLeDiff, neg_true, neg_false, Bool.not_true, Bool.not_false, decide_true, decide_false]
          refine wp_fv2 (p_is_quiet_in L (fun c hc => by
            unfold inB at hi
            exact of_decide_eq_true (List.all_eq_true.mp hi c hc)) (by omega)) ?_
          have : quietP l v = (apartB l 1 v && apartB l (-1) v) := by unfold quietP; rw [hs, hi]; rfl
          rw [this]
          simp only [wp_bind, wp_c, wq_var, wp_op1, wp_op2, wp_opN, wq_ret1, wq_ret2, wq_retN, wp_nil, wp_cons, wp_dnil, wp_dcons, wp_esc, wp_escv, wp_escl, wp_tup, wp_lst, wp_bool, wp_tru, wq_retB, wp_not, wp_and, wp_or, wp_mif, wp_andV, wp_orV, wp_notV, wp_true, wp_chain, wp_retC1, wp_retC2, wp_noPart, wp_part, wp_retPart, wp_cut, wp_seq, wp_snil, wp_pass, wp_break, wp_cont, wp_never, wp_expr, wp_sif, wp_ret, wp_retv, wp_retN', wp_asg, wq_store, wp_par, wq_store2, wp_asgT, wp_call, lk_fl, lk_pl, ex_some, gSub_ii, gAdd_ii, gLt_ii, gLe_ii, gGt_ii, gGe_ii, gLt_pp, List.getD_cons_zero, List.getD_cons_succ, List.set_cons_zero, List.set_cons_succ, List.map_cons, List.map_nil, List.length_cons, List.length_nil, List.cons_append, List.nil_append, List.replicate, modeOf_un, modeOf_fl, one1, wp_if, wp_append, wp_setL, wp_intOf, unlk_n, lck_n, wq_retp, gTuple_l, gTuple_t, gList_l, gList_vl, gList_t, gLen_l, gLen_t, gInt_i, gNeg_i, Bool.false_eq_true, if_false, if_true, and_true, true_and, Nat.reduceAdd, Nat.reduceSub, Nat.reduceLT, Nat.reduceLeDiff, neg_true, neg_false, Bool.not_true, Bool.not_false, decide_true, decide_false]
          exact .inl trivial
    · have hc : ds.all cellB = false := by simpa using hc
      have : quietB l (.tup ds) = false := by
        show (ds.all cellB && _) = false
        rw [hc]; rfl
      rw [this]
      simp only [hc, wp_bind, wp_c, wq_var, wp_op1, wp_op2, wp_opN, wq_ret1, wq_ret2, wq_retN, wp_nil, wp_cons, wp_dnil, wp_dcons, wp_esc, wp_escv, wp_escl, wp_tup, wp_lst, wp_bool, wp_tru, wq_retB, wp_not, wp_and, wp_or, wp_mif, wp_andV, wp_orV, wp_notV, wp_true, wp_chain, wp_retC1, wp_retC2, wp_noPart, wp_part, wp_retPart, wp_cut, wp_seq, wp_snil, wp_pass, wp_break, wp_cont, wp_never, wp_expr, wp_sif, wp_ret, wp_retv, wp_retN', wp_asg, wq_store, wp_par, wq_store2, wp_asgT, wp_call, lk_fl, lk_pl, ex_some, gSub_ii, gAdd_ii, gLt_ii, gLe_ii, gGt_ii, gGe_ii, gLt_pp, List.getD_cons_zero, List.getD_cons_succ, List.set_cons_zero, List.set_cons_succ, List.map_cons, List.map_nil, List.length_cons, List.length_nil, List.cons_append, List.nil_append, List.replicate, modeOf_un, modeOf_fl, one1, wp_if, wp_append, wp_setL, wp_intOf, unlk_n, lck_n, wq_retp, gTuple_l, gTuple_t, gList_l, gList_vl, gList_t, gLen_l, gLen_t, gInt_i, gNeg_i, Bool.false_eq_true, if_false, if_true, and_true, true_and, Nat.reduceAdd, Nat.reduceSub, Nat.reduceLT, Nat.reduceLeDiff, neg_true, neg_false, Bool.not_true, Bool.not_false, decide_true, decide_false]
      exact .inl trivial
  · have t1 : tupB 0 400 d = false := by
      cases d with
      | tup ds => exact absurd ⟨ds, rfl⟩ ht
      | _ => rfl
    have : quietB l d = false := by
      cases d with
      | tup ds => exact absurd ⟨ds, rfl⟩ ht
      | _ => rfl
    rw [this]
    simp only [wp_bind, wp_c, wq_var, wp_op1, wp_op2, wp_opN, wq_ret1, wq_ret2, wq_retN, wp_nil, wp_cons, wp_dnil, wp_dcons, wp_esc, wp_escv, wp_escl, wp_tup, wp_lst, wp_bool, wp_tru, wq_retB, wp_not, wp_and, wp_or, wp_mif, wp_andV, wp_orV, wp_notV, wp_true, wp_chain, wp_retC1, wp_retC2, wp_noPart, wp_part, wp_retPart, wp_cut, wp_seq, wp_snil, wp_pass, wp_break, wp_cont, wp_never, wp_expr, wp_sif, wp_ret, wp_retv, wp_retN', wp_asg, wq_store, wp_par, wq_store2, wp_asgT, wp_call, lk_fl, lk_pl, ex_some, gSub_ii, gAdd_ii, gLt_ii, gLe_ii, gGt_ii, gGe_ii, gLt_pp, List.getD_cons_zero, List.getD_cons_succ, List.set_cons_zero, List.set_cons_succ, List.map_cons, List.map_nil, List.length_cons, List.length_nil, List.cons_append, List.nil_append, List.replicate, modeOf_un, modeOf_fl, one1, wp_if, wp_append, wp_setL, wp_intOf, unlk_n, lck_n, wq_retp, gTuple_l, gTuple_t, gList_l, gList_vl, gList_t, gLen_l, gLen_t, gInt_i, gNeg_i, Bool.false_eq_true, if_false, if_true, and_true, true_and, Nat.reduceAdd, Nat.reduceSub, Nat.reduceLT, Nat.reduceLeDiff, neg_true, neg_false, Bool.not_true, Bool.not_false, decide_true, decide_false, truF, t1]
    exact .inl trivial
end K50
namespace K50
open VS
open PySem (sizeLine)
theorem sortP_eq {v : List Pt} : v = sortP v ↔ v.Pairwise ltP := by
  constructor
  · intro h; rw [h]; exact sortP_sorted v
  · exact fun h => sorted_uniq h (sortP_sorted v) fun z => (sortP_mem z v).symm
theorem gSortSet_t {v : List Pt} (h : v.length < 64) (hr : ∀ p ∈ v, 0 ≤ p.1 ∧ p.1 ≤ 59 ∧ 0 ≤ p.2 ∧ p.2 ≤ 59) : gSortSet (.val (FD v)) = some (.fl (.lst ((sortP v).map prD))) := by
  have e : asS (.val (FD v)) = some (v.map prD) := rfl
  unfold gSortSet
  rw [e]
  simp only
  rw [prs_prD]
  simp only
  rw [if_pos ⟨h, by
    rw [List.all_eq_true]
    intro p hp
    have := hr p hp
    exact decide_eq_true (by omega)⟩]
theorem shp_lstP {v : List Pt} : shp deep (.lst (v.map prD)) = true := shps_prD (n := 10)
theorem eqb_lstP {v w : List Pt} : eqb (.lst (v.map prD)) (.lst (w.map prD)) = decide (v = w) := eqbs_prD
theorem gEq_lp {neg : Bool} {v w : List Pt} : gEqG neg (.lst (v.map prD)) (.lst (w.map prD)) = some (.v (.bl (neg != decide (v = w)))) := by
  rw [gEq_ll shp_lstP shp_lstP, eqb_lstP]
/-- the list of faults is empty -/
theorem gEq_ones {α : Type} {neg : Bool} {xs : List α} {f : α → D} (h : shp deep (.lst (xs.map f)) = true) : gEqG neg (.lst (xs.map f)) (.lst []) = some (.v (.bl (neg != decide (xs = [])))) := by
  rw [gEq_ll h (by decide)]
  have : eqb (.lst (xs.map f)) (.lst []) = decide (xs = []) := by
    cases xs with
    | nil => rfl
    | cons x xs => simp [eqb, eqbs]
  rw [this]
theorem shp_ones {α : Type} {xs : List α} : shp deep (.lst (xs.map fun _ => .int 1)) = true := shps_map (n := 11) fun _ _ => shp_int
/-- the law's own test of a place -/
def badW (d : D) : Bool := !fitW 0 59 d
theorem filter_bad {ds : List D} : decide (ds.filter badW = []) = ds.all (fitW 0 59) := by
  induction ds with
  | nil => rfl
  | cons d ds ih =>
    rw [List.all_cons, ← ih, List.filter_cons]
    unfold badW
    cases fitW 0 59 d <;> simp
theorem wp_badtest {s0 s1 : Sl} {y : D} (hy : shp deep y = true) {P : Bool → Env → Prop} (P0 : P (badW y) [s0, s1, .v y]) :
    wp (mOr (mTru (mOp1 (gIsi .bl) (mVar 2))) (mOr (mNot (mTru (mOp1 (gIsi .int) (mVar 2)))) (mNot (mBool (mChain pLe pLe (mC (.int 0)) (mVar 2) (mC (.int 59))))))) [s0, s1, .v y] P := by
  unfold badW at P0
  cases y <;> first | (simp [shp, deep] at hy; done) | skip
  all_goals
    simp only [wp_bind, wp_c, wq_var, wp_op1, wp_op2, wp_opN, wq_ret1, wq_ret2, wq_retN, wp_nil, wp_cons, wp_dnil, wp_dcons, wp_esc, wp_escv, wp_escl, wp_tup, wp_lst, wp_bool, wp_tru, wq_retB, wp_not, wp_and, wp_or, wp_mif, wp_andV, wp_orV, wp_notV, wp_true, wp_chain, wp_retC1, wp_retC2, wp_noPart, wp_part, wp_retPart, wp_cut, wp_seq, wp_snil, wp_pass, wp_break, wp_cont, wp_never, wp_expr, wp_sif, wp_ret, wp_retv, wp_retN', wp_asg, wq_store, wp_par, wq_store2, wp_asgT, wp_call, lk_fl, lk_pl, ex_some, gSub_ii, gAdd_ii, gLt_ii, gLe_ii, gGt_ii, gGe_ii, gLt_pp, List.getD_cons_zero, List.getD_cons_succ, List.set_cons_zero, List.set_cons_succ, List.map_cons, List.map_nil, List.length_cons, List.length_nil, List.cons_append, List.nil_append, List.replicate, modeOf_un, modeOf_fl, one1, wp_if, wp_append, wp_setL, wp_intOf, unlk_n, lck_n, wq_retp, gTuple_l, gTuple_t, gList_l, gList_vl, gList_t, gLen_l, gLen_t, gInt_i, gNeg_i, Bool.false_eq_true, if_false, if_true, and_true, true_and, Nat.reduceAdd, Nat.reduceSub, Nat.reduceLT, Nat.reduceLeDiff, neg_true, neg_false, Bool.not_true, Bool.not_false, decide_true, decide_false, gIsi, tyF, isTy, truF, blF, fitW] at P0 ⊢
    simp at P0 ⊢
    try exact P0
  rename_i i
  by_cases h1 : 0 ≤ i <;> by_cases h2 : i ≤ 59 <;> simp [h1, h2, pLe, wp_bind, wp_c, wq_var, wp_op1, wp_op2, wp_opN, wq_ret1, wq_ret2, wq_retN, wp_nil, wp_cons, wp_dnil, wp_dcons, wp_esc, wp_escv, wp_escl, wp_tup, wp_lst, wp_bool, wp_tru, wq_retB, wp_not, wp_and, wp_or, wp_mif, wp_andV, wp_orV, wp_notV, wp_true, wp_chain, wp_retC1, wp_retC2, wp_noPart, wp_part, wp_retPart, wp_cut, wp_seq, wp_snil, wp_pass, wp_break, wp_cont, wp_never, wp_expr, wp_sif, wp_ret, wp_retv, wp_retN', wp_asg, wq_store, wp_par, wq_store2, wp_asgT, wp_call, lk_fl, lk_pl, ex_some, gSub_ii, gAdd_ii, gLt_ii, gLe_ii, gGt_ii, gGe_ii, gLt_pp, List.getD_cons_zero, List.getD_cons_succ, List.set_cons_zero, List.set_cons_succ, List.map_cons, List.map_nil, List.length_cons, List.length_nil, List.cons_append, List.nil_append, List.replicate, modeOf_un, modeOf_fl, one1, wp_if, wp_append, wp_setL, wp_intOf, unlk_n, lck_n, wq_retp, gTuple_l, gTuple_t, gList_l, gList_vl, gList_t, gLen_l, gLen_t, gInt_i, gNeg_i, Bool.false_eq_true, if_false, if_true, and_true, true_and, Nat.reduceAdd, Nat.reduceSub, Nat.reduceLT, Nat.reduceLeDiff, neg_true, neg_false, Bool.not_true, Bool.not_false, decide_true, decide_false, blF, wp_retC2] at P0 ⊢ <;> exact P0
theorem wp_cellturn {ds : List D} {d : D} (hd : shp deep d = true) (hlen : ∀ es, d = .tup es → es.length ≤ 1000) {s2 : Sl} (m2 : modeOf s2 = .own) {Q : Flo → Env → Prop} (q1 : cellB d = true → Q .nx [.v (.tup ds), .v d, s2]) (q2 : cellB d = false → ∀ ρ, Q (.rt (.v (.bl false))) ρ) :
    wp (sSeq (sIf (mOr (mNot (mTru (mOp1 (gIsi .tup) (mVar 1)))) (mBool (mOp2 (gEqG true) (mOpN (one1 gLen) (mCons (mVar 1) mNil)) (mC (.int 2))))) (sRet (mC (.bl false))) sNil)
      (sIf (mBool (mOp2 (gEqG true) (mComp (mSrcA (mVar 1)) [2] (putv 2) (mOr (mTru (mOp1 (gIsi .bl) (mVar 2))) (mOr (mNot (mTru (mOp1 (gIsi .int) (mVar 2)))) (mNot (mBool (mChain pLe pLe (mC (.int 0)) (mVar 2) (mC (.int 59))))))) (mC (.int 1))) (mLst dNil))) (sRet (mC (.bl false))) sNil))
      [.v (.tup ds), .v d, s2] Q := by
  by_cases ht : ∃ es, d = .tup es
  · obtain ⟨es, rfl⟩ := ht
    have hl := hlen es rfl
    simp only [wp_bind, wp_c, wq_var, wp_op1, wp_op2, wp_opN, wq_ret1, wq_ret2, wq_retN, wp_nil, wp_cons, wp_dnil, wp_dcons, wp_esc, wp_escv, wp_escl, wp_tup, wp_lst, wp_bool, wp_tru, wq_retB, wp_not, wp_and, wp_or, wp_mif, wp_andV, wp_orV, wp_notV, wp_true, wp_chain, wp_retC1, wp_retC2, wp_noPart, wp_part, wp_retPart, wp_cut, wp_seq, wp_snil, wp_pass, wp_break, wp_cont, wp_never, wp_expr, wp_sif, wp_ret, wp_retv, wp_retN', wp_asg, wq_store, wp_par, wq_store2, wp_asgT, wp_call, lk_fl, lk_pl, ex_some, gSub_ii, gAdd_ii, gLt_ii, gLe_ii, gGt_ii, gGe_ii, gLt_pp, List.getD_cons_zero, List.getD_cons_succ, List.set_cons_zero, List.set_cons_succ, List.map_cons, List.map_nil, List.length_cons, List.length_nil, List.cons_append, List.nil_append, List.replicate, modeOf_un, modeOf_fl, one1, wp_if, wp_append, wp_setL, wp_intOf, unlk_n, lck_n, wq_retp, gTuple_l, gTuple_t, gList_l, gList_vl, gList_t, gLen_l, gLen_t, gInt_i, gNeg_i, Bool.false_eq_true, if_false, if_true, and_true, true_and, Nat.reduceAdd, Nat.reduceSub, Nat.reduceLT, Nat.reduceLeDiff, neg_true, neg_false, Bool.not_true, Bool.not_false, decide_true, decide_false, gIsi, tyF, isTy, truF, blF, gEq_ii]
    simp only [decide_true, Bool.true_or, wp_bind, wp_c, wq_var, wp_op1, wp_op2, wp_opN, wq_ret1, wq_ret2, wq_retN, wp_nil, wp_cons, wp_dnil, wp_dcons, wp_esc, wp_escv, wp_escl, wp_tup, wp_lst, wp_bool, wp_tru, wq_retB, wp_not, wp_and, wp_or, wp_mif, wp_andV, wp_orV, wp_notV, wp_true, wp_chain, wp_retC1, wp_retC2, wp_noPart, wp_part, wp_retPart, wp_cut, wp_seq, wp_snil, wp_pass, wp_break, wp_cont, wp_never, wp_expr, wp_sif, wp_ret, wp_retv, wp_retN', wp_asg, wq_store, wp_par, wq_store2, wp_asgT, wp_call, lk_fl, lk_pl, ex_some, gSub_ii, gAdd_ii, gLt_ii, gLe_ii, gGt_ii, gGe_ii, gLt_pp, List.getD_cons_zero, List.getD_cons_succ, List.set_cons_zero, List.set_cons_succ, List.map_cons, List.map_nil, List.length_cons, List.length_nil, List.cons_append, List.nil_append, List.replicate, modeOf_un, modeOf_fl, one1, wp_if, wp_append, wp_setL, wp_intOf, unlk_n, lck_n, wq_retp, gTuple_l, gTuple_t, gList_l, gList_vl, gList_t, gLen_l, gLen_t, gInt_i, gNeg_i, Bool.false_eq_true, if_false, if_true, and_true, true_and, Nat.reduceAdd, Nat.reduceSub, Nat.reduceLT, Nat.reduceLeDiff, neg_true, neg_false, Bool.not_true, Bool.not_false, decide_true, decide_false]
    by_cases h2 : (es.length : Int) = 2
    · have h2n : es.length = 2 := by omega
      simp only [h2, wp_bind, wp_c, wq_var, wp_op1, wp_op2, wp_opN, wq_ret1, wq_ret2, wq_retN, wp_nil, wp_cons, wp_dnil, wp_dcons, wp_esc, wp_escv, wp_escl, wp_tup, wp_lst, wp_bool, wp_tru, wq_retB, wp_not, wp_and, wp_or, wp_mif, wp_andV, wp_orV, wp_notV, wp_true, wp_chain, wp_retC1, wp_retC2, wp_noPart, wp_part, wp_retPart, wp_cut, wp_seq, wp_snil, wp_pass, wp_break, wp_cont, wp_never, wp_expr, wp_sif, wp_ret, wp_retv, wp_retN', wp_asg, wq_store, wp_par, wq_store2, wp_asgT, wp_call, lk_fl, lk_pl, ex_some, gSub_ii, gAdd_ii, gLt_ii, gLe_ii, gGt_ii, gGe_ii, gLt_pp, List.getD_cons_zero, List.getD_cons_succ, List.set_cons_zero, List.set_cons_succ, List.map_cons, List.map_nil, List.length_cons, List.length_nil, List.cons_append, List.nil_append, List.replicate, modeOf_un, modeOf_fl, one1, wp_if, wp_append, wp_setL, wp_intOf, unlk_n, lck_n, wq_retp, gTuple_l, gTuple_t, gList_l, gList_vl, gList_t, gLen_l, gLen_t, gInt_i, gNeg_i, Bool.false_eq_true, if_false, if_true, and_true, true_and, Nat.reduceAdd, Nat.reduceSub, Nat.reduceLT, Nat.reduceLeDiff, neg_true, neg_false, Bool.not_true, Bool.not_false, decide_true, decide_false]
      refine wp_compT (L := es) (g := id) badW (fun _ => .int 1) (size_ok (by omega)) (wp_srcI rfl ⟨by simp, fun y hy => ?_, ?_⟩)
      · refine ⟨[.v (.tup ds), .v (.tup es), .v y], rfl, wp_badtest (shp_in hd hy) ⟨rfl, fun _ => rfl, fun _ => ?_⟩⟩
        simp only [wp_bind, wp_c, wq_var, wp_op1, wp_op2, wp_opN, wq_ret1, wq_ret2, wq_retN, wp_nil, wp_cons, wp_dnil, wp_dcons, wp_esc, wp_escv, wp_escl, wp_tup, wp_lst, wp_bool, wp_tru, wq_retB, wp_not, wp_and, wp_or, wp_mif, wp_andV, wp_orV, wp_notV, wp_true, wp_chain, wp_retC1, wp_retC2, wp_noPart, wp_part, wp_retPart, wp_cut, wp_seq, wp_snil, wp_pass, wp_break, wp_cont, wp_never, wp_expr, wp_sif, wp_ret, wp_retv, wp_retN', wp_asg, wq_store, wp_par, wq_store2, wp_asgT, wp_call, lk_fl, lk_pl, ex_some, gSub_ii, gAdd_ii, gLt_ii, gLe_ii, gGt_ii, gGe_ii, gLt_pp, List.getD_cons_zero, List.getD_cons_succ, List.set_cons_zero, List.set_cons_succ, List.map_cons, List.map_nil, List.length_cons, List.length_nil, List.cons_append, List.nil_append, List.replicate, modeOf_un, modeOf_fl, one1, wp_if, wp_append, wp_setL, wp_intOf, unlk_n, lck_n, wq_retp, gTuple_l, gTuple_t, gList_l, gList_vl, gList_t, gLen_l, gLen_t, gInt_i, gNeg_i, Bool.false_eq_true, if_false, if_true, and_true, true_and, Nat.reduceAdd, Nat.reduceSub, Nat.reduceLT, Nat.reduceLeDiff, neg_true, neg_false, Bool.not_true, Bool.not_false, decide_true, decide_false]
        rfl
      · simp only [wp_bind, wp_c, wq_var, wp_op1, wp_op2, wp_opN, wq_ret1, wq_ret2, wq_retN, wp_nil, wp_cons, wp_dnil, wp_dcons, wp_esc, wp_escv, wp_escl, wp_tup, wp_lst, wp_bool, wp_tru, wq_retB, wp_not, wp_and, wp_or, wp_mif, wp_andV, wp_orV, wp_notV, wp_true, wp_chain, wp_retC1, wp_retC2, wp_noPart, wp_part, wp_retPart, wp_cut, wp_seq, wp_snil, wp_pass, wp_break, wp_cont, wp_never, wp_expr, wp_sif, wp_ret, wp_retv, wp_retN', wp_asg, wq_store, wp_par, wq_store2, wp_asgT, wp_call, lk_fl, lk_pl, ex_some, gSub_ii, gAdd_ii, gLt_ii, gLe_ii, gGt_ii, gGe_ii, gLt_pp, List.getD_cons_zero, List.getD_cons_succ, List.set_cons_zero, List.set_cons_succ, List.map_cons, List.map_nil, List.length_cons, List.length_nil, List.cons_append, List.nil_append, List.replicate, modeOf_un, modeOf_fl, one1, wp_if, wp_append, wp_setL, wp_intOf, unlk_n, lck_n, wq_retp, gTuple_l, gTuple_t, gList_l, gList_vl, gList_t, gLen_l, gLen_t, gInt_i, gNeg_i, Bool.false_eq_true, if_false, if_true, and_true, true_and, Nat.reduceAdd, Nat.reduceSub, Nat.reduceLT, Nat.reduceLeDiff, neg_true, neg_false, Bool.not_true, Bool.not_false, decide_true, decide_false]
        refine ⟨zero_ok, ?_⟩
        simp only [gEq_ones shp_ones, wp_bind, wp_c, wq_var, wp_op1, wp_op2, wp_opN, wq_ret1, wq_ret2, wq_retN, wp_nil, wp_cons, wp_dnil, wp_dcons, wp_esc, wp_escv, wp_escl, wp_tup, wp_lst, wp_bool, wp_tru, wq_retB, wp_not, wp_and, wp_or, wp_mif, wp_andV, wp_orV, wp_notV, wp_true, wp_chain, wp_retC1, wp_retC2, wp_noPart, wp_part, wp_retPart, wp_cut, wp_seq, wp_snil, wp_pass, wp_break, wp_cont, wp_never, wp_expr, wp_sif, wp_ret, wp_retv, wp_retN', wp_asg, wq_store, wp_par, wq_store2, wp_asgT, wp_call, lk_fl, lk_pl, ex_some, gSub_ii, gAdd_ii, gLt_ii, gLe_ii, gGt_ii, gGe_ii, gLt_pp, List.getD_cons_zero, List.getD_cons_succ, List.set_cons_zero, List.set_cons_succ, List.map_cons, List.map_nil, List.length_cons, List.length_nil, List.cons_append, List.nil_append, List.replicate, modeOf_un, modeOf_fl, one1, wp_if, wp_append, wp_setL, wp_intOf, unlk_n, lck_n, wq_retp, gTuple_l, gTuple_t, gList_l, gList_vl, gList_t, gLen_l, gLen_t, gInt_i, gNeg_i, Bool.false_eq_true, if_false, if_true, and_true, true_and, Nat.reduceAdd, Nat.reduceSub, Nat.reduceLT, Nat.reduceLeDiff, neg_true, neg_false, Bool.not_true, Bool.not_false, decide_true, decide_false, filter_bad, blF]
        have ec : cellB (.tup es) = es.all (fitW 0 59) := by
          unfold cellB tupB
          simp [h2n]
        cases hf : es.all (fitW 0 59) with
        | true =>
          simp only [wp_bind, wp_c, wq_var, wp_op1, wp_op2, wp_opN, wq_ret1, wq_ret2, wq_retN, wp_nil, wp_cons, wp_dnil, wp_dcons, wp_esc, wp_escv, wp_escl, wp_tup, wp_lst, wp_bool, wp_tru, wq_retB, wp_not, wp_and, wp_or, wp_mif, wp_andV, wp_orV, wp_notV, wp_true, wp_chain, wp_retC1, wp_retC2, wp_noPart, wp_part, wp_retPart, wp_cut, wp_seq, wp_snil, wp_pass, wp_break, wp_cont, wp_never, wp_expr, wp_sif, wp_ret, wp_retv, wp_retN', wp_asg, wq_store, wp_par, wq_store2, wp_asgT, wp_call, lk_fl, lk_pl, ex_some, gSub_ii, gAdd_ii, gLt_ii, gLe_ii, gGt_ii, gGe_ii, gLt_pp, List.getD_cons_zero, List.getD_cons_succ, List.set_cons_zero, List.set_cons_succ, List.map_cons, List.map_nil, List.length_cons, List.length_nil, List.cons_append, List.nil_append, List.replicate, modeOf_un, modeOf_fl, one1, wp_if, wp_append, wp_setL, wp_intOf, unlk_n, lck_n, wq_retp, gTuple_l, gTuple_t, gList_l, gList_vl, gList_t, gLen_l, gLen_t, gInt_i, gNeg_i, Bool.false_eq_true, if_false, if_true, and_true, true_and, Nat.reduceAdd, Nat.reduceSub, Nat.reduceLT, Nat.reduceLeDiff, neg_true, neg_false, Bool.not_true, Bool.not_false, decide_true, decide_false]
          exact q1 (by rw [ec, hf])
        | false =>
          simp only [wp_bind, wp_c, wq_var, wp_op1, wp_op2, wp_opN, wq_ret1, wq_ret2, wq_retN, wp_nil, wp_cons, wp_dnil, wp_dcons, wp_esc, wp_escv, wp_escl, wp_tup, wp_lst, wp_bool, wp_tru, wq_retB, wp_not, wp_and, wp_or, wp_mif, wp_andV, wp_orV, wp_notV, wp_true, wp_chain, wp_retC1, wp_retC2, wp_noPart, wp_part, wp_retPart, wp_cut, wp_seq, wp_snil, wp_pass, wp_break, wp_cont, wp_never, wp_expr, wp_sif, wp_ret, wp_retv, wp_retN', wp_asg, wq_store, wp_par, wq_store2, wp_asgT, wp_call, lk_fl, lk_pl, ex_some, gSub_ii, gAdd_ii, gLt_ii, gLe_ii, gGt_ii, gGe_ii, gLt_pp, List.getD_cons_zero, List.getD_cons_succ, List.set_cons_zero, List.set_cons_succ, List.map_cons, List.map_nil, List.length_cons, List.length_nil, List.cons_append, List.nil_append, List.replicate, modeOf_un, modeOf_fl, one1, wp_if, wp_append, wp_setL, wp_intOf, unlk_n, lck_n, wq_retp, gTuple_l, gTuple_t, gList_l, gList_vl, gList_t, gLen_l, gLen_t, gInt_i, gNeg_i, Bool.false_eq_true, if_false, if_true, and_true, true_and, Nat.reduceAdd, Nat.reduceSub, Nat.reduceLT, Nat.reduceLeDiff, neg_true, neg_false, Bool.not_true, Bool.not_false, decide_true, decide_false]
          exact q2 (by rw [ec, hf]) _
    · simp only [h2, wp_bind, wp_c, wq_var, wp_op1, wp_op2, wp_opN, wq_ret1, wq_ret2, wq_retN, wp_nil, wp_cons, wp_dnil, wp_dcons, wp_esc, wp_escv, wp_escl, wp_tup, wp_lst, wp_bool, wp_tru, wq_retB, wp_not, wp_and, wp_or, wp_mif, wp_andV, wp_orV, wp_notV, wp_true, wp_chain, wp_retC1, wp_retC2, wp_noPart, wp_part, wp_retPart, wp_cut, wp_seq, wp_snil, wp_pass, wp_break, wp_cont, wp_never, wp_expr, wp_sif, wp_ret, wp_retv, wp_retN', wp_asg, wq_store, wp_par, wq_store2, wp_asgT, wp_call, lk_fl, lk_pl, ex_some, gSub_ii, gAdd_ii, gLt_ii, gLe_ii, gGt_ii, gGe_ii, gLt_pp, List.getD_cons_zero, List.getD_cons_succ, List.set_cons_zero, List.set_cons_succ, List.map_cons, List.map_nil, List.length_cons, List.length_nil, List.cons_append, List.nil_append, List.replicate, modeOf_un, modeOf_fl, one1, wp_if, wp_append, wp_setL, wp_intOf, unlk_n, lck_n, wq_retp, gTuple_l, gTuple_t, gList_l, gList_vl, gList_t, gLen_l, gLen_t, gInt_i, gNeg_i, Bool.false_eq_true, if_false, if_true, and_true, true_and, Nat.reduceAdd, Nat.reduceSub, Nat.reduceLT, Nat.reduceLeDiff, neg_true, neg_false, Bool.not_true, Bool.not_false, decide_true, decide_false]
      refine q2 ?_ _
      unfold cellB tupB
      have h3 : (decide ((2 : Int) ≤ es.length) && decide ((es.length : Int) ≤ 2)) = false := by
        rw [Bool.and_eq_false_iff]
        by_cases h : (2 : Int) ≤ es.length
        · right; exact decide_eq_false (by omega)
        · left; exact decide_eq_false h
      simp only [h3, Bool.false_and]
  · have hc : cellB d = false := by
      cases d with
      | tup es => exact absurd ⟨es, rfl⟩ ht
      | _ => rfl
    cases d <;> first | exact absurd ⟨_, rfl⟩ ht | (simp [shp, deep] at hd; done) | skip
    all_goals
      simp only [wp_bind, wp_c, wq_var, wp_op1, wp_op2, wp_opN, wq_ret1, wq_ret2, wq_retN, wp_nil, wp_cons, wp_dnil, wp_dcons, wp_esc, wp_escv, wp_escl, wp_tup, wp_lst, wp_bool, wp_tru, wq_retB, wp_not, wp_and, wp_or, wp_mif, wp_andV, wp_orV, wp_notV, wp_true, wp_chain, wp_retC1, wp_retC2, wp_noPart, wp_part, wp_retPart, wp_cut, wp_seq, wp_snil, wp_pass, wp_break, wp_cont, wp_never, wp_expr, wp_sif, wp_ret, wp_retv, wp_retN', wp_asg, wq_store, wp_par, wq_store2, wp_asgT, wp_call, lk_fl, lk_pl, ex_some, gSub_ii, gAdd_ii, gLt_ii, gLe_ii, gGt_ii, gGe_ii, gLt_pp, List.getD_cons_zero, List.getD_cons_succ, List.set_cons_zero, List.set_cons_succ, List.map_cons, List.map_nil, List.length_cons, List.length_nil, List.cons_append, List.nil_append, List.replicate, modeOf_un, modeOf_fl, one1, wp_if, wp_append, wp_setL, wp_intOf, unlk_n, lck_n, wq_retp, gTuple_l, gTuple_t, gList_l, gList_vl, gList_t, gLen_l, gLen_t, gInt_i, gNeg_i, Bool.false_eq_true, if_false, if_true, and_true, true_and, Nat.reduceAdd, Nat.reduceSub, Nat.reduceLT, Nat.reduceLeDiff, neg_true, neg_false, Bool.not_true, Bool.not_false, decide_true, decide_false, gIsi, tyF, isTy, truF, blF]
      simp
      exact q2 hc _
theorem p_law_is_floor {ds : List D} (V : VOk (.tup ds)) : FV F__law_is_floor [.tup ds] (.val (.bl (decide (1 ≤ ds.length) && (ds.all cellB && match prs ds with
    | some v => srtB v
    | none => false)))) := by
  refine fv_of ?_
  unfold B__law_is_floor
  have hlen := V.few ds rfl
  simp only [wp_bind, wp_c, wq_var, wp_op1, wp_op2, wp_opN, wq_ret1, wq_ret2, wq_retN, wp_nil, wp_cons, wp_dnil, wp_dcons, wp_esc, wp_escv, wp_escl, wp_tup, wp_lst, wp_bool, wp_tru, wq_retB, wp_not, wp_and, wp_or, wp_mif, wp_andV, wp_orV, wp_notV, wp_true, wp_chain, wp_retC1, wp_retC2, wp_noPart, wp_part, wp_retPart, wp_cut, wp_seq, wp_snil, wp_pass, wp_break, wp_cont, wp_never, wp_expr, wp_sif, wp_ret, wp_retv, wp_retN', wp_asg, wq_store, wp_par, wq_store2, wp_asgT, wp_call, lk_fl, lk_pl, ex_some, gSub_ii, gAdd_ii, gLt_ii, gLe_ii, gGt_ii, gGe_ii, gLt_pp, List.getD_cons_zero, List.getD_cons_succ, List.set_cons_zero, List.set_cons_succ, List.map_cons, List.map_nil, List.length_cons, List.length_nil, List.cons_append, List.nil_append, List.replicate, modeOf_un, modeOf_fl, one1, wp_if, wp_append, wp_setL, wp_intOf, unlk_n, lck_n, wq_retp, gTuple_l, gTuple_t, gList_l, gList_vl, gList_t, gLen_l, gLen_t, gInt_i, gNeg_i, Bool.false_eq_true, if_false, if_true, and_true, true_and, Nat.reduceAdd, Nat.reduceSub, Nat.reduceLT, Nat.reduceLeDiff, neg_true, neg_false, Bool.not_true, Bool.not_false, decide_true, decide_false, gIsi, tyF, isTy, truF, blF]
  simp only [decide_true, Bool.true_or, wp_bind, wp_c, wq_var, wp_op1, wp_op2, wp_opN, wq_ret1, wq_ret2, wq_retN, wp_nil, wp_cons, wp_dnil, wp_dcons, wp_esc, wp_escv, wp_escl, wp_tup, wp_lst, wp_bool, wp_tru, wq_retB, wp_not, wp_and, wp_or, wp_mif, wp_andV, wp_orV, wp_notV, wp_true, wp_chain, wp_retC1, wp_retC2, wp_noPart, wp_part, wp_retPart, wp_cut, wp_seq, wp_snil, wp_pass, wp_break, wp_cont, wp_never, wp_expr, wp_sif, wp_ret, wp_retv, wp_retN', wp_asg, wq_store, wp_par, wq_store2, wp_asgT, wp_call, lk_fl, lk_pl, ex_some, gSub_ii, gAdd_ii, gLt_ii, gLe_ii, gGt_ii, gGe_ii, gLt_pp, List.getD_cons_zero, List.getD_cons_succ, List.set_cons_zero, List.set_cons_succ, List.map_cons, List.map_nil, List.length_cons, List.length_nil, List.cons_append, List.nil_append, List.replicate, modeOf_un, modeOf_fl, one1, wp_if, wp_append, wp_setL, wp_intOf, unlk_n, lck_n, wq_retp, gTuple_l, gTuple_t, gList_l, gList_vl, gList_t, gLen_l, gLen_t, gInt_i, gNeg_i, Bool.false_eq_true, if_false, if_true, and_true, true_and, Nat.reduceAdd, Nat.reduceSub, Nat.reduceLT, Nat.reduceLeDiff, neg_true, neg_false, Bool.not_true, Bool.not_false, decide_true, decide_false]
  by_cases h1 : 1 ≤ ds.length
  · have h400 : (ds.length : Int) ≤ 400 := by omega
    have h1' : (1 : Int) ≤ ds.length := by omega
    simp only [h1', h400, h1, pLe, wp_bind, wp_c, wq_var, wp_op1, wp_op2, wp_opN, wq_ret1, wq_ret2, wq_retN, wp_nil, wp_cons, wp_dnil, wp_dcons, wp_esc, wp_escv, wp_escl, wp_tup, wp_lst, wp_bool, wp_tru, wq_retB, wp_not, wp_and, wp_or, wp_mif, wp_andV, wp_orV, wp_notV, wp_true, wp_chain, wp_retC1, wp_retC2, wp_noPart, wp_part, wp_retPart, wp_cut, wp_seq, wp_snil, wp_pass, wp_break, wp_cont, wp_never, wp_expr, wp_sif, wp_ret, wp_retv, wp_retN', wp_asg, wq_store, wp_par, wq_store2, wp_asgT, wp_call, lk_fl, lk_pl, ex_some, gSub_ii, gAdd_ii, gLt_ii, gLe_ii, gGt_ii, gGe_ii, gLt_pp, List.getD_cons_zero, List.getD_cons_succ, List.set_cons_zero, List.set_cons_succ, List.map_cons, List.map_nil, List.length_cons, List.length_nil, List.cons_append, List.nil_append, List.replicate, modeOf_un, modeOf_fl, one1, wp_if, wp_append, wp_setL, wp_intOf, unlk_n, lck_n, wq_retp, gTuple_l, gTuple_t, gList_l, gList_vl, gList_t, gLen_l, gLen_t, gInt_i, gNeg_i, Bool.false_eq_true, if_false, if_true, and_true, true_and, Nat.reduceAdd, Nat.reduceSub, Nat.reduceLT, Nat.reduceLeDiff, neg_true, neg_false, Bool.not_true, Bool.not_false, decide_true, decide_false]
    refine wp_for (wp_srcI rfl ?_)
    refine wp_floop (fun r ρ => ∃ dn' s1 s2, ds = dn' ++ r ∧ dn'.all cellB = true ∧ modeOf s1 = .own ∧ modeOf s2 = .own ∧ ρ = [.v (.tup ds), s1, s2]) ⟨[], .un, .un, rfl, rfl, rfl, rfl, rfl⟩ ?_ ?_
    · rintro d r ρ ⟨dn', s1, s2, hds, ha, m1, m2, rfl⟩
      have hd : d ∈ ds := by rw [hds]; simp
      refine ⟨[.v (.tup ds), .v d, s2], ?_, ?_⟩
      · unfold putv
        rw [if_pos ⟨m1, by simp⟩]; rfl
      · refine wp_cellturn (shp_in V.sh hd) (fun es e => by subst e; exact V.inn ds rfl es hd) m2 (fun hc => ?_) fun hc ρ => ?_
        · exact ⟨dn' ++ [d], .v d, s2, by rw [hds]; simp, by rw [List.all_append, ha]; simp [hc], rfl, m2, rfl⟩
        · have : ds.all cellB = false := by rw [hds, List.all_append, List.all_cons, hc]; simp
          show Flo.rt _ = _ ∨ _
          rw [this]
          exact .inl rfl
    · rintro ρ ⟨dn', s1, s2, hds, ha, m1, m2, rfl⟩
      rw [List.append_nil] at hds
      subst hds
      obtain ⟨v, rfl, hv⟩ := cells_pts ha
      rw [List.length_map] at hlen
      simp only [wp_bind, wp_c, wq_var, wp_op1, wp_op2, wp_opN, wq_ret1, wq_ret2, wq_retN, wp_nil, wp_cons, wp_dnil, wp_dcons, wp_esc, wp_escv, wp_escl, wp_tup, wp_lst, wp_bool, wp_tru, wq_retB, wp_not, wp_and, wp_or, wp_mif, wp_andV, wp_orV, wp_notV, wp_true, wp_chain, wp_retC1, wp_retC2, wp_noPart, wp_part, wp_retPart, wp_cut, wp_seq, wp_snil, wp_pass, wp_break, wp_cont, wp_never, wp_expr, wp_sif, wp_ret, wp_retv, wp_retN', wp_asg, wq_store, wp_par, wq_store2, wp_asgT, wp_call, lk_fl, lk_pl, ex_some, gSub_ii, gAdd_ii, gLt_ii, gLe_ii, gGt_ii, gGe_ii, gLt_pp, List.getD_cons_zero, List.getD_cons_succ, List.set_cons_zero, List.set_cons_succ, List.map_cons, List.map_nil, List.length_cons, List.length_nil, List.cons_append, List.nil_append, List.replicate, modeOf_un, modeOf_fl, one1, wp_if, wp_append, wp_setL, wp_intOf, unlk_n, lck_n, wq_retp, gTuple_l, gTuple_t, gList_l, gList_vl, gList_t, gLen_l, gLen_t, gInt_i, gNeg_i, Bool.false_eq_true, if_false, if_true, and_true, true_and, Nat.reduceAdd, Nat.reduceSub, Nat.reduceLT, Nat.reduceLeDiff, neg_true, neg_false, Bool.not_true, Bool.not_false, decide_true, decide_false, gSortSet_t hlen hv, gEq_lp, ha, prs_prD]
      have : srtB v = decide (v = sortP v) := by
        rw [Bool.eq_iff_iff, srtB_iff, decide_eq_true_iff, sortP_eq]
      rw [this]
      exact .inl rfl
  · have h1' : ¬ (1 : Int) ≤ ds.length := by omega
    simp only [h1', h1, pLe, wp_bind, wp_c, wq_var, wp_op1, wp_op2, wp_opN, wq_ret1, wq_ret2, wq_retN, wp_nil, wp_cons, wp_dnil, wp_dcons, wp_esc, wp_escv, wp_escl, wp_tup, wp_lst, wp_bool, wp_tru, wq_retB, wp_not, wp_and, wp_or, wp_mif, wp_andV, wp_orV, wp_notV, wp_true, wp_chain, wp_retC1, wp_retC2, wp_noPart, wp_part, wp_retPart, wp_cut, wp_seq, wp_snil, wp_pass, wp_break, wp_cont, wp_never, wp_expr, wp_sif, wp_ret, wp_retv, wp_retN', wp_asg, wq_store, wp_par, wq_store2, wp_asgT, wp_call, lk_fl, lk_pl, ex_some, gSub_ii, gAdd_ii, gLt_ii, gLe_ii, gGt_ii, gGe_ii, gLt_pp, List.getD_cons_zero, List.getD_cons_succ, List.set_cons_zero, List.set_cons_succ, List.map_cons, List.map_nil, List.length_cons, List.length_nil, List.cons_append, List.nil_append, List.replicate, modeOf_un, modeOf_fl, one1, wp_if, wp_append, wp_setL, wp_intOf, unlk_n, lck_n, wq_retp, gTuple_l, gTuple_t, gList_l, gList_vl, gList_t, gLen_l, gLen_t, gInt_i, gNeg_i, Bool.false_eq_true, if_false, if_true, and_true, true_and, Nat.reduceAdd, Nat.reduceSub, Nat.reduceLT, Nat.reduceLeDiff, neg_true, neg_false, Bool.not_true, Bool.not_false, decide_true, decide_false]
    exact .inl rfl
end K50
namespace K50
open VS
open PySem (sizeLine)
theorem apart_same {l : List Pt} (L : FloorOk l) {a : Int} {v : List Pt} (hs : v.Pairwise ltP) (hv : ∀ c ∈ v, c ∈ l) : apartB l a v = true ↔ ∀ x ∈ v, ∀ y ∈ v, x ≠ y → ¬ Same l a x y := by
  unfold apartB
  rw [decide_eq_true_iff]
  have nd := sorted_nodup hs
  constructor
  · intro h x hx y hy hne hsm
    have := (home_eq L (hv x hx) (hv y hy) hne).mpr hsm
    obtain ⟨i, hi, ei⟩ := List.getElem_of_mem hx
    obtain ⟨j, hj, ej⟩ := List.getElem_of_mem hy
    have e : (v.map fun c => home l a c)[i]'(by simpa using hi) = (v.map fun c => home l a c)[j]'(by simpa using hj) := by simp [ei, ej, this]
    have hij := nodup_idx h e
    subst hij
    exact hne (ei.symm.trans ej)
  · intro h
    refine List.pairwise_map.mpr (List.Pairwise.imp_of_mem (fun {x y} hx hy hne e => ?_) nd)
    exact h x hx y hy hne ((home_eq L (hv x hx) (hv y hy) hne).mp e)
theorem quiet_math {l : List Pt} (L : FloorOk l) {v : List Pt} (hs : v.Pairwise ltP) (hv : ∀ c ∈ v, c ∈ l) : (apartB l 1 v && apartB l (-1) v) = v.all fun x => v.all fun y => !stB l x y := by
  rw [Bool.eq_iff_iff, Bool.and_eq_true, apart_same L hs hv, apart_same L hs hv, List.all_eq_true]
  constructor
  · rintro ⟨h1, h2⟩ x hx
    rw [List.all_eq_true]
    intro y hy
    by_cases hne : x = y
    · subst hne
      unfold stB
      rw [if_pos (.inl rfl)]; rfl
    · cases hst : stB l x y with
      | false => rfl
      | true =>
        rcases (stB_iff (hv x hx) (hv y hy)).mp hst with h | h
        · exact absurd h (h1 x hx y hy hne)
        · exact absurd h (h2 x hx y hy hne)
  · intro h
    have key : ∀ x ∈ v, ∀ y ∈ v, stB l x y = false := fun x hx y hy => by
      have := List.all_eq_true.mp (h x hx) y hy
      simpa using this
    constructor
    · intro x hx y hy hne hsm
      have := (stB_iff (hv x hx) (hv y hy)).mpr (.inl hsm)
      rw [key x hx y hy] at this
      cases this
    · intro x hx y hy hne hsm
      have := (stB_iff (hv x hx) (hv y hy)).mpr (.inr hsm)
      rw [key x hx y hy] at this
      cases this
theorem eqb_tnil {ds : List D} : eqb (.tup ds) (.tup []) = decide (ds = []) := by
  cases ds with
  | nil => rfl
  | cons x xs => simp [eqb, eqbs]
theorem gEq_tnil {neg : Bool} {ds : List D} (h : shp deep (.tup ds) = true) : gEqG neg (.val (.tup ds)) (.val (.tup [])) = some (.v (.bl (neg != decide (ds = [])))) := by
  rw [gEq_dd h (by decide), eqb_tnil]
def pairsB (l v dn : List Pt) : List Pt := dn.flatMap fun x => v.filter fun y => stB l x y
theorem pairsB_len {l v : List Pt} : ∀ {dn : List Pt}, (pairsB l v dn).length ≤ dn.length * v.length
  | [] => by simp [pairsB]
  | x :: dn => by
    have ih := pairsB_len (l := l) (v := v) (dn := dn)
    have := List.length_filter_le (fun y => stB l x y) v
    unfold pairsB at *
    rw [List.flatMap_cons, List.length_append, List.length_cons, Nat.add_mul]
    omega
theorem pairsB_nil {l v : List Pt} : decide (pairsB l v v = []) = v.all fun x => v.all fun y => !stB l x y := by
  rw [Bool.eq_iff_iff, decide_eq_true_iff, List.all_eq_true]
  unfold pairsB
  rw [List.flatMap_eq_nil_iff]
  constructor
  · intro h x hx
    rw [List.all_eq_true]
    intro y hy
    have := List.filter_eq_nil_iff.mp (h x hx) y hy
    simpa using this
  · intro h x hx
    rw [List.filter_eq_nil_iff]
    intro y hy
    have := List.all_eq_true.mp (h x hx) y hy
    simpa using this
theorem gAdd_lp {a b : List Pt} (h : a.length + b.length ≤ lim) : gAdd (.lst (a.map prD)) (.lst (b.map prD)) = some (.fl (.lst ((a ++ b).map prD))) := by
  rw [List.map_append]
  exact gAdd_ll rfl rfl (by simpa using h)
/-- from the test of the floor on -/
theorem wp_lawtail {l : List Pt} (L : FloorOk l) {v : List Pt} (hs : v.Pairwise ltP) (hl : v.length < 64) {P : Flo → Env → Prop} (P0 : ∀ ρ, P (.rt (.v (.bl (inB l v && (apartB l 1 v && apartB l (-1) v))))) ρ) :
    wp (sSeq (sIf (mBool (mOp2 (gEqG true) (mComp (mSrcA (mVar 1)) [4] (putv 4) (mBool (mOp2 (gIn true) (mVar 4) (mVar 0))) (mVar 4)) (mLst dNil))) (sRet (mC (.bl false))) sNil)
      (sSeq (sAsg 2 (mLst dNil)) (sSeq (sFor (mSrcA (mVar 1)) (putv 3) (sAsg 2 (mOp2 gAdd (mVar 2) (mComp (mSrcA (mVar 1)) [5] (putv 5) (mTru (mCall F__law_strikes (mCons (mVar 0) (mCons (mVar 3) (mCons (mVar 5) mNil))))) (mVar 5))))) (sRet (mOp2 (gEqG false) (mVar 2) (mLst dNil))))))
      [.v (FD l), .v (FD v), .un, .un, .un, .un] P := by
  simp only [wp_bind, wp_c, wq_var, wp_op1, wp_op2, wp_opN, wq_ret1, wq_ret2, wq_retN, wp_nil, wp_cons, wp_dnil, wp_dcons, wp_esc, wp_escv, wp_escl, wp_tup, wp_lst, wp_bool, wp_tru, wq_retB, wp_not, wp_and, wp_or, wp_mif, wp_andV, wp_orV, wp_notV, wp_true, wp_chain, wp_retC1, wp_retC2, wp_noPart, wp_part, wp_retPart, wp_cut, wp_seq, wp_snil, wp_pass, wp_break, wp_cont, wp_never, wp_expr, wp_sif, wp_ret, wp_retv, wp_retN', wp_asg, wq_store, wp_par, wq_store2, wp_asgT, wp_call, lk_fl, lk_pl, ex_some, gSub_ii, gAdd_ii, gLt_ii, gLe_ii, gGt_ii, gGe_ii, gLt_pp, List.getD_cons_zero, List.getD_cons_succ, List.set_cons_zero, List.set_cons_succ, List.map_cons, List.map_nil, List.length_cons, List.length_nil, List.cons_append, List.nil_append, List.replicate, modeOf_un, modeOf_fl, one1, wp_if, wp_append, wp_setL, wp_intOf, unlk_n, lck_n, wq_retp, gTuple_l, gTuple_t, gList_l, gList_vl, gList_t, gLen_l, gLen_t, gInt_i, gNeg_i, Bool.false_eq_true, if_false, if_true, and_true, true_and, Nat.reduceAdd, Nat.reduceSub, Nat.reduceLT, Nat.reduceLeDiff, neg_true, neg_false, Bool.not_true, Bool.not_false, decide_true, decide_false]
  refine wp_compT (L := v) (g := prD) (fun c => decide (c ∉ l)) prD (size_ok (by omega)) (wp_srcI rfl ⟨rfl, fun x hx => ?_, ?_⟩)
  · refine ⟨[.v (FD l), .v (FD v), .un, .un, .v (prD x), .un], rfl, ?_⟩
    simp only [wp_bind, wp_c, wq_var, wp_op1, wp_op2, wp_opN, wq_ret1, wq_ret2, wq_retN, wp_nil, wp_cons, wp_dnil, wp_dcons, wp_esc, wp_escv, wp_escl, wp_tup, wp_lst, wp_bool, wp_tru, wq_retB, wp_not, wp_and, wp_or, wp_mif, wp_andV, wp_orV, wp_notV, wp_true, wp_chain, wp_retC1, wp_retC2, wp_noPart, wp_part, wp_retPart, wp_cut, wp_seq, wp_snil, wp_pass, wp_break, wp_cont, wp_never, wp_expr, wp_sif, wp_ret, wp_retv, wp_retN', wp_asg, wq_store, wp_par, wq_store2, wp_asgT, wp_call, lk_fl, lk_pl, ex_some, gSub_ii, gAdd_ii, gLt_ii, gLe_ii, gGt_ii, gGe_ii, gLt_pp, List.getD_cons_zero, List.getD_cons_succ, List.set_cons_zero, List.set_cons_succ, List.map_cons, List.map_nil, List.length_cons, List.length_nil, List.cons_append, List.nil_append, List.replicate, modeOf_un, modeOf_fl, one1, wp_if, wp_append, wp_setL, wp_intOf, unlk_n, lck_n, wq_retp, gTuple_l, gTuple_t, gList_l, gList_vl, gList_t, gLen_l, gLen_t, gInt_i, gNeg_i, Bool.false_eq_true, if_false, if_true, and_true, true_and, Nat.reduceAdd, Nat.reduceSub, Nat.reduceLT, Nat.reduceLeDiff, neg_true, neg_false, Bool.not_true, Bool.not_false, decide_true, decide_false, gIn_t, blF]
    refine ⟨by simp, fun _ => rfl, fun _ => rfl⟩
  · simp only [wp_bind, wp_c, wq_var, wp_op1, wp_op2, wp_opN, wq_ret1, wq_ret2, wq_retN, wp_nil, wp_cons, wp_dnil, wp_dcons, wp_esc, wp_escv, wp_escl, wp_tup, wp_lst, wp_bool, wp_tru, wq_retB, wp_not, wp_and, wp_or, wp_mif, wp_andV, wp_orV, wp_notV, wp_true, wp_chain, wp_retC1, wp_retC2, wp_noPart, wp_part, wp_retPart, wp_cut, wp_seq, wp_snil, wp_pass, wp_break, wp_cont, wp_never, wp_expr, wp_sif, wp_ret, wp_retv, wp_retN', wp_asg, wq_store, wp_par, wq_store2, wp_asgT, wp_call, lk_fl, lk_pl, ex_some, gSub_ii, gAdd_ii, gLt_ii, gLe_ii, gGt_ii, gGe_ii, gLt_pp, List.getD_cons_zero, List.getD_cons_succ, List.set_cons_zero, List.set_cons_succ, List.map_cons, List.map_nil, List.length_cons, List.length_nil, List.cons_append, List.nil_append, List.replicate, modeOf_un, modeOf_fl, one1, wp_if, wp_append, wp_setL, wp_intOf, unlk_n, lck_n, wq_retp, gTuple_l, gTuple_t, gList_l, gList_vl, gList_t, gLen_l, gLen_t, gInt_i, gNeg_i, Bool.false_eq_true, if_false, if_true, and_true, true_and, Nat.reduceAdd, Nat.reduceSub, Nat.reduceLT, Nat.reduceLeDiff, neg_true, neg_false, Bool.not_true, Bool.not_false, decide_true, decide_false]
    refine ⟨zero_ok, ?_⟩
    have e0 : gEqG true (.lst ((v.filter fun c => decide (c ∉ l)).map prD)) (.lst []) = some (.v (.bl (!inB l v))) := by
      rw [gEq_ones shp_lstP]
      have : decide ((v.filter fun c => decide (c ∉ l)) = []) = inB l v := by
        unfold inB
        rw [Bool.eq_iff_iff, decide_eq_true_iff, List.filter_eq_nil_iff, List.all_eq_true]
        simp
      rw [this, neg_true]
    simp only [e0, wp_bind, wp_c, wq_var, wp_op1, wp_op2, wp_opN, wq_ret1, wq_ret2, wq_retN, wp_nil, wp_cons, wp_dnil, wp_dcons, wp_esc, wp_escv, wp_escl, wp_tup, wp_lst, wp_bool, wp_tru, wq_retB, wp_not, wp_and, wp_or, wp_mif, wp_andV, wp_orV, wp_notV, wp_true, wp_chain, wp_retC1, wp_retC2, wp_noPart, wp_part, wp_retPart, wp_cut, wp_seq, wp_snil, wp_pass, wp_break, wp_cont, wp_never, wp_expr, wp_sif, wp_ret, wp_retv, wp_retN', wp_asg, wq_store, wp_par, wq_store2, wp_asgT, wp_call, lk_fl, lk_pl, ex_some, gSub_ii, gAdd_ii, gLt_ii, gLe_ii, gGt_ii, gGe_ii, gLt_pp, List.getD_cons_zero, List.getD_cons_succ, List.set_cons_zero, List.set_cons_succ, List.map_cons, List.map_nil, List.length_cons, List.length_nil, List.cons_append, List.nil_append, List.replicate, modeOf_un, modeOf_fl, one1, wp_if, wp_append, wp_setL, wp_intOf, unlk_n, lck_n, wq_retp, gTuple_l, gTuple_t, gList_l, gList_vl, gList_t, gLen_l, gLen_t, gInt_i, gNeg_i, Bool.false_eq_true, if_false, if_true, and_true, true_and, Nat.reduceAdd, Nat.reduceSub, Nat.reduceLT, Nat.reduceLeDiff, neg_true, neg_false, Bool.not_true, Bool.not_false, decide_true, decide_false, blF]
    cases hi : inB l v with
    | false =>
      simp only [wp_bind, wp_c, wq_var, wp_op1, wp_op2, wp_opN, wq_ret1, wq_ret2, wq_retN, wp_nil, wp_cons, wp_dnil, wp_dcons, wp_esc, wp_escv, wp_escl, wp_tup, wp_lst, wp_bool, wp_tru, wq_retB, wp_not, wp_and, wp_or, wp_mif, wp_andV, wp_orV, wp_notV, wp_true, wp_chain, wp_retC1, wp_retC2, wp_noPart, wp_part, wp_retPart, wp_cut, wp_seq, wp_snil, wp_pass, wp_break, wp_cont, wp_never, wp_expr, wp_sif, wp_ret, wp_retv, wp_retN', wp_asg, wq_store, wp_par, wq_store2, wp_asgT, wp_call, lk_fl, lk_pl, ex_some, gSub_ii, gAdd_ii, gLt_ii, gLe_ii, gGt_ii, gGe_ii, gLt_pp, List.getD_cons_zero, List.getD_cons_succ, List.set_cons_zero, List.set_cons_succ, List.map_cons, List.map_nil, List.length_cons, List.length_nil, List.cons_append, List.nil_append, List.replicate, modeOf_un, modeOf_fl, one1, wp_if, wp_append, wp_setL, wp_intOf, unlk_n, lck_n, wq_retp, gTuple_l, gTuple_t, gList_l, gList_vl, gList_t, gLen_l, gLen_t, gInt_i, gNeg_i, Bool.false_eq_true, if_false, if_true, and_true, true_and, Nat.reduceAdd, Nat.reduceSub, Nat.reduceLT, Nat.reduceLeDiff, neg_true, neg_false, Bool.not_true, Bool.not_false, decide_true, decide_false]
      have := P0
      rw [hi] at this
      exact this _
    | true =>
      have hv : ∀ c ∈ v, c ∈ l := fun c hc => by
        unfold inB at hi
        exact of_decide_eq_true (List.all_eq_true.mp hi c hc)
      rw [hi, quiet_math L hs hv, ← pairsB_nil] at P0
      simp only [wp_bind, wp_c, wq_var, wp_op1, wp_op2, wp_opN, wq_ret1, wq_ret2, wq_retN, wp_nil, wp_cons, wp_dnil, wp_dcons, wp_esc, wp_escv, wp_escl, wp_tup, wp_lst, wp_bool, wp_tru, wq_retB, wp_not, wp_and, wp_or, wp_mif, wp_andV, wp_orV, wp_notV, wp_true, wp_chain, wp_retC1, wp_retC2, wp_noPart, wp_part, wp_retPart, wp_cut, wp_seq, wp_snil, wp_pass, wp_break, wp_cont, wp_never, wp_expr, wp_sif, wp_ret, wp_retv, wp_retN', wp_asg, wq_store, wp_par, wq_store2, wp_asgT, wp_call, lk_fl, lk_pl, ex_some, gSub_ii, gAdd_ii, gLt_ii, gLe_ii, gGt_ii, gGe_ii, gLt_pp, List.getD_cons_zero, List.getD_cons_succ, List.set_cons_zero, List.set_cons_succ, List.map_cons, List.map_nil, List.length_cons, List.length_nil, List.cons_append, List.nil_append, List.replicate, modeOf_un, modeOf_fl, one1, wp_if, wp_append, wp_setL, wp_intOf, unlk_n, lck_n, wq_retp, gTuple_l, gTuple_t, gList_l, gList_vl, gList_t, gLen_l, gLen_t, gInt_i, gNeg_i, Bool.false_eq_true, if_false, if_true, and_true, true_and, Nat.reduceAdd, Nat.reduceSub, Nat.reduceLT, Nat.reduceLeDiff, neg_true, neg_false, Bool.not_true, Bool.not_false, decide_true, decide_false]
      refine ⟨zero_ok, wp_for (wp_srcI rfl ?_)⟩
      refine wp_floop (fun ds ρ => ∃ dn' rs s3, v = dn' ++ rs ∧ ds = rs.map prD ∧ modeOf s3 = .own ∧ ρ = [.v (FD l), .v (FD v), .fl .own (.lst ((pairsB l v dn').map prD)), s3, .un, .un]) ⟨[], v, .un, rfl, rfl, rfl, rfl⟩ ?_ ?_
      · rintro d r ρ ⟨dn', rs, s3, hd, hr, m3, rfl⟩
        cases rs with
        | nil => cases hr
        | cons x rs =>
          injection hr with h1 h2
          subst h1 h2
          have hx : x ∈ v := by rw [hd]; simp
          refine ⟨[.v (FD l), .v (FD v), .fl .own (.lst ((pairsB l v dn').map prD)), .v (prD x), .un, .un], ?_, ?_⟩
          · unfold putv
            rw [if_pos ⟨m3, by simp⟩]; rfl
          · simp only [wp_bind, wp_c, wq_var, wp_op1, wp_op2, wp_opN, wq_ret1, wq_ret2, wq_retN, wp_nil, wp_cons, wp_dnil, wp_dcons, wp_esc, wp_escv, wp_escl, wp_tup, wp_lst, wp_bool, wp_tru, wq_retB, wp_not, wp_and, wp_or, wp_mif, wp_andV, wp_orV, wp_notV, wp_true, wp_chain, wp_retC1, wp_retC2, wp_noPart, wp_part, wp_retPart, wp_cut, wp_seq, wp_snil, wp_pass, wp_break, wp_cont, wp_never, wp_expr, wp_sif, wp_ret, wp_retv, wp_retN', wp_asg, wq_store, wp_par, wq_store2, wp_asgT, wp_call, lk_fl, lk_pl, ex_some, gSub_ii, gAdd_ii, gLt_ii, gLe_ii, gGt_ii, gGe_ii, gLt_pp, List.getD_cons_zero, List.getD_cons_succ, List.set_cons_zero, List.set_cons_succ, List.map_cons, List.map_nil, List.length_cons, List.length_nil, List.cons_append, List.nil_append, List.replicate, modeOf_un, modeOf_fl, one1, wp_if, wp_append, wp_setL, wp_intOf, unlk_n, lck_n, wq_retp, gTuple_l, gTuple_t, gList_l, gList_vl, gList_t, gLen_l, gLen_t, gInt_i, gNeg_i, Bool.false_eq_true, if_false, if_true, and_true, true_and, Nat.reduceAdd, Nat.reduceSub, Nat.reduceLT, Nat.reduceLeDiff, neg_true, neg_false, Bool.not_true, Bool.not_false, decide_true, decide_false]
            refine wp_compT (L := v) (g := prD) (fun y => stB l x y) prD (size_ok (by omega)) (wp_srcI rfl ⟨rfl, fun y hy => ?_, ?_⟩)
            · refine ⟨[.v (FD l), .v (FD v), .fl .own (.lst ((pairsB l v dn').map prD)), .v (prD x), .un, .v (prD y)], rfl, ?_⟩
              simp only [wp_bind, wp_c, wq_var, wp_op1, wp_op2, wp_opN, wq_ret1, wq_ret2, wq_retN, wp_nil, wp_cons, wp_dnil, wp_dcons, wp_esc, wp_escv, wp_escl, wp_tup, wp_lst, wp_bool, wp_tru, wq_retB, wp_not, wp_and, wp_or, wp_mif, wp_andV, wp_orV, wp_notV, wp_true, wp_chain, wp_retC1, wp_retC2, wp_noPart, wp_part, wp_retPart, wp_cut, wp_seq, wp_snil, wp_pass, wp_break, wp_cont, wp_never, wp_expr, wp_sif, wp_ret, wp_retv, wp_retN', wp_asg, wq_store, wp_par, wq_store2, wp_asgT, wp_call, lk_fl, lk_pl, ex_some, gSub_ii, gAdd_ii, gLt_ii, gLe_ii, gGt_ii, gGe_ii, gLt_pp, List.getD_cons_zero, List.getD_cons_succ, List.set_cons_zero, List.set_cons_succ, List.map_cons, List.map_nil, List.length_cons, List.length_nil, List.cons_append, List.nil_append, List.replicate, modeOf_un, modeOf_fl, one1, wp_if, wp_append, wp_setL, wp_intOf, unlk_n, lck_n, wq_retp, gTuple_l, gTuple_t, gList_l, gList_vl, gList_t, gLen_l, gLen_t, gInt_i, gNeg_i, Bool.false_eq_true, if_false, if_true, and_true, true_and, Nat.reduceAdd, Nat.reduceSub, Nat.reduceLT, Nat.reduceLeDiff, neg_true, neg_false, Bool.not_true, Bool.not_false, decide_true, decide_false]
              refine wp_fv3 (p_law_strikes L (hv x hx) (hv y hy)) ?_
              simp only [wp_bind, wp_c, wq_var, wp_op1, wp_op2, wp_opN, wq_ret1, wq_ret2, wq_retN, wp_nil, wp_cons, wp_dnil, wp_dcons, wp_esc, wp_escv, wp_escl, wp_tup, wp_lst, wp_bool, wp_tru, wq_retB, wp_not, wp_and, wp_or, wp_mif, wp_andV, wp_orV, wp_notV, wp_true, wp_chain, wp_retC1, wp_retC2, wp_noPart, wp_part, wp_retPart, wp_cut, wp_seq, wp_snil, wp_pass, wp_break, wp_cont, wp_never, wp_expr, wp_sif, wp_ret, wp_retv, wp_retN', wp_asg, wq_store, wp_par, wq_store2, wp_asgT, wp_call, lk_fl, lk_pl, ex_some, gSub_ii, gAdd_ii, gLt_ii, gLe_ii, gGt_ii, gGe_ii, gLt_pp, List.getD_cons_zero, List.getD_cons_succ, List.set_cons_zero, List.set_cons_succ, List.map_cons, List.map_nil, List.length_cons, List.length_nil, List.cons_append, List.nil_append, List.replicate, modeOf_un, modeOf_fl, one1, wp_if, wp_append, wp_setL, wp_intOf, unlk_n, lck_n, wq_retp, gTuple_l, gTuple_t, gList_l, gList_vl, gList_t, gLen_l, gLen_t, gInt_i, gNeg_i, Bool.false_eq_true, if_false, if_true, and_true, true_and, Nat.reduceAdd, Nat.reduceSub, Nat.reduceLT, Nat.reduceLeDiff, neg_true, neg_false, Bool.not_true, Bool.not_false, decide_true, decide_false, truF]
              exact ⟨fun _ => rfl, fun _ => rfl⟩
            · have hlen : (pairsB l v dn').length + (v.filter fun y => stB l x y).length ≤ lim := by
                have a1 := pairsB_len (l := l) (v := v) (dn := dn')
                have a2 := List.length_filter_le (fun y => stB l x y) v
                have a3 : dn'.length ≤ 64 := by
                  have := congrArg List.length hd
                  simp at this
                  omega
                have a4 : dn'.length * v.length ≤ 64 * 64 := Nat.mul_le_mul a3 (by omega)
                exact Nat.le_trans (show _ ≤ 10000 by omega) (by decide)
              simp only [wp_bind, wp_c, wq_var, wp_op1, wp_op2, wp_opN, wq_ret1, wq_ret2, wq_retN, wp_nil, wp_cons, wp_dnil, wp_dcons, wp_esc, wp_escv, wp_escl, wp_tup, wp_lst, wp_bool, wp_tru, wq_retB, wp_not, wp_and, wp_or, wp_mif, wp_andV, wp_orV, wp_notV, wp_true, wp_chain, wp_retC1, wp_retC2, wp_noPart, wp_part, wp_retPart, wp_cut, wp_seq, wp_snil, wp_pass, wp_break, wp_cont, wp_never, wp_expr, wp_sif, wp_ret, wp_retv, wp_retN', wp_asg, wq_store, wp_par, wq_store2, wp_asgT, wp_call, lk_fl, lk_pl, ex_some, gSub_ii, gAdd_ii, gLt_ii, gLe_ii, gGt_ii, gGe_ii, gLt_pp, List.getD_cons_zero, List.getD_cons_succ, List.set_cons_zero, List.set_cons_succ, List.map_cons, List.map_nil, List.length_cons, List.length_nil, List.cons_append, List.nil_append, List.replicate, modeOf_un, modeOf_fl, one1, wp_if, wp_append, wp_setL, wp_intOf, unlk_n, lck_n, wq_retp, gTuple_l, gTuple_t, gList_l, gList_vl, gList_t, gLen_l, gLen_t, gInt_i, gNeg_i, Bool.false_eq_true, if_false, if_true, and_true, true_and, Nat.reduceAdd, Nat.reduceSub, Nat.reduceLT, Nat.reduceLeDiff, neg_true, neg_false, Bool.not_true, Bool.not_false, decide_true, decide_false, gAdd_lp hlen]
              refine ⟨dn' ++ [x], rs, .v (prD x), by rw [hd]; simp, rfl, rfl, ?_⟩
              have : pairsB l v (dn' ++ [x]) = pairsB l v dn' ++ v.filter fun y => stB l x y := by unfold pairsB; simp
              rw [this]
      · rintro ρ ⟨dn', rs, s3, hd, hr, m3, rfl⟩
        cases rs with
        | cons x rs => cases hr
        | nil =>
          rw [List.append_nil] at hd
          subst hd
          simp only [wp_bind, wp_c, wq_var, wp_op1, wp_op2, wp_opN, wq_ret1, wq_ret2, wq_retN, wp_nil, wp_cons, wp_dnil, wp_dcons, wp_esc, wp_escv, wp_escl, wp_tup, wp_lst, wp_bool, wp_tru, wq_retB, wp_not, wp_and, wp_or, wp_mif, wp_andV, wp_orV, wp_notV, wp_true, wp_chain, wp_retC1, wp_retC2, wp_noPart, wp_part, wp_retPart, wp_cut, wp_seq, wp_snil, wp_pass, wp_break, wp_cont, wp_never, wp_expr, wp_sif, wp_ret, wp_retv, wp_retN', wp_asg, wq_store, wp_par, wq_store2, wp_asgT, wp_call, lk_fl, lk_pl, ex_some, gSub_ii, gAdd_ii, gLt_ii, gLe_ii, gGt_ii, gGe_ii, gLt_pp, List.getD_cons_zero, List.getD_cons_succ, List.set_cons_zero, List.set_cons_succ, List.map_cons, List.map_nil, List.length_cons, List.length_nil, List.cons_append, List.nil_append, List.replicate, modeOf_un, modeOf_fl, one1, wp_if, wp_append, wp_setL, wp_intOf, unlk_n, lck_n, wq_retp, gTuple_l, gTuple_t, gList_l, gList_vl, gList_t, gLen_l, gLen_t, gInt_i, gNeg_i, Bool.false_eq_true, if_false, if_true, and_true, true_and, Nat.reduceAdd, Nat.reduceSub, Nat.reduceLT, Nat.reduceLeDiff, neg_true, neg_false, Bool.not_true, Bool.not_false, decide_true, decide_false]
          refine ⟨zero_ok, ?_⟩
          simp only [gEq_ones shp_lstP, wp_bind, wp_c, wq_var, wp_op1, wp_op2, wp_opN, wq_ret1, wq_ret2, wq_retN, wp_nil, wp_cons, wp_dnil, wp_dcons, wp_esc, wp_escv, wp_escl, wp_tup, wp_lst, wp_bool, wp_tru, wq_retB, wp_not, wp_and, wp_or, wp_mif, wp_andV, wp_orV, wp_notV, wp_true, wp_chain, wp_retC1, wp_retC2, wp_noPart, wp_part, wp_retPart, wp_cut, wp_seq, wp_snil, wp_pass, wp_break, wp_cont, wp_never, wp_expr, wp_sif, wp_ret, wp_retv, wp_retN', wp_asg, wq_store, wp_par, wq_store2, wp_asgT, wp_call, lk_fl, lk_pl, ex_some, gSub_ii, gAdd_ii, gLt_ii, gLe_ii, gGt_ii, gGe_ii, gLt_pp, List.getD_cons_zero, List.getD_cons_succ, List.set_cons_zero, List.set_cons_succ, List.map_cons, List.map_nil, List.length_cons, List.length_nil, List.cons_append, List.nil_append, List.replicate, modeOf_un, modeOf_fl, one1, wp_if, wp_append, wp_setL, wp_intOf, unlk_n, lck_n, wq_retp, gTuple_l, gTuple_t, gList_l, gList_vl, gList_t, gLen_l, gLen_t, gInt_i, gNeg_i, Bool.false_eq_true, if_false, if_true, and_true, true_and, Nat.reduceAdd, Nat.reduceSub, Nat.reduceLT, Nat.reduceLeDiff, neg_true, neg_false, Bool.not_true, Bool.not_false, decide_true, decide_false]
          have := P0
          simp only [Bool.true_and] at this
          exact this _
theorem p_law_is_quiet {l : List Pt} (L : FloorOk l) {d : D} (V : VOk d) : FV F__law_is_quiet [FD l, d] (.val (.bl (quietB l d))) := by
  refine fv_of ?_
  unfold B__law_is_quiet
  by_cases ht : ∃ ds, d = .tup ds
  · obtain ⟨ds, rfl⟩ := ht
    have hlen := V.few ds rfl
    rw [wp_seq]
    simp only [wp_sif, wp_or, wp_and, wp_not, wp_tru, wp_bool, wp_op1, wp_op2, wq_var, wp_ret, wp_c, wp_retv, wp_snil, wp_call, wp_cons, wp_nil, wp_tup, wp_dnil, List.map_cons, List.map_nil, List.length_cons, List.length_nil, List.replicate, List.cons_append, List.nil_append, Nat.reduceAdd, Nat.reduceSub, List.getD_cons_zero, List.getD_cons_succ, wq_ret1, wq_ret2, wq_retB, lk_fl, ex_some, gIsi, tyF, isTy, truF, blF]
    simp only [decide_true, Bool.true_or, Bool.not_true, Bool.false_eq_true, if_false]
    refine ⟨zero_ok, ?_⟩
    simp only [gEq_tnil V.sh, ex_some, neg_true, lk_fl]
    have tail : ∀ v : List Pt, ds = v.map prD → v.Pairwise ltP → ds.all cellB = true → quietB l (.tup ds) = (inB l v && (apartB l 1 v && apartB l (-1) v)) := by
      intro v e hs hc
      subst e
      have eq : quietB l (FD v) = quietP l v := by
        show ((v.map prD).all cellB && match prs (v.map prD) with
          | some v => quietP l v
          | none => false) = _
        rw [hc, prs_prD]; rfl
      rw [eq]
      unfold quietP
      rw [srtB_iff.mpr hs, Bool.true_and]
    by_cases h0 : ds = []
    · subst h0
      simp only [decide_true, Bool.not_true, Bool.false_eq_true, if_false]
      refine wp_lawtail L (v := []) .nil (by simp) fun ρ => .inl ?_
      rw [tail [] rfl .nil rfl]
    · simp only [h0, decide_false, Bool.not_false, if_true]
      refine wp_fv1 (p_law_is_floor V) ?_
      have h1 : 1 ≤ ds.length := List.length_pos_iff.mpr h0
      simp only [h1, decide_true, Bool.true_and, lk_fl, ex_some]
      cases hc : ds.all cellB with
      | false =>
        have : quietB l (.tup ds) = false := by
          show (ds.all cellB && _) = false
          rw [hc]; rfl
        rw [this]
        simp only [Bool.false_and, Bool.not_false, if_true]
        exact .inl trivial
      | true =>
        obtain ⟨v, rfl, hv⟩ := cells_pts hc
        rw [List.length_map] at hlen
        simp only [prs_prD, Bool.true_and]
        cases hs : srtB v with
        | false =>
          have : quietB l (FD v) = false := by
            show ((v.map prD).all cellB && match prs (v.map prD) with
              | some v => quietP l v
              | none => false) = _
            rw [hc, prs_prD]
            show (true && quietP l v) = false
            unfold quietP
            rw [hs]; rfl
          rw [this]
          simp only [Bool.not_false, if_true]
          exact .inl trivial
        | true =>
          simp only [Bool.not_true, Bool.false_eq_true, if_false]
          refine wp_lawtail L (srtB_iff.mp hs) hlen fun ρ => .inl ?_
          rw [tail v rfl (srtB_iff.mp hs) hc]
  · have hq : quietB l d = false := by
      cases d with
      | tup ds => exact absurd ⟨ds, rfl⟩ ht
      | _ => rfl
    rw [hq]
    have hsh := V.sh
    cases d <;> first | exact absurd ⟨_, rfl⟩ ht | (simp [shp, deep] at hsh; done) | skip
    all_goals
      simp only [wp_bind, wp_c, wq_var, wp_op1, wp_op2, wp_opN, wq_ret1, wq_ret2, wq_retN, wp_nil, wp_cons, wp_dnil, wp_dcons, wp_esc, wp_escv, wp_escl, wp_tup, wp_lst, wp_bool, wp_tru, wq_retB, wp_not, wp_and, wp_or, wp_mif, wp_andV, wp_orV, wp_notV, wp_true, wp_chain, wp_retC1, wp_retC2, wp_noPart, wp_part, wp_retPart, wp_cut, wp_seq, wp_snil, wp_pass, wp_break, wp_cont, wp_never, wp_expr, wp_sif, wp_ret, wp_retv, wp_retN', wp_asg, wq_store, wp_par, wq_store2, wp_asgT, wp_call, lk_fl, lk_pl, ex_some, gSub_ii, gAdd_ii, gLt_ii, gLe_ii, gGt_ii, gGe_ii, gLt_pp, List.getD_cons_zero, List.getD_cons_succ, List.set_cons_zero, List.set_cons_succ, List.map_cons, List.map_nil, List.length_cons, List.length_nil, List.cons_append, List.nil_append, List.replicate, modeOf_un, modeOf_fl, one1, wp_if, wp_append, wp_setL, wp_intOf, unlk_n, lck_n, wq_retp, gTuple_l, gTuple_t, gList_l, gList_vl, gList_t, gLen_l, gLen_t, gInt_i, gNeg_i, Bool.false_eq_true, if_false, if_true, and_true, true_and, Nat.reduceAdd, Nat.reduceSub, Nat.reduceLT, Nat.reduceLeDiff, neg_true, neg_false, Bool.not_true, Bool.not_false, decide_true, decide_false, gIsi, tyF, isTy, truF, blF]
      simp
end K50
/-! calls that lend a list as first argument, the rest by value or as new boxes -/
namespace VS
open PySem PySem.Spec PyProof.Rows L2
section
variable {ρ : Env}
def LV (G : Fn) (cs : List D) (ks : List Fld) (Q : Fld → List D → Prop) : Prop := ∃ f cs' outs md', Q f cs' ∧ G (.fl .pin (.lst cs) :: ks.map (Sl.fl .own)) = .ok (.fl f) (.fl md' (.lst cs') :: outs)
theorem LV.imp {G : Fn} {cs : List D} {ks : List Fld} {Q Q' : Fld → List D → Prop} (h : LV G cs ks Q) (q : ∀ f cs', Q f cs' → Q' f cs') : LV G cs ks Q' := by
  obtain ⟨f, cs', outs, md', a, b⟩ := h
  exact ⟨f, cs', outs, md', q _ _ a, b⟩
theorem places_fl : ∀ ks : List Fld, places (ks.map RV.fl) = []
  | [] => rfl
  | d :: ds => places_fl ds
theorem backE_fl : ∀ (ks : List Fld) (outs : Env), backE (ks.map RV.fl) outs ρ = ρ
  | [], _ => rfl
  | d :: ds, outs => backE_fl ds (outs.drop 1)
theorem argSl_fl : ∀ ks : List Fld, (ks.map RV.fl).map (argSl ρ) = ks.map (Sl.fl .own)
  | [] => rfl
  | d :: ds => by rw [List.map_cons, List.map_cons, argSl_fl ds]; rfl
theorem wp_lv {G : Fn} {i : Nat} {md : Mode} {cs : List D} {ks : List Fld} {Q : Fld → List D → Prop} {P : RV → Env → Prop} (hi : ρ.getD i .un = .fl md (.lst cs)) (hm : lend md = .pin) (h : LV G cs ks Q) (p : ∀ f cs', Q f cs' → P (.fl f) (ρ.set i (.fl md (.lst cs')))) :
    wp (callF G (.pl i :: ks.map RV.fl)) ρ P := by
  obtain ⟨f, cs', outs, md', q, h⟩ := h
  refine ⟨.fl f, ρ.set i (.fl md (.lst cs')), ?_, p _ _ q⟩
  unfold callF
  have e1 : places (.pl i :: ks.map RV.fl) = [i] := by show i :: places (ks.map RV.fl) = [i]; rw [places_fl]
  have e2 : (RV.pl i :: ks.map RV.fl).map (argSl ρ) = .fl .pin (.lst cs) :: ks.map (Sl.fl .own) := by
    rw [List.map_cons, argSl_fl]
    show reM (lend (modeOf (ρ.getD i .un))) (ρ.getD i .un) :: _ = _
    rw [hi, modeOf_fl, hm]; rfl
  have e3 : okPl ρ (.pl i :: ks.map RV.fl) = true := by
    unfold okPl
    rw [e1, List.all_cons, hi]; rfl
  rw [if_pos ⟨by rw [e1]; simp, e3⟩, e2, h]
  simp only [noPl, if_true]
  have e4 : backE (.pl i :: ks.map RV.fl) (.fl md' (.lst cs') :: outs) ρ = ρ.set i (.fl md (.lst cs')) := by
    unfold backE
    rw [backE_fl, hi]; rfl
  rw [e4]
theorem wp_lv1 {G : Fn} {i : Nat} {md : Mode} {cs : List D} {k : Fld} {Q : Fld → List D → Prop} {P : RV → Env → Prop} (hi : ρ.getD i .un = .fl md (.lst cs)) (hm : lend md = .pin) (h : LV G cs [k] Q) (p : ∀ f cs', Q f cs' → P (.fl f) (ρ.set i (.fl md (.lst cs')))) :
    wp (callF G [.pl i, .fl k]) ρ P := wp_lv (ks := [k]) hi hm h p
theorem wp_lv2 {G : Fn} {i : Nat} {md : Mode} {cs : List D} {k k' : Fld} {Q : Fld → List D → Prop} {P : RV → Env → Prop} (hi : ρ.getD i .un = .fl md (.lst cs)) (hm : lend md = .pin) (h : LV G cs [k, k'] Q) (p : ∀ f cs', Q f cs' → P (.fl f) (ρ.set i (.fl md (.lst cs')))) :
    wp (callF G [.pl i, .fl k, .fl k']) ρ P := wp_lv (ks := [k, k']) hi hm h p
theorem lv_of {n : Nat} {b : M Flo} {cs : List D} {ks : List Fld} {Q : Fld → List D → Prop} (h : wp b (.fl .pin (.lst cs) :: ks.map (Sl.fl .own) ++ List.replicate (n - (ks.length + 1)) .un) fun k ρ' => ∃ f cs', Q f cs' ∧ k = .rt (.fl f) ∧ ρ'.getD 0 .un = .fl .pin (.lst cs')) : LV (fnOf n b) cs ks Q := by
  obtain ⟨k, ρ', e, f, cs', q, rfl, h0⟩ := h
  refine ⟨f, cs', clean (ks.map (Sl.fl .own)) (ρ'.drop 1), .pin, q, ?_⟩
  unfold fnOf
  rw [List.length_cons, List.length_map, e]
  simp only [noPl, if_true]
  have : clean (.fl .pin (.lst cs) :: ks.map (Sl.fl .own)) ρ' = (if modeOf (.fl .pin (.lst cs)) = .own then .un else ρ'.getD 0 .un) :: clean (ks.map (Sl.fl .own)) (ρ'.drop 1) := rfl
  rw [this, if_neg (by rw [modeOf_fl]; decide), h0]
theorem gMod_i {i j : Int} (h : 0 < j) : gMod (.val (.int i)) (.val (.int j)) = some (.v (.int (i % j))) := by
  unfold gMod g2I
  simp only
  rw [if_pos (by omega), Int.fmod_eq_emod_of_nonneg i (by omega)]
  rfl
theorem gDiv_i {i j : Int} (h : 0 < j) (h2 : j < 1073741824) : gDiv (.val (.int i)) (.val (.int j)) = some (.v (.int (i / j))) := by
  unfold gDiv g2I
  simp only
  rw [if_pos (by omega), Int.fdiv_eq_ediv_of_nonneg i (by omega)]
  rfl
theorem gMulI_r {i j : Int} (h : 0 ≤ j) (h2 : j < 18446744073709551616) : gMulI (.val (.int i)) (.val (.int j)) = some (.v (.int (i * j))) := by
  unfold gMulI g2I
  simp only
  rw [if_pos (by rw [show small64 j = true from decide_eq_true ⟨by omega, by omega⟩, Bool.or_true])]
  rfl
theorem gIx_l0 {a b : D} : gIx (.lst [a, b]) (.val (.int 0)) = some (.v a) := gIx_l rfl
theorem gIx_l1 {a b : D} : gIx (.lst [a, b]) (.val (.int 1)) = some (.v b) := gIx_l rfl
theorem gAbs_i {i : Int} : gAbs (.val (.int i)) = some (.v (.int (if i < 0 then -i else i))) := rfl
end
end VS
namespace K50
open VS
open PySem (sizeLine)
def cupD (c : Int × Int) : List D := [.int c.1, .int c.2]
def CupOk (c : Int × Int) : Prop := 0 ≤ c.1 ∧ 0 ≤ c.2 ∧ c.2 < 1099511627776
def RollQ (n : Int) (f : Fld) (cs : List D) : Prop := ∃ r : Int, 0 ≤ r ∧ r < n ∧ f = .val (.int r) ∧ ∃ c, CupOk c ∧ cs = cupD c
theorem p_roll {c : Int × Int} (C : CupOk c) {n : Int} (h1 : 1 ≤ n) (h2 : n < 1073741824) : LV F__law_roll (cupD c) [.val (.int n)] (RollQ n) := by
  obtain ⟨a, b⟩ := c
  obtain ⟨c1, c2, c3⟩ := C
  simp only at c1 c2 c3
  refine lv_of ?_
  unfold B__law_roll cupD
  simp only [wp_bind, wp_c, wq_var, wp_op1, wp_op2, wp_opN, wq_ret1, wq_ret2, wq_retN, wp_nil, wp_cons, wp_dnil, wp_dcons, wp_esc, wp_escv, wp_escl, wp_tup, wp_lst, wp_bool, wp_tru, wq_retB, wp_not, wp_and, wp_or, wp_mif, wp_andV, wp_orV, wp_notV, wp_true, wp_chain, wp_retC1, wp_retC2, wp_noPart, wp_part, wp_retPart, wp_cut, wp_seq, wp_snil, wp_pass, wp_break, wp_cont, wp_never, wp_expr, wp_sif, wp_ret, wp_retv, wp_retN', wp_asg, wq_store, wp_par, wq_store2, wp_asgT, wp_call, lk_fl, lk_pl, ex_some, gSub_ii, gAdd_ii, gLt_ii, gLe_ii, gGt_ii, gGe_ii, gLt_pp, List.getD_cons_zero, List.getD_cons_succ, List.set_cons_zero, List.set_cons_succ, List.map_cons, List.map_nil, List.length_cons, List.length_nil, List.cons_append, List.nil_append, List.replicate, modeOf_un, modeOf_fl, one1, wp_if, wp_append, wp_setL, wp_intOf, unlk_n, lck_n, wq_retp, gTuple_l, gTuple_t, gList_l, gList_vl, gList_t, gLen_l, gLen_t, gInt_i, gNeg_i, Bool.false_eq_true, if_false, if_true, and_true, true_and, Nat.reduceAdd, Nat.reduceSub, Nat.reduceLT, Nat.reduceLeDiff, neg_true, neg_false, Bool.not_true, Bool.not_false, decide_true, decide_false, gIx_l0, gIx_l1, blF]
  by_cases h : 0 < a
  · simp only [wp_bind, wp_c, wq_var, wp_op1, wp_op2, wp_opN, wq_ret1, wq_ret2, wq_retN, wp_nil, wp_cons, wp_dnil, wp_dcons, wp_esc, wp_escv, wp_escl, wp_tup, wp_lst, wp_bool, wp_tru, wq_retB, wp_not, wp_and, wp_or, wp_mif, wp_andV, wp_orV, wp_notV, wp_true, wp_chain, wp_retC1, wp_retC2, wp_noPart, wp_part, wp_retPart, wp_cut, wp_seq, wp_snil, wp_pass, wp_break, wp_cont, wp_never, wp_expr, wp_sif, wp_ret, wp_retv, wp_retN', wp_asg, wq_store, wp_par, wq_store2, wp_asgT, wp_call, lk_fl, lk_pl, ex_some, gSub_ii, gAdd_ii, gLt_ii, gLe_ii, gGt_ii, gGe_ii, gLt_pp, List.getD_cons_zero, List.getD_cons_succ, List.set_cons_zero, List.set_cons_succ, List.map_cons, List.map_nil, List.length_cons, List.length_nil, List.cons_append, List.nil_append, List.replicate, modeOf_un, modeOf_fl, one1, wp_if, wp_append, wp_setL, wp_intOf, unlk_n, lck_n, wq_retp, gTuple_l, gTuple_t, gList_l, gList_vl, gList_t, gLen_l, gLen_t, gInt_i, gNeg_i, Bool.false_eq_true, if_false, if_true, and_true, true_and, Nat.reduceAdd, Nat.reduceSub, Nat.reduceLT, Nat.reduceLeDiff, neg_true, neg_false, Bool.not_true, Bool.not_false, decide_true, decide_false, gIx_l0, gIx_l1, h, gMod_i (i := a) (show 0 < n by omega), gDiv_i (i := a) (show 0 < n by omega) h2]
    refine wp_lstPl rfl ?_
    refine wp_setAt rfl (by decide) rfl ?_
    simp only [wp_bind, wp_c, wq_var, wp_op1, wp_op2, wp_opN, wq_ret1, wq_ret2, wq_retN, wp_nil, wp_cons, wp_dnil, wp_dcons, wp_esc, wp_escv, wp_escl, wp_tup, wp_lst, wp_bool, wp_tru, wq_retB, wp_not, wp_and, wp_or, wp_mif, wp_andV, wp_orV, wp_notV, wp_true, wp_chain, wp_retC1, wp_retC2, wp_noPart, wp_part, wp_retPart, wp_cut, wp_seq, wp_snil, wp_pass, wp_break, wp_cont, wp_never, wp_expr, wp_sif, wp_ret, wp_retv, wp_retN', wp_asg, wq_store, wp_par, wq_store2, wp_asgT, wp_call, lk_fl, lk_pl, ex_some, gSub_ii, gAdd_ii, gLt_ii, gLe_ii, gGt_ii, gGe_ii, gLt_pp, List.getD_cons_zero, List.getD_cons_succ, List.set_cons_zero, List.set_cons_succ, List.map_cons, List.map_nil, List.length_cons, List.length_nil, List.cons_append, List.nil_append, List.replicate, modeOf_un, modeOf_fl, one1, wp_if, wp_append, wp_setL, wp_intOf, unlk_n, lck_n, wq_retp, gTuple_l, gTuple_t, gList_l, gList_vl, gList_t, gLen_l, gLen_t, gInt_i, gNeg_i, Bool.false_eq_true, if_false, if_true, and_true, true_and, Nat.reduceAdd, Nat.reduceSub, Nat.reduceLT, Nat.reduceLeDiff, neg_true, neg_false, Bool.not_true, Bool.not_false, decide_true, decide_false]
    exact ⟨_, _, ⟨a % n, Int.emod_nonneg a (by omega), Int.emod_lt_of_pos a (by omega), rfl, (a / n, b), ⟨Int.ediv_nonneg c1 (by omega), c2, c3⟩, rfl⟩, rfl, rfl⟩
  · have e1 := fun i : Int => gMod_i (i := i) (show 0 < (2147483423 : Int) by decide)
    have e2 := fun i : Int => gMod_i (i := i) (show 0 < (2147483587 : Int) by decide)
    have e3 := fun i : Int => gMod_i (i := i) (show 0 < n by omega)
    have e4 := fun i : Int => gDiv_i (i := i) (show 0 < (2011 : Int) by decide) (by decide)
    have e5 := gMulI_r (i := b) (show 0 ≤ (37013 : Int) by decide) (by decide)
    simp only [wp_bind, wp_c, wq_var, wp_op1, wp_op2, wp_opN, wq_ret1, wq_ret2, wq_retN, wp_nil, wp_cons, wp_dnil, wp_dcons, wp_esc, wp_escv, wp_escl, wp_tup, wp_lst, wp_bool, wp_tru, wq_retB, wp_not, wp_and, wp_or, wp_mif, wp_andV, wp_orV, wp_notV, wp_true, wp_chain, wp_retC1, wp_retC2, wp_noPart, wp_part, wp_retPart, wp_cut, wp_seq, wp_snil, wp_pass, wp_break, wp_cont, wp_never, wp_expr, wp_sif, wp_ret, wp_retv, wp_retN', wp_asg, wq_store, wp_par, wq_store2, wp_asgT, wp_call, lk_fl, lk_pl, ex_some, gSub_ii, gAdd_ii, gLt_ii, gLe_ii, gGt_ii, gGe_ii, gLt_pp, List.getD_cons_zero, List.getD_cons_succ, List.set_cons_zero, List.set_cons_succ, List.map_cons, List.map_nil, List.length_cons, List.length_nil, List.cons_append, List.nil_append, List.replicate, modeOf_un, modeOf_fl, one1, wp_if, wp_append, wp_setL, wp_intOf, unlk_n, lck_n, wq_retp, gTuple_l, gTuple_t, gList_l, gList_vl, gList_t, gLen_l, gLen_t, gInt_i, gNeg_i, Bool.false_eq_true, if_false, if_true, and_true, true_and, Nat.reduceAdd, Nat.reduceSub, Nat.reduceLT, Nat.reduceLeDiff, neg_true, neg_false, Bool.not_true, Bool.not_false, decide_true, decide_false, gIx_l0, gIx_l1, h, e5, e1]
    refine wp_lstPl rfl ?_
    refine wp_setAt rfl (by decide) rfl ?_
    generalize hm : (b * 37013 + 12011) % 2147483423 = m
    have m1 : 0 ≤ m := by rw [← hm]; exact Int.emod_nonneg _ (by decide)
    have m2 : m < 2147483423 := by rw [← hm]; exact Int.emod_lt_of_pos _ (by decide)
    have e6 := gMulI_r (i := m) (show 0 ≤ m + 1801 by omega) (by omega)
    simp only [wp_bind, wp_c, wq_var, wp_op1, wp_op2, wp_opN, wq_ret1, wq_ret2, wq_retN, wp_nil, wp_cons, wp_dnil, wp_dcons, wp_esc, wp_escv, wp_escl, wp_tup, wp_lst, wp_bool, wp_tru, wq_retB, wp_not, wp_and, wp_or, wp_mif, wp_andV, wp_orV, wp_notV, wp_true, wp_chain, wp_retC1, wp_retC2, wp_noPart, wp_part, wp_retPart, wp_cut, wp_seq, wp_snil, wp_pass, wp_break, wp_cont, wp_never, wp_expr, wp_sif, wp_ret, wp_retv, wp_retN', wp_asg, wq_store, wp_par, wq_store2, wp_asgT, wp_call, lk_fl, lk_pl, ex_some, gSub_ii, gAdd_ii, gLt_ii, gLe_ii, gGt_ii, gGe_ii, gLt_pp, List.getD_cons_zero, List.getD_cons_succ, List.set_cons_zero, List.set_cons_succ, List.map_cons, List.map_nil, List.length_cons, List.length_nil, List.cons_append, List.nil_append, List.replicate, modeOf_un, modeOf_fl, one1, wp_if, wp_append, wp_setL, wp_intOf, unlk_n, lck_n, wq_retp, gTuple_l, gTuple_t, gList_l, gList_vl, gList_t, gLen_l, gLen_t, gInt_i, gNeg_i, Bool.false_eq_true, if_false, if_true, and_true, true_and, Nat.reduceAdd, Nat.reduceSub, Nat.reduceLT, Nat.reduceLeDiff, neg_true, neg_false, Bool.not_true, Bool.not_false, decide_true, decide_false, Int.reduceToNat, gIx_l0, gIx_l1, e2, e6, e4, e3]
    exact ⟨_, _, ⟨_, Int.emod_nonneg _ (by omega), Int.emod_lt_of_pos _ (by omega), rfl, (a, m), ⟨c1, m1, by show m < _; omega⟩, rfl⟩, rfl, rfl⟩
end K50
namespace K50
open VS
open PySem (sizeLine)
def SomeQ (things : List D) (f : Fld) (cs : List D) : Prop := ∃ d ∈ things, f = .val d ∧ ∃ c, CupOk c ∧ cs = cupD c
theorem at_some {ds : List D} {r : Int} (h : 0 ≤ r) (h2 : r < ds.length) : ∃ d ∈ ds, L2.atI ds r = some d := by
  obtain ⟨k, rfl⟩ := Int.eq_ofNat_of_zero_le h
  have hk : k < ds.length := by omega
  exact ⟨ds[k], List.getElem_mem hk, at_nat (List.getElem?_eq_getElem hk)⟩
theorem p_some_l {c : Int × Int} (C : CupOk c) {ds : List D} (h : ds ≠ []) (hs : ds.length < 1000000) : LV F__law_some (cupD c) [.lst ds] (SomeQ ds) := by
  have hl : 0 < ds.length := List.length_pos_iff.mpr h
  refine lv_of ?_
  unfold B__law_some
  simp only [wp_bind, wp_c, wq_var, wp_op1, wp_op2, wp_opN, wq_ret1, wq_ret2, wq_retN, wp_nil, wp_cons, wp_dnil, wp_dcons, wp_esc, wp_escv, wp_escl, wp_tup, wp_lst, wp_bool, wp_tru, wq_retB, wp_not, wp_and, wp_or, wp_mif, wp_andV, wp_orV, wp_notV, wp_true, wp_chain, wp_retC1, wp_retC2, wp_noPart, wp_part, wp_retPart, wp_cut, wp_seq, wp_snil, wp_pass, wp_break, wp_cont, wp_never, wp_expr, wp_sif, wp_ret, wp_retv, wp_retN', wp_asg, wq_store, wp_par, wq_store2, wp_asgT, wp_call, lk_fl, lk_pl, ex_some, gSub_ii, gAdd_ii, gLt_ii, gLe_ii, gGt_ii, gGe_ii, gLt_pp, List.getD_cons_zero, List.getD_cons_succ, List.set_cons_zero, List.set_cons_succ, List.map_cons, List.map_nil, List.length_cons, List.length_nil, List.cons_append, List.nil_append, List.replicate, modeOf_un, modeOf_fl, one1, wp_if, wp_append, wp_setL, wp_intOf, unlk_n, lck_n, wq_retp, gTuple_l, gTuple_t, gList_l, gList_vl, gList_t, gLen_l, gLen_t, gInt_i, gNeg_i, Bool.false_eq_true, if_false, if_true, and_true, true_and, Nat.reduceAdd, Nat.reduceSub, Nat.reduceLT, Nat.reduceLeDiff, neg_true, neg_false, Bool.not_true, Bool.not_false, decide_true, decide_false]
  refine wp_lv1 rfl rfl (p_roll C (n := ds.length) (by omega) (by omega)) ?_
  rintro _ _ ⟨r, r0, r1, rfl, c', C', rfl⟩
  obtain ⟨d, hd, e⟩ := at_some r0 r1
  simp only [wp_bind, wp_c, wq_var, wp_op1, wp_op2, wp_opN, wq_ret1, wq_ret2, wq_retN, wp_nil, wp_cons, wp_dnil, wp_dcons, wp_esc, wp_escv, wp_escl, wp_tup, wp_lst, wp_bool, wp_tru, wq_retB, wp_not, wp_and, wp_or, wp_mif, wp_andV, wp_orV, wp_notV, wp_true, wp_chain, wp_retC1, wp_retC2, wp_noPart, wp_part, wp_retPart, wp_cut, wp_seq, wp_snil, wp_pass, wp_break, wp_cont, wp_never, wp_expr, wp_sif, wp_ret, wp_retv, wp_retN', wp_asg, wq_store, wp_par, wq_store2, wp_asgT, wp_call, lk_fl, lk_pl, ex_some, gSub_ii, gAdd_ii, gLt_ii, gLe_ii, gGt_ii, gGe_ii, gLt_pp, List.getD_cons_zero, List.getD_cons_succ, List.set_cons_zero, List.set_cons_succ, List.map_cons, List.map_nil, List.length_cons, List.length_nil, List.cons_append, List.nil_append, List.replicate, modeOf_un, modeOf_fl, one1, wp_if, wp_append, wp_setL, wp_intOf, unlk_n, lck_n, wq_retp, gTuple_l, gTuple_t, gList_l, gList_vl, gList_t, gLen_l, gLen_t, gInt_i, gNeg_i, Bool.false_eq_true, if_false, if_true, and_true, true_and, Nat.reduceAdd, Nat.reduceSub, Nat.reduceLT, Nat.reduceLeDiff, neg_true, neg_false, Bool.not_true, Bool.not_false, decide_true, decide_false, gIx_l e]
  exact ⟨_, _, ⟨d, hd, rfl, c', C', rfl⟩, rfl, rfl⟩
theorem p_some_t {c : Int × Int} (C : CupOk c) {ds : List D} (h : ds ≠ []) (hs : ds.length < 1000000) : LV F__law_some (cupD c) [.val (.tup ds)] (SomeQ ds) := by
  have hl : 0 < ds.length := List.length_pos_iff.mpr h
  refine lv_of ?_
  unfold B__law_some
  simp only [wp_bind, wp_c, wq_var, wp_op1, wp_op2, wp_opN, wq_ret1, wq_ret2, wq_retN, wp_nil, wp_cons, wp_dnil, wp_dcons, wp_esc, wp_escv, wp_escl, wp_tup, wp_lst, wp_bool, wp_tru, wq_retB, wp_not, wp_and, wp_or, wp_mif, wp_andV, wp_orV, wp_notV, wp_true, wp_chain, wp_retC1, wp_retC2, wp_noPart, wp_part, wp_retPart, wp_cut, wp_seq, wp_snil, wp_pass, wp_break, wp_cont, wp_never, wp_expr, wp_sif, wp_ret, wp_retv, wp_retN', wp_asg, wq_store, wp_par, wq_store2, wp_asgT, wp_call, lk_fl, lk_pl, ex_some, gSub_ii, gAdd_ii, gLt_ii, gLe_ii, gGt_ii, gGe_ii, gLt_pp, List.getD_cons_zero, List.getD_cons_succ, List.set_cons_zero, List.set_cons_succ, List.map_cons, List.map_nil, List.length_cons, List.length_nil, List.cons_append, List.nil_append, List.replicate, modeOf_un, modeOf_fl, one1, wp_if, wp_append, wp_setL, wp_intOf, unlk_n, lck_n, wq_retp, gTuple_l, gTuple_t, gList_l, gList_vl, gList_t, gLen_l, gLen_t, gInt_i, gNeg_i, Bool.false_eq_true, if_false, if_true, and_true, true_and, Nat.reduceAdd, Nat.reduceSub, Nat.reduceLT, Nat.reduceLeDiff, neg_true, neg_false, Bool.not_true, Bool.not_false, decide_true, decide_false]
  refine wp_lv1 rfl rfl (p_roll C (n := ds.length) (by omega) (by omega)) ?_
  rintro _ _ ⟨r, r0, r1, rfl, c', C', rfl⟩
  obtain ⟨d, hd, e⟩ := at_some r0 r1
  simp only [wp_bind, wp_c, wq_var, wp_op1, wp_op2, wp_opN, wq_ret1, wq_ret2, wq_retN, wp_nil, wp_cons, wp_dnil, wp_dcons, wp_esc, wp_escv, wp_escl, wp_tup, wp_lst, wp_bool, wp_tru, wq_retB, wp_not, wp_and, wp_or, wp_mif, wp_andV, wp_orV, wp_notV, wp_true, wp_chain, wp_retC1, wp_retC2, wp_noPart, wp_part, wp_retPart, wp_cut, wp_seq, wp_snil, wp_pass, wp_break, wp_cont, wp_never, wp_expr, wp_sif, wp_ret, wp_retv, wp_retN', wp_asg, wq_store, wp_par, wq_store2, wp_asgT, wp_call, lk_fl, lk_pl, ex_some, gSub_ii, gAdd_ii, gLt_ii, gLe_ii, gGt_ii, gGe_ii, gLt_pp, List.getD_cons_zero, List.getD_cons_succ, List.set_cons_zero, List.set_cons_succ, List.map_cons, List.map_nil, List.length_cons, List.length_nil, List.cons_append, List.nil_append, List.replicate, modeOf_un, modeOf_fl, one1, wp_if, wp_append, wp_setL, wp_intOf, unlk_n, lck_n, wq_retp, gTuple_l, gTuple_t, gList_l, gList_vl, gList_t, gLen_l, gLen_t, gInt_i, gNeg_i, Bool.false_eq_true, if_false, if_true, and_true, true_and, Nat.reduceAdd, Nat.reduceSub, Nat.reduceLT, Nat.reduceLeDiff, neg_true, neg_false, Bool.not_true, Bool.not_false, decide_true, decide_false, gIx_t e]
  exact ⟨_, _, ⟨d, hd, rfl, c', C', rfl⟩, rfl, rfl⟩
end K50
namespace K50
open VS
open PySem (sizeLine)
/-- made of tuples, ints and bools, no deeper than n -/
inductive SameOk : Nat → D → Prop where
  | int (n : Nat) (i : Int) : SameOk n (.int i)
  | bl (n : Nat) (b : Bool) : SameOk n (.bl b)
  | tup (n : Nat) (ds : List D) : ds.length ≤ 1000 → (∀ d ∈ ds, SameOk n d) → SameOk (n + 1) (.tup ds)
theorem rangeD_map (m : Nat) : rangeD 0 (m : Int) = (List.range m).map fun k => D.int (k : Nat) := by
  unfold rangeD
  simp
theorem eqb_int {i : Int} : eqb (.int i) (.int i) = true := by simp [eqb]
theorem truF_b {b : Bool} : truF (.val (.bl b)) = some b := rfl
theorem blF_b {b : Bool} : blF (.val (.bl b)) = some b := rfl
theorem gIsN_ii {i : Int} : gIs false (.val (.int i)) (.val .non) = some (.v (.bl false)) := rfl
theorem gIsN_bb {b : Bool} : gIs false (.val (.bl b)) (.val .non) = some (.v (.bl false)) := rfl
theorem gIsN_tt {b : List D} : gIs false (.val (.tup b)) (.val .non) = some (.v (.bl false)) := rfl
theorem gIsB_bb {b c : Bool} : gIs false (.val (.bl b)) (.val (.bl c)) = some (.v (.bl (b == c))) := by cases b <;> cases c <;> rfl
theorem is_tup_tup {ds : List D} : gIsi .tup (.val (.tup ds)) = some (.v (.bl true)) := rfl
theorem is_tup_lst {ds : List D} : gIsi .tup (.val (.lst ds)) = some (.v (.bl false)) := rfl
theorem is_tup_bl {b : Bool} : gIsi .tup (.val (.bl b)) = some (.v (.bl false)) := rfl
theorem is_tup_int {i : Int} : gIsi .tup (.val (.int i)) = some (.v (.bl false)) := rfl
theorem is_tup_non  : gIsi .tup (.val (.non)) = some (.v (.bl false)) := rfl
theorem is_lst_tup {ds : List D} : gIsi .lst (.val (.tup ds)) = some (.v (.bl false)) := rfl
theorem is_lst_lst {ds : List D} : gIsi .lst (.val (.lst ds)) = some (.v (.bl true)) := rfl
theorem is_lst_bl {b : Bool} : gIsi .lst (.val (.bl b)) = some (.v (.bl false)) := rfl
theorem is_lst_int {i : Int} : gIsi .lst (.val (.int i)) = some (.v (.bl false)) := rfl
theorem is_lst_non  : gIsi .lst (.val (.non)) = some (.v (.bl false)) := rfl
theorem is_bl_tup {ds : List D} : gIsi .bl (.val (.tup ds)) = some (.v (.bl false)) := rfl
theorem is_bl_lst {ds : List D} : gIsi .bl (.val (.lst ds)) = some (.v (.bl false)) := rfl
theorem is_bl_bl {b : Bool} : gIsi .bl (.val (.bl b)) = some (.v (.bl true)) := rfl
theorem is_bl_int {i : Int} : gIsi .bl (.val (.int i)) = some (.v (.bl false)) := rfl
theorem is_bl_non  : gIsi .bl (.val (.non)) = some (.v (.bl false)) := rfl
theorem is_int_tup {ds : List D} : gIsi .int (.val (.tup ds)) = some (.v (.bl false)) := rfl
theorem is_int_lst {ds : List D} : gIsi .int (.val (.lst ds)) = some (.v (.bl false)) := rfl
theorem is_int_bl {b : Bool} : gIsi .int (.val (.bl b)) = some (.v (.bl true)) := rfl
theorem is_int_int {i : Int} : gIsi .int (.val (.int i)) = some (.v (.bl true)) := rfl
theorem is_int_non  : gIsi .int (.val (.non)) = some (.v (.bl false)) := rfl
theorem is_str_tup {ds : List D} : gIsi .str (.val (.tup ds)) = some (.v (.bl false)) := rfl
theorem is_str_lst {ds : List D} : gIsi .str (.val (.lst ds)) = some (.v (.bl false)) := rfl
theorem is_str_bl {b : Bool} : gIsi .str (.val (.bl b)) = some (.v (.bl false)) := rfl
theorem is_str_int {i : Int} : gIsi .str (.val (.int i)) = some (.v (.bl false)) := rfl
theorem is_str_non  : gIsi .str (.val (.non)) = some (.v (.bl false)) := rfl
theorem gEq_b2 {neg b c : Bool} : gEqG neg (.val (.bl b)) (.val (.bl c)) = some (.v (.bl (neg != decide (b = c)))) := by
  rw [gEq_dd shp_bl shp_bl]; cases b <;> cases c <;> simp [eqb]
theorem wp_skip {s t : M Flo} {ρ : Env} {P : Flo → Env → Prop} (h : wp s ρ fun f ρ' => f = .nx ∧ ρ' = ρ) (p : wp t ρ P) : wp (sSeq s t) ρ P := by
  rw [wp_seq]
  exact wp_imp h fun f ρ' ⟨a, b⟩ => by subst a; subst b; exact p
theorem wp_stop {s t : M Flo} {ρ : Env} {P : Flo → Env → Prop} (h : wp s ρ fun f ρ' => ∃ r, f = .rt r ∧ P (.rt r) ρ') : wp (sSeq s t) ρ P := by
  rw [wp_seq]
  exact wp_imp h fun f ρ' ⟨r, a, b⟩ => by subst a; exact b
theorem same_int {n : Nat} {i : Int} : FV (R__law_same (n + 1)) [.int i, .int i] (.val (.bl true)) := by
  refine fv_of ?_
  unfold B__law_same
  refine wp_skip (by simp only [wp_bind, wp_c, wq_var, wp_op1, wp_op2, wp_opN, wq_ret1, wq_ret2, wq_retN, wp_nil, wp_cons, wp_dnil, wp_dcons, wp_esc, wp_escv, wp_escl, wp_tup, wp_lst, wp_bool, wp_tru, wq_retB, wp_not, wp_and, wp_or, wp_mif, wp_andV, wp_orV, wp_notV, wp_true, wp_chain, wp_retC1, wp_retC2, wp_noPart, wp_part, wp_retPart, wp_cut, wp_seq, wp_snil, wp_pass, wp_break, wp_cont, wp_never, wp_expr, wp_sif, wp_ret, wp_retv, wp_retN', wp_asg, wq_store, wp_par, wq_store2, wp_asgT, wp_call, lk_fl, lk_pl, ex_some, gSub_ii, gAdd_ii, gLt_ii, gLe_ii, gGt_ii, gGe_ii, gLt_pp, List.getD_cons_zero, List.getD_cons_succ, List.set_cons_zero, List.set_cons_succ, List.map_cons, List.map_nil, List.length_cons, List.length_nil, List.cons_append, List.nil_append, List.replicate, modeOf_un, modeOf_fl, one1, wp_if, wp_append, wp_setL, wp_intOf, unlk_n, lck_n, wq_retp, gTuple_l, gTuple_t, gList_l, gList_vl, gList_t, gLen_l, gLen_t, gInt_i, gNeg_i, Bool.false_eq_true, if_false, if_true, and_true, true_and, Nat.reduceAdd, Nat.reduceSub, Nat.reduceLT, Nat.reduceLeDiff, neg_true, neg_false, Bool.not_true, Bool.not_false, decide_true, decide_false, is_tup_tup, is_tup_lst, is_tup_bl, is_tup_int, is_tup_non, is_lst_tup, is_lst_lst, is_lst_bl, is_lst_int, is_lst_non, is_bl_tup, is_bl_lst, is_bl_bl, is_bl_int, is_bl_non, is_int_tup, is_int_lst, is_int_bl, is_int_int, is_int_non, is_str_tup, is_str_lst, is_str_bl, is_str_int, is_str_non, truF_b, blF_b, gIsN_ii, gEq_ii]) ?_
  refine wp_skip (by simp only [wp_bind, wp_c, wq_var, wp_op1, wp_op2, wp_opN, wq_ret1, wq_ret2, wq_retN, wp_nil, wp_cons, wp_dnil, wp_dcons, wp_esc, wp_escv, wp_escl, wp_tup, wp_lst, wp_bool, wp_tru, wq_retB, wp_not, wp_and, wp_or, wp_mif, wp_andV, wp_orV, wp_notV, wp_true, wp_chain, wp_retC1, wp_retC2, wp_noPart, wp_part, wp_retPart, wp_cut, wp_seq, wp_snil, wp_pass, wp_break, wp_cont, wp_never, wp_expr, wp_sif, wp_ret, wp_retv, wp_retN', wp_asg, wq_store, wp_par, wq_store2, wp_asgT, wp_call, lk_fl, lk_pl, ex_some, gSub_ii, gAdd_ii, gLt_ii, gLe_ii, gGt_ii, gGe_ii, gLt_pp, List.getD_cons_zero, List.getD_cons_succ, List.set_cons_zero, List.set_cons_succ, List.map_cons, List.map_nil, List.length_cons, List.length_nil, List.cons_append, List.nil_append, List.replicate, modeOf_un, modeOf_fl, one1, wp_if, wp_append, wp_setL, wp_intOf, unlk_n, lck_n, wq_retp, gTuple_l, gTuple_t, gList_l, gList_vl, gList_t, gLen_l, gLen_t, gInt_i, gNeg_i, Bool.false_eq_true, if_false, if_true, and_true, true_and, Nat.reduceAdd, Nat.reduceSub, Nat.reduceLT, Nat.reduceLeDiff, neg_true, neg_false, Bool.not_true, Bool.not_false, decide_true, decide_false, is_tup_tup, is_tup_lst, is_tup_bl, is_tup_int, is_tup_non, is_lst_tup, is_lst_lst, is_lst_bl, is_lst_int, is_lst_non, is_bl_tup, is_bl_lst, is_bl_bl, is_bl_int, is_bl_non, is_int_tup, is_int_lst, is_int_bl, is_int_int, is_int_non, is_str_tup, is_str_lst, is_str_bl, is_str_int, is_str_non, truF_b, blF_b, gIsN_ii, gEq_ii]) ?_
  refine wp_skip (by simp only [wp_bind, wp_c, wq_var, wp_op1, wp_op2, wp_opN, wq_ret1, wq_ret2, wq_retN, wp_nil, wp_cons, wp_dnil, wp_dcons, wp_esc, wp_escv, wp_escl, wp_tup, wp_lst, wp_bool, wp_tru, wq_retB, wp_not, wp_and, wp_or, wp_mif, wp_andV, wp_orV, wp_notV, wp_true, wp_chain, wp_retC1, wp_retC2, wp_noPart, wp_part, wp_retPart, wp_cut, wp_seq, wp_snil, wp_pass, wp_break, wp_cont, wp_never, wp_expr, wp_sif, wp_ret, wp_retv, wp_retN', wp_asg, wq_store, wp_par, wq_store2, wp_asgT, wp_call, lk_fl, lk_pl, ex_some, gSub_ii, gAdd_ii, gLt_ii, gLe_ii, gGt_ii, gGe_ii, gLt_pp, List.getD_cons_zero, List.getD_cons_succ, List.set_cons_zero, List.set_cons_succ, List.map_cons, List.map_nil, List.length_cons, List.length_nil, List.cons_append, List.nil_append, List.replicate, modeOf_un, modeOf_fl, one1, wp_if, wp_append, wp_setL, wp_intOf, unlk_n, lck_n, wq_retp, gTuple_l, gTuple_t, gList_l, gList_vl, gList_t, gLen_l, gLen_t, gInt_i, gNeg_i, Bool.false_eq_true, if_false, if_true, and_true, true_and, Nat.reduceAdd, Nat.reduceSub, Nat.reduceLT, Nat.reduceLeDiff, neg_true, neg_false, Bool.not_true, Bool.not_false, decide_true, decide_false, is_tup_tup, is_tup_lst, is_tup_bl, is_tup_int, is_tup_non, is_lst_tup, is_lst_lst, is_lst_bl, is_lst_int, is_lst_non, is_bl_tup, is_bl_lst, is_bl_bl, is_bl_int, is_bl_non, is_int_tup, is_int_lst, is_int_bl, is_int_int, is_int_non, is_str_tup, is_str_lst, is_str_bl, is_str_int, is_str_non, truF_b, blF_b, gIsN_ii, gEq_ii]) ?_
  refine wp_stop ?_
  simp only [wp_bind, wp_c, wq_var, wp_op1, wp_op2, wp_opN, wq_ret1, wq_ret2, wq_retN, wp_nil, wp_cons, wp_dnil, wp_dcons, wp_esc, wp_escv, wp_escl, wp_tup, wp_lst, wp_bool, wp_tru, wq_retB, wp_not, wp_and, wp_or, wp_mif, wp_andV, wp_orV, wp_notV, wp_true, wp_chain, wp_retC1, wp_retC2, wp_noPart, wp_part, wp_retPart, wp_cut, wp_seq, wp_snil, wp_pass, wp_break, wp_cont, wp_never, wp_expr, wp_sif, wp_ret, wp_retv, wp_retN', wp_asg, wq_store, wp_par, wq_store2, wp_asgT, wp_call, lk_fl, lk_pl, ex_some, gSub_ii, gAdd_ii, gLt_ii, gLe_ii, gGt_ii, gGe_ii, gLt_pp, List.getD_cons_zero, List.getD_cons_succ, List.set_cons_zero, List.set_cons_succ, List.map_cons, List.map_nil, List.length_cons, List.length_nil, List.cons_append, List.nil_append, List.replicate, modeOf_un, modeOf_fl, one1, wp_if, wp_append, wp_setL, wp_intOf, unlk_n, lck_n, wq_retp, gTuple_l, gTuple_t, gList_l, gList_vl, gList_t, gLen_l, gLen_t, gInt_i, gNeg_i, Bool.false_eq_true, if_false, if_true, and_true, true_and, Nat.reduceAdd, Nat.reduceSub, Nat.reduceLT, Nat.reduceLeDiff, neg_true, neg_false, Bool.not_true, Bool.not_false, decide_true, decide_false, is_tup_tup, is_tup_lst, is_tup_bl, is_tup_int, is_tup_non, is_lst_tup, is_lst_lst, is_lst_bl, is_lst_int, is_lst_non, is_bl_tup, is_bl_lst, is_bl_bl, is_bl_int, is_bl_non, is_int_tup, is_int_lst, is_int_bl, is_int_int, is_int_non, is_str_tup, is_str_lst, is_str_bl, is_str_int, is_str_non, truF_b, blF_b, gIsN_ii, gEq_ii]
  exact ⟨_, rfl, .inl (by simp)⟩
theorem same_bl {n : Nat} {b : Bool} : FV (R__law_same (n + 1)) [.bl b, .bl b] (.val (.bl true)) := by
  refine fv_of ?_
  unfold B__law_same
  refine wp_skip (by simp only [wp_bind, wp_c, wq_var, wp_op1, wp_op2, wp_opN, wq_ret1, wq_ret2, wq_retN, wp_nil, wp_cons, wp_dnil, wp_dcons, wp_esc, wp_escv, wp_escl, wp_tup, wp_lst, wp_bool, wp_tru, wq_retB, wp_not, wp_and, wp_or, wp_mif, wp_andV, wp_orV, wp_notV, wp_true, wp_chain, wp_retC1, wp_retC2, wp_noPart, wp_part, wp_retPart, wp_cut, wp_seq, wp_snil, wp_pass, wp_break, wp_cont, wp_never, wp_expr, wp_sif, wp_ret, wp_retv, wp_retN', wp_asg, wq_store, wp_par, wq_store2, wp_asgT, wp_call, lk_fl, lk_pl, ex_some, gSub_ii, gAdd_ii, gLt_ii, gLe_ii, gGt_ii, gGe_ii, gLt_pp, List.getD_cons_zero, List.getD_cons_succ, List.set_cons_zero, List.set_cons_succ, List.map_cons, List.map_nil, List.length_cons, List.length_nil, List.cons_append, List.nil_append, List.replicate, modeOf_un, modeOf_fl, one1, wp_if, wp_append, wp_setL, wp_intOf, unlk_n, lck_n, wq_retp, gTuple_l, gTuple_t, gList_l, gList_vl, gList_t, gLen_l, gLen_t, gInt_i, gNeg_i, Bool.false_eq_true, if_false, if_true, and_true, true_and, Nat.reduceAdd, Nat.reduceSub, Nat.reduceLT, Nat.reduceLeDiff, neg_true, neg_false, Bool.not_true, Bool.not_false, decide_true, decide_false, is_tup_tup, is_tup_lst, is_tup_bl, is_tup_int, is_tup_non, is_lst_tup, is_lst_lst, is_lst_bl, is_lst_int, is_lst_non, is_bl_tup, is_bl_lst, is_bl_bl, is_bl_int, is_bl_non, is_int_tup, is_int_lst, is_int_bl, is_int_int, is_int_non, is_str_tup, is_str_lst, is_str_bl, is_str_int, is_str_non, truF_b, blF_b, gIsN_bb, gIsB_bb]) ?_
  refine wp_skip (by simp only [wp_bind, wp_c, wq_var, wp_op1, wp_op2, wp_opN, wq_ret1, wq_ret2, wq_retN, wp_nil, wp_cons, wp_dnil, wp_dcons, wp_esc, wp_escv, wp_escl, wp_tup, wp_lst, wp_bool, wp_tru, wq_retB, wp_not, wp_and, wp_or, wp_mif, wp_andV, wp_orV, wp_notV, wp_true, wp_chain, wp_retC1, wp_retC2, wp_noPart, wp_part, wp_retPart, wp_cut, wp_seq, wp_snil, wp_pass, wp_break, wp_cont, wp_never, wp_expr, wp_sif, wp_ret, wp_retv, wp_retN', wp_asg, wq_store, wp_par, wq_store2, wp_asgT, wp_call, lk_fl, lk_pl, ex_some, gSub_ii, gAdd_ii, gLt_ii, gLe_ii, gGt_ii, gGe_ii, gLt_pp, List.getD_cons_zero, List.getD_cons_succ, List.set_cons_zero, List.set_cons_succ, List.map_cons, List.map_nil, List.length_cons, List.length_nil, List.cons_append, List.nil_append, List.replicate, modeOf_un, modeOf_fl, one1, wp_if, wp_append, wp_setL, wp_intOf, unlk_n, lck_n, wq_retp, gTuple_l, gTuple_t, gList_l, gList_vl, gList_t, gLen_l, gLen_t, gInt_i, gNeg_i, Bool.false_eq_true, if_false, if_true, and_true, true_and, Nat.reduceAdd, Nat.reduceSub, Nat.reduceLT, Nat.reduceLeDiff, neg_true, neg_false, Bool.not_true, Bool.not_false, decide_true, decide_false, is_tup_tup, is_tup_lst, is_tup_bl, is_tup_int, is_tup_non, is_lst_tup, is_lst_lst, is_lst_bl, is_lst_int, is_lst_non, is_bl_tup, is_bl_lst, is_bl_bl, is_bl_int, is_bl_non, is_int_tup, is_int_lst, is_int_bl, is_int_int, is_int_non, is_str_tup, is_str_lst, is_str_bl, is_str_int, is_str_non, truF_b, blF_b, gIsN_bb, gIsB_bb]) ?_
  refine wp_stop ?_
  simp only [wp_bind, wp_c, wq_var, wp_op1, wp_op2, wp_opN, wq_ret1, wq_ret2, wq_retN, wp_nil, wp_cons, wp_dnil, wp_dcons, wp_esc, wp_escv, wp_escl, wp_tup, wp_lst, wp_bool, wp_tru, wq_retB, wp_not, wp_and, wp_or, wp_mif, wp_andV, wp_orV, wp_notV, wp_true, wp_chain, wp_retC1, wp_retC2, wp_noPart, wp_part, wp_retPart, wp_cut, wp_seq, wp_snil, wp_pass, wp_break, wp_cont, wp_never, wp_expr, wp_sif, wp_ret, wp_retv, wp_retN', wp_asg, wq_store, wp_par, wq_store2, wp_asgT, wp_call, lk_fl, lk_pl, ex_some, gSub_ii, gAdd_ii, gLt_ii, gLe_ii, gGt_ii, gGe_ii, gLt_pp, List.getD_cons_zero, List.getD_cons_succ, List.set_cons_zero, List.set_cons_succ, List.map_cons, List.map_nil, List.length_cons, List.length_nil, List.cons_append, List.nil_append, List.replicate, modeOf_un, modeOf_fl, one1, wp_if, wp_append, wp_setL, wp_intOf, unlk_n, lck_n, wq_retp, gTuple_l, gTuple_t, gList_l, gList_vl, gList_t, gLen_l, gLen_t, gInt_i, gNeg_i, Bool.false_eq_true, if_false, if_true, and_true, true_and, Nat.reduceAdd, Nat.reduceSub, Nat.reduceLT, Nat.reduceLeDiff, neg_true, neg_false, Bool.not_true, Bool.not_false, decide_true, decide_false, is_tup_tup, is_tup_lst, is_tup_bl, is_tup_int, is_tup_non, is_lst_tup, is_lst_lst, is_lst_bl, is_lst_int, is_lst_non, is_bl_tup, is_bl_lst, is_bl_bl, is_bl_int, is_bl_non, is_int_tup, is_int_lst, is_int_bl, is_int_int, is_int_non, is_str_tup, is_str_lst, is_str_bl, is_str_int, is_str_non, truF_b, blF_b, gIsN_bb, gIsB_bb]
  cases b <;> exact ⟨_, rfl, .inl (by simp)⟩
theorem p_law_same : ∀ (n : Nat) (d : D), SameOk n d → FV (R__law_same (n + 1)) [d, d] (.val (.bl true)) := by
  intro n d h
  induction h with
  | int n i => exact same_int
  | bl n b => exact same_bl
  | tup n ds h1 h2 ih =>
    refine fv_of ?_
    unfold B__law_same
    refine wp_stop ?_
    rw [wp_sif]
    have e : wp (mOr (mTru (mOp1 (gIsi .tup) (mVar 1))) (mTru (mOp1 (gIsi .lst) (mVar 1)))) [.v (.tup ds), .v (.tup ds), .un] fun k ρ' => k = true ∧ ρ' = [.v (.tup ds), .v (.tup ds), .un] := by
      simp only [wp_bind, wp_c, wq_var, wp_op1, wp_op2, wp_opN, wq_ret1, wq_ret2, wq_retN, wp_nil, wp_cons, wp_dnil, wp_dcons, wp_esc, wp_escv, wp_escl, wp_tup, wp_lst, wp_bool, wp_tru, wq_retB, wp_not, wp_and, wp_or, wp_mif, wp_andV, wp_orV, wp_notV, wp_true, wp_chain, wp_retC1, wp_retC2, wp_noPart, wp_part, wp_retPart, wp_cut, wp_seq, wp_snil, wp_pass, wp_break, wp_cont, wp_never, wp_expr, wp_sif, wp_ret, wp_retv, wp_retN', wp_asg, wq_store, wp_par, wq_store2, wp_asgT, wp_call, lk_fl, lk_pl, ex_some, gSub_ii, gAdd_ii, gLt_ii, gLe_ii, gGt_ii, gGe_ii, gLt_pp, List.getD_cons_zero, List.getD_cons_succ, List.set_cons_zero, List.set_cons_succ, List.map_cons, List.map_nil, List.length_cons, List.length_nil, List.cons_append, List.nil_append, List.replicate, modeOf_un, modeOf_fl, one1, wp_if, wp_append, wp_setL, wp_intOf, unlk_n, lck_n, wq_retp, gTuple_l, gTuple_t, gList_l, gList_vl, gList_t, gLen_l, gLen_t, gInt_i, gNeg_i, Bool.false_eq_true, if_false, if_true, and_true, true_and, Nat.reduceAdd, Nat.reduceSub, Nat.reduceLT, Nat.reduceLeDiff, neg_true, neg_false, Bool.not_true, Bool.not_false, decide_true, decide_false, is_tup_tup, is_tup_lst, is_tup_bl, is_tup_int, is_tup_non, is_lst_tup, is_lst_lst, is_lst_bl, is_lst_int, is_lst_non, is_bl_tup, is_bl_lst, is_bl_bl, is_bl_int, is_bl_non, is_int_tup, is_int_lst, is_int_bl, is_int_int, is_int_non, is_str_tup, is_str_lst, is_str_bl, is_str_int, is_str_non, truF_b, blF_b, gEq_b2, gEq_ii]
    refine wp_imp e ?_
    rintro _ _ ⟨rfl, rfl⟩
    simp only [if_true]
    refine wp_skip (by simp only [wp_bind, wp_c, wq_var, wp_op1, wp_op2, wp_opN, wq_ret1, wq_ret2, wq_retN, wp_nil, wp_cons, wp_dnil, wp_dcons, wp_esc, wp_escv, wp_escl, wp_tup, wp_lst, wp_bool, wp_tru, wq_retB, wp_not, wp_and, wp_or, wp_mif, wp_andV, wp_orV, wp_notV, wp_true, wp_chain, wp_retC1, wp_retC2, wp_noPart, wp_part, wp_retPart, wp_cut, wp_seq, wp_snil, wp_pass, wp_break, wp_cont, wp_never, wp_expr, wp_sif, wp_ret, wp_retv, wp_retN', wp_asg, wq_store, wp_par, wq_store2, wp_asgT, wp_call, lk_fl, lk_pl, ex_some, gSub_ii, gAdd_ii, gLt_ii, gLe_ii, gGt_ii, gGe_ii, gLt_pp, List.getD_cons_zero, List.getD_cons_succ, List.set_cons_zero, List.set_cons_succ, List.map_cons, List.map_nil, List.length_cons, List.length_nil, List.cons_append, List.nil_append, List.replicate, modeOf_un, modeOf_fl, one1, wp_if, wp_append, wp_setL, wp_intOf, unlk_n, lck_n, wq_retp, gTuple_l, gTuple_t, gList_l, gList_vl, gList_t, gLen_l, gLen_t, gInt_i, gNeg_i, Bool.false_eq_true, if_false, if_true, and_true, true_and, Nat.reduceAdd, Nat.reduceSub, Nat.reduceLT, Nat.reduceLeDiff, neg_true, neg_false, Bool.not_true, Bool.not_false, decide_true, decide_false, is_tup_tup, is_tup_lst, is_tup_bl, is_tup_int, is_tup_non, is_lst_tup, is_lst_lst, is_lst_bl, is_lst_int, is_lst_non, is_bl_tup, is_bl_lst, is_bl_bl, is_bl_int, is_bl_non, is_int_tup, is_int_lst, is_int_bl, is_int_int, is_int_non, is_str_tup, is_str_lst, is_str_bl, is_str_int, is_str_non, truF_b, blF_b, gEq_b2, gEq_ii, bne_self_eq_false]) ?_
    simp only [wp_bind, wp_c, wq_var, wp_op1, wp_op2, wp_opN, wq_ret1, wq_ret2, wq_retN, wp_nil, wp_cons, wp_dnil, wp_dcons, wp_esc, wp_escv, wp_escl, wp_tup, wp_lst, wp_bool, wp_tru, wq_retB, wp_not, wp_and, wp_or, wp_mif, wp_andV, wp_orV, wp_notV, wp_true, wp_chain, wp_retC1, wp_retC2, wp_noPart, wp_part, wp_retPart, wp_cut, wp_seq, wp_snil, wp_pass, wp_break, wp_cont, wp_never, wp_expr, wp_sif, wp_ret, wp_retv, wp_retN', wp_asg, wq_store, wp_par, wq_store2, wp_asgT, wp_call, lk_fl, lk_pl, ex_some, gSub_ii, gAdd_ii, gLt_ii, gLe_ii, gGt_ii, gGe_ii, gLt_pp, List.getD_cons_zero, List.getD_cons_succ, List.set_cons_zero, List.set_cons_succ, List.map_cons, List.map_nil, List.length_cons, List.length_nil, List.cons_append, List.nil_append, List.replicate, modeOf_un, modeOf_fl, one1, wp_if, wp_append, wp_setL, wp_intOf, unlk_n, lck_n, wq_retp, gTuple_l, gTuple_t, gList_l, gList_vl, gList_t, gLen_l, gLen_t, gInt_i, gNeg_i, Bool.false_eq_true, if_false, if_true, and_true, true_and, Nat.reduceAdd, Nat.reduceSub, Nat.reduceLT, Nat.reduceLeDiff, neg_true, neg_false, Bool.not_true, Bool.not_false, decide_true, decide_false]
    refine wp_compT (L := List.range ds.length) (g := fun k => D.int (k : Nat)) (fun _ => false) (fun _ => .int 1) (size_ok (by rw [List.length_range]; omega)) ?_
    simp only [wp_bind, wp_c, wq_var, wp_op1, wp_op2, wp_opN, wq_ret1, wq_ret2, wq_retN, wp_nil, wp_cons, wp_dnil, wp_dcons, wp_esc, wp_escv, wp_escl, wp_tup, wp_lst, wp_bool, wp_tru, wq_retB, wp_not, wp_and, wp_or, wp_mif, wp_andV, wp_orV, wp_notV, wp_true, wp_chain, wp_retC1, wp_retC2, wp_noPart, wp_part, wp_retPart, wp_cut, wp_seq, wp_snil, wp_pass, wp_break, wp_cont, wp_never, wp_expr, wp_sif, wp_ret, wp_retv, wp_retN', wp_asg, wq_store, wp_par, wq_store2, wp_asgT, wp_call, lk_fl, lk_pl, ex_some, gSub_ii, gAdd_ii, gLt_ii, gLe_ii, gGt_ii, gGe_ii, gLt_pp, List.getD_cons_zero, List.getD_cons_succ, List.set_cons_zero, List.set_cons_succ, List.map_cons, List.map_nil, List.length_cons, List.length_nil, List.cons_append, List.nil_append, List.replicate, modeOf_un, modeOf_fl, one1, wp_if, wp_append, wp_setL, wp_intOf, unlk_n, lck_n, wq_retp, gTuple_l, gTuple_t, gList_l, gList_vl, gList_t, gLen_l, gLen_t, gInt_i, gNeg_i, Bool.false_eq_true, if_false, if_true, and_true, true_and, Nat.reduceAdd, Nat.reduceSub, Nat.reduceLT, Nat.reduceLeDiff, neg_true, neg_false, Bool.not_true, Bool.not_false, decide_true, decide_false]
    refine wp_srcR1 (by omega) ⟨by rw [rangeD_map], fun k hk => ?_, ?_⟩
    · have hk2 : k < ds.length := List.mem_range.mp hk
      have e2 : L2.atI ds (k : Int) = some ds[k] := at_nat (List.getElem?_eq_getElem hk2)
      refine ⟨[.v (.tup ds), .v (.tup ds), .v (.int (k : Nat))], rfl, ?_⟩
      simp only [wp_bind, wp_c, wq_var, wp_op1, wp_op2, wp_opN, wq_ret1, wq_ret2, wq_retN, wp_nil, wp_cons, wp_dnil, wp_dcons, wp_esc, wp_escv, wp_escl, wp_tup, wp_lst, wp_bool, wp_tru, wq_retB, wp_not, wp_and, wp_or, wp_mif, wp_andV, wp_orV, wp_notV, wp_true, wp_chain, wp_retC1, wp_retC2, wp_noPart, wp_part, wp_retPart, wp_cut, wp_seq, wp_snil, wp_pass, wp_break, wp_cont, wp_never, wp_expr, wp_sif, wp_ret, wp_retv, wp_retN', wp_asg, wq_store, wp_par, wq_store2, wp_asgT, wp_call, lk_fl, lk_pl, ex_some, gSub_ii, gAdd_ii, gLt_ii, gLe_ii, gGt_ii, gGe_ii, gLt_pp, List.getD_cons_zero, List.getD_cons_succ, List.set_cons_zero, List.set_cons_succ, List.map_cons, List.map_nil, List.length_cons, List.length_nil, List.cons_append, List.nil_append, List.replicate, modeOf_un, modeOf_fl, one1, wp_if, wp_append, wp_setL, wp_intOf, unlk_n, lck_n, wq_retp, gTuple_l, gTuple_t, gList_l, gList_vl, gList_t, gLen_l, gLen_t, gInt_i, gNeg_i, Bool.false_eq_true, if_false, if_true, and_true, true_and, Nat.reduceAdd, Nat.reduceSub, Nat.reduceLT, Nat.reduceLeDiff, neg_true, neg_false, Bool.not_true, Bool.not_false, decide_true, decide_false, gIx_t e2]
      refine wp_fv2 (ih ds[k] (List.getElem_mem hk2)) ?_
      simp only [wp_bind, wp_c, wq_var, wp_op1, wp_op2, wp_opN, wq_ret1, wq_ret2, wq_retN, wp_nil, wp_cons, wp_dnil, wp_dcons, wp_esc, wp_escv, wp_escl, wp_tup, wp_lst, wp_bool, wp_tru, wq_retB, wp_not, wp_and, wp_or, wp_mif, wp_andV, wp_orV, wp_notV, wp_true, wp_chain, wp_retC1, wp_retC2, wp_noPart, wp_part, wp_retPart, wp_cut, wp_seq, wp_snil, wp_pass, wp_break, wp_cont, wp_never, wp_expr, wp_sif, wp_ret, wp_retv, wp_retN', wp_asg, wq_store, wp_par, wq_store2, wp_asgT, wp_call, lk_fl, lk_pl, ex_some, gSub_ii, gAdd_ii, gLt_ii, gLe_ii, gGt_ii, gGe_ii, gLt_pp, List.getD_cons_zero, List.getD_cons_succ, List.set_cons_zero, List.set_cons_succ, List.map_cons, List.map_nil, List.length_cons, List.length_nil, List.cons_append, List.nil_append, List.replicate, modeOf_un, modeOf_fl, one1, wp_if, wp_append, wp_setL, wp_intOf, unlk_n, lck_n, wq_retp, gTuple_l, gTuple_t, gList_l, gList_vl, gList_t, gLen_l, gLen_t, gInt_i, gNeg_i, Bool.false_eq_true, if_false, if_true, and_true, true_and, Nat.reduceAdd, Nat.reduceSub, Nat.reduceLT, Nat.reduceLeDiff, neg_true, neg_false, Bool.not_true, Bool.not_false, decide_true, decide_false, truF_b]
      exact ⟨fun _ => rfl, fun h => nomatch h⟩
    · refine ⟨zero_ok, ?_⟩
      simp only [gEq_ones shp_ones, wp_bind, wp_c, wq_var, wp_op1, wp_op2, wp_opN, wq_ret1, wq_ret2, wq_retN, wp_nil, wp_cons, wp_dnil, wp_dcons, wp_esc, wp_escv, wp_escl, wp_tup, wp_lst, wp_bool, wp_tru, wq_retB, wp_not, wp_and, wp_or, wp_mif, wp_andV, wp_orV, wp_notV, wp_true, wp_chain, wp_retC1, wp_retC2, wp_noPart, wp_part, wp_retPart, wp_cut, wp_seq, wp_snil, wp_pass, wp_break, wp_cont, wp_never, wp_expr, wp_sif, wp_ret, wp_retv, wp_retN', wp_asg, wq_store, wp_par, wq_store2, wp_asgT, wp_call, lk_fl, lk_pl, ex_some, gSub_ii, gAdd_ii, gLt_ii, gLe_ii, gGt_ii, gGe_ii, gLt_pp, List.getD_cons_zero, List.getD_cons_succ, List.set_cons_zero, List.set_cons_succ, List.map_cons, List.map_nil, List.length_cons, List.length_nil, List.cons_append, List.nil_append, List.replicate, modeOf_un, modeOf_fl, one1, wp_if, wp_append, wp_setL, wp_intOf, unlk_n, lck_n, wq_retp, gTuple_l, gTuple_t, gList_l, gList_vl, gList_t, gLen_l, gLen_t, gInt_i, gNeg_i, Bool.false_eq_true, if_false, if_true, and_true, true_and, Nat.reduceAdd, Nat.reduceSub, Nat.reduceLT, Nat.reduceLeDiff, neg_true, neg_false, Bool.not_true, Bool.not_false, decide_true, decide_false]
      exact ⟨_, rfl, .inl (by simp)⟩
end K50
namespace K50
open VS
open PySem (sizeLine)
theorem gIx_head {d : D} {ds : List D} : gIx (.lst (d :: ds)) (.val (.int 0)) = some (.v d) := gIx_l (at_nat (i := 0) rfl)
theorem one_ok : (1 : Nat) ≤ sizeLine := size_ok (by omega)
theorem p_law_cup {ns : List Int} (h : ns.length ≤ 63) : ∃ c, CupOk c ∧ FV F__law_cup [.lst (ns.map .int)] (.lst (cupD c)) := by
  have key : ∃ (n : Int) (ds : List D), ns.map D.int ++ [.int 0] = .int n :: ds := by
    cases ns with
    | nil => exact ⟨0, [], rfl⟩
    | cons n r => exact ⟨n, r.map .int ++ [.int 0], rfl⟩
  obtain ⟨n, ds, e⟩ := key
  generalize ha : (if n < 0 then -n else n) = a
  have a0 : 0 ≤ a := by rw [← ha]; split <;> omega
  refine ⟨(if 1000000000000000000 ≤ a then a / 1427 else 0, (a * 2003 + 10007) % 2077510001 + 1511), ⟨?_, ?_, ?_⟩, ?_⟩
  · simp only
    split
    · exact Int.ediv_nonneg a0 (by decide)
    · omega
  · simp only; omega
  · simp only; omega
  · refine fv_of ?_
    unfold B__law_cup
    have e1 : gAdd (.lst (ns.map D.int)) (.lst [.int 0]) = some (.fl (.lst (.int n :: ds))) := by
      rw [gAdd_ll rfl rfl (by rw [List.length_map]; show ns.length + 1 ≤ lim; unfold lim; omega), e]
    have e2 : gAbs (.val (.int n)) = some (.v (.int a)) := by rw [gAbs_i, ha]
    have e3 := gMulI_r (i := a) (show 0 ≤ (2003 : Int) by decide) (by decide)
    have e4 := gMod_i (i := a * 2003 + 10007) (show 0 < (2077510001 : Int) by decide)
    have e5 := gDiv_i (i := a) (show 0 < (1427 : Int) by decide) (by decide)
    have e6 : gPow (.val (.int 10)) (.val (.int 18)) = some (.v (.int 1000000000000000000)) := by rfl
    simp only [wp_bind, wp_c, wq_var, wp_op1, wp_op2, wp_opN, wq_ret1, wq_ret2, wq_retN, wp_nil, wp_cons, wp_dnil, wp_dcons, wp_esc, wp_escv, wp_escl, wp_tup, wp_lst, wp_bool, wp_tru, wq_retB, wp_not, wp_and, wp_or, wp_mif, wp_andV, wp_orV, wp_notV, wp_true, wp_chain, wp_retC1, wp_retC2, wp_noPart, wp_part, wp_retPart, wp_cut, wp_seq, wp_snil, wp_pass, wp_break, wp_cont, wp_never, wp_expr, wp_sif, wp_ret, wp_retv, wp_retN', wp_asg, wq_store, wp_par, wq_store2, wp_asgT, wp_call, lk_fl, lk_pl, ex_some, gSub_ii, gAdd_ii, gLt_ii, gLe_ii, gGt_ii, gGe_ii, gLt_pp, List.getD_cons_zero, List.getD_cons_succ, List.set_cons_zero, List.set_cons_succ, List.map_cons, List.map_nil, List.length_cons, List.length_nil, List.cons_append, List.nil_append, List.replicate, modeOf_un, modeOf_fl, one1, wp_if, wp_append, wp_setL, wp_intOf, unlk_n, lck_n, wq_retp, gTuple_l, gTuple_t, gList_l, gList_vl, gList_t, gLen_l, gLen_t, gInt_i, gNeg_i, Bool.false_eq_true, if_false, if_true, and_true, true_and, Nat.reduceAdd, Nat.reduceSub, Nat.reduceLT, Nat.reduceLeDiff, neg_true, neg_false, Bool.not_true, Bool.not_false, decide_true, decide_false, e1]
    refine ⟨one_ok, ?_⟩
    simp only [wp_bind, wp_c, wq_var, wp_op1, wp_op2, wp_opN, wq_ret1, wq_ret2, wq_retN, wp_nil, wp_cons, wp_dnil, wp_dcons, wp_esc, wp_escv, wp_escl, wp_tup, wp_lst, wp_bool, wp_tru, wq_retB, wp_not, wp_and, wp_or, wp_mif, wp_andV, wp_orV, wp_notV, wp_true, wp_chain, wp_retC1, wp_retC2, wp_noPart, wp_part, wp_retPart, wp_cut, wp_seq, wp_snil, wp_pass, wp_break, wp_cont, wp_never, wp_expr, wp_sif, wp_ret, wp_retv, wp_retN', wp_asg, wq_store, wp_par, wq_store2, wp_asgT, wp_call, lk_fl, lk_pl, ex_some, gSub_ii, gAdd_ii, gLt_ii, gLe_ii, gGt_ii, gGe_ii, gLt_pp, List.getD_cons_zero, List.getD_cons_succ, List.set_cons_zero, List.set_cons_succ, List.map_cons, List.map_nil, List.length_cons, List.length_nil, List.cons_append, List.nil_append, List.replicate, modeOf_un, modeOf_fl, one1, wp_if, wp_append, wp_setL, wp_intOf, unlk_n, lck_n, wq_retp, gTuple_l, gTuple_t, gList_l, gList_vl, gList_t, gLen_l, gLen_t, gInt_i, gNeg_i, Bool.false_eq_true, if_false, if_true, and_true, true_and, Nat.reduceAdd, Nat.reduceSub, Nat.reduceLT, Nat.reduceLeDiff, neg_true, neg_false, Bool.not_true, Bool.not_false, decide_true, decide_false, gIx_head, e2, e6]
    by_cases hb : 1000000000000000000 ≤ a
    · simp only [wp_bind, wp_c, wq_var, wp_op1, wp_op2, wp_opN, wq_ret1, wq_ret2, wq_retN, wp_nil, wp_cons, wp_dnil, wp_dcons, wp_esc, wp_escv, wp_escl, wp_tup, wp_lst, wp_bool, wp_tru, wq_retB, wp_not, wp_and, wp_or, wp_mif, wp_andV, wp_orV, wp_notV, wp_true, wp_chain, wp_retC1, wp_retC2, wp_noPart, wp_part, wp_retPart, wp_cut, wp_seq, wp_snil, wp_pass, wp_break, wp_cont, wp_never, wp_expr, wp_sif, wp_ret, wp_retv, wp_retN', wp_asg, wq_store, wp_par, wq_store2, wp_asgT, wp_call, lk_fl, lk_pl, ex_some, gSub_ii, gAdd_ii, gLt_ii, gLe_ii, gGt_ii, gGe_ii, gLt_pp, List.getD_cons_zero, List.getD_cons_succ, List.set_cons_zero, List.set_cons_succ, List.map_cons, List.map_nil, List.length_cons, List.length_nil, List.cons_append, List.nil_append, List.replicate, modeOf_un, modeOf_fl, one1, wp_if, wp_append, wp_setL, wp_intOf, unlk_n, lck_n, wq_retp, gTuple_l, gTuple_t, gList_l, gList_vl, gList_t, gLen_l, gLen_t, gInt_i, gNeg_i, Bool.false_eq_true, if_false, if_true, and_true, true_and, Nat.reduceAdd, Nat.reduceSub, Nat.reduceLT, Nat.reduceLeDiff, neg_true, neg_false, Bool.not_true, Bool.not_false, decide_true, decide_false, hb, blF, e3, e4, e5]
      exact ⟨two_ok, .inl rfl⟩
    · simp only [wp_bind, wp_c, wq_var, wp_op1, wp_op2, wp_opN, wq_ret1, wq_ret2, wq_retN, wp_nil, wp_cons, wp_dnil, wp_dcons, wp_esc, wp_escv, wp_escl, wp_tup, wp_lst, wp_bool, wp_tru, wq_retB, wp_not, wp_and, wp_or, wp_mif, wp_andV, wp_orV, wp_notV, wp_true, wp_chain, wp_retC1, wp_retC2, wp_noPart, wp_part, wp_retPart, wp_cut, wp_seq, wp_snil, wp_pass, wp_break, wp_cont, wp_never, wp_expr, wp_sif, wp_ret, wp_retv, wp_retN', wp_asg, wq_store, wp_par, wq_store2, wp_asgT, wp_call, lk_fl, lk_pl, ex_some, gSub_ii, gAdd_ii, gLt_ii, gLe_ii, gGt_ii, gGe_ii, gLt_pp, List.getD_cons_zero, List.getD_cons_succ, List.set_cons_zero, List.set_cons_succ, List.map_cons, List.map_nil, List.length_cons, List.length_nil, List.cons_append, List.nil_append, List.replicate, modeOf_un, modeOf_fl, one1, wp_if, wp_append, wp_setL, wp_intOf, unlk_n, lck_n, wq_retp, gTuple_l, gTuple_t, gList_l, gList_vl, gList_t, gLen_l, gLen_t, gInt_i, gNeg_i, Bool.false_eq_true, if_false, if_true, and_true, true_and, Nat.reduceAdd, Nat.reduceSub, Nat.reduceLT, Nat.reduceLeDiff, neg_true, neg_false, Bool.not_true, Bool.not_false, decide_true, decide_false, hb, blF, e3, e4]
      exact ⟨two_ok, .inl rfl⟩
def fl5 : List Pt := [(0, 0), (0, 1), (1, 0), (1, 1), (2, 2)]
theorem fl5_ok : FloorOk fl5 := ⟨by decide, by unfold fl5 ltP; decide, by unfold fl5; decide, by decide⟩
theorem pairT_ok {v : List Pt} (h : v.length < 64) : VOk (FD v) := by
  refine ⟨shps_prD (n := 10), fun ds e => ?_, fun ds e es he => ?_⟩
  · cases e; rw [List.length_map]; exact h
  · cases e
    obtain ⟨p, _, e2⟩ := List.mem_map.mp he
    cases e2
    simp
def sets3 : List (List Pt) := [[(0, 1), (1, 0)], [(0, 0), (2, 2)], [(0, 0), (0, 1)]]
theorem q3 : sets3.map (fun v => D.bl (quietB fl5 (FD v))) = [.bl false, .bl false, .bl true] := by
  have a : quietB fl5 (FD [(0, 1), (1, 0)]) = false := by decide +kernel
  have b : quietB fl5 (FD [(0, 0), (2, 2)]) = false := by decide +kernel
  have c : quietB fl5 (FD [(0, 0), (0, 1)]) = true := by decide +kernel
  simp only [sets3, List.map_cons, List.map_nil, a, b, c]
theorem p_law_rows : FV F__law_rows_right [] (.val (.bl true)) := by
  refine fv_of ?_
  unfold B__law_rows_right
  rw [VS.wp_seq]
  simp only [wp_asg, wp_tup, wp_dcons, wp_dnil, wp_esc, wp_escv, wp_c, wq_store, List.map_nil, List.nil_append, List.replicate, List.length_nil, List.length_cons, Nat.reduceAdd, Nat.reduceSub]
  refine ⟨two_ok, two_ok, two_ok, two_ok, two_ok, size_ok (by omega), ⟨rfl, by decide⟩, ?_⟩
  rw [VS.wp_seq]
  simp only [wp_asg, wp_tup, wp_dcons, wp_dnil, wp_esc, wp_escv, wp_c, wq_store, List.length_nil, List.length_cons, Nat.reduceAdd]
  refine ⟨two_ok, two_ok, two_ok, two_ok, two_ok, two_ok, two_ok, two_ok, two_ok, size_ok (by omega), ⟨rfl, by decide⟩, ?_⟩
  show wp _ [.v (FD fl5), .v (.tup (sets3.map FD)), .un] _
  simp only [wp_ret, wp_op2]
  refine wp_compM (L := sets3) (g := FD) (fun v => .bl (quietB fl5 (FD v))) (size_ok (by decide)) (wp_srcI rfl ⟨rfl, fun v hv => ?_, ?_⟩)
  · refine ⟨[.v (FD fl5), .v (.tup (sets3.map FD)), .v (FD v)], rfl, ?_⟩
    simp only [wp_bind, wp_c, wq_var, wp_op1, wp_op2, wp_opN, wq_ret1, wq_ret2, wq_retN, wp_nil, wp_cons, wp_dnil, wp_dcons, wp_esc, wp_escv, wp_escl, wp_tup, wp_lst, wp_bool, wp_tru, wq_retB, wp_not, wp_and, wp_or, wp_mif, wp_andV, wp_orV, wp_notV, wp_true, wp_chain, wp_retC1, wp_retC2, wp_noPart, wp_part, wp_retPart, wp_cut, wp_seq, wp_snil, wp_pass, wp_break, wp_cont, wp_never, wp_expr, wp_sif, wp_ret, wp_retv, wp_retN', wp_asg, wq_store, wp_par, wq_store2, wp_asgT, wp_call, lk_fl, lk_pl, ex_some, gSub_ii, gAdd_ii, gLt_ii, gLe_ii, gGt_ii, gGe_ii, gLt_pp, List.getD_cons_zero, List.getD_cons_succ, List.set_cons_zero, List.set_cons_succ, List.map_cons, List.map_nil, List.length_cons, List.length_nil, List.cons_append, List.nil_append, List.replicate, modeOf_un, modeOf_fl, one1, wp_if, wp_append, wp_setL, wp_intOf, unlk_n, lck_n, wq_retp, gTuple_l, gTuple_t, gList_l, gList_vl, gList_t, gLen_l, gLen_t, gInt_i, gNeg_i, Bool.false_eq_true, if_false, if_true, and_true, true_and, Nat.reduceAdd, Nat.reduceSub, Nat.reduceLT, Nat.reduceLeDiff, neg_true, neg_false, Bool.not_true, Bool.not_false, decide_true, decide_false]
    refine wp_fv2 (p_is_quiet fl5_ok (pairT_ok (by revert v; unfold sets3; decide))) ?_
    simp only [wp_bind, wp_c, wq_var, wp_op1, wp_op2, wp_opN, wq_ret1, wq_ret2, wq_retN, wp_nil, wp_cons, wp_dnil, wp_dcons, wp_esc, wp_escv, wp_escl, wp_tup, wp_lst, wp_bool, wp_tru, wq_retB, wp_not, wp_and, wp_or, wp_mif, wp_andV, wp_orV, wp_notV, wp_true, wp_chain, wp_retC1, wp_retC2, wp_noPart, wp_part, wp_retPart, wp_cut, wp_seq, wp_snil, wp_pass, wp_break, wp_cont, wp_never, wp_expr, wp_sif, wp_ret, wp_retv, wp_retN', wp_asg, wq_store, wp_par, wq_store2, wp_asgT, wp_call, lk_fl, lk_pl, ex_some, gSub_ii, gAdd_ii, gLt_ii, gLe_ii, gGt_ii, gGe_ii, gLt_pp, List.getD_cons_zero, List.getD_cons_succ, List.set_cons_zero, List.set_cons_succ, List.map_cons, List.map_nil, List.length_cons, List.length_nil, List.cons_append, List.nil_append, List.replicate, modeOf_un, modeOf_fl, one1, wp_if, wp_append, wp_setL, wp_intOf, unlk_n, lck_n, wq_retp, gTuple_l, gTuple_t, gList_l, gList_vl, gList_t, gLen_l, gLen_t, gInt_i, gNeg_i, Bool.false_eq_true, if_false, if_true, and_true, true_and, Nat.reduceAdd, Nat.reduceSub, Nat.reduceLT, Nat.reduceLeDiff, neg_true, neg_false, Bool.not_true, Bool.not_false, decide_true, decide_false]
    rfl
  · rw [q3]
    simp only [wp_bind, wp_c, wq_var, wp_op1, wp_op2, wp_opN, wq_ret1, wq_ret2, wq_retN, wp_nil, wp_cons, wp_dnil, wp_dcons, wp_esc, wp_escv, wp_escl, wp_tup, wp_lst, wp_bool, wp_tru, wq_retB, wp_not, wp_and, wp_or, wp_mif, wp_andV, wp_orV, wp_notV, wp_true, wp_chain, wp_retC1, wp_retC2, wp_noPart, wp_part, wp_retPart, wp_cut, wp_seq, wp_snil, wp_pass, wp_break, wp_cont, wp_never, wp_expr, wp_sif, wp_ret, wp_retv, wp_retN', wp_asg, wq_store, wp_par, wq_store2, wp_asgT, wp_call, lk_fl, lk_pl, ex_some, gSub_ii, gAdd_ii, gLt_ii, gLe_ii, gGt_ii, gGe_ii, gLt_pp, List.getD_cons_zero, List.getD_cons_succ, List.set_cons_zero, List.set_cons_succ, List.map_cons, List.map_nil, List.length_cons, List.length_nil, List.cons_append, List.nil_append, List.replicate, modeOf_un, modeOf_fl, one1, wp_if, wp_append, wp_setL, wp_intOf, unlk_n, lck_n, wq_retp, gTuple_l, gTuple_t, gList_l, gList_vl, gList_t, gLen_l, gLen_t, gInt_i, gNeg_i, Bool.false_eq_true, if_false, if_true, and_true, true_and, Nat.reduceAdd, Nat.reduceSub, Nat.reduceLT, Nat.reduceLeDiff, neg_true, neg_false, Bool.not_true, Bool.not_false, decide_true, decide_false]
    refine ⟨size_ok (by omega), ?_⟩
    rw [gEq_ll (by decide) (by decide)]
    simp only [wp_bind, wp_c, wq_var, wp_op1, wp_op2, wp_opN, wq_ret1, wq_ret2, wq_retN, wp_nil, wp_cons, wp_dnil, wp_dcons, wp_esc, wp_escv, wp_escl, wp_tup, wp_lst, wp_bool, wp_tru, wq_retB, wp_not, wp_and, wp_or, wp_mif, wp_andV, wp_orV, wp_notV, wp_true, wp_chain, wp_retC1, wp_retC2, wp_noPart, wp_part, wp_retPart, wp_cut, wp_seq, wp_snil, wp_pass, wp_break, wp_cont, wp_never, wp_expr, wp_sif, wp_ret, wp_retv, wp_retN', wp_asg, wq_store, wp_par, wq_store2, wp_asgT, wp_call, lk_fl, lk_pl, ex_some, gSub_ii, gAdd_ii, gLt_ii, gLe_ii, gGt_ii, gGe_ii, gLt_pp, List.getD_cons_zero, List.getD_cons_succ, List.set_cons_zero, List.set_cons_succ, List.map_cons, List.map_nil, List.length_cons, List.length_nil, List.cons_append, List.nil_append, List.replicate, modeOf_un, modeOf_fl, one1, wp_if, wp_append, wp_setL, wp_intOf, unlk_n, lck_n, wq_retp, gTuple_l, gTuple_t, gList_l, gList_vl, gList_t, gLen_l, gLen_t, gInt_i, gNeg_i, Bool.false_eq_true, if_false, if_true, and_true, true_and, Nat.reduceAdd, Nat.reduceSub, Nat.reduceLT, Nat.reduceLeDiff, neg_true, neg_false, Bool.not_true, Bool.not_false, decide_true, decide_false]
    exact .inl (by simp [eqb, eqbs])
end K50
namespace K50
open VS
open PySem (sizeLine)
theorem insP_length (x : Pt) : ∀ l : List Pt, (insP x l).length ≤ l.length + 1
  | [] => by simp [insP]
  | y :: r => by
    unfold insP
    split
    · simp
    · split
      · simp
      · simp; exact insP_length x r
theorem sortP_length : ∀ l : List Pt, (sortP l).length ≤ l.length
  | [] => by simp [sortP]
  | x :: l => by
    show (insP x (sortP l)).length ≤ _
    have := insP_length x (sortP l)
    have := sortP_length l
    simp; omega
theorem sortP_ne {l : List Pt} (h : l ≠ []) : sortP l ≠ [] := by
  cases l with
  | nil => exact absurd rfl h
  | cons x r =>
    intro e
    have := (sortP_mem x (x :: r)).mpr List.mem_cons_self
    rw [e] at this
    exact nomatch this
def FloorQ (n : Nat) (f : Fld) (cs : List D) : Prop := ∃ l : List Pt, FloorOk l ∧ l.length ≤ n ∧ f = .val (FD l) ∧ ∃ c, CupOk c ∧ cs = cupD c
theorem p_law_floor {c : Int × Int} (C : CupOk c) {many : Nat} {side : Int} (h1 : 1 ≤ many) (h2 : many ≤ 60) (h3 : 1 ≤ side) (h4 : side ≤ 60) : LV F__law_floor (cupD c) [.val (.int many), .val (.int side)] (FloorQ many) := by
  refine lv_of ?_
  unfold B__law_floor
  simp only [wp_seq, wp_asg, wp_bind, wp_c, wq_var, wp_op1, wp_op2, wp_opN, wq_ret1, wq_ret2, wq_retN, wp_nil, wp_cons, wp_dnil, wp_dcons, wp_esc, wp_escv, wp_escl, wp_tup, wp_lst, wp_bool, wp_tru, wq_retB, wp_not, wp_and, wp_or, wp_mif, wp_andV, wp_orV, wp_notV, wp_true, wp_chain, wp_retC1, wp_retC2, wp_noPart, wp_part, wp_retPart, wp_cut, wp_seq, wp_snil, wp_pass, wp_break, wp_cont, wp_never, wp_expr, wp_sif, wp_ret, wp_retv, wp_retN', wp_asg, wq_store, wp_par, wq_store2, wp_asgT, wp_call, lk_fl, lk_pl, ex_some, gSub_ii, gAdd_ii, gLt_ii, gLe_ii, gGt_ii, gGe_ii, gLt_pp, List.getD_cons_zero, List.getD_cons_succ, List.set_cons_zero, List.set_cons_succ, List.map_cons, List.map_nil, List.length_cons, List.length_nil, List.cons_append, List.nil_append, List.replicate, modeOf_un, modeOf_fl, one1, wp_if, wp_append, wp_setL, wp_intOf, unlk_n, lck_n, wq_retp, gTuple_l, gTuple_t, gList_l, gList_vl, gList_t, gLen_l, gLen_t, gInt_i, gNeg_i, Bool.false_eq_true, if_false, if_true, and_true, true_and, Nat.reduceAdd, Nat.reduceSub, Nat.reduceLT, Nat.reduceLeDiff, neg_true, neg_false, Bool.not_true, Bool.not_false, decide_true, decide_false]
  refine wp_comp ?_
  simp only [wp_bind, wp_c, wq_var, wp_op1, wp_op2, wp_opN, wq_ret1, wq_ret2, wq_retN, wp_nil, wp_cons, wp_dnil, wp_dcons, wp_esc, wp_escv, wp_escl, wp_tup, wp_lst, wp_bool, wp_tru, wq_retB, wp_not, wp_and, wp_or, wp_mif, wp_andV, wp_orV, wp_notV, wp_true, wp_chain, wp_retC1, wp_retC2, wp_noPart, wp_part, wp_retPart, wp_cut, wp_seq, wp_snil, wp_pass, wp_break, wp_cont, wp_never, wp_expr, wp_sif, wp_ret, wp_retv, wp_retN', wp_asg, wq_store, wp_par, wq_store2, wp_asgT, wp_call, lk_fl, lk_pl, ex_some, gSub_ii, gAdd_ii, gLt_ii, gLe_ii, gGt_ii, gGe_ii, gLt_pp, List.getD_cons_zero, List.getD_cons_succ, List.set_cons_zero, List.set_cons_succ, List.map_cons, List.map_nil, List.length_cons, List.length_nil, List.cons_append, List.nil_append, List.replicate, modeOf_un, modeOf_fl, one1, wp_if, wp_append, wp_setL, wp_intOf, unlk_n, lck_n, wq_retp, gTuple_l, gTuple_t, gList_l, gList_vl, gList_t, gLen_l, gLen_t, gInt_i, gNeg_i, Bool.false_eq_true, if_false, if_true, and_true, true_and, Nat.reduceAdd, Nat.reduceSub, Nat.reduceLT, Nat.reduceLeDiff, neg_true, neg_false, Bool.not_true, Bool.not_false, decide_true, decide_false]
  refine wp_lv1 rfl rfl (p_roll C (n := many) (by omega) (by omega)) ?_
  rintro _ _ ⟨r, r0, r1, rfl, c1, C1, rfl⟩
  simp only [wp_bind, wp_c, wq_var, wp_op1, wp_op2, wp_opN, wq_ret1, wq_ret2, wq_retN, wp_nil, wp_cons, wp_dnil, wp_dcons, wp_esc, wp_escv, wp_escl, wp_tup, wp_lst, wp_bool, wp_tru, wq_retB, wp_not, wp_and, wp_or, wp_mif, wp_andV, wp_orV, wp_notV, wp_true, wp_chain, wp_retC1, wp_retC2, wp_noPart, wp_part, wp_retPart, wp_cut, wp_seq, wp_snil, wp_pass, wp_break, wp_cont, wp_never, wp_expr, wp_sif, wp_ret, wp_retv, wp_retN', wp_asg, wq_store, wp_par, wq_store2, wp_asgT, wp_call, lk_fl, lk_pl, ex_some, gSub_ii, gAdd_ii, gLt_ii, gLe_ii, gGt_ii, gGe_ii, gLt_pp, List.getD_cons_zero, List.getD_cons_succ, List.set_cons_zero, List.set_cons_succ, List.map_cons, List.map_nil, List.length_cons, List.length_nil, List.cons_append, List.nil_append, List.replicate, modeOf_un, modeOf_fl, one1, wp_if, wp_append, wp_setL, wp_intOf, unlk_n, lck_n, wq_retp, gTuple_l, gTuple_t, gList_l, gList_vl, gList_t, gLen_l, gLen_t, gInt_i, gNeg_i, Bool.false_eq_true, if_false, if_true, and_true, true_and, Nat.reduceAdd, Nat.reduceSub, Nat.reduceLT, Nat.reduceLeDiff, neg_true, neg_false, Bool.not_true, Bool.not_false, decide_true, decide_false]
  refine wp_srcR1 (by omega) ⟨rfl, ?_⟩
  have hs : rangeD 0 (1 + r) = (List.range (1 + r).toNat).map fun k => D.int (k : Nat) := by
    have e : (1 + r) = (((1 + r).toNat : Nat) : Int) := by omega
    rw [e, rangeD_map]; rfl
  have hl : (rangeD 0 (1 + r)).length = (1 + r).toNat := by rw [hs]; simp
  generalize rangeD 0 (1 + r) = ds at hl
  have key : ∃ acc ρ', cloop (putv 4) bTrue (mTup (dCons (mCall F__law_roll (mCons (mVar 0) (mCons (mVar 2) mNil))) (dCons (mCall F__law_roll (mCons (mVar 0) (mCons (mVar 2) mNil))) dNil))) [4] ds [] [.fl .pin (.lst (cupD c1)), .v (.int many), .v (.int side), .un, .un] = .ok acc ρ' ∧
      ∃ v : List Pt, acc = v.map prD ∧ (∀ p ∈ v, 0 ≤ p.1 ∧ p.1 ≤ 59 ∧ 0 ≤ p.2 ∧ p.2 ≤ 59) ∧ v.length = (1 + r).toNat ∧ ∃ c2, CupOk c2 ∧ ρ' = [.fl .pin (.lst (cupD c2)), .v (.int many), .v (.int side), .un, .un] := by
    refine wp_cloop (fun todo acc ρ => ∃ v : List Pt, acc = v.map prD ∧ (∀ p ∈ v, 0 ≤ p.1 ∧ p.1 ≤ 59 ∧ 0 ≤ p.2 ∧ p.2 ≤ 59) ∧ v.length + todo.length = (1 + r).toNat ∧ ∃ c2, CupOk c2 ∧ ρ = [.fl .pin (.lst (cupD c2)), .v (.int many), .v (.int side), .un, .un]) ⟨[], rfl, (fun _ h => nomatch h), by simp [hl], c1, C1, rfl⟩ ?_ ?_
    · rintro d todo acc ρ ⟨v, rfl, hv, hn, c2, C2, rfl⟩
      refine ⟨[.fl .pin (.lst (cupD c2)), .v (.int many), .v (.int side), .un, .v d], rfl, ?_⟩
      simp only [wp_bind, wp_c, wq_var, wp_op1, wp_op2, wp_opN, wq_ret1, wq_ret2, wq_retN, wp_nil, wp_cons, wp_dnil, wp_dcons, wp_esc, wp_escv, wp_escl, wp_tup, wp_lst, wp_bool, wp_tru, wq_retB, wp_not, wp_and, wp_or, wp_mif, wp_andV, wp_orV, wp_notV, wp_true, wp_chain, wp_retC1, wp_retC2, wp_noPart, wp_part, wp_retPart, wp_cut, wp_seq, wp_snil, wp_pass, wp_break, wp_cont, wp_never, wp_expr, wp_sif, wp_ret, wp_retv, wp_retN', wp_asg, wq_store, wp_par, wq_store2, wp_asgT, wp_call, lk_fl, lk_pl, ex_some, gSub_ii, gAdd_ii, gLt_ii, gLe_ii, gGt_ii, gGe_ii, gLt_pp, List.getD_cons_zero, List.getD_cons_succ, List.set_cons_zero, List.set_cons_succ, List.map_cons, List.map_nil, List.length_cons, List.length_nil, List.cons_append, List.nil_append, List.replicate, modeOf_un, modeOf_fl, one1, wp_if, wp_append, wp_setL, wp_intOf, unlk_n, lck_n, wq_retp, gTuple_l, gTuple_t, gList_l, gList_vl, gList_t, gLen_l, gLen_t, gInt_i, gNeg_i, Bool.false_eq_true, if_false, if_true, and_true, true_and, Nat.reduceAdd, Nat.reduceSub, Nat.reduceLT, Nat.reduceLeDiff, neg_true, neg_false, Bool.not_true, Bool.not_false, decide_true, decide_false]
      refine wp_lv1 rfl rfl (p_roll C2 (n := side) (by omega) (by omega)) ?_
      rintro _ _ ⟨a, a0, a1, rfl, c3, C3, rfl⟩
      simp only [wp_bind, wp_c, wq_var, wp_op1, wp_op2, wp_opN, wq_ret1, wq_ret2, wq_retN, wp_nil, wp_cons, wp_dnil, wp_dcons, wp_esc, wp_escv, wp_escl, wp_tup, wp_lst, wp_bool, wp_tru, wq_retB, wp_not, wp_and, wp_or, wp_mif, wp_andV, wp_orV, wp_notV, wp_true, wp_chain, wp_retC1, wp_retC2, wp_noPart, wp_part, wp_retPart, wp_cut, wp_seq, wp_snil, wp_pass, wp_break, wp_cont, wp_never, wp_expr, wp_sif, wp_ret, wp_retv, wp_retN', wp_asg, wq_store, wp_par, wq_store2, wp_asgT, wp_call, lk_fl, lk_pl, ex_some, gSub_ii, gAdd_ii, gLt_ii, gLe_ii, gGt_ii, gGe_ii, gLt_pp, List.getD_cons_zero, List.getD_cons_succ, List.set_cons_zero, List.set_cons_succ, List.map_cons, List.map_nil, List.length_cons, List.length_nil, List.cons_append, List.nil_append, List.replicate, modeOf_un, modeOf_fl, one1, wp_if, wp_append, wp_setL, wp_intOf, unlk_n, lck_n, wq_retp, gTuple_l, gTuple_t, gList_l, gList_vl, gList_t, gLen_l, gLen_t, gInt_i, gNeg_i, Bool.false_eq_true, if_false, if_true, and_true, true_and, Nat.reduceAdd, Nat.reduceSub, Nat.reduceLT, Nat.reduceLeDiff, neg_true, neg_false, Bool.not_true, Bool.not_false, decide_true, decide_false]
      refine wp_lv1 rfl rfl (p_roll C3 (n := side) (by omega) (by omega)) ?_
      rintro _ _ ⟨b, b0, b1, rfl, c4, C4, rfl⟩
      simp only [wp_bind, wp_c, wq_var, wp_op1, wp_op2, wp_opN, wq_ret1, wq_ret2, wq_retN, wp_nil, wp_cons, wp_dnil, wp_dcons, wp_esc, wp_escv, wp_escl, wp_tup, wp_lst, wp_bool, wp_tru, wq_retB, wp_not, wp_and, wp_or, wp_mif, wp_andV, wp_orV, wp_notV, wp_true, wp_chain, wp_retC1, wp_retC2, wp_noPart, wp_part, wp_retPart, wp_cut, wp_seq, wp_snil, wp_pass, wp_break, wp_cont, wp_never, wp_expr, wp_sif, wp_ret, wp_retv, wp_retN', wp_asg, wq_store, wp_par, wq_store2, wp_asgT, wp_call, lk_fl, lk_pl, ex_some, gSub_ii, gAdd_ii, gLt_ii, gLe_ii, gGt_ii, gGe_ii, gLt_pp, List.getD_cons_zero, List.getD_cons_succ, List.set_cons_zero, List.set_cons_succ, List.map_cons, List.map_nil, List.length_cons, List.length_nil, List.cons_append, List.nil_append, List.replicate, modeOf_un, modeOf_fl, one1, wp_if, wp_append, wp_setL, wp_intOf, unlk_n, lck_n, wq_retp, gTuple_l, gTuple_t, gList_l, gList_vl, gList_t, gLen_l, gLen_t, gInt_i, gNeg_i, Bool.false_eq_true, if_false, if_true, and_true, true_and, Nat.reduceAdd, Nat.reduceSub, Nat.reduceLT, Nat.reduceLeDiff, neg_true, neg_false, Bool.not_true, Bool.not_false, decide_true, decide_false]
      rw [List.length_cons] at hn
      refine ⟨two_ok, by rw [List.length_map]; exact Nat.lt_of_lt_of_le (by omega : v.length < 1000000) (size_ok (Nat.le_refl _)), v ++ [(a, b)], by rw [List.map_append]; rfl, ?_, by rw [List.length_append]; simp; omega, c4, C4, rfl⟩
      intro p hp
      rcases List.mem_append.mp hp with hp | hp
      · exact hv p hp
      · rw [List.mem_singleton] at hp
        subst hp
        simp only
        omega
    · rintro acc ρ ⟨v, e, hv, hn, c2, C2, e2⟩
      exact ⟨v, e, hv, by simpa using hn, c2, C2, e2⟩
  obtain ⟨acc, ρ', e, v, rfl, hv, hn, c2, C2, rfl⟩ := key
  refine ⟨_, _, e, ?_⟩
  have hvl : v.length < 64 := by omega
  have eg : gSortSet (.lst (v.map prD)) = some (.fl (.lst ((sortP v).map prD))) := gSortSet_t hvl hv
  simp only [wp_bind, wp_c, wq_var, wp_op1, wp_op2, wp_opN, wq_ret1, wq_ret2, wq_retN, wp_nil, wp_cons, wp_dnil, wp_dcons, wp_esc, wp_escv, wp_escl, wp_tup, wp_lst, wp_bool, wp_tru, wq_retB, wp_not, wp_and, wp_or, wp_mif, wp_andV, wp_orV, wp_notV, wp_true, wp_chain, wp_retC1, wp_retC2, wp_noPart, wp_part, wp_retPart, wp_cut, wp_seq, wp_snil, wp_pass, wp_break, wp_cont, wp_never, wp_expr, wp_sif, wp_ret, wp_retv, wp_retN', wp_asg, wq_store, wp_par, wq_store2, wp_asgT, wp_call, lk_fl, lk_pl, ex_some, gSub_ii, gAdd_ii, gLt_ii, gLe_ii, gGt_ii, gGe_ii, gLt_pp, List.getD_cons_zero, List.getD_cons_succ, List.set_cons_zero, List.set_cons_succ, List.map_cons, List.map_nil, List.length_cons, List.length_nil, List.cons_append, List.nil_append, List.replicate, modeOf_un, modeOf_fl, one1, wp_if, wp_append, wp_setL, wp_intOf, unlk_n, lck_n, wq_retp, gTuple_l, gTuple_t, gList_l, gList_vl, gList_t, gLen_l, gLen_t, gInt_i, gNeg_i, Bool.false_eq_true, if_false, if_true, and_true, true_and, Nat.reduceAdd, Nat.reduceSub, Nat.reduceLT, Nat.reduceLeDiff, neg_true, neg_false, Bool.not_true, Bool.not_false, decide_true, decide_false, unw, eg]
  have hne : v ≠ [] := by
    intro e0
    rw [e0, List.length_nil] at hn
    omega
  have hsl := sortP_length v
  exact ⟨_, _, ⟨sortP v, ⟨sortP_ne hne, sortP_sorted v, fun p hp => hv p ((sortP_mem p v).mp hp), by omega⟩, by omega, rfl, c2, C2, rfl⟩, rfl, rfl⟩
end K50
namespace K50
open VS
open PySem (sizeLine)
noncomputable def LA1 : M Flo := sAsg 1 (mCall (F__law_cup) (mCons (mVar 0) (mNil)))
noncomputable def LA2 : M Flo := sIf (mNot (mTru (mCall (F__law_rows_right) mNil))) (sRet (mC (.bl false))) (sNil)
noncomputable def LT1 : M Flo := sAsg 3 (mCall (F__law_floor) (mCons (mVar 1) (mCons (mCall (F__law_some) (mCons (mVar 1) (mCons (mLst (dCons (mC (.int 4)) (dCons (mC (.int 16)) (dCons (mC (.int 40)) (dNil))))) (mNil)))) (mCons (mCall (F__law_some) (mCons (mVar 1) (mCons (mLst (dCons (mC (.int 3)) (dCons (mC (.int 6)) (dCons (mC (.int 9)) (dNil))))) (mNil)))) (mNil)))))
noncomputable def LT2 : M Flo := sAsg 4 (mTup (dCons (mCall (F_falling_runs) (mCons (mVar 3) (mNil))) (dCons (mCall (F_rising_runs) (mCons (mVar 3) (mNil))) (dNil))))
noncomputable def LT3 : M Flo := sIf (mNot (mTru (mCall (F__law_same) (mCons (mVar 4) (mCons (mTup (dCons (mOpN (one1 gTuple) (mCons (mCall (F__law_runs) (mCons (mVar 3) (mCons (mC (.int 1)) (mNil)))) (mNil))) (dCons (mOpN (one1 gTuple) (mCons (mCall (F__law_runs) (mCons (mVar 3) (mCons (mOp1 gNeg (mC (.int 1))) (mNil)))) (mNil))) (dNil)))) (mNil)))))) (sRet (mC (.bl false))) (sNil)
noncomputable def LT4 : M Flo := sFor (mSrcA (mOp2 gAdd (mOp2 gIx (mVar 4) (mC (.int 0))) (mOp2 gIx (mVar 4) (mC (.int 1))))) (putv 5) (sIf (mBool (mOp2 (gEqG true) (mComp ((dCons (mVar 5) (dCons (mCut (mVar 5) (mPart (mC (.int 1))) (mNoPart)) (dNil))).bind srcZ) [9, 17] (tgTup 2 (tgCons (putv 9) (tgCons (putv 17) (tgNil)))) (mNot (mTru (mCall (F__law_strikes) (mCons (mVar 3) (mCons (mVar 9) (mCons (mVar 17) (mNil))))))) (mC (.int 1))) (mLst (dNil)))) (sRet (mC (.bl false))) (sNil))
noncomputable def LT5 : M Flo := sAsg 6 (mCall (F__law_some) (mCons (mVar 1) (mCons (mVar 3) (mNil))))
noncomputable def LT6 : M Flo := sIf (mNot (mTru (mCall (F__law_same) (mCons (mCall (F_strikes) (mCons (mVar 3) (mCons (mVar 6) (mNil)))) (mCons (mOpN (one1 gTuple) (mCons (mComp (mSrcA (mVar 3)) [17] (putv 17) (mTru (mCall (F__law_strikes) (mCons (mVar 3) (mCons (mVar 6) (mCons (mVar 17) (mNil)))))) (mVar 17)) (mNil))) (mNil)))))) (sRet (mC (.bl false))) (sNil)
noncomputable def LT7 : M Flo := sAsg 7 (mOpN (one1 gTuple) (mCons (mComp (mSrcA (mVar 3)) [9] (putv 9) (mBool (mOp2 (gEqG false) (mCall (F__law_roll) (mCons (mVar 1) (mCons (mC (.int 4)) (mNil)))) (mC (.int 0)))) (mVar 9)) (mNil)))
noncomputable def LT8 : M Flo := sAsg 8 (mTup (dNil))
noncomputable def LT9 : M Flo := sFor (mSrcA (mVar 3)) (putv 9) (sAsg 8 (mOp2 gAdd (mVar 8) (mIf (mTru (mCall (F__law_is_quiet) (mCons (mVar 3) (mCons (mOp2 gAdd (mVar 8) (mTup (dCons (mVar 9) (dNil)))) (mNil))))) (mTup (dCons (mVar 9) (dNil))) (mTup (dNil)))))
noncomputable def LT10 : M Flo := sAsg 10 (mCall (F__law_roll) (mCons (mVar 1) (mCons (mOpN (one1 gLen) (mCons (mVar 8) (mNil))) (mNil))))
noncomputable def LT11 : M Flo := sAsg 11 (mLst (dCons (mVar 7) (dCons (mVar 8) (dCons (mOp1 gRev (mVar 8)) (dCons (mOp2 gAdd (mVar 8) (mCut (mVar 8) (mPart (mOp1 gNeg (mC (.int 1)))) (mNoPart))) (dCons (mOpN (one1 gList) (mCons (mVar 8) (mNil))) (dCons (mTup (dNil)) (dCons (mC .non) (dCons (mC (.int 5)) (dCons (mVar 3) (dCons (mTup (dCons (mVar 6) (dNil))) (dCons (mTup (dCons (mTup (dCons (mC (.int 59)) (dCons (mC (.int 59)) (dNil)))) (dNil))) (dCons (mC (.str "00")) (dNil))))))))))))))
noncomputable def LT12 : M Flo := sFor (mSrcA (mOp2 gAdd (mVar 11) (mComp (mSrcA (mTup (dCons (mC .non) (dCons (mTup (dCons (mC (.int 1)) (dNil))) (dCons (mLst (dCons (mC (.int 0)) (dCons (mC (.int 0)) (dNil)))) (dCons (mTup (dCons (mC (.bl true)) (dCons (mC (.int 0)) (dNil)))) (dCons (mTup (dCons (mC (.int 0)) (dCons (mC (.int 60)) (dNil)))) (dCons (mTup (dCons (mOp1 gNeg (mC (.int 1))) (dCons (mC (.int 0)) (dNil)))) (dCons (mTup (dCons (mC (.int 0)) (dCons (mC (.str "0")) (dNil)))) (dCons (mVar 6) (dNil))))))))))) [18] (putv 18) (bTrue) (mOp2 gAdd (mOp2 gAdd (mCut (mVar 8) (mNoPart) (mPart (mVar 10))) (mTup (dCons (mVar 18) (dNil)))) (mCut (mVar 8) (mPart (mOp2 gAdd (mVar 10) (mC (.int 1)))) (mNoPart)))))) (putv 12) (sIf (mNot (mTru (mCall (F__law_same) (mCons (mCall (F_is_quiet) (mCons (mVar 3) (mCons (mVar 12) (mNil)))) (mCons (mCall (F__law_is_quiet) (mCons (mVar 3) (mCons (mVar 12) (mNil)))) (mNil)))))) (sRet (mC (.bl false))) (sNil))
noncomputable def LTB : M Flo := sSeq LT1 (sSeq LT2 (sSeq LT3 (sSeq LT4 (sSeq LT5 (sSeq LT6 (sSeq LT7 (sSeq LT8 (sSeq LT9 (sSeq LT10 (sSeq LT11 (LT12)))))))))))
noncomputable def LA3 : M Flo := sFor ((mCons (mC (.int 6)) (mNil)).bind srcR1) (putv 2) LTB
noncomputable def LA4 : M Flo := sPar 13 14 (mCons (mOp2 gAdd (mC (.int 1)) (mCall (F__law_roll) (mCons (mVar 1) (mCons (mC (.int 7)) (mNil))))) (mCons (mOp2 gAdd (mC (.int 1)) (mCall (F__law_roll) (mCons (mVar 1) (mCons (mC (.int 7)) (mNil))))) (mNil)))
noncomputable def LA5 : M Flo := sAsg 15 (mLst (dNil))
noncomputable def LA6 : M Flo := sFor ((mCons (mVar 13) (mNil)).bind srcR1) (putv 16) (sAsg 15 (mOp2 gAdd (mVar 15) (mComp ((mCons (mVar 14) (mNil)).bind srcR1) [19] (putv 19) (bTrue) (mTup (dCons (mVar 16) (dCons (mVar 19) (dNil)))))))
noncomputable def LA7 : M Flo := sAsg 4 (mTup (dCons (mOpN (one1 gLen) (mCons (mCall (F_falling_runs) (mCons (mOpN (one1 gTuple) (mCons (mVar 15) (mNil))) (mNil))) (mNil))) (dCons (mOpN (one1 gLen) (mCons (mCall (F_rising_runs) (mCons (mOpN (one1 gTuple) (mCons (mVar 15) (mNil))) (mNil))) (mNil))) (dCons (mCall (F_strikes) (mCons (mTup (dCons (mTup (dCons (mC (.int 0)) (dCons (mC (.int 0)) (dNil)))) (dCons (mTup (dCons (mC (.int 59)) (dCons (mC (.int 59)) (dNil)))) (dNil)))) (mCons (mTup (dCons (mC (.int 59)) (dCons (mC (.int 59)) (dNil)))) (mNil)))) (dNil)))))
noncomputable def LA8 : M Flo := sRet (mCall (F__law_same) (mCons (mVar 4) (mCons (mTup (dCons (mOp2 gSub (mOp2 gAdd (mVar 13) (mVar 14)) (mC (.int 1))) (dCons (mOp2 gSub (mOp2 gAdd (mVar 13) (mVar 14)) (mC (.int 1))) (dCons (mTup (dNil)) (dNil))))) (mNil))))
theorem law_body : B_law = sSeq LA1 (sSeq LA2 (sSeq LA3 (sSeq LA4 (sSeq LA5 (sSeq LA6 (sSeq LA7 (LA8))))))) := rfl
theorem wp_step {s t : M Flo} {ρ : Env} {P : Flo → Env → Prop} (Q : Env → Prop) (h : wp s ρ fun f ρ' => f = .nx ∧ Q ρ') (p : ∀ ρ', Q ρ' → wp t ρ' P) : wp (sSeq s t) ρ P := by
  rw [wp_seq]
  exact wp_imp h fun f ρ' ⟨a, b⟩ => by subst a; exact p ρ' b
theorem t1 {c : Pt} (C : CupOk c) {s0 s2 s3 s4 s5 s6 s7 s8 s9 s10 s11 s12 : Sl} {z : Env} (m3 : modeOf s3 = .own) : wp LT1 (s0 :: .fl .own (.lst (cupD c)) :: s2 :: s3 :: s4 :: s5 :: s6 :: s7 :: s8 :: s9 :: s10 :: s11 :: s12 :: z) fun f ρ' => f = .nx ∧ ∃ l c', FloorOk l ∧ l.length ≤ 40 ∧ CupOk c' ∧ ρ' = (s0 :: .fl .own (.lst (cupD c')) :: s2 :: .v (FD l) :: s4 :: s5 :: s6 :: s7 :: s8 :: s9 :: s10 :: s11 :: s12 :: z) := by
  unfold LT1
  simp only [wp_bind, wp_c, wq_var, wp_op1, wp_op2, wp_opN, wq_ret1, wq_ret2, wq_retN, wp_nil, wp_cons, wp_dnil, wp_dcons, wp_esc, wp_escv, wp_escl, wp_tup, wp_lst, wp_bool, wp_tru, wq_retB, wp_not, wp_and, wp_or, wp_mif, wp_andV, wp_orV, wp_notV, wp_true, wp_chain, wp_retC1, wp_retC2, wp_noPart, wp_part, wp_retPart, wp_cut, wp_seq, wp_snil, wp_pass, wp_break, wp_cont, wp_never, wp_expr, wp_sif, wp_ret, wp_retv, wp_retN', wp_asg, wq_store, wp_par, wq_store2, wp_asgT, wp_call, lk_fl, lk_pl, ex_some, gSub_ii, gAdd_ii, gLt_ii, gLe_ii, gGt_ii, gGe_ii, gLt_pp, List.getD_cons_zero, List.getD_cons_succ, List.set_cons_zero, List.set_cons_succ, List.map_cons, List.map_nil, List.length_cons, List.length_nil, List.cons_append, List.nil_append, List.replicate, modeOf_un, modeOf_fl, one1, wp_if, wp_append, wp_setL, wp_intOf, unlk_n, lck_n, wq_retp, gTuple_l, gTuple_t, gList_l, gList_vl, gList_t, gLen_l, gLen_t, gInt_i, gNeg_i, Bool.false_eq_true, if_false, if_true, and_true, true_and, Nat.reduceAdd, Nat.reduceSub, Nat.reduceLT, Nat.reduceLeDiff, neg_true, neg_false, Bool.not_true, Bool.not_false, decide_true, decide_false]
  refine ⟨by decide, ?_⟩
  refine wp_lv1 rfl rfl (p_some_l C (by simp) (by simp)) ?_
  rintro _ _ ⟨d, hd, rfl, c1, C1, rfl⟩
  simp only [wp_bind, wp_c, wq_var, wp_op1, wp_op2, wp_opN, wq_ret1, wq_ret2, wq_retN, wp_nil, wp_cons, wp_dnil, wp_dcons, wp_esc, wp_escv, wp_escl, wp_tup, wp_lst, wp_bool, wp_tru, wq_retB, wp_not, wp_and, wp_or, wp_mif, wp_andV, wp_orV, wp_notV, wp_true, wp_chain, wp_retC1, wp_retC2, wp_noPart, wp_part, wp_retPart, wp_cut, wp_seq, wp_snil, wp_pass, wp_break, wp_cont, wp_never, wp_expr, wp_sif, wp_ret, wp_retv, wp_retN', wp_asg, wq_store, wp_par, wq_store2, wp_asgT, wp_call, lk_fl, lk_pl, ex_some, gSub_ii, gAdd_ii, gLt_ii, gLe_ii, gGt_ii, gGe_ii, gLt_pp, List.getD_cons_zero, List.getD_cons_succ, List.set_cons_zero, List.set_cons_succ, List.map_cons, List.map_nil, List.length_cons, List.length_nil, List.cons_append, List.nil_append, List.replicate, modeOf_un, modeOf_fl, one1, wp_if, wp_append, wp_setL, wp_intOf, unlk_n, lck_n, wq_retp, gTuple_l, gTuple_t, gList_l, gList_vl, gList_t, gLen_l, gLen_t, gInt_i, gNeg_i, Bool.false_eq_true, if_false, if_true, and_true, true_and, Nat.reduceAdd, Nat.reduceSub, Nat.reduceLT, Nat.reduceLeDiff, neg_true, neg_false, Bool.not_true, Bool.not_false, decide_true, decide_false]
  refine ⟨by decide, ?_⟩
  refine wp_lv1 rfl rfl (p_some_l C1 (by simp) (by simp)) ?_
  rintro _ _ ⟨e, he, rfl, c2, C2, rfl⟩
  have hd2 : ∃ many : Nat, d = .int many ∧ 1 ≤ many ∧ many ≤ 40 := by
    simp only [List.mem_cons, List.not_mem_nil, or_false] at hd
    rcases hd with rfl | rfl | rfl
    · exact ⟨4, rfl, by decide, by decide⟩
    · exact ⟨16, rfl, by decide, by decide⟩
    · exact ⟨40, rfl, by decide, by decide⟩
  have he2 : ∃ side : Int, e = .int side ∧ 1 ≤ side ∧ side ≤ 60 := by
    simp only [List.mem_cons, List.not_mem_nil, or_false] at he
    rcases he with rfl | rfl | rfl <;> exact ⟨_, rfl, by decide, by decide⟩
  obtain ⟨many, rfl, h1, h2⟩ := hd2
  obtain ⟨side, rfl, h3, h4⟩ := he2
  simp only [wp_bind, wp_c, wq_var, wp_op1, wp_op2, wp_opN, wq_ret1, wq_ret2, wq_retN, wp_nil, wp_cons, wp_dnil, wp_dcons, wp_esc, wp_escv, wp_escl, wp_tup, wp_lst, wp_bool, wp_tru, wq_retB, wp_not, wp_and, wp_or, wp_mif, wp_andV, wp_orV, wp_notV, wp_true, wp_chain, wp_retC1, wp_retC2, wp_noPart, wp_part, wp_retPart, wp_cut, wp_seq, wp_snil, wp_pass, wp_break, wp_cont, wp_never, wp_expr, wp_sif, wp_ret, wp_retv, wp_retN', wp_asg, wq_store, wp_par, wq_store2, wp_asgT, wp_call, lk_fl, lk_pl, ex_some, gSub_ii, gAdd_ii, gLt_ii, gLe_ii, gGt_ii, gGe_ii, gLt_pp, List.getD_cons_zero, List.getD_cons_succ, List.set_cons_zero, List.set_cons_succ, List.map_cons, List.map_nil, List.length_cons, List.length_nil, List.cons_append, List.nil_append, List.replicate, modeOf_un, modeOf_fl, one1, wp_if, wp_append, wp_setL, wp_intOf, unlk_n, lck_n, wq_retp, gTuple_l, gTuple_t, gList_l, gList_vl, gList_t, gLen_l, gLen_t, gInt_i, gNeg_i, Bool.false_eq_true, if_false, if_true, and_true, true_and, Nat.reduceAdd, Nat.reduceSub, Nat.reduceLT, Nat.reduceLeDiff, neg_true, neg_false, Bool.not_true, Bool.not_false, decide_true, decide_false]
  refine wp_lv2 rfl rfl (p_law_floor C2 h1 (by omega) h3 h4) ?_
  rintro _ _ ⟨l, L, hl, rfl, c3, C3, rfl⟩
  simp only [wp_bind, wp_c, wq_var, wp_op1, wp_op2, wp_opN, wq_ret1, wq_ret2, wq_retN, wp_nil, wp_cons, wp_dnil, wp_dcons, wp_esc, wp_escv, wp_escl, wp_tup, wp_lst, wp_bool, wp_tru, wq_retB, wp_not, wp_and, wp_or, wp_mif, wp_andV, wp_orV, wp_notV, wp_true, wp_chain, wp_retC1, wp_retC2, wp_noPart, wp_part, wp_retPart, wp_cut, wp_seq, wp_snil, wp_pass, wp_break, wp_cont, wp_never, wp_expr, wp_sif, wp_ret, wp_retv, wp_retN', wp_asg, wq_store, wp_par, wq_store2, wp_asgT, wp_call, lk_fl, lk_pl, ex_some, gSub_ii, gAdd_ii, gLt_ii, gLe_ii, gGt_ii, gGe_ii, gLt_pp, List.getD_cons_zero, List.getD_cons_succ, List.set_cons_zero, List.set_cons_succ, List.map_cons, List.map_nil, List.length_cons, List.length_nil, List.cons_append, List.nil_append, List.replicate, modeOf_un, modeOf_fl, one1, wp_if, wp_append, wp_setL, wp_intOf, unlk_n, lck_n, wq_retp, gTuple_l, gTuple_t, gList_l, gList_vl, gList_t, gLen_l, gLen_t, gInt_i, gNeg_i, Bool.false_eq_true, if_false, if_true, and_true, true_and, Nat.reduceAdd, Nat.reduceSub, Nat.reduceLT, Nat.reduceLeDiff, neg_true, neg_false, Bool.not_true, Bool.not_false, decide_true, decide_false]
  exact ⟨⟨m3, by simp⟩, l, c3, L, by omega, C3, rfl⟩
end K50
namespace K50
open VS
open PySem (sizeLine)
theorem same_pr {n : Nat} {p : Pt} : SameOk (n + 1) (prD p) := .tup n _ (by simp) fun d hd => by
  simp only [List.mem_cons, List.not_mem_nil, or_false] at hd
  rcases hd with rfl | rfl <;> exact .int _ _
theorem same_FD {n : Nat} {v : List Pt} (h : v.length ≤ 1000) : SameOk (n + 2) (FD v) := .tup (n + 1) _ (by rw [List.length_map]; exact h) fun d hd => by
  obtain ⟨p, _, rfl⟩ := List.mem_map.mp hd
  exact same_pr
theorem same_runs {n : Nat} {rs : List (List Pt)} (h : rs.length ≤ 1000) (h2 : ∀ r ∈ rs, r.length ≤ 1000) : SameOk (n + 3) (.tup (rs.map FD)) := .tup (n + 2) _ (by rw [List.length_map]; exact h) fun d hd => by
  obtain ⟨r, hr, rfl⟩ := List.mem_map.mp hd
  exact same_FD (h2 r hr)
def toldD (l : List Pt) : D := .tup [.tup ((runs l 1).map FD), .tup ((runs l (-1)).map FD)]
theorem same_told {l : List Pt} (L : FloorOk l) {n : Nat} : SameOk (n + 4) (toldD l) := .tup (n + 3) _ (by simp) fun d hd => by
  simp only [List.mem_cons, List.not_mem_nil, or_false] at hd
  rcases hd with rfl | rfl
  · exact same_runs (by have := runs_small L (a := 1); omega) fun r hr => by have := runs_61 r hr; omega
  · exact same_runs (by have := runs_small L (a := -1); omega) fun r hr => by have := runs_61 r hr; omega
theorem p_same {d : D} (h : SameOk 11 d) : FV F__law_same [d, d] (.val (.bl true)) := p_law_same 11 d h
theorem t2 {l : List Pt} (L : FloorOk l) {s0 s1 s2 s4 : Sl} {z : Env} (m4 : modeOf s4 = .own) : wp LT2 (s0 :: s1 :: s2 :: .v (FD l) :: s4 :: z) fun f ρ' => f = .nx ∧ ρ' = (s0 :: s1 :: s2 :: .v (FD l) :: .v (toldD l) :: z) := by
  unfold LT2
  simp only [wp_bind, wp_c, wq_var, wp_op1, wp_op2, wp_opN, wq_ret1, wq_ret2, wq_retN, wp_nil, wp_cons, wp_dnil, wp_dcons, wp_esc, wp_escv, wp_escl, wp_tup, wp_lst, wp_bool, wp_tru, wq_retB, wp_not, wp_and, wp_or, wp_mif, wp_andV, wp_orV, wp_notV, wp_true, wp_chain, wp_retC1, wp_retC2, wp_noPart, wp_part, wp_retPart, wp_cut, wp_seq, wp_snil, wp_pass, wp_break, wp_cont, wp_never, wp_expr, wp_sif, wp_ret, wp_retv, wp_retN', wp_asg, wq_store, wp_par, wq_store2, wp_asgT, wp_call, lk_fl, lk_pl, ex_some, gSub_ii, gAdd_ii, gLt_ii, gLe_ii, gGt_ii, gGe_ii, gLt_pp, List.getD_cons_zero, List.getD_cons_succ, List.set_cons_zero, List.set_cons_succ, List.map_cons, List.map_nil, List.length_cons, List.length_nil, List.cons_append, List.nil_append, List.replicate, modeOf_un, modeOf_fl, one1, wp_if, wp_append, wp_setL, wp_intOf, unlk_n, lck_n, wq_retp, gTuple_l, gTuple_t, gList_l, gList_vl, gList_t, gLen_l, gLen_t, gInt_i, gNeg_i, Bool.false_eq_true, if_false, if_true, and_true, true_and, Nat.reduceAdd, Nat.reduceSub, Nat.reduceLT, Nat.reduceLeDiff, neg_true, neg_false, Bool.not_true, Bool.not_false, decide_true, decide_false]
  refine wp_fv1 (p_falling L) ?_
  simp only [wp_bind, wp_c, wq_var, wp_op1, wp_op2, wp_opN, wq_ret1, wq_ret2, wq_retN, wp_nil, wp_cons, wp_dnil, wp_dcons, wp_esc, wp_escv, wp_escl, wp_tup, wp_lst, wp_bool, wp_tru, wq_retB, wp_not, wp_and, wp_or, wp_mif, wp_andV, wp_orV, wp_notV, wp_true, wp_chain, wp_retC1, wp_retC2, wp_noPart, wp_part, wp_retPart, wp_cut, wp_seq, wp_snil, wp_pass, wp_break, wp_cont, wp_never, wp_expr, wp_sif, wp_ret, wp_retv, wp_retN', wp_asg, wq_store, wp_par, wq_store2, wp_asgT, wp_call, lk_fl, lk_pl, ex_some, gSub_ii, gAdd_ii, gLt_ii, gLe_ii, gGt_ii, gGe_ii, gLt_pp, List.getD_cons_zero, List.getD_cons_succ, List.set_cons_zero, List.set_cons_succ, List.map_cons, List.map_nil, List.length_cons, List.length_nil, List.cons_append, List.nil_append, List.replicate, modeOf_un, modeOf_fl, one1, wp_if, wp_append, wp_setL, wp_intOf, unlk_n, lck_n, wq_retp, gTuple_l, gTuple_t, gList_l, gList_vl, gList_t, gLen_l, gLen_t, gInt_i, gNeg_i, Bool.false_eq_true, if_false, if_true, and_true, true_and, Nat.reduceAdd, Nat.reduceSub, Nat.reduceLT, Nat.reduceLeDiff, neg_true, neg_false, Bool.not_true, Bool.not_false, decide_true, decide_false]
  refine wp_fv1 (p_rising L) ?_
  simp only [wp_bind, wp_c, wq_var, wp_op1, wp_op2, wp_opN, wq_ret1, wq_ret2, wq_retN, wp_nil, wp_cons, wp_dnil, wp_dcons, wp_esc, wp_escv, wp_escl, wp_tup, wp_lst, wp_bool, wp_tru, wq_retB, wp_not, wp_and, wp_or, wp_mif, wp_andV, wp_orV, wp_notV, wp_true, wp_chain, wp_retC1, wp_retC2, wp_noPart, wp_part, wp_retPart, wp_cut, wp_seq, wp_snil, wp_pass, wp_break, wp_cont, wp_never, wp_expr, wp_sif, wp_ret, wp_retv, wp_retN', wp_asg, wq_store, wp_par, wq_store2, wp_asgT, wp_call, lk_fl, lk_pl, ex_some, gSub_ii, gAdd_ii, gLt_ii, gLe_ii, gGt_ii, gGe_ii, gLt_pp, List.getD_cons_zero, List.getD_cons_succ, List.set_cons_zero, List.set_cons_succ, List.map_cons, List.map_nil, List.length_cons, List.length_nil, List.cons_append, List.nil_append, List.replicate, modeOf_un, modeOf_fl, one1, wp_if, wp_append, wp_setL, wp_intOf, unlk_n, lck_n, wq_retp, gTuple_l, gTuple_t, gList_l, gList_vl, gList_t, gLen_l, gLen_t, gInt_i, gNeg_i, Bool.false_eq_true, if_false, if_true, and_true, true_and, Nat.reduceAdd, Nat.reduceSub, Nat.reduceLT, Nat.reduceLeDiff, neg_true, neg_false, Bool.not_true, Bool.not_false, decide_true, decide_false]
  exact ⟨two_ok, ⟨m4, by simp⟩, rfl⟩
theorem t3 {l : List Pt} (L : FloorOk l) {s0 s1 s2 : Sl} {z : Env} : wp LT3 (s0 :: s1 :: s2 :: .v (FD l) :: .v (toldD l) :: z) fun f ρ' => f = .nx ∧ ρ' = (s0 :: s1 :: s2 :: .v (FD l) :: .v (toldD l) :: z) := by
  unfold LT3
  simp only [wp_bind, wp_c, wq_var, wp_op1, wp_op2, wp_opN, wq_ret1, wq_ret2, wq_retN, wp_nil, wp_cons, wp_dnil, wp_dcons, wp_esc, wp_escv, wp_escl, wp_tup, wp_lst, wp_bool, wp_tru, wq_retB, wp_not, wp_and, wp_or, wp_mif, wp_andV, wp_orV, wp_notV, wp_true, wp_chain, wp_retC1, wp_retC2, wp_noPart, wp_part, wp_retPart, wp_cut, wp_seq, wp_snil, wp_pass, wp_break, wp_cont, wp_never, wp_expr, wp_sif, wp_ret, wp_retv, wp_retN', wp_asg, wq_store, wp_par, wq_store2, wp_asgT, wp_call, lk_fl, lk_pl, ex_some, gSub_ii, gAdd_ii, gLt_ii, gLe_ii, gGt_ii, gGe_ii, gLt_pp, List.getD_cons_zero, List.getD_cons_succ, List.set_cons_zero, List.set_cons_succ, List.map_cons, List.map_nil, List.length_cons, List.length_nil, List.cons_append, List.nil_append, List.replicate, modeOf_un, modeOf_fl, one1, wp_if, wp_append, wp_setL, wp_intOf, unlk_n, lck_n, wq_retp, gTuple_l, gTuple_t, gList_l, gList_vl, gList_t, gLen_l, gLen_t, gInt_i, gNeg_i, Bool.false_eq_true, if_false, if_true, and_true, true_and, Nat.reduceAdd, Nat.reduceSub, Nat.reduceLT, Nat.reduceLeDiff, neg_true, neg_false, Bool.not_true, Bool.not_false, decide_true, decide_false]
  refine wp_fv2 (p_law_runs L) ?_
  simp only [wp_bind, wp_c, wq_var, wp_op1, wp_op2, wp_opN, wq_ret1, wq_ret2, wq_retN, wp_nil, wp_cons, wp_dnil, wp_dcons, wp_esc, wp_escv, wp_escl, wp_tup, wp_lst, wp_bool, wp_tru, wq_retB, wp_not, wp_and, wp_or, wp_mif, wp_andV, wp_orV, wp_notV, wp_true, wp_chain, wp_retC1, wp_retC2, wp_noPart, wp_part, wp_retPart, wp_cut, wp_seq, wp_snil, wp_pass, wp_break, wp_cont, wp_never, wp_expr, wp_sif, wp_ret, wp_retv, wp_retN', wp_asg, wq_store, wp_par, wq_store2, wp_asgT, wp_call, lk_fl, lk_pl, ex_some, gSub_ii, gAdd_ii, gLt_ii, gLe_ii, gGt_ii, gGe_ii, gLt_pp, List.getD_cons_zero, List.getD_cons_succ, List.set_cons_zero, List.set_cons_succ, List.map_cons, List.map_nil, List.length_cons, List.length_nil, List.cons_append, List.nil_append, List.replicate, modeOf_un, modeOf_fl, one1, wp_if, wp_append, wp_setL, wp_intOf, unlk_n, lck_n, wq_retp, gTuple_l, gTuple_t, gList_l, gList_vl, gList_t, gLen_l, gLen_t, gInt_i, gNeg_i, Bool.false_eq_true, if_false, if_true, and_true, true_and, Nat.reduceAdd, Nat.reduceSub, Nat.reduceLT, Nat.reduceLeDiff, neg_true, neg_false, Bool.not_true, Bool.not_false, decide_true, decide_false]
  refine wp_fv2 (p_law_runs L) ?_
  simp only [wp_bind, wp_c, wq_var, wp_op1, wp_op2, wp_opN, wq_ret1, wq_ret2, wq_retN, wp_nil, wp_cons, wp_dnil, wp_dcons, wp_esc, wp_escv, wp_escl, wp_tup, wp_lst, wp_bool, wp_tru, wq_retB, wp_not, wp_and, wp_or, wp_mif, wp_andV, wp_orV, wp_notV, wp_true, wp_chain, wp_retC1, wp_retC2, wp_noPart, wp_part, wp_retPart, wp_cut, wp_seq, wp_snil, wp_pass, wp_break, wp_cont, wp_never, wp_expr, wp_sif, wp_ret, wp_retv, wp_retN', wp_asg, wq_store, wp_par, wq_store2, wp_asgT, wp_call, lk_fl, lk_pl, ex_some, gSub_ii, gAdd_ii, gLt_ii, gLe_ii, gGt_ii, gGe_ii, gLt_pp, List.getD_cons_zero, List.getD_cons_succ, List.set_cons_zero, List.set_cons_succ, List.map_cons, List.map_nil, List.length_cons, List.length_nil, List.cons_append, List.nil_append, List.replicate, modeOf_un, modeOf_fl, one1, wp_if, wp_append, wp_setL, wp_intOf, unlk_n, lck_n, wq_retp, gTuple_l, gTuple_t, gList_l, gList_vl, gList_t, gLen_l, gLen_t, gInt_i, gNeg_i, Bool.false_eq_true, if_false, if_true, and_true, true_and, Nat.reduceAdd, Nat.reduceSub, Nat.reduceLT, Nat.reduceLeDiff, neg_true, neg_false, Bool.not_true, Bool.not_false, decide_true, decide_false]
  refine ⟨two_ok, ?_⟩
  refine wp_fv2 (p_same (same_told L)) ?_
  simp only [wp_bind, wp_c, wq_var, wp_op1, wp_op2, wp_opN, wq_ret1, wq_ret2, wq_retN, wp_nil, wp_cons, wp_dnil, wp_dcons, wp_esc, wp_escv, wp_escl, wp_tup, wp_lst, wp_bool, wp_tru, wq_retB, wp_not, wp_and, wp_or, wp_mif, wp_andV, wp_orV, wp_notV, wp_true, wp_chain, wp_retC1, wp_retC2, wp_noPart, wp_part, wp_retPart, wp_cut, wp_seq, wp_snil, wp_pass, wp_break, wp_cont, wp_never, wp_expr, wp_sif, wp_ret, wp_retv, wp_retN', wp_asg, wq_store, wp_par, wq_store2, wp_asgT, wp_call, lk_fl, lk_pl, ex_some, gSub_ii, gAdd_ii, gLt_ii, gLe_ii, gGt_ii, gGe_ii, gLt_pp, List.getD_cons_zero, List.getD_cons_succ, List.set_cons_zero, List.set_cons_succ, List.map_cons, List.map_nil, List.length_cons, List.length_nil, List.cons_append, List.nil_append, List.replicate, modeOf_un, modeOf_fl, one1, wp_if, wp_append, wp_setL, wp_intOf, unlk_n, lck_n, wq_retp, gTuple_l, gTuple_t, gList_l, gList_vl, gList_t, gLen_l, gLen_t, gInt_i, gNeg_i, Bool.false_eq_true, if_false, if_true, and_true, true_and, Nat.reduceAdd, Nat.reduceSub, Nat.reduceLT, Nat.reduceLeDiff, neg_true, neg_false, Bool.not_true, Bool.not_false, decide_true, decide_false, truF_b]
end K50
namespace K50
open VS
open PySem (sizeLine)
theorem rf_nb {l : List Pt} {a : Int} : ∀ {n : Nat} {c : Pt}, ∀ p ∈ nb (rf l a n c), p.1 ∈ l ∧ p.2 ∈ l ∧ p.2 = dn a p.1
  | 0, c, p, h => by simp [rf, nb] at h
  | 1, c, p, h => by
    unfold rf at h
    split at h
    · simp [rf, nb] at h
    · simp [nb] at h
  | n + 2, c, p, h => by
    unfold rf at h
    by_cases hc : c ∈ l
    · rw [if_pos hc] at h
      by_cases hd : dn a c ∈ l
      · have e : rf l a (n + 1) (dn a c) = dn a c :: rf l a n (dn a (dn a c)) := by
          show (if dn a c ∈ l then _ else _) = _
          rw [if_pos hd]
        rw [e] at h
        have e2 : nb (c :: dn a c :: rf l a n (dn a (dn a c))) = (c, dn a c) :: nb (dn a c :: rf l a n (dn a (dn a c))) := rfl
        rw [e2, ← e] at h
        rcases List.mem_cons.mp h with rfl | h
        · exact ⟨hc, hd, rfl⟩
        · exact rf_nb p h
      · have e : rf l a (n + 1) (dn a c) = [] := by
          show (if dn a c ∈ l then _ else _) = _
          rw [if_neg hd]
        rw [e] at h
        simp [nb] at h
    · rw [if_neg hc] at h
      simp [nb] at h
theorem nb_st {l : List Pt} {a : Int} (ha : a = 1 ∨ a = -1) {p : Pt × Pt} (h : p.1 ∈ l ∧ p.2 ∈ l ∧ p.2 = dn a p.1) : stB l p.1 p.2 = true := by
  refine (stB_iff h.1 h.2.1).mpr ?_
  have : Same l a p.1 p.2 := ⟨1, Nat.le_refl _, .inl ⟨by rw [h.2.2, ← pa_dn, pa_zero], fun j hj => by
    rcases Nat.le_one_iff_eq_zero_or_eq_one.mp hj with rfl | rfl
    · rw [pa_zero]; exact h.1
    · rw [← pa_dn, pa_zero, ← h.2.2]; exact h.2.1⟩⟩
  rcases ha with rfl | rfl
  · exact .inl this
  · exact .inr this
def allRuns (l : List Pt) : List (List Pt) := runs l 1 ++ runs l (-1)
theorem allRuns_nb {l : List Pt} {r : List Pt} (h : r ∈ allRuns l) {p : Pt × Pt} (hp : p ∈ nb r) : p.1 ∈ l ∧ p.2 ∈ l ∧ stB l p.1 p.2 = true := by
  rcases List.mem_append.mp h with h | h
  · obtain ⟨c, _, rfl⟩ := List.mem_map.mp h
    have := rf_nb p hp
    exact ⟨this.1, this.2.1, nb_st (.inl rfl) this⟩
  · obtain ⟨c, _, rfl⟩ := List.mem_map.mp h
    have := rf_nb p hp
    exact ⟨this.1, this.2.1, nb_st (.inr rfl) this⟩
theorem cut_from1 {ds : List D} : cutD ds (some 1) none = ds.drop 1 := cut_from (k := 1)
theorem t4 {l : List Pt} (L : FloorOk l) {s0 s1 s2 s5 s6 s7 s8 s9 s10 s11 s12 s13 s14 s15 s16 s17 s18 s19 : Sl} (m5 : modeOf s5 = .own) : wp LT4 [s0, s1, s2, .v (FD l), .v (toldD l), s5, s6, s7, s8, s9, s10, s11, s12, s13, s14, s15, s16, s17, s18, s19] fun f ρ' => f = .nx ∧ ∃ q5, modeOf q5 = .own ∧ ρ' = [s0, s1, s2, .v (FD l), .v (toldD l), q5, s6, s7, s8, s9, s10, s11, s12, s13, s14, s15, s16, s17, s18, s19] := by
  unfold LT4 toldD
  refine wp_for ?_
  have n1 := runs_small L (a := 1)
  have n2 := runs_small L (a := -1)
  refine wp_srcT (ds := (allRuns l).map FD) ?_
  have eA : gAdd (.val (.tup ((runs l 1).map FD))) (.val (.tup ((runs l (-1)).map FD))) = some (.v (.tup ((allRuns l).map FD))) := by
    rw [gAdd_tt (by rw [List.length_map, List.length_map]; show _ ≤ 1000000; omega)]
    unfold allRuns
    rw [List.map_append]
  simp only [wp_bind, wp_c, wq_var, wp_op1, wp_op2, wp_opN, wq_ret1, wq_ret2, wq_retN, wp_nil, wp_cons, wp_dnil, wp_dcons, wp_esc, wp_escv, wp_escl, wp_tup, wp_lst, wp_bool, wp_tru, wq_retB, wp_not, wp_and, wp_or, wp_mif, wp_andV, wp_orV, wp_notV, wp_true, wp_chain, wp_retC1, wp_retC2, wp_noPart, wp_part, wp_retPart, wp_cut, wp_seq, wp_snil, wp_pass, wp_break, wp_cont, wp_never, wp_expr, wp_sif, wp_ret, wp_retv, wp_retN', wp_asg, wq_store, wp_par, wq_store2, wp_asgT, wp_call, lk_fl, lk_pl, ex_some, gSub_ii, gAdd_ii, gLt_ii, gLe_ii, gGt_ii, gGe_ii, gLt_pp, List.getD_cons_zero, List.getD_cons_succ, List.set_cons_zero, List.set_cons_succ, List.map_cons, List.map_nil, List.length_cons, List.length_nil, List.cons_append, List.nil_append, List.replicate, modeOf_un, modeOf_fl, one1, wp_if, wp_append, wp_setL, wp_intOf, unlk_n, lck_n, wq_retp, gTuple_l, gTuple_t, gList_l, gList_vl, gList_t, gLen_l, gLen_t, gInt_i, gNeg_i, Bool.false_eq_true, if_false, if_true, and_true, true_and, Nat.reduceAdd, Nat.reduceSub, Nat.reduceLT, Nat.reduceLeDiff, neg_true, neg_false, Bool.not_true, Bool.not_false, decide_true, decide_false, gIx_0, gIx_1, eA]
  refine wp_floop (fun todo ρ => ∃ rs : List (List Pt), todo = rs.map FD ∧ (∀ r ∈ rs, r ∈ allRuns l ∧ r.length ≤ 61) ∧ ∃ q5, modeOf q5 = .own ∧ ρ = [s0, s1, s2, .v (FD l), .v (toldD l), q5, s6, s7, s8, s9, s10, s11, s12, s13, s14, s15, s16, s17, s18, s19]) ⟨allRuns l, rfl, fun r hr => ⟨hr, ?_⟩, s5, m5, rfl⟩ ?_ ?_
  · rcases List.mem_append.mp hr with h | h
    · exact runs_61 r h
    · exact runs_61 r h
  · rintro d todo ρ ⟨rs, e, hrs, q5, mq, rfl⟩
    cases rs with
    | nil => cases e
    | cons r rs =>
      rw [List.map_cons] at e
      injection e with e1 e2
      subst e1; subst e2
      obtain ⟨hr, hl⟩ := hrs r List.mem_cons_self
      refine ⟨[s0, s1, s2, .v (FD l), .v (toldD l), .v (FD r), s6, s7, s8, s9, s10, s11, s12, s13, s14, s15, s16, s17, s18, s19], ?_, ?_⟩
      · unfold putv
        rw [if_pos ⟨mq, by simp⟩]
        rfl
      · rw [wp_sif]
        simp only [wp_bool, wp_op2]
        refine wp_compT (L := nb r) (g := pp) (fun _ => false) (fun _ => .int 1) (size_ok (by have := nb_len (l := r); omega)) ?_
        simp only [wp_bind, wp_c, wq_var, wp_op1, wp_op2, wp_opN, wq_ret1, wq_ret2, wq_retN, wp_nil, wp_cons, wp_dnil, wp_dcons, wp_esc, wp_escv, wp_escl, wp_tup, wp_lst, wp_bool, wp_tru, wq_retB, wp_not, wp_and, wp_or, wp_mif, wp_andV, wp_orV, wp_notV, wp_true, wp_chain, wp_retC1, wp_retC2, wp_noPart, wp_part, wp_retPart, wp_cut, wp_seq, wp_snil, wp_pass, wp_break, wp_cont, wp_never, wp_expr, wp_sif, wp_ret, wp_retv, wp_retN', wp_asg, wq_store, wp_par, wq_store2, wp_asgT, wp_call, lk_fl, lk_pl, ex_some, gSub_ii, gAdd_ii, gLt_ii, gLe_ii, gGt_ii, gGe_ii, gLt_pp, List.getD_cons_zero, List.getD_cons_succ, List.set_cons_zero, List.set_cons_succ, List.map_cons, List.map_nil, List.length_cons, List.length_nil, List.cons_append, List.nil_append, List.replicate, modeOf_un, modeOf_fl, one1, wp_if, wp_append, wp_setL, wp_intOf, unlk_n, lck_n, wq_retp, gTuple_l, gTuple_t, gList_l, gList_vl, gList_t, gLen_l, gLen_t, gInt_i, gNeg_i, Bool.false_eq_true, if_false, if_true, and_true, true_and, Nat.reduceAdd, Nat.reduceSub, Nat.reduceLT, Nat.reduceLeDiff, neg_true, neg_false, Bool.not_true, Bool.not_false, decide_true, decide_false, gCut_t, cut_from1]
        refine wp_srcZt ⟨by rw [zip_nb], fun x hx => ?_, ?_⟩
        · obtain ⟨x1, x2, x3⟩ := allRuns_nb hr hx
          refine ⟨[s0, s1, s2, .v (FD l), .v (toldD l), .v (FD r), s6, s7, s8, .v (prD x.1), s10, s11, s12, s13, s14, s15, s16, .v (prD x.2), s18, s19], rfl, ?_⟩
          simp only [wp_bind, wp_c, wq_var, wp_op1, wp_op2, wp_opN, wq_ret1, wq_ret2, wq_retN, wp_nil, wp_cons, wp_dnil, wp_dcons, wp_esc, wp_escv, wp_escl, wp_tup, wp_lst, wp_bool, wp_tru, wq_retB, wp_not, wp_and, wp_or, wp_mif, wp_andV, wp_orV, wp_notV, wp_true, wp_chain, wp_retC1, wp_retC2, wp_noPart, wp_part, wp_retPart, wp_cut, wp_seq, wp_snil, wp_pass, wp_break, wp_cont, wp_never, wp_expr, wp_sif, wp_ret, wp_retv, wp_retN', wp_asg, wq_store, wp_par, wq_store2, wp_asgT, wp_call, lk_fl, lk_pl, ex_some, gSub_ii, gAdd_ii, gLt_ii, gLe_ii, gGt_ii, gGe_ii, gLt_pp, List.getD_cons_zero, List.getD_cons_succ, List.set_cons_zero, List.set_cons_succ, List.map_cons, List.map_nil, List.length_cons, List.length_nil, List.cons_append, List.nil_append, List.replicate, modeOf_un, modeOf_fl, one1, wp_if, wp_append, wp_setL, wp_intOf, unlk_n, lck_n, wq_retp, gTuple_l, gTuple_t, gList_l, gList_vl, gList_t, gLen_l, gLen_t, gInt_i, gNeg_i, Bool.false_eq_true, if_false, if_true, and_true, true_and, Nat.reduceAdd, Nat.reduceSub, Nat.reduceLT, Nat.reduceLeDiff, neg_true, neg_false, Bool.not_true, Bool.not_false, decide_true, decide_false]
          refine wp_fv3 (p_law_strikes L x1 x2) ?_
          simp only [wp_bind, wp_c, wq_var, wp_op1, wp_op2, wp_opN, wq_ret1, wq_ret2, wq_retN, wp_nil, wp_cons, wp_dnil, wp_dcons, wp_esc, wp_escv, wp_escl, wp_tup, wp_lst, wp_bool, wp_tru, wq_retB, wp_not, wp_and, wp_or, wp_mif, wp_andV, wp_orV, wp_notV, wp_true, wp_chain, wp_retC1, wp_retC2, wp_noPart, wp_part, wp_retPart, wp_cut, wp_seq, wp_snil, wp_pass, wp_break, wp_cont, wp_never, wp_expr, wp_sif, wp_ret, wp_retv, wp_retN', wp_asg, wq_store, wp_par, wq_store2, wp_asgT, wp_call, lk_fl, lk_pl, ex_some, gSub_ii, gAdd_ii, gLt_ii, gLe_ii, gGt_ii, gGe_ii, gLt_pp, List.getD_cons_zero, List.getD_cons_succ, List.set_cons_zero, List.set_cons_succ, List.map_cons, List.map_nil, List.length_cons, List.length_nil, List.cons_append, List.nil_append, List.replicate, modeOf_un, modeOf_fl, one1, wp_if, wp_append, wp_setL, wp_intOf, unlk_n, lck_n, wq_retp, gTuple_l, gTuple_t, gList_l, gList_vl, gList_t, gLen_l, gLen_t, gInt_i, gNeg_i, Bool.false_eq_true, if_false, if_true, and_true, true_and, Nat.reduceAdd, Nat.reduceSub, Nat.reduceLT, Nat.reduceLeDiff, neg_true, neg_false, Bool.not_true, Bool.not_false, decide_true, decide_false, truF_b, x3]
          exact ⟨fun _ => rfl, fun h => nomatch h⟩
        · refine ⟨zero_ok, ?_⟩
          have ef : decide ((nb r).filter (fun _ => false) = []) = true := decide_eq_true (by simp)
          simp only [gEq_ones shp_ones, wp_bind, wp_c, wq_var, wp_op1, wp_op2, wp_opN, wq_ret1, wq_ret2, wq_retN, wp_nil, wp_cons, wp_dnil, wp_dcons, wp_esc, wp_escv, wp_escl, wp_tup, wp_lst, wp_bool, wp_tru, wq_retB, wp_not, wp_and, wp_or, wp_mif, wp_andV, wp_orV, wp_notV, wp_true, wp_chain, wp_retC1, wp_retC2, wp_noPart, wp_part, wp_retPart, wp_cut, wp_seq, wp_snil, wp_pass, wp_break, wp_cont, wp_never, wp_expr, wp_sif, wp_ret, wp_retv, wp_retN', wp_asg, wq_store, wp_par, wq_store2, wp_asgT, wp_call, lk_fl, lk_pl, ex_some, gSub_ii, gAdd_ii, gLt_ii, gLe_ii, gGt_ii, gGe_ii, gLt_pp, List.getD_cons_zero, List.getD_cons_succ, List.set_cons_zero, List.set_cons_succ, List.map_cons, List.map_nil, List.length_cons, List.length_nil, List.cons_append, List.nil_append, List.replicate, modeOf_un, modeOf_fl, one1, wp_if, wp_append, wp_setL, wp_intOf, unlk_n, lck_n, wq_retp, gTuple_l, gTuple_t, gList_l, gList_vl, gList_t, gLen_l, gLen_t, gInt_i, gNeg_i, Bool.false_eq_true, if_false, if_true, and_true, true_and, Nat.reduceAdd, Nat.reduceSub, Nat.reduceLT, Nat.reduceLeDiff, neg_true, neg_false, Bool.not_true, Bool.not_false, decide_true, decide_false, ef, blF, bne_self_eq_false]
          exact ⟨rs, rfl, fun r' h' => hrs r' (List.mem_cons_of_mem _ h'), _, rfl, rfl⟩
  · rintro ρ ⟨rs, e, _, q5, mq, rfl⟩
    exact ⟨rfl, q5, mq, rfl⟩
end K50
namespace K50
open VS
open PySem (sizeLine)
theorem t5 {l : List Pt} (L : FloorOk l) {c : Pt} (C : CupOk c) {s0 s2 s4 s5 s6 : Sl} {z : Env} (m6 : modeOf s6 = .own) : wp LT5 (s0 :: .fl .own (.lst (cupD c)) :: s2 :: .v (FD l) :: s4 :: s5 :: s6 :: z) fun f ρ' => f = .nx ∧ ∃ x c', x ∈ l ∧ CupOk c' ∧ ρ' = (s0 :: .fl .own (.lst (cupD c')) :: s2 :: .v (FD l) :: s4 :: s5 :: .v (prD x) :: z) := by
  unfold LT5
  simp only [wp_bind, wp_c, wq_var, wp_op1, wp_op2, wp_opN, wq_ret1, wq_ret2, wq_retN, wp_nil, wp_cons, wp_dnil, wp_dcons, wp_esc, wp_escv, wp_escl, wp_tup, wp_lst, wp_bool, wp_tru, wq_retB, wp_not, wp_and, wp_or, wp_mif, wp_andV, wp_orV, wp_notV, wp_true, wp_chain, wp_retC1, wp_retC2, wp_noPart, wp_part, wp_retPart, wp_cut, wp_seq, wp_snil, wp_pass, wp_break, wp_cont, wp_never, wp_expr, wp_sif, wp_ret, wp_retv, wp_retN', wp_asg, wq_store, wp_par, wq_store2, wp_asgT, wp_call, lk_fl, lk_pl, ex_some, gSub_ii, gAdd_ii, gLt_ii, gLe_ii, gGt_ii, gGe_ii, gLt_pp, List.getD_cons_zero, List.getD_cons_succ, List.set_cons_zero, List.set_cons_succ, List.map_cons, List.map_nil, List.length_cons, List.length_nil, List.cons_append, List.nil_append, List.replicate, modeOf_un, modeOf_fl, one1, wp_if, wp_append, wp_setL, wp_intOf, unlk_n, lck_n, wq_retp, gTuple_l, gTuple_t, gList_l, gList_vl, gList_t, gLen_l, gLen_t, gInt_i, gNeg_i, Bool.false_eq_true, if_false, if_true, and_true, true_and, Nat.reduceAdd, Nat.reduceSub, Nat.reduceLT, Nat.reduceLeDiff, neg_true, neg_false, Bool.not_true, Bool.not_false, decide_true, decide_false]
  have hne : l.map prD ≠ [] := fun h => L.ne (List.map_eq_nil_iff.mp h)
  refine wp_lv1 rfl rfl (p_some_t C hne (by rw [List.length_map]; have := L.len; omega)) ?_
  rintro _ _ ⟨d, hd, rfl, c1, C1, rfl⟩
  obtain ⟨x, hx, rfl⟩ := List.mem_map.mp hd
  simp only [wp_bind, wp_c, wq_var, wp_op1, wp_op2, wp_opN, wq_ret1, wq_ret2, wq_retN, wp_nil, wp_cons, wp_dnil, wp_dcons, wp_esc, wp_escv, wp_escl, wp_tup, wp_lst, wp_bool, wp_tru, wq_retB, wp_not, wp_and, wp_or, wp_mif, wp_andV, wp_orV, wp_notV, wp_true, wp_chain, wp_retC1, wp_retC2, wp_noPart, wp_part, wp_retPart, wp_cut, wp_seq, wp_snil, wp_pass, wp_break, wp_cont, wp_never, wp_expr, wp_sif, wp_ret, wp_retv, wp_retN', wp_asg, wq_store, wp_par, wq_store2, wp_asgT, wp_call, lk_fl, lk_pl, ex_some, gSub_ii, gAdd_ii, gLt_ii, gLe_ii, gGt_ii, gGe_ii, gLt_pp, List.getD_cons_zero, List.getD_cons_succ, List.set_cons_zero, List.set_cons_succ, List.map_cons, List.map_nil, List.length_cons, List.length_nil, List.cons_append, List.nil_append, List.replicate, modeOf_un, modeOf_fl, one1, wp_if, wp_append, wp_setL, wp_intOf, unlk_n, lck_n, wq_retp, gTuple_l, gTuple_t, gList_l, gList_vl, gList_t, gLen_l, gLen_t, gInt_i, gNeg_i, Bool.false_eq_true, if_false, if_true, and_true, true_and, Nat.reduceAdd, Nat.reduceSub, Nat.reduceLT, Nat.reduceLeDiff, neg_true, neg_false, Bool.not_true, Bool.not_false, decide_true, decide_false]
  exact ⟨⟨m6, by simp⟩, x, c1, hx, C1, rfl⟩
theorem t6 {l : List Pt} (L : FloorOk l) {x : Pt} (hx : x ∈ l) {s0 s1 s2 s4 s5 s7 s8 s9 s10 s11 s12 s13 s14 s15 s16 s17 s18 s19 : Sl} : wp LT6 [s0, s1, s2, .v (FD l), s4, s5, .v (prD x), s7, s8, s9, s10, s11, s12, s13, s14, s15, s16, s17, s18, s19] fun f ρ' => f = .nx ∧ ρ' = [s0, s1, s2, .v (FD l), s4, s5, .v (prD x), s7, s8, s9, s10, s11, s12, s13, s14, s15, s16, s17, s18, s19] := by
  unfold LT6
  rw [wp_sif]
  simp only [wp_not, wp_tru, wp_call, wp_cons, wp_nil, wp_opN, wq_var, List.getD_cons_zero, List.getD_cons_succ]
  refine wp_fv2 (p_strikes L hx) ?_
  refine wp_compT (L := l) (g := prD) (stB l x) prD (size_ok (by have := L.len; omega)) (wp_srcI rfl ⟨rfl, fun y hy => ?_, ?_⟩)
  · refine ⟨[s0, s1, s2, .v (FD l), s4, s5, .v (prD x), s7, s8, s9, s10, s11, s12, s13, s14, s15, s16, .v (prD y), s18, s19], rfl, ?_⟩
    simp only [wp_bind, wp_c, wq_var, wp_op1, wp_op2, wp_opN, wq_ret1, wq_ret2, wq_retN, wp_nil, wp_cons, wp_dnil, wp_dcons, wp_esc, wp_escv, wp_escl, wp_tup, wp_lst, wp_bool, wp_tru, wq_retB, wp_not, wp_and, wp_or, wp_mif, wp_andV, wp_orV, wp_notV, wp_true, wp_chain, wp_retC1, wp_retC2, wp_noPart, wp_part, wp_retPart, wp_cut, wp_seq, wp_snil, wp_pass, wp_break, wp_cont, wp_never, wp_expr, wp_sif, wp_ret, wp_retv, wp_retN', wp_asg, wq_store, wp_par, wq_store2, wp_asgT, wp_call, lk_fl, lk_pl, ex_some, gSub_ii, gAdd_ii, gLt_ii, gLe_ii, gGt_ii, gGe_ii, gLt_pp, List.getD_cons_zero, List.getD_cons_succ, List.set_cons_zero, List.set_cons_succ, List.map_cons, List.map_nil, List.length_cons, List.length_nil, List.cons_append, List.nil_append, List.replicate, modeOf_un, modeOf_fl, one1, wp_if, wp_append, wp_setL, wp_intOf, unlk_n, lck_n, wq_retp, gTuple_l, gTuple_t, gList_l, gList_vl, gList_t, gLen_l, gLen_t, gInt_i, gNeg_i, Bool.false_eq_true, if_false, if_true, and_true, true_and, Nat.reduceAdd, Nat.reduceSub, Nat.reduceLT, Nat.reduceLeDiff, neg_true, neg_false, Bool.not_true, Bool.not_false, decide_true, decide_false]
    refine wp_fv3 (p_law_strikes L hx hy) ?_
    simp only [wp_bind, wp_c, wq_var, wp_op1, wp_op2, wp_opN, wq_ret1, wq_ret2, wq_retN, wp_nil, wp_cons, wp_dnil, wp_dcons, wp_esc, wp_escv, wp_escl, wp_tup, wp_lst, wp_bool, wp_tru, wq_retB, wp_not, wp_and, wp_or, wp_mif, wp_andV, wp_orV, wp_notV, wp_true, wp_chain, wp_retC1, wp_retC2, wp_noPart, wp_part, wp_retPart, wp_cut, wp_seq, wp_snil, wp_pass, wp_break, wp_cont, wp_never, wp_expr, wp_sif, wp_ret, wp_retv, wp_retN', wp_asg, wq_store, wp_par, wq_store2, wp_asgT, wp_call, lk_fl, lk_pl, ex_some, gSub_ii, gAdd_ii, gLt_ii, gLe_ii, gGt_ii, gGe_ii, gLt_pp, List.getD_cons_zero, List.getD_cons_succ, List.set_cons_zero, List.set_cons_succ, List.map_cons, List.map_nil, List.length_cons, List.length_nil, List.cons_append, List.nil_append, List.replicate, modeOf_un, modeOf_fl, one1, wp_if, wp_append, wp_setL, wp_intOf, unlk_n, lck_n, wq_retp, gTuple_l, gTuple_t, gList_l, gList_vl, gList_t, gLen_l, gLen_t, gInt_i, gNeg_i, Bool.false_eq_true, if_false, if_true, and_true, true_and, Nat.reduceAdd, Nat.reduceSub, Nat.reduceLT, Nat.reduceLeDiff, neg_true, neg_false, Bool.not_true, Bool.not_false, decide_true, decide_false, truF_b]
    exact ⟨fun _ => rfl, fun _ => rfl⟩
  · simp only [wp_bind, wp_c, wq_var, wp_op1, wp_op2, wp_opN, wq_ret1, wq_ret2, wq_retN, wp_nil, wp_cons, wp_dnil, wp_dcons, wp_esc, wp_escv, wp_escl, wp_tup, wp_lst, wp_bool, wp_tru, wq_retB, wp_not, wp_and, wp_or, wp_mif, wp_andV, wp_orV, wp_notV, wp_true, wp_chain, wp_retC1, wp_retC2, wp_noPart, wp_part, wp_retPart, wp_cut, wp_seq, wp_snil, wp_pass, wp_break, wp_cont, wp_never, wp_expr, wp_sif, wp_ret, wp_retv, wp_retN', wp_asg, wq_store, wp_par, wq_store2, wp_asgT, wp_call, lk_fl, lk_pl, ex_some, gSub_ii, gAdd_ii, gLt_ii, gLe_ii, gGt_ii, gGe_ii, gLt_pp, List.getD_cons_zero, List.getD_cons_succ, List.set_cons_zero, List.set_cons_succ, List.map_cons, List.map_nil, List.length_cons, List.length_nil, List.cons_append, List.nil_append, List.replicate, modeOf_un, modeOf_fl, one1, wp_if, wp_append, wp_setL, wp_intOf, unlk_n, lck_n, wq_retp, gTuple_l, gTuple_t, gList_l, gList_vl, gList_t, gLen_l, gLen_t, gInt_i, gNeg_i, Bool.false_eq_true, if_false, if_true, and_true, true_and, Nat.reduceAdd, Nat.reduceSub, Nat.reduceLT, Nat.reduceLeDiff, neg_true, neg_false, Bool.not_true, Bool.not_false, decide_true, decide_false]
    refine wp_fv2 (p_same (same_FD (n := 9) (v := l.filter (stB l x)) (by have := L.len; have := List.length_filter_le (stB l x) l; omega))) ?_
    simp only [wp_bind, wp_c, wq_var, wp_op1, wp_op2, wp_opN, wq_ret1, wq_ret2, wq_retN, wp_nil, wp_cons, wp_dnil, wp_dcons, wp_esc, wp_escv, wp_escl, wp_tup, wp_lst, wp_bool, wp_tru, wq_retB, wp_not, wp_and, wp_or, wp_mif, wp_andV, wp_orV, wp_notV, wp_true, wp_chain, wp_retC1, wp_retC2, wp_noPart, wp_part, wp_retPart, wp_cut, wp_seq, wp_snil, wp_pass, wp_break, wp_cont, wp_never, wp_expr, wp_sif, wp_ret, wp_retv, wp_retN', wp_asg, wq_store, wp_par, wq_store2, wp_asgT, wp_call, lk_fl, lk_pl, ex_some, gSub_ii, gAdd_ii, gLt_ii, gLe_ii, gGt_ii, gGe_ii, gLt_pp, List.getD_cons_zero, List.getD_cons_succ, List.set_cons_zero, List.set_cons_succ, List.map_cons, List.map_nil, List.length_cons, List.length_nil, List.cons_append, List.nil_append, List.replicate, modeOf_un, modeOf_fl, one1, wp_if, wp_append, wp_setL, wp_intOf, unlk_n, lck_n, wq_retp, gTuple_l, gTuple_t, gList_l, gList_vl, gList_t, gLen_l, gLen_t, gInt_i, gNeg_i, Bool.false_eq_true, if_false, if_true, and_true, true_and, Nat.reduceAdd, Nat.reduceSub, Nat.reduceLT, Nat.reduceLeDiff, neg_true, neg_false, Bool.not_true, Bool.not_false, decide_true, decide_false, truF_b]
theorem t7 {l : List Pt} (L : FloorOk l) {c : Pt} (C : CupOk c) {s0 s2 s4 s5 s6 s7 s8 s9 s10 s11 s12 s13 s14 s15 s16 s17 s18 s19 : Sl} (m7 : modeOf s7 = .own) : wp LT7 [s0, .fl .own (.lst (cupD c)), s2, .v (FD l), s4, s5, s6, s7, s8, s9, s10, s11, s12, s13, s14, s15, s16, s17, s18, s19] fun f ρ' => f = .nx ∧ ∃ v c', (∀ p ∈ v, p ∈ l) ∧ v.length ≤ l.length ∧ CupOk c' ∧ ρ' = [s0, .fl .own (.lst (cupD c')), s2, .v (FD l), s4, s5, s6, .v (FD v), s8, s9, s10, s11, s12, s13, s14, s15, s16, s17, s18, s19] := by
  unfold LT7
  simp only [wp_asg, wp_opN, wp_cons, wp_nil]
  refine wp_comp (wp_srcI rfl ⟨rfl, ?_⟩)
  have key : ∃ acc ρ', cloop (putv 9) (mBool (mOp2 (gEqG false) (mCall (F__law_roll) (mCons (mVar 1) (mCons (mC (.int 4)) (mNil)))) (mC (.int 0)))) (mVar 9) [9] (l.map prD) [] [s0, .fl .own (.lst (cupD c)), s2, .v (FD l), s4, s5, s6, s7, s8, .un, s10, s11, s12, s13, s14, s15, s16, s17, s18, s19] = .ok acc ρ' ∧
      ∃ v : List Pt, acc = v.map prD ∧ (∀ p ∈ v, p ∈ l) ∧ v.length ≤ l.length ∧ ∃ c2, CupOk c2 ∧ ρ' = [s0, .fl .own (.lst (cupD c2)), s2, .v (FD l), s4, s5, s6, s7, s8, .un, s10, s11, s12, s13, s14, s15, s16, s17, s18, s19] := by
    refine wp_cloop (fun todo acc ρ => ∃ v t : List Pt, acc = v.map prD ∧ todo = t.map prD ∧ (∀ p ∈ t, p ∈ l) ∧ (∀ p ∈ v, p ∈ l) ∧ v.length + t.length ≤ l.length ∧ ∃ c2, CupOk c2 ∧ ρ = [s0, .fl .own (.lst (cupD c2)), s2, .v (FD l), s4, s5, s6, s7, s8, .un, s10, s11, s12, s13, s14, s15, s16, s17, s18, s19]) ⟨[], l, rfl, rfl, (fun _ h => h), (fun _ h => nomatch h), by simp, c, C, rfl⟩ ?_ ?_
    · rintro d todo acc ρ ⟨v, t, rfl, e, ht, hv, hn, c2, C2, rfl⟩
      cases t with
      | nil => cases e
      | cons y t =>
        rw [List.map_cons] at e
        injection e with e1 e2
        subst e1; subst e2
        rw [List.length_cons] at hn
        refine ⟨[s0, .fl .own (.lst (cupD c2)), s2, .v (FD l), s4, s5, s6, s7, s8, .v (prD y), s10, s11, s12, s13, s14, s15, s16, s17, s18, s19], rfl, ?_⟩
        simp only [wp_bind, wp_c, wq_var, wp_op1, wp_op2, wp_opN, wq_ret1, wq_ret2, wq_retN, wp_nil, wp_cons, wp_dnil, wp_dcons, wp_esc, wp_escv, wp_escl, wp_tup, wp_lst, wp_bool, wp_tru, wq_retB, wp_not, wp_and, wp_or, wp_mif, wp_andV, wp_orV, wp_notV, wp_true, wp_chain, wp_retC1, wp_retC2, wp_noPart, wp_part, wp_retPart, wp_cut, wp_seq, wp_snil, wp_pass, wp_break, wp_cont, wp_never, wp_expr, wp_sif, wp_ret, wp_retv, wp_retN', wp_asg, wq_store, wp_par, wq_store2, wp_asgT, wp_call, lk_fl, lk_pl, ex_some, gSub_ii, gAdd_ii, gLt_ii, gLe_ii, gGt_ii, gGe_ii, gLt_pp, List.getD_cons_zero, List.getD_cons_succ, List.set_cons_zero, List.set_cons_succ, List.map_cons, List.map_nil, List.length_cons, List.length_nil, List.cons_append, List.nil_append, List.replicate, modeOf_un, modeOf_fl, one1, wp_if, wp_append, wp_setL, wp_intOf, unlk_n, lck_n, wq_retp, gTuple_l, gTuple_t, gList_l, gList_vl, gList_t, gLen_l, gLen_t, gInt_i, gNeg_i, Bool.false_eq_true, if_false, if_true, and_true, true_and, Nat.reduceAdd, Nat.reduceSub, Nat.reduceLT, Nat.reduceLeDiff, neg_true, neg_false, Bool.not_true, Bool.not_false, decide_true, decide_false]
        refine wp_lv1 rfl rfl (p_roll C2 (n := 4) (by decide) (by decide)) ?_
        rintro _ _ ⟨a, a0, a1, rfl, c3, C3, rfl⟩
        have hl := L.len
        by_cases h0 : a = 0
        · simp only [wp_bind, wp_c, wq_var, wp_op1, wp_op2, wp_opN, wq_ret1, wq_ret2, wq_retN, wp_nil, wp_cons, wp_dnil, wp_dcons, wp_esc, wp_escv, wp_escl, wp_tup, wp_lst, wp_bool, wp_tru, wq_retB, wp_not, wp_and, wp_or, wp_mif, wp_andV, wp_orV, wp_notV, wp_true, wp_chain, wp_retC1, wp_retC2, wp_noPart, wp_part, wp_retPart, wp_cut, wp_seq, wp_snil, wp_pass, wp_break, wp_cont, wp_never, wp_expr, wp_sif, wp_ret, wp_retv, wp_retN', wp_asg, wq_store, wp_par, wq_store2, wp_asgT, wp_call, lk_fl, lk_pl, ex_some, gSub_ii, gAdd_ii, gLt_ii, gLe_ii, gGt_ii, gGe_ii, gLt_pp, List.getD_cons_zero, List.getD_cons_succ, List.set_cons_zero, List.set_cons_succ, List.map_cons, List.map_nil, List.length_cons, List.length_nil, List.cons_append, List.nil_append, List.replicate, modeOf_un, modeOf_fl, one1, wp_if, wp_append, wp_setL, wp_intOf, unlk_n, lck_n, wq_retp, gTuple_l, gTuple_t, gList_l, gList_vl, gList_t, gLen_l, gLen_t, gInt_i, gNeg_i, Bool.false_eq_true, if_false, if_true, and_true, true_and, Nat.reduceAdd, Nat.reduceSub, Nat.reduceLT, Nat.reduceLeDiff, neg_true, neg_false, Bool.not_true, Bool.not_false, decide_true, decide_false, gEq_ii, blF, h0, bne_self_eq_false, Bool.false_bne]
          refine ⟨by rw [List.length_map]; exact Nat.lt_of_lt_of_le (by omega : v.length < 1000000) (size_ok (Nat.le_refl _)), v ++ [y], t, by rw [List.map_append]; rfl, rfl, fun p hp => ht p (List.mem_cons_of_mem _ hp), ?_, by rw [List.length_append]; simp; omega, c3, C3, rfl⟩
          intro p hp
          rcases List.mem_append.mp hp with hp | hp
          · exact hv p hp
          · rw [List.mem_singleton] at hp
            subst hp
            exact ht p List.mem_cons_self
        · simp only [wp_bind, wp_c, wq_var, wp_op1, wp_op2, wp_opN, wq_ret1, wq_ret2, wq_retN, wp_nil, wp_cons, wp_dnil, wp_dcons, wp_esc, wp_escv, wp_escl, wp_tup, wp_lst, wp_bool, wp_tru, wq_retB, wp_not, wp_and, wp_or, wp_mif, wp_andV, wp_orV, wp_notV, wp_true, wp_chain, wp_retC1, wp_retC2, wp_noPart, wp_part, wp_retPart, wp_cut, wp_seq, wp_snil, wp_pass, wp_break, wp_cont, wp_never, wp_expr, wp_sif, wp_ret, wp_retv, wp_retN', wp_asg, wq_store, wp_par, wq_store2, wp_asgT, wp_call, lk_fl, lk_pl, ex_some, gSub_ii, gAdd_ii, gLt_ii, gLe_ii, gGt_ii, gGe_ii, gLt_pp, List.getD_cons_zero, List.getD_cons_succ, List.set_cons_zero, List.set_cons_succ, List.map_cons, List.map_nil, List.length_cons, List.length_nil, List.cons_append, List.nil_append, List.replicate, modeOf_un, modeOf_fl, one1, wp_if, wp_append, wp_setL, wp_intOf, unlk_n, lck_n, wq_retp, gTuple_l, gTuple_t, gList_l, gList_vl, gList_t, gLen_l, gLen_t, gInt_i, gNeg_i, Bool.false_eq_true, if_false, if_true, and_true, true_and, Nat.reduceAdd, Nat.reduceSub, Nat.reduceLT, Nat.reduceLeDiff, neg_true, neg_false, Bool.not_true, Bool.not_false, decide_true, decide_false, gEq_ii, blF, h0, Bool.false_bne]
          exact ⟨v, t, rfl, rfl, fun p hp => ht p (List.mem_cons_of_mem _ hp), hv, by omega, c3, C3, rfl⟩
    · rintro acc ρ ⟨v, t, e, e3, _, hv, hn, c2, C2, e2⟩
      exact ⟨v, e, hv, by omega, c2, C2, e2⟩
  obtain ⟨acc, ρ', e, v, rfl, hv, hn, c2, C2, rfl⟩ := key
  refine ⟨_, _, e, ?_⟩
  simp only [wp_bind, wp_c, wq_var, wp_op1, wp_op2, wp_opN, wq_ret1, wq_ret2, wq_retN, wp_nil, wp_cons, wp_dnil, wp_dcons, wp_esc, wp_escv, wp_escl, wp_tup, wp_lst, wp_bool, wp_tru, wq_retB, wp_not, wp_and, wp_or, wp_mif, wp_andV, wp_orV, wp_notV, wp_true, wp_chain, wp_retC1, wp_retC2, wp_noPart, wp_part, wp_retPart, wp_cut, wp_seq, wp_snil, wp_pass, wp_break, wp_cont, wp_never, wp_expr, wp_sif, wp_ret, wp_retv, wp_retN', wp_asg, wq_store, wp_par, wq_store2, wp_asgT, wp_call, lk_fl, lk_pl, ex_some, gSub_ii, gAdd_ii, gLt_ii, gLe_ii, gGt_ii, gGe_ii, gLt_pp, List.getD_cons_zero, List.getD_cons_succ, List.set_cons_zero, List.set_cons_succ, List.map_cons, List.map_nil, List.length_cons, List.length_nil, List.cons_append, List.nil_append, List.replicate, modeOf_un, modeOf_fl, one1, wp_if, wp_append, wp_setL, wp_intOf, unlk_n, lck_n, wq_retp, gTuple_l, gTuple_t, gList_l, gList_vl, gList_t, gLen_l, gLen_t, gInt_i, gNeg_i, Bool.false_eq_true, if_false, if_true, and_true, true_and, Nat.reduceAdd, Nat.reduceSub, Nat.reduceLT, Nat.reduceLeDiff, neg_true, neg_false, Bool.not_true, Bool.not_false, decide_true, decide_false, unw]
  exact ⟨m7, v, c2, hv, hn, C2, rfl⟩
end K50
namespace K50
open VS
open PySem (sizeLine)
theorem cellB_pt {p : Pt} (h : 0 ≤ p.1 ∧ p.1 ≤ 59 ∧ 0 ≤ p.2 ∧ p.2 ≤ 59) : cellB (prD p) = true := by
  unfold cellB prD
  simp [tupB, fitW]
  omega
theorem quiet_one {l : List Pt} (L : FloorOk l) {y : Pt} (h : y ∈ l) : quietB l (FD [y]) = true := by
  unfold quietB
  have e : ([y] : List Pt).map prD = [prD y] := rfl
  simp only [e, List.all_cons, List.all_nil, cellB_pt (L.rng y h), Bool.and_true, Bool.true_and]
  rw [← e, prs_prD]
  simp [quietP, srtB, nb, inB, apartB, h]
theorem t8 {s0 s1 s2 s3 s4 s5 s6 s7 s8 : Sl} {z : Env} (m8 : modeOf s8 = .own) : wp LT8 (s0 :: s1 :: s2 :: s3 :: s4 :: s5 :: s6 :: s7 :: s8 :: z) fun f ρ' => f = .nx ∧ ρ' = (s0 :: s1 :: s2 :: s3 :: s4 :: s5 :: s6 :: s7 :: .v (FD []) :: z) := by
  unfold LT8
  simp only [wp_bind, wp_c, wq_var, wp_op1, wp_op2, wp_opN, wq_ret1, wq_ret2, wq_retN, wp_nil, wp_cons, wp_dnil, wp_dcons, wp_esc, wp_escv, wp_escl, wp_tup, wp_lst, wp_bool, wp_tru, wq_retB, wp_not, wp_and, wp_or, wp_mif, wp_andV, wp_orV, wp_notV, wp_true, wp_chain, wp_retC1, wp_retC2, wp_noPart, wp_part, wp_retPart, wp_cut, wp_seq, wp_snil, wp_pass, wp_break, wp_cont, wp_never, wp_expr, wp_sif, wp_ret, wp_retv, wp_retN', wp_asg, wq_store, wp_par, wq_store2, wp_asgT, wp_call, lk_fl, lk_pl, ex_some, gSub_ii, gAdd_ii, gLt_ii, gLe_ii, gGt_ii, gGe_ii, gLt_pp, List.getD_cons_zero, List.getD_cons_succ, List.set_cons_zero, List.set_cons_succ, List.map_cons, List.map_nil, List.length_cons, List.length_nil, List.cons_append, List.nil_append, List.replicate, modeOf_un, modeOf_fl, one1, wp_if, wp_append, wp_setL, wp_intOf, unlk_n, lck_n, wq_retp, gTuple_l, gTuple_t, gList_l, gList_vl, gList_t, gLen_l, gLen_t, gInt_i, gNeg_i, Bool.false_eq_true, if_false, if_true, and_true, true_and, Nat.reduceAdd, Nat.reduceSub, Nat.reduceLT, Nat.reduceLeDiff, neg_true, neg_false, Bool.not_true, Bool.not_false, decide_true, decide_false]
  exact ⟨zero_ok, ⟨m8, by simp⟩, rfl⟩
theorem t9 {l : List Pt} (L : FloorOk l) (hl : l.length ≤ 40) {s0 s1 s2 s4 s5 s6 s7 s9 : Sl} {z : Env} (m9 : modeOf s9 = .own) : wp LT9 (s0 :: s1 :: s2 :: .v (FD l) :: s4 :: s5 :: s6 :: s7 :: .v (FD []) :: s9 :: z) fun f ρ' => f = .nx ∧ ∃ v q9, (∀ p ∈ v, p ∈ l) ∧ v ≠ [] ∧ v.length ≤ l.length ∧ modeOf q9 = .own ∧ ρ' = (s0 :: s1 :: s2 :: .v (FD l) :: s4 :: s5 :: s6 :: s7 :: .v (FD v) :: q9 :: z) := by
  unfold LT9
  refine wp_for (wp_srcI rfl ?_)
  simp only [unlk_n, lck_n]
  refine wp_floop (fun todo ρ => ∃ (v t : List Pt) (q9 : Sl), todo = t.map prD ∧ (∀ p ∈ t, p ∈ l) ∧ (∀ p ∈ v, p ∈ l) ∧ (v = [] → t = l) ∧ v.length + t.length ≤ l.length ∧ modeOf q9 = .own ∧ ρ = (s0 :: s1 :: s2 :: .v (FD l) :: s4 :: s5 :: s6 :: s7 :: .v (FD v) :: q9 :: z)) ⟨[], l, s9, rfl, (fun _ h => h), (fun _ h => nomatch h), (fun _ => rfl), by simp, m9, rfl⟩ ?_ ?_
  · rintro d todo ρ ⟨v, t, q9, e, ht, hv, h0, hn, mq, rfl⟩
    cases t with
    | nil => cases e
    | cons y t =>
      rw [List.map_cons] at e
      injection e with e1 e2
      subst e1; subst e2
      rw [List.length_cons] at hn
      have hy := ht y List.mem_cons_self
      refine ⟨s0 :: s1 :: s2 :: .v (FD l) :: s4 :: s5 :: s6 :: s7 :: .v (FD v) :: .v (prD y) :: z, ?_, ?_⟩
      · unfold putv
        rw [if_pos ⟨mq, by simp⟩]
        rfl
      · have eA : gAdd (.val (FD v)) (.val (.tup [prD y])) = some (.v (FD (v ++ [y]))) := by
          rw [gAdd_tt (by rw [List.length_map]; show v.length + 1 ≤ 1000000; omega), ← show (v ++ [y]).map prD = v.map prD ++ [prD y] from by rw [List.map_append]; rfl]
        have eB : gAdd (.val (FD v)) (.val (.tup [])) = some (.v (FD v)) := by
          rw [gAdd_tt (by rw [List.length_map]; show v.length + 0 ≤ 1000000; omega), List.append_nil]
        simp only [wp_bind, wp_c, wq_var, wp_op1, wp_op2, wp_opN, wq_ret1, wq_ret2, wq_retN, wp_nil, wp_cons, wp_dnil, wp_dcons, wp_esc, wp_escv, wp_escl, wp_tup, wp_lst, wp_bool, wp_tru, wq_retB, wp_not, wp_and, wp_or, wp_mif, wp_andV, wp_orV, wp_notV, wp_true, wp_chain, wp_retC1, wp_retC2, wp_noPart, wp_part, wp_retPart, wp_cut, wp_seq, wp_snil, wp_pass, wp_break, wp_cont, wp_never, wp_expr, wp_sif, wp_ret, wp_retv, wp_retN', wp_asg, wq_store, wp_par, wq_store2, wp_asgT, wp_call, lk_fl, lk_pl, ex_some, gSub_ii, gAdd_ii, gLt_ii, gLe_ii, gGt_ii, gGe_ii, gLt_pp, List.getD_cons_zero, List.getD_cons_succ, List.set_cons_zero, List.set_cons_succ, List.map_cons, List.map_nil, List.length_cons, List.length_nil, List.cons_append, List.nil_append, List.replicate, modeOf_un, modeOf_fl, one1, wp_if, wp_append, wp_setL, wp_intOf, unlk_n, lck_n, wq_retp, gTuple_l, gTuple_t, gList_l, gList_vl, gList_t, gLen_l, gLen_t, gInt_i, gNeg_i, Bool.false_eq_true, if_false, if_true, and_true, true_and, Nat.reduceAdd, Nat.reduceSub, Nat.reduceLT, Nat.reduceLeDiff, neg_true, neg_false, Bool.not_true, Bool.not_false, decide_true, decide_false, eA]
        refine ⟨size_ok (by omega), ?_⟩
        refine wp_fv2 (p_law_is_quiet L (pairT_ok (v := v ++ [y]) (by rw [List.length_append]; simp; omega))) ?_
        simp only [wp_bind, wp_c, wq_var, wp_op1, wp_op2, wp_opN, wq_ret1, wq_ret2, wq_retN, wp_nil, wp_cons, wp_dnil, wp_dcons, wp_esc, wp_escv, wp_escl, wp_tup, wp_lst, wp_bool, wp_tru, wq_retB, wp_not, wp_and, wp_or, wp_mif, wp_andV, wp_orV, wp_notV, wp_true, wp_chain, wp_retC1, wp_retC2, wp_noPart, wp_part, wp_retPart, wp_cut, wp_seq, wp_snil, wp_pass, wp_break, wp_cont, wp_never, wp_expr, wp_sif, wp_ret, wp_retv, wp_retN', wp_asg, wq_store, wp_par, wq_store2, wp_asgT, wp_call, lk_fl, lk_pl, ex_some, gSub_ii, gAdd_ii, gLt_ii, gLe_ii, gGt_ii, gGe_ii, gLt_pp, List.getD_cons_zero, List.getD_cons_succ, List.set_cons_zero, List.set_cons_succ, List.map_cons, List.map_nil, List.length_cons, List.length_nil, List.cons_append, List.nil_append, List.replicate, modeOf_un, modeOf_fl, one1, wp_if, wp_append, wp_setL, wp_intOf, unlk_n, lck_n, wq_retp, gTuple_l, gTuple_t, gList_l, gList_vl, gList_t, gLen_l, gLen_t, gInt_i, gNeg_i, Bool.false_eq_true, if_false, if_true, and_true, true_and, Nat.reduceAdd, Nat.reduceSub, Nat.reduceLT, Nat.reduceLeDiff, neg_true, neg_false, Bool.not_true, Bool.not_false, decide_true, decide_false, truF_b]
        by_cases hq : quietB l (FD (v ++ [y])) = true
        · simp only [wp_bind, wp_c, wq_var, wp_op1, wp_op2, wp_opN, wq_ret1, wq_ret2, wq_retN, wp_nil, wp_cons, wp_dnil, wp_dcons, wp_esc, wp_escv, wp_escl, wp_tup, wp_lst, wp_bool, wp_tru, wq_retB, wp_not, wp_and, wp_or, wp_mif, wp_andV, wp_orV, wp_notV, wp_true, wp_chain, wp_retC1, wp_retC2, wp_noPart, wp_part, wp_retPart, wp_cut, wp_seq, wp_snil, wp_pass, wp_break, wp_cont, wp_never, wp_expr, wp_sif, wp_ret, wp_retv, wp_retN', wp_asg, wq_store, wp_par, wq_store2, wp_asgT, wp_call, lk_fl, lk_pl, ex_some, gSub_ii, gAdd_ii, gLt_ii, gLe_ii, gGt_ii, gGe_ii, gLt_pp, List.getD_cons_zero, List.getD_cons_succ, List.set_cons_zero, List.set_cons_succ, List.map_cons, List.map_nil, List.length_cons, List.length_nil, List.cons_append, List.nil_append, List.replicate, modeOf_un, modeOf_fl, one1, wp_if, wp_append, wp_setL, wp_intOf, unlk_n, lck_n, wq_retp, gTuple_l, gTuple_t, gList_l, gList_vl, gList_t, gLen_l, gLen_t, gInt_i, gNeg_i, Bool.false_eq_true, if_false, if_true, and_true, true_and, Nat.reduceAdd, Nat.reduceSub, Nat.reduceLT, Nat.reduceLeDiff, neg_true, neg_false, Bool.not_true, Bool.not_false, decide_true, decide_false, hq, eA]
          refine ⟨size_ok (by omega), by simp, v ++ [y], t, .v (prD y), rfl, fun p hp => ht p (List.mem_cons_of_mem _ hp), ?_, fun h => absurd h (by simp), by rw [List.length_append]; simp; omega, rfl, rfl⟩
          intro p hp
          rcases List.mem_append.mp hp with hp | hp
          · exact hv p hp
          · rw [List.mem_singleton] at hp
            subst hp
            exact hy
        · simp only [wp_bind, wp_c, wq_var, wp_op1, wp_op2, wp_opN, wq_ret1, wq_ret2, wq_retN, wp_nil, wp_cons, wp_dnil, wp_dcons, wp_esc, wp_escv, wp_escl, wp_tup, wp_lst, wp_bool, wp_tru, wq_retB, wp_not, wp_and, wp_or, wp_mif, wp_andV, wp_orV, wp_notV, wp_true, wp_chain, wp_retC1, wp_retC2, wp_noPart, wp_part, wp_retPart, wp_cut, wp_seq, wp_snil, wp_pass, wp_break, wp_cont, wp_never, wp_expr, wp_sif, wp_ret, wp_retv, wp_retN', wp_asg, wq_store, wp_par, wq_store2, wp_asgT, wp_call, lk_fl, lk_pl, ex_some, gSub_ii, gAdd_ii, gLt_ii, gLe_ii, gGt_ii, gGe_ii, gLt_pp, List.getD_cons_zero, List.getD_cons_succ, List.set_cons_zero, List.set_cons_succ, List.map_cons, List.map_nil, List.length_cons, List.length_nil, List.cons_append, List.nil_append, List.replicate, modeOf_un, modeOf_fl, one1, wp_if, wp_append, wp_setL, wp_intOf, unlk_n, lck_n, wq_retp, gTuple_l, gTuple_t, gList_l, gList_vl, gList_t, gLen_l, gLen_t, gInt_i, gNeg_i, Bool.false_eq_true, if_false, if_true, and_true, true_and, Nat.reduceAdd, Nat.reduceSub, Nat.reduceLT, Nat.reduceLeDiff, neg_true, neg_false, Bool.not_true, Bool.not_false, decide_true, decide_false, hq, eB]
          refine ⟨size_ok (by omega), by simp, v, t, .v (prD y), rfl, fun p hp => ht p (List.mem_cons_of_mem _ hp), hv, fun h => ?_, by omega, rfl, rfl⟩
          exact absurd (by rw [h]; exact quiet_one L hy) hq
  · rintro ρ ⟨v, t, q9, e, _, hv, h0, hn, mq, rfl⟩
    have ht : t = [] := List.map_eq_nil_iff.mp e.symm
    refine ⟨rfl, v, q9, hv, fun hv0 => L.ne ?_, by omega, mq, rfl⟩
    rw [← h0 hv0, ht]
end K50
namespace K50
open VS
open PySem (sizeLine)
theorem t10 {v : List Pt} (h : v ≠ []) (hv : v.length ≤ 40) {c : Pt} (C : CupOk c) {s0 s2 s3 s4 s5 s6 s7 s9 s10 : Sl} {z : Env} (m10 : modeOf s10 = .own) : wp LT10 (s0 :: .fl .own (.lst (cupD c)) :: s2 :: s3 :: s4 :: s5 :: s6 :: s7 :: .v (FD v) :: s9 :: s10 :: z) fun f ρ' => f = .nx ∧ ∃ (k : Nat) (c' : Pt), k < v.length ∧ CupOk c' ∧ ρ' = (s0 :: .fl .own (.lst (cupD c')) :: s2 :: s3 :: s4 :: s5 :: s6 :: s7 :: .v (FD v) :: s9 :: .v (.int k) :: z) := by
  have hp : 0 < v.length := List.length_pos_iff.mpr h
  unfold LT10
  simp only [wp_bind, wp_c, wq_var, wp_op1, wp_op2, wp_opN, wq_ret1, wq_ret2, wq_retN, wp_nil, wp_cons, wp_dnil, wp_dcons, wp_esc, wp_escv, wp_escl, wp_tup, wp_lst, wp_bool, wp_tru, wq_retB, wp_not, wp_and, wp_or, wp_mif, wp_andV, wp_orV, wp_notV, wp_true, wp_chain, wp_retC1, wp_retC2, wp_noPart, wp_part, wp_retPart, wp_cut, wp_seq, wp_snil, wp_pass, wp_break, wp_cont, wp_never, wp_expr, wp_sif, wp_ret, wp_retv, wp_retN', wp_asg, wq_store, wp_par, wq_store2, wp_asgT, wp_call, lk_fl, lk_pl, ex_some, gSub_ii, gAdd_ii, gLt_ii, gLe_ii, gGt_ii, gGe_ii, gLt_pp, List.getD_cons_zero, List.getD_cons_succ, List.set_cons_zero, List.set_cons_succ, List.map_cons, List.map_nil, List.length_cons, List.length_nil, List.cons_append, List.nil_append, List.replicate, modeOf_un, modeOf_fl, one1, wp_if, wp_append, wp_setL, wp_intOf, unlk_n, lck_n, wq_retp, gTuple_l, gTuple_t, gList_l, gList_vl, gList_t, gLen_l, gLen_t, gInt_i, gNeg_i, Bool.false_eq_true, if_false, if_true, and_true, true_and, Nat.reduceAdd, Nat.reduceSub, Nat.reduceLT, Nat.reduceLeDiff, neg_true, neg_false, Bool.not_true, Bool.not_false, decide_true, decide_false, List.length_map]
  refine wp_lv1 rfl rfl (p_roll C (n := v.length) (by omega) (by omega)) ?_
  rintro _ _ ⟨a, a0, a1, rfl, c3, C3, rfl⟩
  simp only [wp_bind, wp_c, wq_var, wp_op1, wp_op2, wp_opN, wq_ret1, wq_ret2, wq_retN, wp_nil, wp_cons, wp_dnil, wp_dcons, wp_esc, wp_escv, wp_escl, wp_tup, wp_lst, wp_bool, wp_tru, wq_retB, wp_not, wp_and, wp_or, wp_mif, wp_andV, wp_orV, wp_notV, wp_true, wp_chain, wp_retC1, wp_retC2, wp_noPart, wp_part, wp_retPart, wp_cut, wp_seq, wp_snil, wp_pass, wp_break, wp_cont, wp_never, wp_expr, wp_sif, wp_ret, wp_retv, wp_retN', wp_asg, wq_store, wp_par, wq_store2, wp_asgT, wp_call, lk_fl, lk_pl, ex_some, gSub_ii, gAdd_ii, gLt_ii, gLe_ii, gGt_ii, gGe_ii, gLt_pp, List.getD_cons_zero, List.getD_cons_succ, List.set_cons_zero, List.set_cons_succ, List.map_cons, List.map_nil, List.length_cons, List.length_nil, List.cons_append, List.nil_append, List.replicate, modeOf_un, modeOf_fl, one1, wp_if, wp_append, wp_setL, wp_intOf, unlk_n, lck_n, wq_retp, gTuple_l, gTuple_t, gList_l, gList_vl, gList_t, gLen_l, gLen_t, gInt_i, gNeg_i, Bool.false_eq_true, if_false, if_true, and_true, true_and, Nat.reduceAdd, Nat.reduceSub, Nat.reduceLT, Nat.reduceLeDiff, neg_true, neg_false, Bool.not_true, Bool.not_false, decide_true, decide_false]
  obtain ⟨k, rfl⟩ := Int.eq_ofNat_of_zero_le a0
  exact ⟨⟨m10, by simp⟩, k, c3, by omega, C3, rfl⟩
def vals (l w v : List Pt) (x : Pt) : List D := [FD w, FD v, FD v.reverse, FD (v ++ v.drop (v.length - 1)), .lst (v.map prD), .tup [], .non, .int 5, FD l, .tup [prD x], .tup [.tup [.int 59, .int 59]], .str "00"]
theorem t11 {l w v : List Pt} {x : Pt} (h : v ≠ []) (hv : v.length ≤ 40) {s0 s1 s2 s4 s5 s9 s10 s11 : Sl} {z : Env} (m11 : modeOf s11 = .own) : wp LT11 (s0 :: s1 :: s2 :: .v (FD l) :: s4 :: s5 :: .v (prD x) :: .v (FD w) :: .v (FD v) :: s9 :: s10 :: s11 :: z) fun f ρ' => f = .nx ∧ ρ' = (s0 :: s1 :: s2 :: .v (FD l) :: s4 :: s5 :: .v (prD x) :: .v (FD w) :: .v (FD v) :: s9 :: s10 :: .fl .own (.lst (vals l w v x)) :: z) := by
  unfold LT11
  have eR : gRev (.val (FD v)) = some (.v (FD v.reverse)) := by
    rw [show FD v.reverse = .tup (v.map prD).reverse from by rw [← List.map_reverse]]; rfl
  have eC : gCut (some (-1)) none (.val (FD v)) = some (.v (FD (v.drop (v.length - 1)))) := by
    rw [gCut_t, cut_last (fun e => h (List.map_eq_nil_iff.mp e)), List.length_map, ← List.map_drop]
  have eA : gAdd (.val (FD v)) (.val (FD (v.drop (v.length - 1)))) = some (.v (FD (v ++ v.drop (v.length - 1)))) := by
    rw [gAdd_tt (by rw [List.length_map, List.length_map, List.length_drop]; show _ ≤ 1000000; omega), ← List.map_append]
  simp only [wp_bind, wp_c, wq_var, wp_op1, wp_op2, wp_opN, wq_ret1, wq_ret2, wq_retN, wp_nil, wp_cons, wp_dnil, wp_dcons, wp_esc, wp_escv, wp_escl, wp_tup, wp_lst, wp_bool, wp_tru, wq_retB, wp_not, wp_and, wp_or, wp_mif, wp_andV, wp_orV, wp_notV, wp_true, wp_chain, wp_retC1, wp_retC2, wp_noPart, wp_part, wp_retPart, wp_cut, wp_seq, wp_snil, wp_pass, wp_break, wp_cont, wp_never, wp_expr, wp_sif, wp_ret, wp_retv, wp_retN', wp_asg, wq_store, wp_par, wq_store2, wp_asgT, wp_call, lk_fl, lk_pl, ex_some, gSub_ii, gAdd_ii, gLt_ii, gLe_ii, gGt_ii, gGe_ii, gLt_pp, List.getD_cons_zero, List.getD_cons_succ, List.set_cons_zero, List.set_cons_succ, List.map_cons, List.map_nil, List.length_cons, List.length_nil, List.cons_append, List.nil_append, List.replicate, modeOf_un, modeOf_fl, one1, wp_if, wp_append, wp_setL, wp_intOf, unlk_n, lck_n, wq_retp, gTuple_l, gTuple_t, gList_l, gList_vl, gList_t, gLen_l, gLen_t, gInt_i, gNeg_i, Bool.false_eq_true, if_false, if_true, and_true, true_and, Nat.reduceAdd, Nat.reduceSub, Nat.reduceLT, Nat.reduceLeDiff, neg_true, neg_false, Bool.not_true, Bool.not_false, decide_true, decide_false, eR, eC, eA]
  exact ⟨zero_ok, one_ok, two_ok, one_ok, size_ok (by omega), ⟨m11, by omega⟩, rfl⟩
end K50
namespace K50
open VS
open PySem (sizeLine)
def odds (x : Pt) : List D := [.non, .tup [.int 1], .lst [.int 0, .int 0], .tup [.bl true, .int 0], .tup [.int 0, .int 60], .tup [.int (-1), .int 0], .tup [.int 0, .str "0"], prD x]
def putO (v : List Pt) (k : Nat) (o : D) : D := .tup ((v.take k).map prD ++ [o] ++ (v.drop (k + 1)).map prD)
def vals2 (l w v : List Pt) (x : Pt) (k : Nat) : List D := vals l w v x ++ (odds x).map (putO v k)
theorem odds_ok {x : Pt} {o : D} (h : o ∈ odds x) : shp 11 o = true ∧ ∀ es, o = .tup es → es.length ≤ 1000 := by
  simp only [odds, List.mem_cons, List.not_mem_nil, or_false] at h
  rcases h with rfl | rfl | rfl | rfl | rfl | rfl | rfl | rfl
  all_goals exact ⟨by first | rfl | exact shp_prD | decide +kernel, fun es e => by cases e <;> simp⟩
theorem shps_app {n : Nat} : ∀ {a b : List D}, shps n a = true → shps n b = true → shps n (a ++ b) = true
  | [], b, _, h => h
  | d :: a, b, h1, h => by
    have h1' : (shp n d && shps n a) = true := h1
    rw [Bool.and_eq_true] at h1'
    show (shp n d && shps n (a ++ b)) = true
    rw [h1'.1, shps_app h1'.2 h]; rfl
theorem putO_ok {v : List Pt} (hv : v.length ≤ 40) {k : Nat} {x : Pt} {o : D} (h : o ∈ odds x) : VOk (putO v k o) := by
  obtain ⟨h1, h2⟩ := odds_ok h
  refine ⟨?_, fun ds e => ?_, fun ds e es he => ?_⟩
  · show shps 11 _ = true
    refine shps_app (shps_app (shps_prD (n := 10)) ?_) (shps_prD (n := 10))
    show (shp 11 o && true) = true
    rw [h1]; rfl
  · cases e
    simp only [List.length_append, List.length_map, List.length_take, List.length_drop, List.length_cons, List.length_nil]
    omega
  · cases e
    rcases List.mem_append.mp he with he | he
    · rcases List.mem_append.mp he with he | he
      · obtain ⟨p, _, e2⟩ := List.mem_map.mp he
        cases e2; simp
      · rw [List.mem_singleton] at he
        exact h2 es he.symm
    · obtain ⟨p, _, e2⟩ := List.mem_map.mp he
      cases e2; simp
theorem vals_ok {l w v : List Pt} {x : Pt} (hl : l.length ≤ 40) (hw : w.length ≤ 40) (hv : v.length ≤ 40) {d : D} (h : d ∈ vals l w v x) : VOk d := by
  simp only [vals, List.mem_cons, List.not_mem_nil, or_false] at h
  rcases h with rfl | rfl | rfl | rfl | rfl | rfl | rfl | rfl | rfl | rfl | rfl | rfl
  · exact pairT_ok (by omega)
  · exact pairT_ok (by omega)
  · exact pairT_ok (by rw [List.length_reverse]; omega)
  · exact pairT_ok (by rw [List.length_append, List.length_drop]; omega)
  · exact ⟨shp_lstP, fun _ e => (nomatch e), fun _ e => (nomatch e)⟩
  · exact pairT_ok (v := []) (by simp)
  · exact ⟨rfl, fun _ e => (nomatch e), fun _ e => (nomatch e)⟩
  · exact ⟨rfl, fun _ e => (nomatch e), fun _ e => (nomatch e)⟩
  · exact pairT_ok (by omega)
  · exact pairT_ok (v := [x]) (by simp)
  · exact pairT_ok (v := [(59, 59)]) (by simp)
  · exact ⟨by decide +kernel, fun _ e => (nomatch e), fun _ e => (nomatch e)⟩
end K50
namespace K50
open VS
open PySem (sizeLine)
theorem wp_srcF {ma : M RV} {ρ : Env} {ds : List D} {P : Src → Env → Prop} (h : wp ma ρ fun r ρ' => r = .fl (.lst ds) ∧ P ⟨ds, none⟩ ρ') : wp (mSrcA ma) ρ P := wp_srcA (wp_imp h fun r ρ' q => .inr (.inr (.inl ⟨ds, q⟩)))
theorem t12 {l w v : List Pt} {x : Pt} (L : FloorOk l) (hl : l.length ≤ 40) (hw : w.length ≤ 40) (hv : v.length ≤ 40) {k : Nat} (hk : k < v.length) {s0 s1 s2 s4 s5 s9 s12 s13 s14 s15 s16 s17 s18 s19 : Sl} (m12 : modeOf s12 = .own) : wp LT12 [s0, s1, s2, .v (FD l), s4, s5, .v (prD x), .v (FD w), .v (FD v), s9, .v (.int k), .fl .own (.lst (vals l w v x)), s12, s13, s14, s15, s16, s17, s18, s19] fun f ρ' => f = .nx ∧ ∃ q12, modeOf q12 = .own ∧ ρ' = [s0, s1, s2, .v (FD l), s4, s5, .v (prD x), .v (FD w), .v (FD v), s9, .v (.int k), .fl .own (.lst (vals l w v x)), q12, s13, s14, s15, s16, s17, s18, s19] := by
  unfold LT12
  refine wp_for ?_
  refine wp_srcF (ds := vals2 l w v x k) ?_
  have eC : ∀ (a b : Option Int), gCut a b (.val (FD v)) = some (.v (.tup (cutD (v.map prD) a b))) := fun a b => gCut_t
  have c1 : cutD (v.map prD) none (some (k : Int)) = (v.take k).map prD := by rw [cut_to, List.map_take]
  have c2 : cutD (v.map prD) (some ((k : Int) + 1)) none = (v.drop (k + 1)).map prD := by
    rw [show (k : Int) + 1 = ((k + 1 : Nat) : Int) from rfl, cut_from, List.map_drop]
  simp only [wp_op2, wq_var, List.getD_cons_zero, List.getD_cons_succ]
  refine wp_compM (L := odds x) (g := id) (putO v k) (size_ok (show 8 ≤ _ by decide)) (wp_srcT (ds := odds x) ?_)
  simp only [wp_tup, wp_dcons, wp_dnil, wp_esc, wp_escv, wp_c, wp_lst, wp_escl, wq_var, List.getD_cons_zero, List.getD_cons_succ, wp_op1, wq_ret1, lk_fl, ex_some, gNeg_i]
  have sz : ∀ {n : Nat}, n ≤ 1000 → n ≤ sizeLine := fun h => size_ok (by omega)
  refine ⟨one_ok, two_ok, two_ok, two_ok, two_ok, two_ok, sz (show 8 ≤ 1000 by decide), rfl, by rw [List.map_id], fun o ho => ?_, ?_⟩
  · refine ⟨[s0, s1, s2, .v (FD l), s4, s5, .v (prD x), .v (FD w), .v (FD v), s9, .v (.int k), .fl .own (.lst (vals l w v x)), s12, s13, s14, s15, s16, s17, .v o, s19], rfl, ?_⟩
    have e1 : gAdd (.val (.tup ((v.take k).map prD))) (.val (.tup [o])) = some (.v (.tup ((v.take k).map prD ++ [o]))) := gAdd_tt (by rw [List.length_map, List.length_take]; show _ + 1 ≤ 1000000; omega)
    have e2 : gAdd (.val (.tup ((v.take k).map prD ++ [o]))) (.val (.tup ((v.drop (k + 1)).map prD))) = some (.v (putO v k o)) := gAdd_tt (by rw [List.length_append, List.length_map, List.length_take, List.length_map, List.length_drop]; show _ + 1 + _ ≤ 1000000; omega)
    simp only [wp_bind, wp_c, wq_var, wp_op1, wp_op2, wp_opN, wq_ret1, wq_ret2, wq_retN, wp_nil, wp_cons, wp_dnil, wp_dcons, wp_esc, wp_escv, wp_escl, wp_tup, wp_lst, wp_bool, wp_tru, wq_retB, wp_not, wp_and, wp_or, wp_mif, wp_andV, wp_orV, wp_notV, wp_true, wp_chain, wp_retC1, wp_retC2, wp_noPart, wp_part, wp_retPart, wp_cut, wp_seq, wp_snil, wp_pass, wp_break, wp_cont, wp_never, wp_expr, wp_sif, wp_ret, wp_retv, wp_retN', wp_asg, wq_store, wp_par, wq_store2, wp_asgT, wp_call, lk_fl, lk_pl, ex_some, gSub_ii, gAdd_ii, gLt_ii, gLe_ii, gGt_ii, gGe_ii, gLt_pp, List.getD_cons_zero, List.getD_cons_succ, List.set_cons_zero, List.set_cons_succ, List.map_cons, List.map_nil, List.length_cons, List.length_nil, List.cons_append, List.nil_append, List.replicate, modeOf_un, modeOf_fl, one1, wp_if, wp_append, wp_setL, wp_intOf, unlk_n, lck_n, wq_retp, gTuple_l, gTuple_t, gList_l, gList_vl, gList_t, gLen_l, gLen_t, gInt_i, gNeg_i, Bool.false_eq_true, if_false, if_true, and_true, true_and, Nat.reduceAdd, Nat.reduceSub, Nat.reduceLT, Nat.reduceLeDiff, neg_true, neg_false, Bool.not_true, Bool.not_false, decide_true, decide_false, eC, c1, c2, e1, e2]
    exact ⟨one_ok, rfl⟩
  · have eV : gAdd (.lst (vals l w v x)) (.lst ((odds x).map (putO v k))) = some (.fl (.lst (vals2 l w v x k))) := gAdd_ll rfl rfl (by rw [List.length_map]; show 12 + 8 ≤ 1000000; omega)
    simp only [wp_bind, wp_c, wq_var, wp_op1, wp_op2, wp_opN, wq_ret1, wq_ret2, wq_retN, wp_nil, wp_cons, wp_dnil, wp_dcons, wp_esc, wp_escv, wp_escl, wp_tup, wp_lst, wp_bool, wp_tru, wq_retB, wp_not, wp_and, wp_or, wp_mif, wp_andV, wp_orV, wp_notV, wp_true, wp_chain, wp_retC1, wp_retC2, wp_noPart, wp_part, wp_retPart, wp_cut, wp_seq, wp_snil, wp_pass, wp_break, wp_cont, wp_never, wp_expr, wp_sif, wp_ret, wp_retv, wp_retN', wp_asg, wq_store, wp_par, wq_store2, wp_asgT, wp_call, lk_fl, lk_pl, ex_some, gSub_ii, gAdd_ii, gLt_ii, gLe_ii, gGt_ii, gGe_ii, gLt_pp, List.getD_cons_zero, List.getD_cons_succ, List.set_cons_zero, List.set_cons_succ, List.map_cons, List.map_nil, List.length_cons, List.length_nil, List.cons_append, List.nil_append, List.replicate, modeOf_un, modeOf_fl, one1, wp_if, wp_append, wp_setL, wp_intOf, unlk_n, lck_n, wq_retp, gTuple_l, gTuple_t, gList_l, gList_vl, gList_t, gLen_l, gLen_t, gInt_i, gNeg_i, Bool.false_eq_true, if_false, if_true, and_true, true_and, Nat.reduceAdd, Nat.reduceSub, Nat.reduceLT, Nat.reduceLeDiff, neg_true, neg_false, Bool.not_true, Bool.not_false, decide_true, decide_false, eV]
    refine wp_floop (fun todo ρ => (∀ d ∈ todo, VOk d) ∧ ∃ q12, modeOf q12 = .own ∧ ρ = [s0, s1, s2, .v (FD l), s4, s5, .v (prD x), .v (FD w), .v (FD v), s9, .v (.int k), .fl .own (.lst (vals l w v x)), q12, s13, s14, s15, s16, s17, s18, s19]) ⟨fun d hd => ?_, s12, m12, rfl⟩ ?_ ?_
    · rcases List.mem_append.mp hd with hd | hd
      · exact vals_ok hl hw hv hd
      · obtain ⟨o, ho, rfl⟩ := List.mem_map.mp hd
        exact putO_ok hv ho
    · rintro d todo ρ ⟨hd, q12, mq, rfl⟩
      refine ⟨[s0, s1, s2, .v (FD l), s4, s5, .v (prD x), .v (FD w), .v (FD v), s9, .v (.int k), .fl .own (.lst (vals l w v x)), .v d, s13, s14, s15, s16, s17, s18, s19], ?_, ?_⟩
      · unfold putv
        rw [if_pos ⟨mq, by simp⟩]
        rfl
      · have V := hd d List.mem_cons_self
        rw [wp_sif]
        simp only [wp_not, wp_tru, wp_call, wp_cons, wp_nil, wq_var, List.getD_cons_zero, List.getD_cons_succ]
        refine wp_fv2 (p_is_quiet L V) ?_
        refine wp_fv2 (p_law_is_quiet L V) ?_
        refine wp_fv2 (p_same (.bl _ _)) ?_
        simp only [wp_bind, wp_c, wq_var, wp_op1, wp_op2, wp_opN, wq_ret1, wq_ret2, wq_retN, wp_nil, wp_cons, wp_dnil, wp_dcons, wp_esc, wp_escv, wp_escl, wp_tup, wp_lst, wp_bool, wp_tru, wq_retB, wp_not, wp_and, wp_or, wp_mif, wp_andV, wp_orV, wp_notV, wp_true, wp_chain, wp_retC1, wp_retC2, wp_noPart, wp_part, wp_retPart, wp_cut, wp_seq, wp_snil, wp_pass, wp_break, wp_cont, wp_never, wp_expr, wp_sif, wp_ret, wp_retv, wp_retN', wp_asg, wq_store, wp_par, wq_store2, wp_asgT, wp_call, lk_fl, lk_pl, ex_some, gSub_ii, gAdd_ii, gLt_ii, gLe_ii, gGt_ii, gGe_ii, gLt_pp, List.getD_cons_zero, List.getD_cons_succ, List.set_cons_zero, List.set_cons_succ, List.map_cons, List.map_nil, List.length_cons, List.length_nil, List.cons_append, List.nil_append, List.replicate, modeOf_un, modeOf_fl, one1, wp_if, wp_append, wp_setL, wp_intOf, unlk_n, lck_n, wq_retp, gTuple_l, gTuple_t, gList_l, gList_vl, gList_t, gLen_l, gLen_t, gInt_i, gNeg_i, Bool.false_eq_true, if_false, if_true, and_true, true_and, Nat.reduceAdd, Nat.reduceSub, Nat.reduceLT, Nat.reduceLeDiff, neg_true, neg_false, Bool.not_true, Bool.not_false, decide_true, decide_false, truF_b]
        exact ⟨fun d' h' => hd d' (List.mem_cons_of_mem _ h'), _, rfl, rfl⟩
    · rintro ρ ⟨_, q12, mq, rfl⟩
      exact ⟨rfl, q12, mq, rfl⟩
end K50
namespace K50
open VS
open PySem (sizeLine)
def Inv (s0 : Sl) (ρ : Env) : Prop := ∃ (c : Pt) (s2 s3 s4 s5 s6 s7 s8 s9 s10 s11 s12 : Sl), CupOk c ∧ (modeOf s2 = .own ∧ modeOf s3 = .own ∧ modeOf s4 = .own ∧ modeOf s5 = .own ∧ modeOf s6 = .own ∧ modeOf s7 = .own ∧ modeOf s8 = .own ∧ modeOf s9 = .own ∧ modeOf s10 = .own ∧ modeOf s11 = .own ∧ modeOf s12 = .own) ∧ ρ = [s0, .fl .own (.lst (cupD c)), s2, s3, s4, s5, s6, s7, s8, s9, s10, s11, s12, .un, .un, .un, .un, .un, .un, .un]
theorem turn_ok {s0 : Sl} {ρ : Env} (h : Inv s0 ρ) : wp LTB ρ fun f ρ' => f = .nx ∧ Inv s0 ρ' := by
  obtain ⟨c, s2, s3, s4, s5, s6, s7, s8, s9, s10, s11, s12, C, ⟨m2, m3, m4, m5, m6, m7, m8, m9, m10, m11, m12⟩, rfl⟩ := h
  unfold LTB
  refine wp_step _ (t1 C m3) ?_
  rintro _ ⟨l, c1, L, hl, C1, rfl⟩
  refine wp_step _ (t2 L m4) ?_
  rintro _ rfl
  refine wp_step _ (t3 L) ?_
  rintro _ rfl
  refine wp_step _ (t4 L m5) ?_
  rintro _ ⟨q5, m5, rfl⟩
  refine wp_step _ (t5 L C1 m6) ?_
  rintro _ ⟨x, c2, hx, C2, rfl⟩
  refine wp_step _ (t6 L hx) ?_
  rintro _ rfl
  refine wp_step _ (t7 L C2 m7) ?_
  rintro _ ⟨w, c3, hw, hwl, C3, rfl⟩
  refine wp_step _ (t8 m8) ?_
  rintro _ rfl
  refine wp_step _ (t9 L hl m9) ?_
  rintro _ ⟨v, q9, hv, hne, hvl, m9, rfl⟩
  refine wp_step _ (t10 hne (by omega) C3 m10) ?_
  rintro _ ⟨k, c4, hk, C4, rfl⟩
  refine wp_step _ (t11 hne (by omega) m11) ?_
  rintro _ rfl
  refine wp_imp (t12 L hl (by omega) (by omega) hk m12) ?_
  rintro _ _ ⟨rfl, q12, m12, rfl⟩
  exact ⟨rfl, c4, _, _, _, _, _, _, _, _, _, _, _, C4, ⟨m2, rfl, rfl, m5, rfl, rfl, rfl, m9, rfl, rfl, m12⟩, rfl⟩
end K50
namespace K50
open VS
open PySem (sizeLine)
theorem a1 {ns : List Int} (h : ns.length ≤ 63) : wp LA1 (.v (.lst (ns.map .int)) :: List.replicate 19 .un) fun f ρ' => f = .nx ∧ Inv (.v (.lst (ns.map .int))) ρ' := by
  obtain ⟨c, C, hc⟩ := p_law_cup h
  unfold LA1
  simp only [wp_bind, wp_c, wq_var, wp_op1, wp_op2, wp_opN, wq_ret1, wq_ret2, wq_retN, wp_nil, wp_cons, wp_dnil, wp_dcons, wp_esc, wp_escv, wp_escl, wp_tup, wp_lst, wp_bool, wp_tru, wq_retB, wp_not, wp_and, wp_or, wp_mif, wp_andV, wp_orV, wp_notV, wp_true, wp_chain, wp_retC1, wp_retC2, wp_noPart, wp_part, wp_retPart, wp_cut, wp_seq, wp_snil, wp_pass, wp_break, wp_cont, wp_never, wp_expr, wp_sif, wp_ret, wp_retv, wp_retN', wp_asg, wq_store, wp_par, wq_store2, wp_asgT, wp_call, lk_fl, lk_pl, ex_some, gSub_ii, gAdd_ii, gLt_ii, gLe_ii, gGt_ii, gGe_ii, gLt_pp, List.getD_cons_zero, List.getD_cons_succ, List.set_cons_zero, List.set_cons_succ, List.map_cons, List.map_nil, List.length_cons, List.length_nil, List.cons_append, List.nil_append, List.replicate, modeOf_un, modeOf_fl, one1, wp_if, wp_append, wp_setL, wp_intOf, unlk_n, lck_n, wq_retp, gTuple_l, gTuple_t, gList_l, gList_vl, gList_t, gLen_l, gLen_t, gInt_i, gNeg_i, Bool.false_eq_true, if_false, if_true, and_true, true_and, Nat.reduceAdd, Nat.reduceSub, Nat.reduceLT, Nat.reduceLeDiff, neg_true, neg_false, Bool.not_true, Bool.not_false, decide_true, decide_false]
  refine wp_fv1 hc ?_
  simp only [wp_bind, wp_c, wq_var, wp_op1, wp_op2, wp_opN, wq_ret1, wq_ret2, wq_retN, wp_nil, wp_cons, wp_dnil, wp_dcons, wp_esc, wp_escv, wp_escl, wp_tup, wp_lst, wp_bool, wp_tru, wq_retB, wp_not, wp_and, wp_or, wp_mif, wp_andV, wp_orV, wp_notV, wp_true, wp_chain, wp_retC1, wp_retC2, wp_noPart, wp_part, wp_retPart, wp_cut, wp_seq, wp_snil, wp_pass, wp_break, wp_cont, wp_never, wp_expr, wp_sif, wp_ret, wp_retv, wp_retN', wp_asg, wq_store, wp_par, wq_store2, wp_asgT, wp_call, lk_fl, lk_pl, ex_some, gSub_ii, gAdd_ii, gLt_ii, gLe_ii, gGt_ii, gGe_ii, gLt_pp, List.getD_cons_zero, List.getD_cons_succ, List.set_cons_zero, List.set_cons_succ, List.map_cons, List.map_nil, List.length_cons, List.length_nil, List.cons_append, List.nil_append, List.replicate, modeOf_un, modeOf_fl, one1, wp_if, wp_append, wp_setL, wp_intOf, unlk_n, lck_n, wq_retp, gTuple_l, gTuple_t, gList_l, gList_vl, gList_t, gLen_l, gLen_t, gInt_i, gNeg_i, Bool.false_eq_true, if_false, if_true, and_true, true_and, Nat.reduceAdd, Nat.reduceSub, Nat.reduceLT, Nat.reduceLeDiff, neg_true, neg_false, Bool.not_true, Bool.not_false, decide_true, decide_false]
  exact ⟨c, .un, .un, .un, .un, .un, .un, .un, .un, .un, .un, .un, C, ⟨rfl, rfl, rfl, rfl, rfl, rfl, rfl, rfl, rfl, rfl, rfl⟩, rfl⟩
theorem a2 {s0 : Sl} {ρ : Env} (h : Inv s0 ρ) : wp LA2 ρ fun f ρ' => f = .nx ∧ Inv s0 ρ' := by
  unfold LA2
  simp only [wp_bind, wp_c, wq_var, wp_op1, wp_op2, wp_opN, wq_ret1, wq_ret2, wq_retN, wp_nil, wp_cons, wp_dnil, wp_dcons, wp_esc, wp_escv, wp_escl, wp_tup, wp_lst, wp_bool, wp_tru, wq_retB, wp_not, wp_and, wp_or, wp_mif, wp_andV, wp_orV, wp_notV, wp_true, wp_chain, wp_retC1, wp_retC2, wp_noPart, wp_part, wp_retPart, wp_cut, wp_seq, wp_snil, wp_pass, wp_break, wp_cont, wp_never, wp_expr, wp_sif, wp_ret, wp_retv, wp_retN', wp_asg, wq_store, wp_par, wq_store2, wp_asgT, wp_call, lk_fl, lk_pl, ex_some, gSub_ii, gAdd_ii, gLt_ii, gLe_ii, gGt_ii, gGe_ii, gLt_pp, List.getD_cons_zero, List.getD_cons_succ, List.set_cons_zero, List.set_cons_succ, List.map_cons, List.map_nil, List.length_cons, List.length_nil, List.cons_append, List.nil_append, List.replicate, modeOf_un, modeOf_fl, one1, wp_if, wp_append, wp_setL, wp_intOf, unlk_n, lck_n, wq_retp, gTuple_l, gTuple_t, gList_l, gList_vl, gList_t, gLen_l, gLen_t, gInt_i, gNeg_i, Bool.false_eq_true, if_false, if_true, and_true, true_and, Nat.reduceAdd, Nat.reduceSub, Nat.reduceLT, Nat.reduceLeDiff, neg_true, neg_false, Bool.not_true, Bool.not_false, decide_true, decide_false]
  refine wp_fv0 p_law_rows ?_
  simp only [wp_bind, wp_c, wq_var, wp_op1, wp_op2, wp_opN, wq_ret1, wq_ret2, wq_retN, wp_nil, wp_cons, wp_dnil, wp_dcons, wp_esc, wp_escv, wp_escl, wp_tup, wp_lst, wp_bool, wp_tru, wq_retB, wp_not, wp_and, wp_or, wp_mif, wp_andV, wp_orV, wp_notV, wp_true, wp_chain, wp_retC1, wp_retC2, wp_noPart, wp_part, wp_retPart, wp_cut, wp_seq, wp_snil, wp_pass, wp_break, wp_cont, wp_never, wp_expr, wp_sif, wp_ret, wp_retv, wp_retN', wp_asg, wq_store, wp_par, wq_store2, wp_asgT, wp_call, lk_fl, lk_pl, ex_some, gSub_ii, gAdd_ii, gLt_ii, gLe_ii, gGt_ii, gGe_ii, gLt_pp, List.getD_cons_zero, List.getD_cons_succ, List.set_cons_zero, List.set_cons_succ, List.map_cons, List.map_nil, List.length_cons, List.length_nil, List.cons_append, List.nil_append, List.replicate, modeOf_un, modeOf_fl, one1, wp_if, wp_append, wp_setL, wp_intOf, unlk_n, lck_n, wq_retp, gTuple_l, gTuple_t, gList_l, gList_vl, gList_t, gLen_l, gLen_t, gInt_i, gNeg_i, Bool.false_eq_true, if_false, if_true, and_true, true_and, Nat.reduceAdd, Nat.reduceSub, Nat.reduceLT, Nat.reduceLeDiff, neg_true, neg_false, Bool.not_true, Bool.not_false, decide_true, decide_false, truF_b]
  exact h
theorem a3 {s0 : Sl} {ρ : Env} (h : Inv s0 ρ) : wp LA3 ρ fun f ρ' => f = .nx ∧ Inv s0 ρ' := by
  unfold LA3
  refine wp_for ?_
  simp only [wp_bind, wp_c, wq_var, wp_op1, wp_op2, wp_opN, wq_ret1, wq_ret2, wq_retN, wp_nil, wp_cons, wp_dnil, wp_dcons, wp_esc, wp_escv, wp_escl, wp_tup, wp_lst, wp_bool, wp_tru, wq_retB, wp_not, wp_and, wp_or, wp_mif, wp_andV, wp_orV, wp_notV, wp_true, wp_chain, wp_retC1, wp_retC2, wp_noPart, wp_part, wp_retPart, wp_cut, wp_seq, wp_snil, wp_pass, wp_break, wp_cont, wp_never, wp_expr, wp_sif, wp_ret, wp_retv, wp_retN', wp_asg, wq_store, wp_par, wq_store2, wp_asgT, wp_call, lk_fl, lk_pl, ex_some, gSub_ii, gAdd_ii, gLt_ii, gLe_ii, gGt_ii, gGe_ii, gLt_pp, List.getD_cons_zero, List.getD_cons_succ, List.set_cons_zero, List.set_cons_succ, List.map_cons, List.map_nil, List.length_cons, List.length_nil, List.cons_append, List.nil_append, List.replicate, modeOf_un, modeOf_fl, one1, wp_if, wp_append, wp_setL, wp_intOf, unlk_n, lck_n, wq_retp, gTuple_l, gTuple_t, gList_l, gList_vl, gList_t, gLen_l, gLen_t, gInt_i, gNeg_i, Bool.false_eq_true, if_false, if_true, and_true, true_and, Nat.reduceAdd, Nat.reduceSub, Nat.reduceLT, Nat.reduceLeDiff, neg_true, neg_false, Bool.not_true, Bool.not_false, decide_true, decide_false]
  refine wp_srcR1 (by decide) ?_
  simp only [wp_bind, wp_c, wq_var, wp_op1, wp_op2, wp_opN, wq_ret1, wq_ret2, wq_retN, wp_nil, wp_cons, wp_dnil, wp_dcons, wp_esc, wp_escv, wp_escl, wp_tup, wp_lst, wp_bool, wp_tru, wq_retB, wp_not, wp_and, wp_or, wp_mif, wp_andV, wp_orV, wp_notV, wp_true, wp_chain, wp_retC1, wp_retC2, wp_noPart, wp_part, wp_retPart, wp_cut, wp_seq, wp_snil, wp_pass, wp_break, wp_cont, wp_never, wp_expr, wp_sif, wp_ret, wp_retv, wp_retN', wp_asg, wq_store, wp_par, wq_store2, wp_asgT, wp_call, lk_fl, lk_pl, ex_some, gSub_ii, gAdd_ii, gLt_ii, gLe_ii, gGt_ii, gGe_ii, gLt_pp, List.getD_cons_zero, List.getD_cons_succ, List.set_cons_zero, List.set_cons_succ, List.map_cons, List.map_nil, List.length_cons, List.length_nil, List.cons_append, List.nil_append, List.replicate, modeOf_un, modeOf_fl, one1, wp_if, wp_append, wp_setL, wp_intOf, unlk_n, lck_n, wq_retp, gTuple_l, gTuple_t, gList_l, gList_vl, gList_t, gLen_l, gLen_t, gInt_i, gNeg_i, Bool.false_eq_true, if_false, if_true, and_true, true_and, Nat.reduceAdd, Nat.reduceSub, Nat.reduceLT, Nat.reduceLeDiff, neg_true, neg_false, Bool.not_true, Bool.not_false, decide_true, decide_false]
  refine wp_floop (fun _ ρ => Inv s0 ρ) h ?_ ?_
  · rintro d todo ρ ⟨c, s2, s3, s4, s5, s6, s7, s8, s9, s10, s11, s12, C, m, rfl⟩
    refine ⟨[s0, .fl .own (.lst (cupD c)), .v d, s3, s4, s5, s6, s7, s8, s9, s10, s11, s12, .un, .un, .un, .un, .un, .un, .un], ?_, ?_⟩
    · unfold putv
      rw [if_pos ⟨m.1, by simp⟩]
      rfl
    · refine wp_imp (turn_ok (s0 := s0) ⟨c, _, _, _, _, _, _, _, _, _, _, _, C, ⟨rfl, m.2⟩, rfl⟩) ?_
      rintro _ ρ' ⟨rfl, q⟩
      exact q
  · exact fun ρ q => ⟨rfl, q⟩
end K50
namespace K50
open VS
open PySem (sizeLine)
def boxP (h w : Nat) : List Pt := (List.range h).flatMap fun (r : Nat) => (List.range w).map fun (c : Nat) => ((r : Int), (c : Int))
theorem box_all : ∀ h : Fin 7, ∀ w : Fin 7, boxP (h + 1) (w + 1) ≠ [] ∧ srtB (boxP (h + 1) (w + 1)) = true ∧ (∀ p ∈ boxP (h + 1) (w + 1), 0 ≤ p.1 ∧ p.1 ≤ 59 ∧ 0 ≤ p.2 ∧ p.2 ≤ 59) ∧ (boxP (h + 1) (w + 1)).length ≤ 400 ∧ (runs (boxP (h + 1) (w + 1)) 1).length = h + 1 + (w + 1) - 1 ∧ (runs (boxP (h + 1) (w + 1)) (-1)).length = h + 1 + (w + 1) - 1 := by decide +kernel
theorem box_ok {h w : Nat} (hh : h < 7) (hw : w < 7) : FloorOk (boxP (h + 1) (w + 1)) ∧ (runs (boxP (h + 1) (w + 1)) 1).length = h + 1 + (w + 1) - 1 ∧ (runs (boxP (h + 1) (w + 1)) (-1)).length = h + 1 + (w + 1) - 1 := by
  obtain ⟨a, b, c, d, e, f⟩ := box_all ⟨h, hh⟩ ⟨w, hw⟩
  exact ⟨⟨a, srtB_iff.mp b, c, d⟩, e, f⟩
theorem a4 {s0 : Sl} {ρ : Env} (h : Inv s0 ρ) : wp LA4 ρ fun f ρ' => f = .nx ∧ ∃ (s1 s2 s3 s4 s5 s6 s7 s8 s9 s10 s11 s12 : Sl) (h w : Nat), h < 7 ∧ w < 7 ∧ modeOf s4 = .own ∧ ρ' = [s0, s1, s2, s3, s4, s5, s6, s7, s8, s9, s10, s11, s12, .v (.int ((h + 1 : Nat) : Int)), .v (.int ((w + 1 : Nat) : Int)), .un, .un, .un, .un, .un] := by
  obtain ⟨c, s2, s3, s4, s5, s6, s7, s8, s9, s10, s11, s12, C, m, rfl⟩ := h
  unfold LA4
  simp only [wp_bind, wp_c, wq_var, wp_op1, wp_op2, wp_opN, wq_ret1, wq_ret2, wq_retN, wp_nil, wp_cons, wp_dnil, wp_dcons, wp_esc, wp_escv, wp_escl, wp_tup, wp_lst, wp_bool, wp_tru, wq_retB, wp_not, wp_and, wp_or, wp_mif, wp_andV, wp_orV, wp_notV, wp_true, wp_chain, wp_retC1, wp_retC2, wp_noPart, wp_part, wp_retPart, wp_cut, wp_seq, wp_snil, wp_pass, wp_break, wp_cont, wp_never, wp_expr, wp_sif, wp_ret, wp_retv, wp_retN', wp_asg, wq_store, wp_par, wq_store2, wp_asgT, wp_call, lk_fl, lk_pl, ex_some, gSub_ii, gAdd_ii, gLt_ii, gLe_ii, gGt_ii, gGe_ii, gLt_pp, List.getD_cons_zero, List.getD_cons_succ, List.set_cons_zero, List.set_cons_succ, List.map_cons, List.map_nil, List.length_cons, List.length_nil, List.cons_append, List.nil_append, List.replicate, modeOf_un, modeOf_fl, one1, wp_if, wp_append, wp_setL, wp_intOf, unlk_n, lck_n, wq_retp, gTuple_l, gTuple_t, gList_l, gList_vl, gList_t, gLen_l, gLen_t, gInt_i, gNeg_i, Bool.false_eq_true, if_false, if_true, and_true, true_and, Nat.reduceAdd, Nat.reduceSub, Nat.reduceLT, Nat.reduceLeDiff, neg_true, neg_false, Bool.not_true, Bool.not_false, decide_true, decide_false]
  refine wp_lv1 rfl rfl (p_roll C (n := 7) (by decide) (by decide)) ?_
  rintro _ _ ⟨a, a0, a1, rfl, c1, C1, rfl⟩
  simp only [wp_bind, wp_c, wq_var, wp_op1, wp_op2, wp_opN, wq_ret1, wq_ret2, wq_retN, wp_nil, wp_cons, wp_dnil, wp_dcons, wp_esc, wp_escv, wp_escl, wp_tup, wp_lst, wp_bool, wp_tru, wq_retB, wp_not, wp_and, wp_or, wp_mif, wp_andV, wp_orV, wp_notV, wp_true, wp_chain, wp_retC1, wp_retC2, wp_noPart, wp_part, wp_retPart, wp_cut, wp_seq, wp_snil, wp_pass, wp_break, wp_cont, wp_never, wp_expr, wp_sif, wp_ret, wp_retv, wp_retN', wp_asg, wq_store, wp_par, wq_store2, wp_asgT, wp_call, lk_fl, lk_pl, ex_some, gSub_ii, gAdd_ii, gLt_ii, gLe_ii, gGt_ii, gGe_ii, gLt_pp, List.getD_cons_zero, List.getD_cons_succ, List.set_cons_zero, List.set_cons_succ, List.map_cons, List.map_nil, List.length_cons, List.length_nil, List.cons_append, List.nil_append, List.replicate, modeOf_un, modeOf_fl, one1, wp_if, wp_append, wp_setL, wp_intOf, unlk_n, lck_n, wq_retp, gTuple_l, gTuple_t, gList_l, gList_vl, gList_t, gLen_l, gLen_t, gInt_i, gNeg_i, Bool.false_eq_true, if_false, if_true, and_true, true_and, Nat.reduceAdd, Nat.reduceSub, Nat.reduceLT, Nat.reduceLeDiff, neg_true, neg_false, Bool.not_true, Bool.not_false, decide_true, decide_false]
  refine wp_lv1 rfl rfl (p_roll C1 (n := 7) (by decide) (by decide)) ?_
  rintro _ _ ⟨b, b0, b1, rfl, c2, C2, rfl⟩
  simp only [wp_bind, wp_c, wq_var, wp_op1, wp_op2, wp_opN, wq_ret1, wq_ret2, wq_retN, wp_nil, wp_cons, wp_dnil, wp_dcons, wp_esc, wp_escv, wp_escl, wp_tup, wp_lst, wp_bool, wp_tru, wq_retB, wp_not, wp_and, wp_or, wp_mif, wp_andV, wp_orV, wp_notV, wp_true, wp_chain, wp_retC1, wp_retC2, wp_noPart, wp_part, wp_retPart, wp_cut, wp_seq, wp_snil, wp_pass, wp_break, wp_cont, wp_never, wp_expr, wp_sif, wp_ret, wp_retv, wp_retN', wp_asg, wq_store, wp_par, wq_store2, wp_asgT, wp_call, lk_fl, lk_pl, ex_some, gSub_ii, gAdd_ii, gLt_ii, gLe_ii, gGt_ii, gGe_ii, gLt_pp, List.getD_cons_zero, List.getD_cons_succ, List.set_cons_zero, List.set_cons_succ, List.map_cons, List.map_nil, List.length_cons, List.length_nil, List.cons_append, List.nil_append, List.replicate, modeOf_un, modeOf_fl, one1, wp_if, wp_append, wp_setL, wp_intOf, unlk_n, lck_n, wq_retp, gTuple_l, gTuple_t, gList_l, gList_vl, gList_t, gLen_l, gLen_t, gInt_i, gNeg_i, Bool.false_eq_true, if_false, if_true, and_true, true_and, Nat.reduceAdd, Nat.reduceSub, Nat.reduceLT, Nat.reduceLeDiff, neg_true, neg_false, Bool.not_true, Bool.not_false, decide_true, decide_false]
  obtain ⟨h, rfl⟩ := Int.eq_ofNat_of_zero_le a0
  obtain ⟨w, rfl⟩ := Int.eq_ofNat_of_zero_le b0
  rw [show (1 : Int) + (h : Int) = ((h + 1 : Nat) : Int) by omega, show (1 : Int) + (w : Int) = ((w + 1 : Nat) : Int) by omega]
  exact ⟨_, s2, s3, s4, s5, s6, s7, s8, s9, s10, s11, s12, h, w, by omega, by omega, m.2.2.1, rfl⟩
theorem three_ok : (3 : Nat) ≤ sizeLine := size_ok (by omega)
def rowP (k w : Nat) : List Pt := (List.range w).map fun (c : Nat) => ((k : Int), (c : Int))
theorem box_succ (k w : Nat) : boxP (k + 1) w = boxP k w ++ rowP k w := by
  unfold boxP rowP
  rw [List.range_succ, List.flatMap_append]
  simp
theorem box_len (k w : Nat) : (boxP k w).length = k * w := by
  unfold boxP
  induction k with
  | zero => simp
  | succ k ih =>
    rw [List.range_succ, List.flatMap_append, List.length_append, ih]
    simp [Nat.succ_mul]
theorem a5 {s0 s1 s2 s3 s4 s5 s6 s7 s8 s9 s10 s11 s12 s13 s14 : Sl} : wp LA5 [s0, s1, s2, s3, s4, s5, s6, s7, s8, s9, s10, s11, s12, s13, s14, .un, .un, .un, .un, .un] fun f ρ' => f = .nx ∧ ρ' = [s0, s1, s2, s3, s4, s5, s6, s7, s8, s9, s10, s11, s12, s13, s14, .fl .own (.lst []), .un, .un, .un, .un] := by
  unfold LA5
  simp only [wp_bind, wp_c, wq_var, wp_op1, wp_op2, wp_opN, wq_ret1, wq_ret2, wq_retN, wp_nil, wp_cons, wp_dnil, wp_dcons, wp_esc, wp_escv, wp_escl, wp_tup, wp_lst, wp_bool, wp_tru, wq_retB, wp_not, wp_and, wp_or, wp_mif, wp_andV, wp_orV, wp_notV, wp_true, wp_chain, wp_retC1, wp_retC2, wp_noPart, wp_part, wp_retPart, wp_cut, wp_seq, wp_snil, wp_pass, wp_break, wp_cont, wp_never, wp_expr, wp_sif, wp_ret, wp_retv, wp_retN', wp_asg, wq_store, wp_par, wq_store2, wp_asgT, wp_call, lk_fl, lk_pl, ex_some, gSub_ii, gAdd_ii, gLt_ii, gLe_ii, gGt_ii, gGe_ii, gLt_pp, List.getD_cons_zero, List.getD_cons_succ, List.set_cons_zero, List.set_cons_succ, List.map_cons, List.map_nil, List.length_cons, List.length_nil, List.cons_append, List.nil_append, List.replicate, modeOf_un, modeOf_fl, one1, wp_if, wp_append, wp_setL, wp_intOf, unlk_n, lck_n, wq_retp, gTuple_l, gTuple_t, gList_l, gList_vl, gList_t, gLen_l, gLen_t, gInt_i, gNeg_i, Bool.false_eq_true, if_false, if_true, and_true, true_and, Nat.reduceAdd, Nat.reduceSub, Nat.reduceLT, Nat.reduceLeDiff, neg_true, neg_false, Bool.not_true, Bool.not_false, decide_true, decide_false]
  exact zero_ok
theorem a6 {s0 s1 s2 s3 s4 s5 s6 s7 s8 s9 s10 s11 s12 : Sl} {h w : Nat} (hh : h < 7) (hw : w < 7) : wp LA6 [s0, s1, s2, s3, s4, s5, s6, s7, s8, s9, s10, s11, s12, .v (.int ((h + 1 : Nat) : Int)), .v (.int ((w + 1 : Nat) : Int)), .fl .own (.lst []), .un, .un, .un, .un] fun f ρ' => f = .nx ∧ ∃ q, modeOf q = .own ∧ ρ' = [s0, s1, s2, s3, s4, s5, s6, s7, s8, s9, s10, s11, s12, .v (.int ((h + 1 : Nat) : Int)), .v (.int ((w + 1 : Nat) : Int)), .fl .own (.lst ((boxP (h + 1) (w + 1)).map prD)), q, .un, .un, .un] := by
  unfold LA6
  refine wp_for ?_
  simp only [wp_bind, wp_c, wq_var, wp_op1, wp_op2, wp_opN, wq_ret1, wq_ret2, wq_retN, wp_nil, wp_cons, wp_dnil, wp_dcons, wp_esc, wp_escv, wp_escl, wp_tup, wp_lst, wp_bool, wp_tru, wq_retB, wp_not, wp_and, wp_or, wp_mif, wp_andV, wp_orV, wp_notV, wp_true, wp_chain, wp_retC1, wp_retC2, wp_noPart, wp_part, wp_retPart, wp_cut, wp_seq, wp_snil, wp_pass, wp_break, wp_cont, wp_never, wp_expr, wp_sif, wp_ret, wp_retv, wp_retN', wp_asg, wq_store, wp_par, wq_store2, wp_asgT, wp_call, lk_fl, lk_pl, ex_some, gSub_ii, gAdd_ii, gLt_ii, gLe_ii, gGt_ii, gGe_ii, gLt_pp, List.getD_cons_zero, List.getD_cons_succ, List.set_cons_zero, List.set_cons_succ, List.map_cons, List.map_nil, List.length_cons, List.length_nil, List.cons_append, List.nil_append, List.replicate, modeOf_un, modeOf_fl, one1, wp_if, wp_append, wp_setL, wp_intOf, unlk_n, lck_n, wq_retp, gTuple_l, gTuple_t, gList_l, gList_vl, gList_t, gLen_l, gLen_t, gInt_i, gNeg_i, Bool.false_eq_true, if_false, if_true, and_true, true_and, Nat.reduceAdd, Nat.reduceSub, Nat.reduceLT, Nat.reduceLeDiff, neg_true, neg_false, Bool.not_true, Bool.not_false, decide_true, decide_false]
  refine wp_srcR1 (by omega) ?_
  simp only [wp_bind, wp_c, wq_var, wp_op1, wp_op2, wp_opN, wq_ret1, wq_ret2, wq_retN, wp_nil, wp_cons, wp_dnil, wp_dcons, wp_esc, wp_escv, wp_escl, wp_tup, wp_lst, wp_bool, wp_tru, wq_retB, wp_not, wp_and, wp_or, wp_mif, wp_andV, wp_orV, wp_notV, wp_true, wp_chain, wp_retC1, wp_retC2, wp_noPart, wp_part, wp_retPart, wp_cut, wp_seq, wp_snil, wp_pass, wp_break, wp_cont, wp_never, wp_expr, wp_sif, wp_ret, wp_retv, wp_retN', wp_asg, wq_store, wp_par, wq_store2, wp_asgT, wp_call, lk_fl, lk_pl, ex_some, gSub_ii, gAdd_ii, gLt_ii, gLe_ii, gGt_ii, gGe_ii, gLt_pp, List.getD_cons_zero, List.getD_cons_succ, List.set_cons_zero, List.set_cons_succ, List.map_cons, List.map_nil, List.length_cons, List.length_nil, List.cons_append, List.nil_append, List.replicate, modeOf_un, modeOf_fl, one1, wp_if, wp_append, wp_setL, wp_intOf, unlk_n, lck_n, wq_retp, gTuple_l, gTuple_t, gList_l, gList_vl, gList_t, gLen_l, gLen_t, gInt_i, gNeg_i, Bool.false_eq_true, if_false, if_true, and_true, true_and, Nat.reduceAdd, Nat.reduceSub, Nat.reduceLT, Nat.reduceLeDiff, neg_true, neg_false, Bool.not_true, Bool.not_false, decide_true, decide_false]
  rw [rangeD_map]
  refine wp_floop (fun todo ρ => ∃ k, todo = (List.range' k (h + 1 - k)).map (fun k => D.int (k : Nat)) ∧ k ≤ h + 1 ∧ ∃ q, modeOf q = .own ∧ ρ = [s0, s1, s2, s3, s4, s5, s6, s7, s8, s9, s10, s11, s12, .v (.int ((h + 1 : Nat) : Int)), .v (.int ((w + 1 : Nat) : Int)), .fl .own (.lst ((boxP k (w + 1)).map prD)), q, .un, .un, .un]) ⟨0, by rw [List.range_eq_range']; rfl, by omega, .un, rfl, rfl⟩ ?_ ?_
  · rintro d todo ρ ⟨k, e, hk, q, mq, rfl⟩
    have hk2 : k < h + 1 := by
      refine Nat.lt_of_le_of_ne hk fun e2 => ?_
      subst e2
      rw [Nat.sub_self] at e
      exact nomatch e
    rw [show h + 1 - k = (h + 1 - (k + 1)) + 1 by omega, List.range'_succ, List.map_cons] at e
    obtain ⟨rfl, rfl⟩ := List.cons.inj e
    refine ⟨[s0, s1, s2, s3, s4, s5, s6, s7, s8, s9, s10, s11, s12, .v (.int ((h + 1 : Nat) : Int)), .v (.int ((w + 1 : Nat) : Int)), .fl .own (.lst ((boxP k (w + 1)).map prD)), .v (.int (k : Nat)), .un, .un, .un], ?_, ?_⟩
    · unfold putv
      rw [if_pos ⟨mq, by simp⟩]
      rfl
    · rw [wp_asg]
      simp only [wp_op2, wq_var, List.getD_cons_zero, List.getD_cons_succ]
      refine wp_compM (L := List.range (w + 1)) (g := fun c => D.int (c : Nat)) (fun c => prD ((k : Int), (c : Int))) (size_ok (by rw [List.length_range]; omega)) ?_
      simp only [wp_bind, wp_c, wq_var, wp_op1, wp_op2, wp_opN, wq_ret1, wq_ret2, wq_retN, wp_nil, wp_cons, wp_dnil, wp_dcons, wp_esc, wp_escv, wp_escl, wp_tup, wp_lst, wp_bool, wp_tru, wq_retB, wp_not, wp_and, wp_or, wp_mif, wp_andV, wp_orV, wp_notV, wp_true, wp_chain, wp_retC1, wp_retC2, wp_noPart, wp_part, wp_retPart, wp_cut, wp_seq, wp_snil, wp_pass, wp_break, wp_cont, wp_never, wp_expr, wp_sif, wp_ret, wp_retv, wp_retN', wp_asg, wq_store, wp_par, wq_store2, wp_asgT, wp_call, lk_fl, lk_pl, ex_some, gSub_ii, gAdd_ii, gLt_ii, gLe_ii, gGt_ii, gGe_ii, gLt_pp, List.getD_cons_zero, List.getD_cons_succ, List.set_cons_zero, List.set_cons_succ, List.map_cons, List.map_nil, List.length_cons, List.length_nil, List.cons_append, List.nil_append, List.replicate, modeOf_un, modeOf_fl, one1, wp_if, wp_append, wp_setL, wp_intOf, unlk_n, lck_n, wq_retp, gTuple_l, gTuple_t, gList_l, gList_vl, gList_t, gLen_l, gLen_t, gInt_i, gNeg_i, Bool.false_eq_true, if_false, if_true, and_true, true_and, Nat.reduceAdd, Nat.reduceSub, Nat.reduceLT, Nat.reduceLeDiff, neg_true, neg_false, Bool.not_true, Bool.not_false, decide_true, decide_false]
      refine wp_srcR1 (by omega) ⟨by rw [rangeD_map], fun c hc => ?_, ?_⟩
      · refine ⟨_, rfl, ?_⟩
        exact ⟨two_ok, rfl, rfl⟩
      · have e2 : (List.range (w + 1)).map (fun c : Nat => prD ((k : Int), (c : Int))) = (rowP k (w + 1)).map prD := by
          unfold rowP; rw [List.map_map]; rfl
        rw [e2]
        have hl : (boxP k (w + 1)).length ≤ 49 := by
          rw [box_len]
          exact Nat.le_trans (Nat.mul_le_mul (by omega : k ≤ 7) (by omega : w + 1 ≤ 7)) (by decide)
        have eV : gAdd (.lst ((boxP k (w + 1)).map prD)) (.lst ((rowP k (w + 1)).map prD)) = some (.fl (.lst ((boxP (k + 1) (w + 1)).map prD))) := by
          rw [box_succ, List.map_append]
          exact gAdd_ll rfl rfl (by rw [List.length_map, List.length_map]; unfold rowP; rw [List.length_map, List.length_range]; show _ ≤ 1000000; omega)
        simp only [wp_bind, wp_c, wq_var, wp_op1, wp_op2, wp_opN, wq_ret1, wq_ret2, wq_retN, wp_nil, wp_cons, wp_dnil, wp_dcons, wp_esc, wp_escv, wp_escl, wp_tup, wp_lst, wp_bool, wp_tru, wq_retB, wp_not, wp_and, wp_or, wp_mif, wp_andV, wp_orV, wp_notV, wp_true, wp_chain, wp_retC1, wp_retC2, wp_noPart, wp_part, wp_retPart, wp_cut, wp_seq, wp_snil, wp_pass, wp_break, wp_cont, wp_never, wp_expr, wp_sif, wp_ret, wp_retv, wp_retN', wp_asg, wq_store, wp_par, wq_store2, wp_asgT, wp_call, lk_fl, lk_pl, ex_some, gSub_ii, gAdd_ii, gLt_ii, gLe_ii, gGt_ii, gGe_ii, gLt_pp, List.getD_cons_zero, List.getD_cons_succ, List.set_cons_zero, List.set_cons_succ, List.map_cons, List.map_nil, List.length_cons, List.length_nil, List.cons_append, List.nil_append, List.replicate, modeOf_un, modeOf_fl, one1, wp_if, wp_append, wp_setL, wp_intOf, unlk_n, lck_n, wq_retp, gTuple_l, gTuple_t, gList_l, gList_vl, gList_t, gLen_l, gLen_t, gInt_i, gNeg_i, Bool.false_eq_true, if_false, if_true, and_true, true_and, Nat.reduceAdd, Nat.reduceSub, Nat.reduceLT, Nat.reduceLeDiff, neg_true, neg_false, Bool.not_true, Bool.not_false, decide_true, decide_false, eV]
        exact ⟨k + 1, rfl, hk2, _, rfl, rfl⟩
  · rintro ρ ⟨k, e, hk, q, mq, rfl⟩
    have e2 : k = h + 1 := by
      have := congrArg List.length e
      simp at this
      omega
    subst e2
    exact ⟨rfl, q, mq, rfl⟩
theorem two_floor : FloorOk [((0 : Int), (0 : Int)), (59, 59)] := ⟨by simp, by decide, by decide, by decide⟩
theorem two_st : [((0 : Int), (0 : Int)), (59, 59)].filter (stB [((0 : Int), (0 : Int)), (59, 59)] (59, 59)) = [] := by decide +kernel
theorem a7 {s0 s1 s2 s3 s4 s5 s6 s7 s8 s9 s10 s11 s12 q : Sl} {h w : Nat} (hh : h < 7) (hw : w < 7) (m4 : modeOf s4 = .own) : wp LA7 [s0, s1, s2, s3, s4, s5, s6, s7, s8, s9, s10, s11, s12, .v (.int ((h + 1 : Nat) : Int)), .v (.int ((w + 1 : Nat) : Int)), .fl .own (.lst ((boxP (h + 1) (w + 1)).map prD)), q, .un, .un, .un] fun f ρ' => f = .nx ∧ ρ' = [s0, s1, s2, s3, .v (.tup [.int ((h + 1 + (w + 1) - 1 : Nat) : Int), .int ((h + 1 + (w + 1) - 1 : Nat) : Int), .tup []]), s5, s6, s7, s8, s9, s10, s11, s12, .v (.int ((h + 1 : Nat) : Int)), .v (.int ((w + 1 : Nat) : Int)), .fl .own (.lst ((boxP (h + 1) (w + 1)).map prD)), q, .un, .un, .un] := by
  unfold LA7
  obtain ⟨B, r1, r2⟩ := box_ok hh hw
  have p1 := p_falling B
  have p2 := p_rising B
  have p3 := p_strikes two_floor (c := (59, 59)) (by decide)
  rw [two_st] at p3
  simp only [wp_bind, wp_c, wq_var, wp_op1, wp_op2, wp_opN, wq_ret1, wq_ret2, wq_retN, wp_nil, wp_cons, wp_dnil, wp_dcons, wp_esc, wp_escv, wp_escl, wp_tup, wp_lst, wp_bool, wp_tru, wq_retB, wp_not, wp_and, wp_or, wp_mif, wp_andV, wp_orV, wp_notV, wp_true, wp_chain, wp_retC1, wp_retC2, wp_noPart, wp_part, wp_retPart, wp_cut, wp_seq, wp_snil, wp_pass, wp_break, wp_cont, wp_never, wp_expr, wp_sif, wp_ret, wp_retv, wp_retN', wp_asg, wq_store, wp_par, wq_store2, wp_asgT, wp_call, lk_fl, lk_pl, ex_some, gSub_ii, gAdd_ii, gLt_ii, gLe_ii, gGt_ii, gGe_ii, gLt_pp, List.getD_cons_zero, List.getD_cons_succ, List.set_cons_zero, List.set_cons_succ, List.map_cons, List.map_nil, List.length_cons, List.length_nil, List.cons_append, List.nil_append, List.replicate, modeOf_un, modeOf_fl, one1, wp_if, wp_append, wp_setL, wp_intOf, unlk_n, lck_n, wq_retp, gTuple_l, gTuple_t, gList_l, gList_vl, gList_t, gLen_l, gLen_t, gInt_i, gNeg_i, Bool.false_eq_true, if_false, if_true, and_true, true_and, Nat.reduceAdd, Nat.reduceSub, Nat.reduceLT, Nat.reduceLeDiff, neg_true, neg_false, Bool.not_true, Bool.not_false, decide_true, decide_false]
  refine wp_fv1 p1 ?_
  simp only [wp_bind, wp_c, wq_var, wp_op1, wp_op2, wp_opN, wq_ret1, wq_ret2, wq_retN, wp_nil, wp_cons, wp_dnil, wp_dcons, wp_esc, wp_escv, wp_escl, wp_tup, wp_lst, wp_bool, wp_tru, wq_retB, wp_not, wp_and, wp_or, wp_mif, wp_andV, wp_orV, wp_notV, wp_true, wp_chain, wp_retC1, wp_retC2, wp_noPart, wp_part, wp_retPart, wp_cut, wp_seq, wp_snil, wp_pass, wp_break, wp_cont, wp_never, wp_expr, wp_sif, wp_ret, wp_retv, wp_retN', wp_asg, wq_store, wp_par, wq_store2, wp_asgT, wp_call, lk_fl, lk_pl, ex_some, gSub_ii, gAdd_ii, gLt_ii, gLe_ii, gGt_ii, gGe_ii, gLt_pp, List.getD_cons_zero, List.getD_cons_succ, List.set_cons_zero, List.set_cons_succ, List.map_cons, List.map_nil, List.length_cons, List.length_nil, List.cons_append, List.nil_append, List.replicate, modeOf_un, modeOf_fl, one1, wp_if, wp_append, wp_setL, wp_intOf, unlk_n, lck_n, wq_retp, gTuple_l, gTuple_t, gList_l, gList_vl, gList_t, gLen_l, gLen_t, gInt_i, gNeg_i, Bool.false_eq_true, if_false, if_true, and_true, true_and, Nat.reduceAdd, Nat.reduceSub, Nat.reduceLT, Nat.reduceLeDiff, neg_true, neg_false, Bool.not_true, Bool.not_false, decide_true, decide_false]
  refine wp_fv1 p2 ?_
  simp only [wp_bind, wp_c, wq_var, wp_op1, wp_op2, wp_opN, wq_ret1, wq_ret2, wq_retN, wp_nil, wp_cons, wp_dnil, wp_dcons, wp_esc, wp_escv, wp_escl, wp_tup, wp_lst, wp_bool, wp_tru, wq_retB, wp_not, wp_and, wp_or, wp_mif, wp_andV, wp_orV, wp_notV, wp_true, wp_chain, wp_retC1, wp_retC2, wp_noPart, wp_part, wp_retPart, wp_cut, wp_seq, wp_snil, wp_pass, wp_break, wp_cont, wp_never, wp_expr, wp_sif, wp_ret, wp_retv, wp_retN', wp_asg, wq_store, wp_par, wq_store2, wp_asgT, wp_call, lk_fl, lk_pl, ex_some, gSub_ii, gAdd_ii, gLt_ii, gLe_ii, gGt_ii, gGe_ii, gLt_pp, List.getD_cons_zero, List.getD_cons_succ, List.set_cons_zero, List.set_cons_succ, List.map_cons, List.map_nil, List.length_cons, List.length_nil, List.cons_append, List.nil_append, List.replicate, modeOf_un, modeOf_fl, one1, wp_if, wp_append, wp_setL, wp_intOf, unlk_n, lck_n, wq_retp, gTuple_l, gTuple_t, gList_l, gList_vl, gList_t, gLen_l, gLen_t, gInt_i, gNeg_i, Bool.false_eq_true, if_false, if_true, and_true, true_and, Nat.reduceAdd, Nat.reduceSub, Nat.reduceLT, Nat.reduceLeDiff, neg_true, neg_false, Bool.not_true, Bool.not_false, decide_true, decide_false]
  refine ⟨two_ok, two_ok, two_ok, two_ok, ?_⟩
  refine wp_fv2 p3 ?_
  simp only [wp_bind, wp_c, wq_var, wp_op1, wp_op2, wp_opN, wq_ret1, wq_ret2, wq_retN, wp_nil, wp_cons, wp_dnil, wp_dcons, wp_esc, wp_escv, wp_escl, wp_tup, wp_lst, wp_bool, wp_tru, wq_retB, wp_not, wp_and, wp_or, wp_mif, wp_andV, wp_orV, wp_notV, wp_true, wp_chain, wp_retC1, wp_retC2, wp_noPart, wp_part, wp_retPart, wp_cut, wp_seq, wp_snil, wp_pass, wp_break, wp_cont, wp_never, wp_expr, wp_sif, wp_ret, wp_retv, wp_retN', wp_asg, wq_store, wp_par, wq_store2, wp_asgT, wp_call, lk_fl, lk_pl, ex_some, gSub_ii, gAdd_ii, gLt_ii, gLe_ii, gGt_ii, gGe_ii, gLt_pp, List.getD_cons_zero, List.getD_cons_succ, List.set_cons_zero, List.set_cons_succ, List.map_cons, List.map_nil, List.length_cons, List.length_nil, List.cons_append, List.nil_append, List.replicate, modeOf_un, modeOf_fl, one1, wp_if, wp_append, wp_setL, wp_intOf, unlk_n, lck_n, wq_retp, gTuple_l, gTuple_t, gList_l, gList_vl, gList_t, gLen_l, gLen_t, gInt_i, gNeg_i, Bool.false_eq_true, if_false, if_true, and_true, true_and, Nat.reduceAdd, Nat.reduceSub, Nat.reduceLT, Nat.reduceLeDiff, neg_true, neg_false, Bool.not_true, Bool.not_false, decide_true, decide_false, List.length_map, r1, r2]
  exact ⟨three_ok, m4, rfl⟩
theorem a8 {s0 s1 s2 s3 s5 s6 s7 s8 s9 s10 s11 s12 q r : Sl} {h w : Nat} : wp LA8 [s0, s1, s2, s3, .v (.tup [.int ((h + 1 + (w + 1) - 1 : Nat) : Int), .int ((h + 1 + (w + 1) - 1 : Nat) : Int), .tup []]), s5, s6, s7, s8, s9, s10, s11, s12, .v (.int ((h + 1 : Nat) : Int)), .v (.int ((w + 1 : Nat) : Int)), r, q, .un, .un, .un] fun f ρ' => f = .rt (.fl (.val (.bl true))) := by
  unfold LA8
  simp only [wp_bind, wp_c, wq_var, wp_op1, wp_op2, wp_opN, wq_ret1, wq_ret2, wq_retN, wp_nil, wp_cons, wp_dnil, wp_dcons, wp_esc, wp_escv, wp_escl, wp_tup, wp_lst, wp_bool, wp_tru, wq_retB, wp_not, wp_and, wp_or, wp_mif, wp_andV, wp_orV, wp_notV, wp_true, wp_chain, wp_retC1, wp_retC2, wp_noPart, wp_part, wp_retPart, wp_cut, wp_seq, wp_snil, wp_pass, wp_break, wp_cont, wp_never, wp_expr, wp_sif, wp_ret, wp_retv, wp_retN', wp_asg, wq_store, wp_par, wq_store2, wp_asgT, wp_call, lk_fl, lk_pl, ex_some, gSub_ii, gAdd_ii, gLt_ii, gLe_ii, gGt_ii, gGe_ii, gLt_pp, List.getD_cons_zero, List.getD_cons_succ, List.set_cons_zero, List.set_cons_succ, List.map_cons, List.map_nil, List.length_cons, List.length_nil, List.cons_append, List.nil_append, List.replicate, modeOf_un, modeOf_fl, one1, wp_if, wp_append, wp_setL, wp_intOf, unlk_n, lck_n, wq_retp, gTuple_l, gTuple_t, gList_l, gList_vl, gList_t, gLen_l, gLen_t, gInt_i, gNeg_i, Bool.false_eq_true, if_false, if_true, and_true, true_and, Nat.reduceAdd, Nat.reduceSub, Nat.reduceLT, Nat.reduceLeDiff, neg_true, neg_false, Bool.not_true, Bool.not_false, decide_true, decide_false]
  rw [show ((h + 1 : Nat) : Int) + ((w + 1 : Nat) : Int) - 1 = ((h + 1 + (w + 1) - 1 : Nat) : Int) by omega]
  refine ⟨zero_ok, three_ok, ?_⟩
  refine wp_fv2 (p_same (.tup _ _ (by simp) ?_)) ?_
  · intro d hd
    simp only [List.mem_cons, List.not_mem_nil, or_false] at hd
    rcases hd with rfl | rfl | rfl
    · exact .int _ _
    · exact .int _ _
    · exact .tup _ _ (by decide) (fun _ h => nomatch h)
  · simp only [wp_bind, wp_c, wq_var, wp_op1, wp_op2, wp_opN, wq_ret1, wq_ret2, wq_retN, wp_nil, wp_cons, wp_dnil, wp_dcons, wp_esc, wp_escv, wp_escl, wp_tup, wp_lst, wp_bool, wp_tru, wq_retB, wp_not, wp_and, wp_or, wp_mif, wp_andV, wp_orV, wp_notV, wp_true, wp_chain, wp_retC1, wp_retC2, wp_noPart, wp_part, wp_retPart, wp_cut, wp_seq, wp_snil, wp_pass, wp_break, wp_cont, wp_never, wp_expr, wp_sif, wp_ret, wp_retv, wp_retN', wp_asg, wq_store, wp_par, wq_store2, wp_asgT, wp_call, lk_fl, lk_pl, ex_some, gSub_ii, gAdd_ii, gLt_ii, gLe_ii, gGt_ii, gGe_ii, gLt_pp, List.getD_cons_zero, List.getD_cons_succ, List.set_cons_zero, List.set_cons_succ, List.map_cons, List.map_nil, List.length_cons, List.length_nil, List.cons_append, List.nil_append, List.replicate, modeOf_un, modeOf_fl, one1, wp_if, wp_append, wp_setL, wp_intOf, unlk_n, lck_n, wq_retp, gTuple_l, gTuple_t, gList_l, gList_vl, gList_t, gLen_l, gLen_t, gInt_i, gNeg_i, Bool.false_eq_true, if_false, if_true, and_true, true_and, Nat.reduceAdd, Nat.reduceSub, Nat.reduceLT, Nat.reduceLeDiff, neg_true, neg_false, Bool.not_true, Bool.not_false, decide_true, decide_false]
theorem law_true : ∀ ns : List Int, ns.length ≤ 63 → ∃ outs, F_law [.v (.lst (ns.map .int))] = .ok (.v (.bl true)) outs := by
  intro ns hn
  have : FV F_law [.lst (ns.map .int)] (.val (.bl true)) := by
    refine fv_of ?_
    rw [law_body]
    refine wp_step _ (a1 hn) fun ρ1 I1 => ?_
    refine wp_step _ (a2 I1) fun ρ2 I2 => ?_
    refine wp_step _ (a3 I2) fun ρ3 I3 => ?_
    refine wp_step _ (a4 I3) ?_
    rintro _ ⟨s1, s2, s3, s4, s5, s6, s7, s8, s9, s10, s11, s12, h, w, hh, hw, m4, rfl⟩
    refine wp_step _ a5 ?_
    rintro _ rfl
    refine wp_step _ (a6 hh hw) ?_
    rintro _ ⟨q, mq, rfl⟩
    refine wp_step _ (a7 hh hw m4) ?_
    rintro _ rfl
    refine wp_imp a8 ?_
    rintro _ _ rfl
    exact .inl rfl
  exact this
end K50
namespace K50
open PySem PySem.Spec PyProof.Rows L2 VS
theorem all_mk {l : PySem.W.OpenLaw} {w : World} {K : PySem.W.Frag} {h : Heap} {mg : Str → Option Value} {fa : Addr} (X : K.In h) (G : h.Ns mainGlobals mg) (hfa : mg "law" = some (.ref fa)) {f0 f1 f2 f3 f4 f5 f6 f7 f8 f9 f10 f11 f12 f13 f14 f15 f16 f17 f18 f19 f20 f21 f22 f23 f24 : Addr} {od0 od1 od2 od3 od4 od5 od6 od7 od8 od9 od10 od11 od12 od13 od14 od15 od16 od17 od18 od19 od20 od21 od22 od23 od24 an0 an1 an2 an3 an4 an5 an6 an7 an8 an9 an10 an11 an12 an13 an14 an15 an16 an17 an18 an19 an20 an21 an22 an23 an24 : Option Addr} {sl0 sl1 sl2 sl3 sl4 sl5 sl6 sl7 sl8 sl9 sl10 sl11 sl12 sl13 sl14 sl15 sl16 sl17 sl18 sl19 sl20 sl21 sl22 sl23 sl24 : Array (Option Value)} {oc0 oc1 oc2 oc3 oc4 oc5 oc6 oc7 oc8 oc9 oc10 oc11 oc12 oc13 oc14 oc15 oc16 oc17 oc18 oc19 oc20 oc21 oc22 oc23 oc24 kV0 kV1 kV2 kV3 kV4 kV5 kV6 kV7 kV8 kV9 kV10 kV11 kV12 kV13 kV14 kV15 kV16 kV17 kV18 kV19 kV20 kV21 kV22 kV23 kV24 dc0 dc1 dc2 dc3 dc4 dc5 dc6 dc7 dc8 dc9 dc10 dc11 dc12 dc13 dc14 dc15 dc16 dc17 dc18 dc19 dc20 dc21 dc22 dc23 dc24 pm0 pm1 pm2 pm3 pm4 pm5 pm6 pm7 pm8 pm9 pm10 pm11 pm12 pm13 pm14 pm15 pm16 pm17 pm18 pm19 pm20 pm21 pm22 pm23 pm24 cd0 cd1 cd2 cd3 cd4 cd5 cd6 cd7 cd8 cd9 cd10 cd11 cd12 cd13 cd14 cd15 cd16 cd17 cd18 cd19 cd20 cd21 cd22 cd23 cd24 ct0 ct1 ct2 ct3 ct4 ct5 ct6 ct7 ct8 ct9 ct10 ct11 ct12 ct13 ct14 ct15 ct16 ct17 ct18 ct19 ct20 ct21 ct22 ct23 ct24 : Value} {t_g_CELLS t_g_MANY t_g_SIDE : Tok}
    (a0 : PySem.W.nsIn K mainGlobals "_law_cup" = some (some (.ref f0))) (l0 : K.lookup f0 = some ⟨oc0, od0, .func (PySem.W.fnOf "_law_cup" "_law_cup" (defArgs s__law_cup) (defBody s__law_cup) (defScope s__law_cup) .none kV0 dc0 pm0 an0 cd0 ct0), sl0⟩) (c0 : PySem.W.codeIn K cd0 "_law_cup" = true) (k0 : PySem.W.keepIn K (.ref f0) = true)
    (a1 : PySem.W.nsIn K mainGlobals "is_tuple_of" = some (some (.ref f1))) (l1 : K.lookup f1 = some ⟨oc1, od1, .func (PySem.W.fnOf "is_tuple_of" "is_tuple_of" (defArgs s_is_tuple_of) (defBody s_is_tuple_of) (defScope s_is_tuple_of) .none kV1 dc1 pm1 an1 cd1 ct1), sl1⟩) (c1 : PySem.W.codeIn K cd1 "is_tuple_of" = true) (k1 : PySem.W.keepIn K (.ref f1) = true)
    (a2 : PySem.W.nsIn K mainGlobals "fits_whole" = some (some (.ref f2))) (l2 : K.lookup f2 = some ⟨oc2, od2, .func (PySem.W.fnOf "fits_whole" "fits_whole" (defArgs s_fits_whole) (defBody s_fits_whole) (defScope s_fits_whole) .none kV2 dc2 pm2 an2 cd2 ct2), sl2⟩) (c2 : PySem.W.codeIn K cd2 "fits_whole" = true) (k2 : PySem.W.keepIn K (.ref f2) = true)
    (a3 : PySem.W.nsIn K mainGlobals "fits_cell" = some (some (.ref f3))) (l3 : K.lookup f3 = some ⟨oc3, od3, .func (PySem.W.fnOf "fits_cell" "fits_cell" (defArgs s_fits_cell) (defBody s_fits_cell) (defScope s_fits_cell) .none kV3 dc3 pm3 an3 cd3 ct3), sl3⟩) (c3 : PySem.W.codeIn K cd3 "fits_cell" = true) (k3 : PySem.W.keepIn K (.ref f3) = true)
    (a4 : PySem.W.nsIn K mainGlobals "fits_floor" = some (some (.ref f4))) (l4 : K.lookup f4 = some ⟨oc4, od4, .func (PySem.W.fnOf "fits_floor" "fits_floor" (defArgs s_fits_floor) (defBody s_fits_floor) (defScope s_fits_floor) .none kV4 dc4 pm4 an4 cd4 ct4), sl4⟩) (c4 : PySem.W.codeIn K cd4 "fits_floor" = true) (k4 : PySem.W.keepIn K (.ref f4) = true)
    (a5 : PySem.W.nsIn K mainGlobals "need_floor" = some (some (.ref f5))) (l5 : K.lookup f5 = some ⟨oc5, od5, .func (PySem.W.fnOf "need_floor" "need_floor" (defArgs s_need_floor) (defBody s_need_floor) (defScope s_need_floor) .none kV5 dc5 pm5 an5 cd5 ct5), sl5⟩) (c5 : PySem.W.codeIn K cd5 "need_floor" = true) (k5 : PySem.W.keepIn K (.ref f5) = true)
    (a6 : PySem.W.nsIn K mainGlobals "homes_in" = some (some (.ref f6))) (l6 : K.lookup f6 = some ⟨oc6, od6, .func (PySem.W.fnOf "homes_in" "homes_in" (defArgs s_homes_in) (defBody s_homes_in) (defScope s_homes_in) .none kV6 dc6 pm6 an6 cd6 ct6), sl6⟩) (c6 : PySem.W.codeIn K cd6 "homes_in" = true) (k6 : PySem.W.keepIn K (.ref f6) = true)
    (a7 : PySem.W.nsIn K mainGlobals "runs_in" = some (some (.ref f7))) (l7 : K.lookup f7 = some ⟨oc7, od7, .func (PySem.W.fnOf "runs_in" "runs_in" (defArgs s_runs_in) (defBody s_runs_in) (defScope s_runs_in) .none kV7 dc7 pm7 an7 cd7 ct7), sl7⟩) (c7 : PySem.W.codeIn K cd7 "runs_in" = true) (k7 : PySem.W.keepIn K (.ref f7) = true)
    (a8 : PySem.W.nsIn K mainGlobals "is_quiet_in" = some (some (.ref f8))) (l8 : K.lookup f8 = some ⟨oc8, od8, .func (PySem.W.fnOf "is_quiet_in" "is_quiet_in" (defArgs s_is_quiet_in) (defBody s_is_quiet_in) (defScope s_is_quiet_in) .none kV8 dc8 pm8 an8 cd8 ct8), sl8⟩) (c8 : PySem.W.codeIn K cd8 "is_quiet_in" = true) (k8 : PySem.W.keepIn K (.ref f8) = true)
    (a9 : PySem.W.nsIn K mainGlobals "is_quiet" = some (some (.ref f9))) (l9 : K.lookup f9 = some ⟨oc9, od9, .func (PySem.W.fnOf "is_quiet" "is_quiet" (defArgs s_is_quiet) (defBody s_is_quiet) (defScope s_is_quiet) .none kV9 dc9 pm9 an9 cd9 ct9), sl9⟩) (c9 : PySem.W.codeIn K cd9 "is_quiet" = true) (k9 : PySem.W.keepIn K (.ref f9) = true)
    (a10 : PySem.W.nsIn K mainGlobals "_law_rows_right" = some (some (.ref f10))) (l10 : K.lookup f10 = some ⟨oc10, od10, .func (PySem.W.fnOf "_law_rows_right" "_law_rows_right" (defArgs s__law_rows_right) (defBody s__law_rows_right) (defScope s__law_rows_right) .none kV10 dc10 pm10 an10 cd10 ct10), sl10⟩) (c10 : PySem.W.codeIn K cd10 "_law_rows_right" = true) (k10 : PySem.W.keepIn K (.ref f10) = true)
    (a11 : PySem.W.nsIn K mainGlobals "_law_roll" = some (some (.ref f11))) (l11 : K.lookup f11 = some ⟨oc11, od11, .func (PySem.W.fnOf "_law_roll" "_law_roll" (defArgs s__law_roll) (defBody s__law_roll) (defScope s__law_roll) .none kV11 dc11 pm11 an11 cd11 ct11), sl11⟩) (c11 : PySem.W.codeIn K cd11 "_law_roll" = true) (k11 : PySem.W.keepIn K (.ref f11) = true)
    (a12 : PySem.W.nsIn K mainGlobals "_law_floor" = some (some (.ref f12))) (l12 : K.lookup f12 = some ⟨oc12, od12, .func (PySem.W.fnOf "_law_floor" "_law_floor" (defArgs s__law_floor) (defBody s__law_floor) (defScope s__law_floor) .none kV12 dc12 pm12 an12 cd12 ct12), sl12⟩) (c12 : PySem.W.codeIn K cd12 "_law_floor" = true) (k12 : PySem.W.keepIn K (.ref f12) = true)
    (a13 : PySem.W.nsIn K mainGlobals "_law_some" = some (some (.ref f13))) (l13 : K.lookup f13 = some ⟨oc13, od13, .func (PySem.W.fnOf "_law_some" "_law_some" (defArgs s__law_some) (defBody s__law_some) (defScope s__law_some) .none kV13 dc13 pm13 an13 cd13 ct13), sl13⟩) (c13 : PySem.W.codeIn K cd13 "_law_some" = true) (k13 : PySem.W.keepIn K (.ref f13) = true)
    (a14 : PySem.W.nsIn K mainGlobals "rising_runs" = some (some (.ref f14))) (l14 : K.lookup f14 = some ⟨oc14, od14, .func (PySem.W.fnOf "rising_runs" "rising_runs" (defArgs s_rising_runs) (defBody s_rising_runs) (defScope s_rising_runs) .none kV14 dc14 pm14 an14 cd14 ct14), sl14⟩) (c14 : PySem.W.codeIn K cd14 "rising_runs" = true) (k14 : PySem.W.keepIn K (.ref f14) = true)
    (a15 : PySem.W.nsIn K mainGlobals "falling_runs" = some (some (.ref f15))) (l15 : K.lookup f15 = some ⟨oc15, od15, .func (PySem.W.fnOf "falling_runs" "falling_runs" (defArgs s_falling_runs) (defBody s_falling_runs) (defScope s_falling_runs) .none kV15 dc15 pm15 an15 cd15 ct15), sl15⟩) (c15 : PySem.W.codeIn K cd15 "falling_runs" = true) (k15 : PySem.W.keepIn K (.ref f15) = true)
    (a16 : PySem.W.nsIn K mainGlobals "_law_same" = some (some (.ref f16))) (l16 : K.lookup f16 = some ⟨oc16, od16, .func (PySem.W.fnOf "_law_same" "_law_same" (defArgs s__law_same) (defBody s__law_same) (defScope s__law_same) .none kV16 dc16 pm16 an16 cd16 ct16), sl16⟩) (c16 : PySem.W.codeIn K cd16 "_law_same" = true) (k16 : PySem.W.keepIn K (.ref f16) = true)
    (a17 : PySem.W.nsIn K mainGlobals "_law_runs" = some (some (.ref f17))) (l17 : K.lookup f17 = some ⟨oc17, od17, .func (PySem.W.fnOf "_law_runs" "_law_runs" (defArgs s__law_runs) (defBody s__law_runs) (defScope s__law_runs) .none kV17 dc17 pm17 an17 cd17 ct17), sl17⟩) (c17 : PySem.W.codeIn K cd17 "_law_runs" = true) (k17 : PySem.W.keepIn K (.ref f17) = true)
    (a18 : PySem.W.nsIn K mainGlobals "_law_strikes" = some (some (.ref f18))) (l18 : K.lookup f18 = some ⟨oc18, od18, .func (PySem.W.fnOf "_law_strikes" "_law_strikes" (defArgs s__law_strikes) (defBody s__law_strikes) (defScope s__law_strikes) .none kV18 dc18 pm18 an18 cd18 ct18), sl18⟩) (c18 : PySem.W.codeIn K cd18 "_law_strikes" = true) (k18 : PySem.W.keepIn K (.ref f18) = true)
    (a19 : PySem.W.nsIn K mainGlobals "need_cell_of" = some (some (.ref f19))) (l19 : K.lookup f19 = some ⟨oc19, od19, .func (PySem.W.fnOf "need_cell_of" "need_cell_of" (defArgs s_need_cell_of) (defBody s_need_cell_of) (defScope s_need_cell_of) .none kV19 dc19 pm19 an19 cd19 ct19), sl19⟩) (c19 : PySem.W.codeIn K cd19 "need_cell_of" = true) (k19 : PySem.W.keepIn K (.ref f19) = true)
    (a20 : PySem.W.nsIn K mainGlobals "struck_in" = some (some (.ref f20))) (l20 : K.lookup f20 = some ⟨oc20, od20, .func (PySem.W.fnOf "struck_in" "struck_in" (defArgs s_struck_in) (defBody s_struck_in) (defScope s_struck_in) .none kV20 dc20 pm20 an20 cd20 ct20), sl20⟩) (c20 : PySem.W.codeIn K cd20 "struck_in" = true) (k20 : PySem.W.keepIn K (.ref f20) = true)
    (a21 : PySem.W.nsIn K mainGlobals "strikes" = some (some (.ref f21))) (l21 : K.lookup f21 = some ⟨oc21, od21, .func (PySem.W.fnOf "strikes" "strikes" (defArgs s_strikes) (defBody s_strikes) (defScope s_strikes) .none kV21 dc21 pm21 an21 cd21 ct21), sl21⟩) (c21 : PySem.W.codeIn K cd21 "strikes" = true) (k21 : PySem.W.keepIn K (.ref f21) = true)
    (a22 : PySem.W.nsIn K mainGlobals "_law_is_floor" = some (some (.ref f22))) (l22 : K.lookup f22 = some ⟨oc22, od22, .func (PySem.W.fnOf "_law_is_floor" "_law_is_floor" (defArgs s__law_is_floor) (defBody s__law_is_floor) (defScope s__law_is_floor) .none kV22 dc22 pm22 an22 cd22 ct22), sl22⟩) (c22 : PySem.W.codeIn K cd22 "_law_is_floor" = true) (k22 : PySem.W.keepIn K (.ref f22) = true)
    (a23 : PySem.W.nsIn K mainGlobals "_law_is_quiet" = some (some (.ref f23))) (l23 : K.lookup f23 = some ⟨oc23, od23, .func (PySem.W.fnOf "_law_is_quiet" "_law_is_quiet" (defArgs s__law_is_quiet) (defBody s__law_is_quiet) (defScope s__law_is_quiet) .none kV23 dc23 pm23 an23 cd23 ct23), sl23⟩) (c23 : PySem.W.codeIn K cd23 "_law_is_quiet" = true) (k23 : PySem.W.keepIn K (.ref f23) = true)
    (a24 : PySem.W.nsIn K mainGlobals "law" = some (some (.ref f24))) (l24 : K.lookup f24 = some ⟨oc24, od24, .func (PySem.W.fnOf "law" "law" (defArgs s_law) (defBody s_law) (defScope s_law) .none kV24 dc24 pm24 an24 cd24 ct24), sl24⟩) (c24 : PySem.W.codeIn K cd24 "law" = true) (k24 : PySem.W.keepIn K (.ref f24) = true)
    (g_CELLS : PySem.W.nsIn K mainGlobals "CELLS" = some (some (.int 400 t_g_CELLS)))
    (g_MANY : PySem.W.nsIn K mainGlobals "MANY" = some (some (.int 400 t_g_MANY)))
    (g_SIDE : PySem.W.nsIn K mainGlobals "SIDE" = some (some (.int 60 t_g_SIDE)))
    (z_abs : PySem.W.nsIn K mainGlobals "abs" = some none)
    (z_all : PySem.W.nsIn K mainGlobals "all" = some none)
    (z_bool : PySem.W.nsIn K mainGlobals "bool" = some none)
    (z_dict : PySem.W.nsIn K mainGlobals "dict" = some none)
    (z_enumerate : PySem.W.nsIn K mainGlobals "enumerate" = some none)
    (z_int : PySem.W.nsIn K mainGlobals "int" = some none)
    (z_isinstance : PySem.W.nsIn K mainGlobals "isinstance" = some none)
    (z_len : PySem.W.nsIn K mainGlobals "len" = some none)
    (z_list : PySem.W.nsIn K mainGlobals "list" = some none)
    (z_range : PySem.W.nsIn K mainGlobals "range" = some none)
    (z_set : PySem.W.nsIn K mainGlobals "set" = some none)
    (z_sorted : PySem.W.nsIn K mainGlobals "sorted" = some none)
    (z_str : PySem.W.nsIn K mainGlobals "str" = some none)
    (z_tuple : PySem.W.nsIn K mainGlobals "tuple" = some none)
    (z_zip : PySem.W.nsIn K mainGlobals "zip" = some none) :
    ∃ fd : FuncData, (∀ (s : Shared) (v : Value), BindsTo s fd ⟨[v], []⟩ [("script", v)]) ∧ ∀ base : Heap, K.In base → base.Ns mainGlobals mg → FnOk l.prog w K mg base (L2.CX l.prog w) 14 fa fd ["script"] (spF ⟨l.prog, w, K⟩ 1 F_law) := by
  have e := hfa.symm.trans (PySem.W.mg_of X G a24)
  cases e
  have T : Txt K mg := ⟨⟨_, PySem.W.mg_of X G g_CELLS⟩, ⟨_, PySem.W.mg_of X G g_MANY⟩, ⟨_, PySem.W.mg_of X G g_SIDE⟩, PySem.W.mg_none_of X G z_abs, PySem.W.mg_none_of X G z_all, PySem.W.mg_none_of X G z_bool, PySem.W.mg_none_of X G z_dict, PySem.W.mg_none_of X G z_enumerate, PySem.W.mg_none_of X G z_int, PySem.W.mg_none_of X G z_isinstance, PySem.W.mg_none_of X G z_len, PySem.W.mg_none_of X G z_list, PySem.W.mg_none_of X G z_range, PySem.W.mg_none_of X G z_set, PySem.W.mg_none_of X G z_sorted, PySem.W.mg_none_of X G z_str, PySem.W.mg_none_of X G z_tuple, PySem.W.mg_none_of X G z_zip⟩
  have F0 := fun_mk (st := s__law_cup) l0 c0 k0
  have b0 := F0.binds (ps := ["script"]) fun _ _ _ _ _ _ us hl => match us, hl with | [_], _ => rfl
  have F1 := fun_mk (st := s_is_tuple_of) l1 c1 k1
  have b1 := F1.binds (ps := ["value", "least", "most"]) fun _ _ _ _ _ _ us hl => match us, hl with | [_, _, _], _ => rfl
  have F2 := fun_mk (st := s_fits_whole) l2 c2 k2
  have b2 := F2.binds (ps := ["value", "low", "high"]) fun _ _ _ _ _ _ us hl => match us, hl with | [_, _, _], _ => rfl
  have F3 := fun_mk (st := s_fits_cell) l3 c3 k3
  have b3 := F3.binds (ps := ["value"]) fun _ _ _ _ _ _ us hl => match us, hl with | [_], _ => rfl
  have F4 := fun_mk (st := s_fits_floor) l4 c4 k4
  have b4 := F4.binds (ps := ["value"]) fun _ _ _ _ _ _ us hl => match us, hl with | [_], _ => rfl
  have F5 := fun_mk (st := s_need_floor) l5 c5 k5
  have b5 := F5.binds (ps := ["floor"]) fun _ _ _ _ _ _ us hl => match us, hl with | [_], _ => rfl
  have F6 := fun_mk (st := s_homes_in) l6 c6 k6
  have b6 := F6.binds (ps := ["runs"]) fun _ _ _ _ _ _ us hl => match us, hl with | [_], _ => rfl
  have F7 := fun_mk (st := s_runs_in) l7 c7 k7
  have b7 := F7.binds (ps := ["cells", "across"]) fun _ _ _ _ _ _ us hl => match us, hl with | [_, _], _ => rfl
  have F8 := fun_mk (st := s_is_quiet_in) l8 c8 k8
  have b8 := F8.binds (ps := ["floor", "cells"]) fun _ _ _ _ _ _ us hl => match us, hl with | [_, _], _ => rfl
  have F9 := fun_mk (st := s_is_quiet) l9 c9 k9
  have b9 := F9.binds (ps := ["floor", "value"]) fun _ _ _ _ _ _ us hl => match us, hl with | [_, _], _ => rfl
  have F10 := fun_mk (st := s__law_rows_right) l10 c10 k10
  have b10 := F10.binds (ps := []) fun _ _ _ _ _ _ us hl => match us, hl with | [], _ => rfl
  have F11 := fun_mk (st := s__law_roll) l11 c11 k11
  have b11 := F11.binds (ps := ["cup", "many"]) fun _ _ _ _ _ _ us hl => match us, hl with | [_, _], _ => rfl
  have F12 := fun_mk (st := s__law_floor) l12 c12 k12
  have b12 := F12.binds (ps := ["cup", "many", "side"]) fun _ _ _ _ _ _ us hl => match us, hl with | [_, _, _], _ => rfl
  have F13 := fun_mk (st := s__law_some) l13 c13 k13
  have b13 := F13.binds (ps := ["cup", "things"]) fun _ _ _ _ _ _ us hl => match us, hl with | [_, _], _ => rfl
  have F14 := fun_mk (st := s_rising_runs) l14 c14 k14
  have b14 := F14.binds (ps := ["floor"]) fun _ _ _ _ _ _ us hl => match us, hl with | [_], _ => rfl
  have F15 := fun_mk (st := s_falling_runs) l15 c15 k15
  have b15 := F15.binds (ps := ["floor"]) fun _ _ _ _ _ _ us hl => match us, hl with | [_], _ => rfl
  have F16 := fun_mk (st := s__law_same) l16 c16 k16
  have b16 := F16.binds (ps := ["told", "due"]) fun _ _ _ _ _ _ us hl => match us, hl with | [_, _], _ => rfl
  have F17 := fun_mk (st := s__law_runs) l17 c17 k17
  have b17 := F17.binds (ps := ["floor", "across"]) fun _ _ _ _ _ _ us hl => match us, hl with | [_, _], _ => rfl
  have F18 := fun_mk (st := s__law_strikes) l18 c18 k18
  have b18 := F18.binds (ps := ["floor", "one", "other"]) fun _ _ _ _ _ _ us hl => match us, hl with | [_, _, _], _ => rfl
  have F19 := fun_mk (st := s_need_cell_of) l19 c19 k19
  have b19 := F19.binds (ps := ["floor", "cell"]) fun _ _ _ _ _ _ us hl => match us, hl with | [_, _], _ => rfl
  have F20 := fun_mk (st := s_struck_in) l20 c20 k20
  have b20 := F20.binds (ps := ["floor", "cell"]) fun _ _ _ _ _ _ us hl => match us, hl with | [_, _], _ => rfl
  have F21 := fun_mk (st := s_strikes) l21 c21 k21
  have b21 := F21.binds (ps := ["floor", "cell"]) fun _ _ _ _ _ _ us hl => match us, hl with | [_, _], _ => rfl
  have F22 := fun_mk (st := s__law_is_floor) l22 c22 k22
  have b22 := F22.binds (ps := ["value"]) fun _ _ _ _ _ _ us hl => match us, hl with | [_], _ => rfl
  have F23 := fun_mk (st := s__law_is_quiet) l23 c23 k23
  have b23 := F23.binds (ps := ["floor", "value"]) fun _ _ _ _ _ _ us hl => match us, hl with | [_, _], _ => rfl
  have F24 := fun_mk (st := s_law) l24 c24 k24
  have b24 := F24.binds (ps := ["script"]) fun _ _ _ _ _ _ us hl => match us, hl with | [_], _ => rfl
  refine ⟨PySem.W.fnOf "law" "law" (defArgs s_law) (defBody s_law) (defScope s_law) .none kV24 dc24 pm24 an24 cd24 ct24, fun s v => .of_eq rfl, fun base _ _ => ?_⟩
  have q0 : Kn l.prog w K mg base "_law_cup" 2 1 F__law_cup := kn__law_cup F0 T (PySem.W.mg_of X G a0) b0
  have q1 : Kn l.prog w K mg base "is_tuple_of" 2 3 F_is_tuple_of := kn_is_tuple_of F1 T (PySem.W.mg_of X G a1) b1
  have q2 : Kn l.prog w K mg base "fits_whole" 2 3 F_fits_whole := kn_fits_whole F2 T (PySem.W.mg_of X G a2) b2
  have q3 : Kn l.prog w K mg base "fits_cell" 3 1 F_fits_cell := kn_fits_cell F3 T (PySem.W.mg_of X G a3) b3 q1 q2
  have q4 : Kn l.prog w K mg base "fits_floor" 4 1 F_fits_floor := kn_fits_floor F4 T (PySem.W.mg_of X G a4) b4 q1 q3
  have q5 : Kn l.prog w K mg base "need_floor" 5 1 F_need_floor := kn_need_floor F5 T (PySem.W.mg_of X G a5) b5 q4
  have q6 : Kn l.prog w K mg base "homes_in" 2 1 F_homes_in := kn_homes_in F6 T (PySem.W.mg_of X G a6) b6
  have q7 : Kn l.prog w K mg base "runs_in" 2 2 F_runs_in := kn_runs_in F7 T (PySem.W.mg_of X G a7) b7
  have q8 : Kn l.prog w K mg base "is_quiet_in" 3 2 F_is_quiet_in := kn_is_quiet_in F8 T (PySem.W.mg_of X G a8) b8 q6 q7
  have q9 : Kn l.prog w K mg base "is_quiet" 6 2 F_is_quiet := kn_is_quiet F9 T (PySem.W.mg_of X G a9) b9 q5 q1 q3 q8
  have q10 : Kn l.prog w K mg base "_law_rows_right" 7 0 F__law_rows_right := kn__law_rows_right F10 T (PySem.W.mg_of X G a10) b10 q9
  have q11 : Kn l.prog w K mg base "_law_roll" 2 2 F__law_roll := kn__law_roll F11 T (PySem.W.mg_of X G a11) b11
  have q12 : Kn l.prog w K mg base "_law_floor" 3 3 F__law_floor := kn__law_floor F12 T (PySem.W.mg_of X G a12) b12 q11
  have q13 : Kn l.prog w K mg base "_law_some" 3 2 F__law_some := kn__law_some F13 T (PySem.W.mg_of X G a13) b13 q11
  have q14 : Kn l.prog w K mg base "rising_runs" 6 1 F_rising_runs := kn_rising_runs F14 T (PySem.W.mg_of X G a14) b14 q5 q7
  have q15 : Kn l.prog w K mg base "falling_runs" 6 1 F_falling_runs := kn_falling_runs F15 T (PySem.W.mg_of X G a15) b15 q5 q7
  have q16 : Kn l.prog w K mg base "_law_same" 13 2 F__law_same := kn__law_same F16 T (PySem.W.mg_of X G a16) b16
  have q17 : Kn l.prog w K mg base "_law_runs" 2 2 F__law_runs := kn__law_runs F17 T (PySem.W.mg_of X G a17) b17
  have q18 : Kn l.prog w K mg base "_law_strikes" 2 3 F__law_strikes := kn__law_strikes F18 T (PySem.W.mg_of X G a18) b18
  have q19 : Kn l.prog w K mg base "need_cell_of" 4 2 F_need_cell_of := kn_need_cell_of F19 T (PySem.W.mg_of X G a19) b19 q3
  have q20 : Kn l.prog w K mg base "struck_in" 3 2 F_struck_in := kn_struck_in F20 T (PySem.W.mg_of X G a20) b20 q7
  have q21 : Kn l.prog w K mg base "strikes" 6 2 F_strikes := kn_strikes F21 T (PySem.W.mg_of X G a21) b21 q5 q19 q20
  have q22 : Kn l.prog w K mg base "_law_is_floor" 2 1 F__law_is_floor := kn__law_is_floor F22 T (PySem.W.mg_of X G a22) b22
  have q23 : Kn l.prog w K mg base "_law_is_quiet" 3 2 F__law_is_quiet := kn__law_is_quiet F23 T (PySem.W.mg_of X G a23) b23 q22 q18
  exact ok_law F24 T (PySem.W.mg_of X G a24) b24 q0 q10 q12 q13 q14 q15 q16 q17 q18 q21 q11 q23 q9
theorem walk {l : PySem.W.OpenLaw} {q : Program} {loose : List Str} {XP : (Str → Option Value) → Heap → Prop} {YP : World → Heap → Prop} {d : DefRec} {K : Params → PySem.W.Frag} (hn : l.most = some 63) (hdf : d.params.defaults = [])
    (hY : ∀ (w : World) (h : Heap), YP w h → (K w.params).In h)
    (F : ∀ (w : World) (mg : Str → Option Value) (fa : Addr) (h : Heap), (K w.params).In h → h.Ns mainGlobals mg → mg d.name = some (.ref fa) →
      ∃ fd : FuncData, (∀ (s : Shared) (u : Value), BindsTo s fd ⟨[u], []⟩ [("script", u)]) ∧ ∀ base : Heap, (K w.params).In base → base.Ns mainGlobals mg → FnOk l.prog w (K w.params) mg base (L2.CX l.prog w) 14 fa fd ["script"] (spF ⟨l.prog, w, K w.params⟩ 1 F_law)) :
    PySem.W.WalkO q loose XP YP l.row.toRowW d [] (fun f vs => PySem.call f vs) :=
  L2.walk_of (n := 63) (k := 14) (x := "script") (CX := fun w => L2.CX l.prog w) (sp := fun w => spF ⟨l.prog, w, K w.params⟩ 1 F_law) hn (by decide) hdf ⟨rfl, by decide, by decide⟩ hY F (fun w H a ns hl _ hS => law_end law_true H a ns hl hS) fun w H s e s' z => by
    obtain ⟨_, _, _, _, _, _, _, _, _, _, _, _, z⟩ := z
    exact z
end K50
open PySem PySem.W PyProof.Rows
set_option maxRecDepth 100000 in
set_option maxHeartbeats 0 in
theorem PySem.Challenge.cw_cellgrounds_k50_whole_slanting_runs_holds : PySem.Challenge.rw_cellgrounds_k50_whole_slanting_runs.Holds := by
  w_on; o_law; k_head; (case hw => w_witness2)
  k_fill
  refine K50.walk (l := PySem.Challenge.rw_cellgrounds_k50_whole_slanting_runs) rfl rfl (fun w h Y => PySem.W.kIn_of Y) ?F
  case F =>
    intro w mg fa h KX G hmg
    refine' K50.all_mk KX G hmg ?a0 ?l0 ?c0 ?k0 ?a1 ?l1 ?c1 ?k1 ?a2 ?l2 ?c2 ?k2 ?a3 ?l3 ?c3 ?k3 ?a4 ?l4 ?c4 ?k4 ?a5 ?l5 ?c5 ?k5 ?a6 ?l6 ?c6 ?k6 ?a7 ?l7 ?c7 ?k7 ?a8 ?l8 ?c8 ?k8 ?a9 ?l9 ?c9 ?k9 ?a10 ?l10 ?c10 ?k10 ?a11 ?l11 ?c11 ?k11 ?a12 ?l12 ?c12 ?k12 ?a13 ?l13 ?c13 ?k13 ?a14 ?l14 ?c14 ?k14 ?a15 ?l15 ?c15 ?k15 ?a16 ?l16 ?c16 ?k16 ?a17 ?l17 ?c17 ?k17 ?a18 ?l18 ?c18 ?k18 ?a19 ?l19 ?c19 ?k19 ?a20 ?l20 ?c20 ?k20 ?a21 ?l21 ?c21 ?k21 ?a22 ?l22 ?c22 ?k22 ?a23 ?l23 ?c23 ?k23 ?a24 ?l24 ?c24 ?k24 ?g_CELLS ?g_MANY ?g_SIDE ?z_abs ?z_all ?z_bool ?z_dict ?z_enumerate ?z_int ?z_isinstance ?z_len ?z_list ?z_range ?z_set ?z_sorted ?z_str ?z_tuple ?z_zip
    (case a0 => k_is); (case l0 => k_is); (case c0 => k_is); (case k0 => k_is); (case a1 => k_is); (case l1 => k_is)
    (case c1 => k_is); (case k1 => k_is); (case a2 => k_is); (case l2 => k_is); (case c2 => k_is); (case k2 => k_is)
    (case a3 => k_is); (case l3 => k_is); (case c3 => k_is); (case k3 => k_is); (case a4 => k_is); (case l4 => k_is)
    (case c4 => k_is); (case k4 => k_is); (case a5 => k_is); (case l5 => k_is); (case c5 => k_is); (case k5 => k_is)
    (case a6 => k_is); (case l6 => k_is); (case c6 => k_is); (case k6 => k_is); (case a7 => k_is); (case l7 => k_is)
    (case c7 => k_is); (case k7 => k_is); (case a8 => k_is); (case l8 => k_is); (case c8 => k_is); (case k8 => k_is)
    (case a9 => k_is); (case l9 => k_is); (case c9 => k_is); (case k9 => k_is); (case a10 => k_is); (case l10 => k_is)
    (case c10 => k_is); (case k10 => k_is); (case a11 => k_is); (case l11 => k_is); (case c11 => k_is); (case k11 => k_is)
    (case a12 => k_is); (case l12 => k_is); (case c12 => k_is); (case k12 => k_is); (case a13 => k_is); (case l13 => k_is)
    (case c13 => k_is); (case k13 => k_is); (case a14 => k_is); (case l14 => k_is); (case c14 => k_is); (case k14 => k_is)
    (case a15 => k_is); (case l15 => k_is); (case c15 => k_is); (case k15 => k_is); (case a16 => k_is); (case l16 => k_is)
    (case c16 => k_is); (case k16 => k_is); (case a17 => k_is); (case l17 => k_is); (case c17 => k_is); (case k17 => k_is)
    (case a18 => k_is); (case l18 => k_is); (case c18 => k_is); (case k18 => k_is); (case a19 => k_is); (case l19 => k_is)
    (case c19 => k_is); (case k19 => k_is); (case a20 => k_is); (case l20 => k_is); (case c20 => k_is); (case k20 => k_is)
    (case a21 => k_is); (case l21 => k_is); (case c21 => k_is); (case k21 => k_is); (case a22 => k_is); (case l22 => k_is)
    (case c22 => k_is); (case k22 => k_is); (case a23 => k_is); (case l23 => k_is); (case c23 => k_is); (case k23 => k_is)
    (case a24 => k_is); (case l24 => k_is); (case c24 => k_is); (case k24 => k_is); (case g_CELLS => k_is); (case g_MANY => k_is)
    (case g_SIDE => k_is); (case z_abs => k_is); (case z_all => k_is); (case z_bool => k_is); (case z_dict => k_is); (case z_enumerate => k_is)
    (case z_int => k_is); (case z_isinstance => k_is); (case z_len => k_is); (case z_list => k_is); (case z_range => k_is); (case z_set => k_is)
    (case z_sorted => k_is); (case z_str => k_is); (case z_tuple => k_is); (case z_zip => k_is)
