import PyProof.Rows.All
import Wide.All
import OpenK.AllK
import Wide.FinOn
import HandS.ForMost
import HandS.ForExc
import HandS.Walk
import HandS.IsInst
import HandS.ExcInit
import HandS.ExcIs
import HandS.ExcField
import HandS.Lambda
import HandS.EndTab
import HandS.StrMore
import HandS.Conv
import HandS.TupAny
import HandS.TupMul
import HandS.Flow
import HandS.Codes
import HandS.CallSlots
import HandS.ExcCtx
import HandS.Replace
import KE.GoesMore
import KE.GoesEnum
import HandS.TryMany
import PyProof.ReprRoads
import HandS.Spec
import HandS.EndOwn
import HandS.HeadWalk
import HandS.CallRecv
import HandS.DictComp
import PyProof.StrOps2
import PyProof.DictUpdate
import PyProof.FactsAll.dict_1
import HandS.Defaults
import HandS.Style
import HandS.SortInts
import HandS.SortRule
import HandS.More
import PyProof.ReprLen
import HandS.Property
import HandS.ExcInitHot
import KE.KAsSuite
import HandS.SuiteRaise
import PyProof.Rows.CountFlat
import PySem.Challenge.RW_mirrorstops_k33_row_texts
set_option Elab.async false
set_option linter.all false
set_option autoImplicit false
set_option maxRecDepth 100000
set_option maxHeartbeats 4000000
/-! DL1: data, cells, the relation to the abstract heap, the readings. -/
namespace DL
open PySem PySem.Spec PyProof.Rows L2

/-- a datum: immutable trees, a mutable cell by its number, an object of the written part -/
inductive D where
  | non | bl (b : Bool) | int (i : Int) | str (x : Str) | ty (n : String)
  | tup (xs : List D) | cel (j : Nat) | adr (a : Addr)
  /-- a list that is read alone -/
  | fl (xs : List D)
/-- a mutable object -/
inductive Cell where
  | lst (xs : List D)
  | dct (kvs : List (Key × D))
  /-- a dict that is walked: it is read alone -/
  | fdc (kvs : List (Key × D))
  | ins (C : Addr) (fs : List (Str × D))
  | exc (C : Addr) (fs : List (Str × D))
/-- what an expression comes to -/
inductive Rs where
  | ok (d : D)
  | ex (C : Addr) (fs : List (Str × D))
abbrev Rho := List (Option D)
abbrev Mu := List Cell
abbrev Ro := Option (Rs × Mu)
abbrev ES := Rho → Mu → Ro

/-- what is never written stays -/
structure Kp (H H' : Hp) : Prop where
  tup : ∀ b xs, H b = some (.tup xs) → H' b = some (.tup xs)
  frz : ∀ b o u, H b = some (.frz o u) → H' b = some (.frz o u)
theorem Kp.refl (H : Hp) : Kp H H := ⟨fun _ _ h => h, fun _ _ _ h => h⟩
theorem Kp.trans {H H1 H2 : Hp} (a : Kp H H1) (b : Kp H1 H2) : Kp H H2 := ⟨fun c xs h => b.tup c xs (a.tup c xs h), fun c o u h => b.frz c o u (a.frz c o u h)⟩
theorem Kp.same {H H' : Hp} (s : Same H H') : Kp H H' := ⟨fun b _ h => s b _ h, fun b _ _ h => s b _ h⟩
theorem same_new {H : Hp} {p : Addr} {o : HO} (h : H p = none) : Same H (upd H p o) := fun b u e => by rw [upd_ne (ne_of_none e h)]; exact e
theorem Kp.new {H : Hp} {p : Addr} {o : HO} (h : H p = none) : Kp H (upd H p o) := Kp.same (same_new h)
theorem Kp.wr {H : Hp} {p : Addr} {o o' : HO} (h : H p = some o) (h1 : ∀ xs, o ≠ .tup xs) (h2 : ∀ b u, o ≠ .frz b u) : Kp H (upd H p o') :=
  ⟨fun b xs e => by rw [upd_ne (ne_of e h fun z => h1 xs z.symm)]; exact e, fun b q u e => by rw [upd_ne (ne_of e h fun z => h2 q u z.symm)]; exact e⟩
/-- a frozen list: it is read alone -/
def FzL (K : PySem.W.Frag) (H : Hp) (a : Addr) (vs : List V) : Prop := (∃ o, H a = some (.frz o (.lst vs))) ∨
  ∃ (o : Obj) (its : Array Value) (n : Nat), K.lookup a = some o ∧ o.cls = .type "list" ∧ o.dict = none ∧ o.data = .seq its n ∧ its.size ≤ sizeLine ∧ Vals vs its.toList
theorem FzL.sq {K : PySem.W.Frag} {H : Hp} {a : Addr} {vs : List V} (h : FzL K H a vs) : SqL K H a vs := by
  rcases h with ⟨o, h⟩ | h
  · exact .inl (.inr ⟨o, h⟩)
  · exact .inr h
theorem FzL.kp {K : PySem.W.Frag} {H H' : Hp} (k : Kp H H') {a : Addr} {vs : List V} (h : FzL K H a vs) : FzL K H' a vs := by
  rcases h with ⟨o, h⟩ | h
  · exact .inl ⟨o, k.frz _ _ _ h⟩
  · exact .inr h
mutual
def Rp (K : PySem.W.Frag) (al : List Addr) (H : Hp) : D → V → Prop
  | .non, v => v = .non
  | .bl b, v => v = .bl b
  | .int i, v => v = .int i
  | .str x, v => v = .str x
  | .ty n, v => v = .ty n
  | .cel j, v => ∃ a, al[j]? = some a ∧ v = .ref a
  | .adr a, v => v = .ref a
  | .tup xs, v => ∃ a ys, v = .ref a ∧ SqT K H a ys ∧ Rps K al H xs ys
  | .fl xs, v => ∃ a ys, v = .ref a ∧ FzL K H a ys ∧ Rps K al H xs ys
def Rps (K : PySem.W.Frag) (al : List Addr) (H : Hp) : List D → List V → Prop
  | [], vs => vs = []
  | x :: xs, vs => ∃ v r, vs = v :: r ∧ Rp K al H x v ∧ Rps K al H xs r
end

/-- the same, as far as data see it -/
structure Kq (H H' : Hp) : Prop where
  tup : ∀ b xs, H b = some (.tup xs) → H' b = some (.tup xs)
  frt : ∀ b o xs, H b = some (.frz o (.tup xs)) → H' b = some (.frz o (.tup xs))
  frl : ∀ b o xs, H b = some (.frz o (.lst xs)) → H' b = some (.frz o (.lst xs))
theorem Kp.q {H H' : Hp} (k : Kp H H') : Kq H H' := ⟨k.tup, fun b o xs h => k.frz b o _ h, fun b o xs h => k.frz b o _ h⟩
theorem FzL.kq {K : PySem.W.Frag} {H H' : Hp} (k : Kq H H') {a : Addr} {vs : List V} (h : FzL K H a vs) : FzL K H' a vs := by
  rcases h with ⟨o, h⟩ | h
  · exact .inl ⟨o, k.frl _ _ _ h⟩
  · exact .inr h
theorem SqT.kq {K : PySem.W.Frag} {H H' : Hp} (k : Kq H H') {a : Addr} {xs : List V} (h : SqT K H a xs) : SqT K H' a xs := by
  rcases h with (h | ⟨o, h⟩) | h
  · exact .inl (.inl (k.tup _ _ h))
  · exact .inl (.inr ⟨o, k.frt _ _ _ h⟩)
  · exact .inr h
theorem SqT.kp {K : PySem.W.Frag} {H H' : Hp} (k : Kp H H') {a : Addr} {xs : List V} (h : SqT K H a xs) : SqT K H' a xs := by
  rcases h with (h | ⟨o, h⟩) | h
  · exact .inl (.inl (k.tup _ _ h))
  · exact .inl (.inr ⟨o, k.frz _ _ _ h⟩)
  · exact .inr h
mutual
theorem Rp.monoQ {K : PySem.W.Frag} {al al' : List Addr} {H H' : Hp} (k : Kq H H') (ha : ∀ (j : Nat) (a : Addr), al[j]? = some a → al'[j]? = some a) : ∀ (d : D) (v : V), Rp K al H d v → Rp K al' H' d v
  | .non, v, h => by unfold Rp at h ⊢; exact h
  | .bl b, v, h => by unfold Rp at h ⊢; exact h
  | .int i, v, h => by unfold Rp at h ⊢; exact h
  | .str x, v, h => by unfold Rp at h ⊢; exact h
  | .ty n, v, h => by unfold Rp at h ⊢; exact h
  | .cel j, v, h => by
    unfold Rp at h ⊢
    obtain ⟨a, e, q⟩ := h
    exact ⟨a, ha j a e, q⟩
  | .adr a, v, h => by unfold Rp at h ⊢; exact h
  | .tup xs, v, h => by
    unfold Rp at h ⊢
    obtain ⟨a, ys, e, q, r⟩ := h
    exact ⟨a, ys, e, SqT.kq k q, Rps.monoQ k ha xs ys r⟩
  | .fl xs, v, h => by
    unfold Rp at h ⊢
    obtain ⟨a, ys, e, q, r⟩ := h
    exact ⟨a, ys, e, q.kq k, Rps.monoQ k ha xs ys r⟩
theorem Rps.monoQ {K : PySem.W.Frag} {al al' : List Addr} {H H' : Hp} (k : Kq H H') (ha : ∀ (j : Nat) (a : Addr), al[j]? = some a → al'[j]? = some a) : ∀ (ds : List D) (vs : List V), Rps K al H ds vs → Rps K al' H' ds vs
  | [], vs, h => by unfold Rps at h ⊢; exact h
  | d :: ds, vs, h => by
    unfold Rps at h ⊢
    obtain ⟨v, r, e, h1, h2⟩ := h
    exact ⟨v, r, e, Rp.monoQ k ha d v h1, Rps.monoQ k ha ds r h2⟩
end
theorem Rp.mono {K : PySem.W.Frag} {al al' : List Addr} {H H' : Hp} (k : Kp H H') (ha : ∀ (j : Nat) (a : Addr), al[j]? = some a → al'[j]? = some a) (d : D) (v : V) (h : Rp K al H d v) : Rp K al' H' d v := Rp.monoQ k.q ha d v h
theorem Rps.mono {K : PySem.W.Frag} {al al' : List Addr} {H H' : Hp} (k : Kp H H') (ha : ∀ (j : Nat) (a : Addr), al[j]? = some a → al'[j]? = some a) (ds : List D) (vs : List V) (h : Rps K al H ds vs) : Rps K al' H' ds vs := Rps.monoQ k.q ha ds vs h
/-- the addresses grow at the end -/
def Gr (al al' : List Addr) : Prop := ∀ (j : Nat) (a : Addr), al[j]? = some a → al'[j]? = some a
theorem Gr.refl (al : List Addr) : Gr al al := fun _ _ h => h
theorem Gr.trans {a b c : List Addr} (h : Gr a b) (g : Gr b c) : Gr a c := fun j x e => g j x (h j x e)
theorem Gr.app (al bl : List Addr) : Gr al (al ++ bl) := fun j a e => by
  rw [List.getElem?_append_left (List.getElem?_eq_some_iff.mp e).1]; exact e

theorem Rps.length {K : PySem.W.Frag} {al : List Addr} {H : Hp} : ∀ {ds : List D} {vs : List V}, Rps K al H ds vs → vs.length = ds.length
  | [], vs, h => by unfold Rps at h; subst h; rfl
  | d :: ds, vs, h => by
    unfold Rps at h
    obtain ⟨v, r, rfl, _, h2⟩ := h
    simp [Rps.length h2]
theorem Rps.get {K : PySem.W.Frag} {al : List Addr} {H : Hp} : ∀ {ds : List D} {vs : List V} {i : Nat} {d : D}, Rps K al H ds vs → ds[i]? = some d → ∃ v, vs[i]? = some v ∧ Rp K al H d v
  | [], vs, i, d, h, e => by simp at e
  | x :: ds, vs, 0, d, h, e => by
    unfold Rps at h
    obtain ⟨v, r, rfl, h1, h2⟩ := h
    simp at e; subst e
    exact ⟨v, rfl, h1⟩
  | x :: ds, vs, i + 1, d, h, e => by
    unfold Rps at h
    obtain ⟨v, r, rfl, h1, h2⟩ := h
    obtain ⟨w, e1, e2⟩ := Rps.get (i := i) h2 (by simpa using e)
    exact ⟨w, by simpa using e1, e2⟩
theorem Rps.app {K : PySem.W.Frag} {al : List Addr} {H : Hp} : ∀ {ds es : List D} {vs us : List V}, Rps K al H ds vs → Rps K al H es us → Rps K al H (ds ++ es) (vs ++ us)
  | [], es, vs, us, h, g => by unfold Rps at h; subst h; exact g
  | d :: ds, es, vs, us, h, g => by
    unfold Rps at h
    obtain ⟨v, r, rfl, h1, h2⟩ := h
    show Rps K al H (d :: (ds ++ es)) _
    unfold Rps
    exact ⟨v, r ++ us, rfl, h1, Rps.app h2 g⟩
theorem Rps.one {K : PySem.W.Frag} {al : List Addr} {H : Hp} {d : D} {v : V} (h : Rp K al H d v) : Rps K al H [d] [v] := by
  unfold Rps; exact ⟨v, [], rfl, h, by unfold Rps; rfl⟩
theorem Rps.nil {K : PySem.W.Frag} {al : List Addr} {H : Hp} : Rps K al H [] [] := by unfold Rps; rfl
theorem Rps.cons {K : PySem.W.Frag} {al : List Addr} {H : Hp} {d : D} {v : V} {ds : List D} {vs : List V} (h : Rp K al H d v) (g : Rps K al H ds vs) : Rps K al H (d :: ds) (v :: vs) := by
  unfold Rps; exact ⟨v, vs, rfl, h, g⟩
theorem Rps.set {K : PySem.W.Frag} {al : List Addr} {H : Hp} {d : D} {v : V} (q : Rp K al H d v) : ∀ {ds : List D} {vs : List V} (i : Nat), Rps K al H ds vs → Rps K al H (ds.set i d) (vs.set i v)
  | [], vs, i, h => by unfold Rps at h; subst h; cases i <;> exact Rps.nil
  | x :: ds, vs, 0, h => by
    unfold Rps at h
    obtain ⟨w, r, rfl, h1, h2⟩ := h
    exact Rps.cons q h2
  | x :: ds, vs, i + 1, h => by
    unfold Rps at h
    obtain ⟨w, r, rfl, h1, h2⟩ := h
    exact Rps.cons h1 (Rps.set q i h2)
theorem Rps.drop {K : PySem.W.Frag} {al : List Addr} {H : Hp} : ∀ {ds : List D} {vs : List V} (i : Nat), Rps K al H ds vs → Rps K al H (ds.drop i) (vs.drop i)
  | ds, vs, 0, h => h
  | [], vs, i + 1, h => by unfold Rps at h; subst h; exact Rps.nil
  | x :: ds, vs, i + 1, h => by
    unfold Rps at h
    obtain ⟨w, r, rfl, h1, h2⟩ := h
    exact Rps.drop i h2
theorem Rps.take {K : PySem.W.Frag} {al : List Addr} {H : Hp} : ∀ {ds : List D} {vs : List V} (i : Nat), Rps K al H ds vs → Rps K al H (ds.take i) (vs.take i)
  | ds, vs, 0, h => by simp; exact Rps.nil
  | [], vs, i + 1, h => by unfold Rps at h; subst h; exact Rps.nil
  | x :: ds, vs, i + 1, h => by
    unfold Rps at h
    obtain ⟨w, r, rfl, h1, h2⟩ := h
    exact Rps.cons h1 (Rps.take i h2)
/-- an exception that is held as a value -/
def ExH (a C dd : Addr) : HO := .ext fun h => ∃ (oe : Obj) (vs : Array Value), h.get? a = some oe ∧ oe.cls = .ref C ∧ oe.dict = some dd ∧ oe.data = .fields vs
def RpA {k : Type} (K : PySem.W.Frag) (al : List Addr) (H : Hp) (kvs : List (k × D)) (vs : List (k × V)) : Prop := vs.map (·.1) = kvs.map (·.1) ∧ Rps K al H (kvs.map (·.2)) (vs.map (·.2))
theorem RpA.mono {k : Type} {K : PySem.W.Frag} {al al' : List Addr} {H H' : Hp} (q : Kp H H') (ha : Gr al al') {kvs : List (k × D)} {vs : List (k × V)} (h : RpA K al H kvs vs) : RpA K al' H' kvs vs := ⟨h.1, Rps.mono q ha _ _ h.2⟩
def CellOk (K : PySem.W.Frag) (al : List Addr) (H : Hp) (a : Addr) : Cell → Prop
  | .lst xs => ∃ vs, H a = some (.lst vs) ∧ Rps K al H xs vs
  | .dct kvs => ∃ vs, H a = some (.dK vs) ∧ RpA K al H kvs vs
  | .fdc kvs => ∃ o vs, H a = some (.frz o (.dK vs)) ∧ RpA K al H kvs vs
  | .ins C fs => ∃ dx vs, H a = some (.ins C dx vs) ∧ RpA K al H fs vs
  | .exc C fs => ∃ dd vs, H a = some (ExH a C dd) ∧ H dd = some (.xd vs) ∧ RpA K al H fs vs
/-- which exceptions may be in the air: any, or such whose context is None -/
inductive Md where
  | a | n
/-- the tables of code objects; addresses that lie at the head -/
structure Tb where
  tb : List (Addr × Str)
  pre : List Addr
  md : Md
/-- the store and the heap -/
structure SR (K : PySem.W.Frag) (T : Tb) (al : List Addr) (mu : Mu) (H : Hp) : Prop where
  len : al.length = mu.length
  nd : al.Nodup
  ok : ∀ (j : Nat) (c : Cell) (a : Addr), mu[j]? = some c → al[j]? = some a → CellOk K al H a c
  tabs : LamX.Tabs T.tb H
  pre : Gr T.pre al
theorem CellOk.same {K : PySem.W.Frag} {al al' : List Addr} {H H' : Hp} {a : Addr} {c : Cell} (s : Same H H') (g : Gr al al') (h : CellOk K al H a c) : CellOk K al' H' a c := by
  cases c with
  | lst xs => obtain ⟨vs, e, r⟩ := h; exact ⟨vs, s _ _ e, Rps.mono (Kp.same s) g _ _ r⟩
  | dct kvs => obtain ⟨vs, e, r⟩ := h; exact ⟨vs, s _ _ e, r.mono (Kp.same s) g⟩
  | fdc kvs => obtain ⟨o, vs, e, r⟩ := h; exact ⟨o, vs, s _ _ e, r.mono (Kp.same s) g⟩
  | ins C fs => obtain ⟨dx, vs, e, r⟩ := h; exact ⟨dx, vs, s _ _ e, r.mono (Kp.same s) g⟩
  | exc C fs => obtain ⟨dd, vs, e, e2, r⟩ := h; exact ⟨dd, vs, s _ _ e, s _ _ e2, r.mono (Kp.same s) g⟩
section
variable {K : PySem.W.Frag} {T : Tb} {al al' : List Addr} {mu : Mu} {H H' : Hp}
/-- all that is tracked stays: the store stands -/
theorem SR.same (r : SR K T al mu H) (s : Same H H') : SR K T al mu H' := ⟨r.len, r.nd, fun j c a e1 e2 => (r.ok j c a e1 e2).same s (Gr.refl _), r.tabs.ext s, r.pre⟩
theorem SR.fresh {p : Addr} {o : HO} (r : SR K T al mu H) (h : H p = none) : SR K T al mu (upd H p o) := r.same (same_new h)
/-- a tracked place for each cell -/
theorem SR.at {j : Nat} {c : Cell} (r : SR K T al mu H) (e : mu[j]? = some c) : ∃ a, al[j]? = some a ∧ CellOk K al H a c := by
  have hj : j < al.length := by rw [r.len]; exact (List.getElem?_eq_some_iff.mp e).1
  exact ⟨al[j], by simp [hj], r.ok j c _ e (by simp [hj])⟩
theorem CellOk.there {a : Addr} {c : Cell} (h : CellOk K al H a c) : H a ≠ none := by
  cases c with
  | lst xs => obtain ⟨vs, e, r⟩ := h; rw [e]; simp
  | dct kvs => obtain ⟨vs, e, r⟩ := h; rw [e]; simp
  | fdc kvs => obtain ⟨o, vs, e, r⟩ := h; rw [e]; simp
  | ins C fs => obtain ⟨dx, vs, e, r⟩ := h; rw [e]; simp
  | exc C fs => obtain ⟨dd, vs, e, e2, r⟩ := h; rw [e]; simp
/-- a free place is no cell's -/
theorem SR.free {p : Addr} (r : SR K T al mu H) (h : H p = none) : p ∉ al := fun hp => by
  obtain ⟨j, hj, e⟩ := List.mem_iff_getElem.mp hp
  have hm : j < mu.length := by rw [← r.len]; exact hj
  exact (r.ok j mu[j] p (by simp [hm]) (by simp [hj, e])).there h
/-- a new cell -/
theorem SR.alloc {p : Addr} {o : HO} {c : Cell} (r : SR K T al mu H) (h : H p = none) (ok : CellOk K (al ++ [p]) (upd H p o) p c) : SR K T (al ++ [p]) (mu ++ [c]) (upd H p o) := by
  refine ⟨by simp [r.len], ?_, fun j c' a e1 e2 => ?_, r.tabs.ext (same_new h), r.pre.trans (Gr.app _ _)⟩
  · rw [List.nodup_append]
    refine ⟨r.nd, by simp, fun x hx y hy z => r.free h ?_⟩
    have : y = p := by simpa using hy
    subst this; subst z; exact hx
  · by_cases hj : j < mu.length
    · rw [List.getElem?_append_left hj] at e1
      rw [List.getElem?_append_left (by rw [r.len]; exact hj)] at e2
      exact (r.ok j c' a e1 e2).same (same_new h) (Gr.app _ _)
    · have hj' : j = mu.length := by
        have := (List.getElem?_eq_some_iff.mp e1).1
        simp at this; omega
      subst hj'
      simp at e1
      rw [← r.len] at e2
      simp at e2
      subst e1; subst e2
      exact ok
/-- a cell is written -/
theorem SR.write {j : Nat} {a : Addr} {c c' : Cell} {o o' : HO} (r : SR K T al mu H) (e1 : mu[j]? = some c) (e2 : al[j]? = some a) (ho : H a = some o) (h1 : ∀ xs, o ≠ .tup xs) (h2 : ∀ b u, o ≠ .frz b u) (h3 : ∀ ps, o ≠ .tbl ps) (h4 : ∀ f, o ≠ .ext f) (h5 : ∀ fs, o ≠ .xd fs)
    (ok : CellOk K al (upd H a o') a c') : SR K T al (mu.set j c') (upd H a o') := by
  have kp : Kp H (upd H a o') := Kp.wr ho h1 h2
  refine ⟨by simp [r.len], r.nd, fun i c2 b f1 f2 => ?_, fun p hp => ?_, r.pre⟩
  · by_cases hi : i = j
    · subst hi
      rw [e2] at f2; cases f2
      rw [List.getElem?_set_self (List.getElem?_eq_some_iff.mp e1).1] at f1
      cases f1
      exact ok
    · rw [List.getElem?_set_ne (Ne.symm hi)] at f1
      have hba : b ≠ a := fun z => by
        subst z
        obtain ⟨l1, q1⟩ := List.getElem?_eq_some_iff.mp f2
        obtain ⟨l2, q2⟩ := List.getElem?_eq_some_iff.mp e2
        exact hi ((List.getElem_inj r.nd).mp (q1.trans q2.symm))
      have h := r.ok i c2 b f1 f2
      cases c2 with
      | lst xs => obtain ⟨vs, e, q⟩ := h; exact ⟨vs, by rw [upd_ne hba]; exact e, Rps.mono kp (Gr.refl _) _ _ q⟩
      | dct kvs => obtain ⟨vs, e, q⟩ := h; exact ⟨vs, by rw [upd_ne hba]; exact e, q.mono kp (Gr.refl _)⟩
      | fdc kvs => obtain ⟨o, vs, e, q⟩ := h; exact ⟨o, vs, by rw [upd_ne hba]; exact e, q.mono kp (Gr.refl _)⟩
      | ins C fs => obtain ⟨dx, vs, e, q⟩ := h; exact ⟨dx, vs, by rw [upd_ne hba]; exact e, q.mono kp (Gr.refl _)⟩
      | exc C fs =>
        obtain ⟨dd, vs, e, e2', q⟩ := h
        exact ⟨dd, vs, by rw [upd_ne hba]; exact e, by rw [upd_ne (ne_of e2' ho fun z => h5 vs z.symm)]; exact e2', q.mono kp (Gr.refl _)⟩
  · obtain ⟨ps, t1, t2, t3⟩ := r.tabs p hp
    refine ⟨ps, by rw [upd_ne (ne_of t1 ho fun z => h3 ps z.symm)]; exact t1, t2, fun pos cv hc => ?_⟩
    obtain ⟨c0, z1, z2⟩ := t3 pos cv hc
    exact ⟨c0, z1, by rw [upd_ne (ne_of z2 ho fun z => h4 _ z.symm)]; exact z2⟩
end
theorem RpA.monoQ {k : Type} {K : PySem.W.Frag} {al al' : List Addr} {H H' : Hp} (q : Kq H H') (ha : Gr al al') {kvs : List (k × D)} {vs : List (k × V)} (h : RpA K al H kvs vs) : RpA K al' H' kvs vs := ⟨h.1, Rps.monoQ q ha _ _ h.2⟩
/-- the slots -/
structure SL (K : PySem.W.Frag) (al : List Addr) (H : Hp) (rho : Rho) (s : L2.St) : Prop where
  len : rho.length = s.length
  ok : ∀ (i : Nat) (d : D), rho[i]? = some (some d) → ∃ v, s[i]? = some (some v) ∧ Rp K al H d v
theorem SL.mono {K : PySem.W.Frag} {al al' : List Addr} {H H' : Hp} {rho : Rho} {s : L2.St} (r : SL K al H rho s) (k : Kp H H') (g : Gr al al') : SL K al' H' rho s := ⟨r.len, fun i d e => by
  obtain ⟨v, e1, e2⟩ := r.ok i d e
  exact ⟨v, e1, Rp.mono k g d v e2⟩⟩
theorem SL.set {K : PySem.W.Frag} {al : List Addr} {H : Hp} {rho : Rho} {s : L2.St} {d : D} {v : V} (r : SL K al H rho s) (q : Rp K al H d v) (i : Nat) : SL K al H (rho.set i (some d)) (s.set i (some v)) := ⟨by simp [r.len], fun j e h => by
  by_cases hj : j = i
  · subst hj
    have hl : j < rho.length := by
      have := (List.getElem?_eq_some_iff.mp h).1
      simpa using this
    rw [List.getElem?_set_self hl] at h
    cases h
    exact ⟨v, by rw [List.getElem?_set_self (by rw [← r.len]; exact hl)], q⟩
  · rw [List.getElem?_set_ne (Ne.symm hj)] at h
    obtain ⟨w, e1, e2⟩ := r.ok j e h
    exact ⟨w, by rw [List.getElem?_set_ne (Ne.symm hj)]; exact e1, e2⟩⟩

/-- what is wanted of an outcome -/
def Wo (K : PySem.W.Frag) (T : Tb) (al : List Addr) (H : Hp) (Q : VK) (E : XK) : Ro → Prop
  | none => False
  | some (.ok d, mu) => ∀ al' v H', Gr al al' → Kp H H' → SR K T al' mu H' → Rp K al' H' d v → Q v H'
  | some (.ex C fs, mu) => ∀ al' H' dd vs, Gr al al' → Kp H H' → SR K T al' mu H' → H' dd = some (.xd vs) → RpA K al' H' fs vs → E (.ref C) (some dd) H'
theorem Wo.mono {K : PySem.W.Frag} {T : Tb} {al al' : List Addr} {H H' : Hp} {Q : VK} {E : XK} {r : Ro} (h : Wo K T al H Q E r) (g : Gr al al') (k : Kp H H') : Wo K T al' H' Q E r := by
  match r with
  | none => exact h
  | some (.ok d, mu) => exact fun a v H2 g2 k2 s q => h a v H2 (g.trans g2) (k.trans k2) s q
  | some (.ex C fs, mu) => exact fun a H2 dd vs g2 k2 s e q => h a H2 dd vs (g.trans g2) (k.trans k2) s e q
/-- go on with a value; an exception goes through -/
def bnd (r : Ro) (k : D → Mu → Ro) : Ro := match r with
  | some (.ok d, mu) => k d mu
  | some (.ex C fs, mu) => some (.ex C fs, mu)
  | none => none
theorem Wo.bnd {K : PySem.W.Frag} {T : Tb} {al : List Addr} {H : Hp} {Q P : VK} {E : XK} {r : Ro} {k : D → Mu → Ro} (h : Wo K T al H Q E (bnd r k))
    (hk : ∀ d mu al' v H', r = some (.ok d, mu) → Gr al al' → Kp H H' → SR K T al' mu H' → Rp K al' H' d v → Wo K T al' H' Q E (k d mu) → P v H') : Wo K T al H P E r := by
  match r with
  | none => exact h
  | some (.ok d, mu) => exact fun a v H2 g2 k2 s q => hk d mu a v H2 rfl g2 k2 s q (Wo.mono (r := k d mu) h g2 k2)
  | some (.ex C fs, mu) => exact h
/-- an outcome with the heap as it is -/
theorem Wo.now {K : PySem.W.Frag} {T : Tb} {al : List Addr} {mu : Mu} {H : Hp} {Q : VK} {E : XK} {d : D} {v : V} (h : Wo K T al H Q E (some (.ok d, mu))) (s : SR K T al mu H) (q : Rp K al H d v) : Q v H := h al v H (Gr.refl _) (Kp.refl _) s q

/-! ### expressions -/
def rdE (K : PySem.W.Frag) (T : Tb) (W : WX) (f : ES) : TE := fun s H Q => ∃ al rho mu, SL K al H rho s ∧ SR K T al mu H ∧ Wo K T al H Q (fun c d H' => W c d s H') (f rho mu)
def TakesM : Md → Cx → WX → Prop
  | .a, X, W => L2.Takes X W
  | .n, X, W => L2N.Takes X W
def CXM : Md → Program → World → CXT
  | .a => L2.CX
  | .n => L2N.CX
/-- what a context bears: the wish about exceptions is taken, no repr runs around -/
structure Cz (m : Md) (X : Cx) (W : WX) : Prop where
  tk : TakesM m X W
  gd : X.A.guards = some []
/-- e, in X, is f -/
def SE (T : Tb) (X : Cx) (e : Expr) (f : ES) : Prop := ∀ W : WX, Cz T.md X W → PE X e (rdE X.K T W f)
theorem PE.weak {X : Cx} {e : Expr} {t t' : TE} (h : PE X e t) (i : ∀ s H Q, t' s H Q → t s H Q) : PE X e t' := ⟨fun pins s σ H Q I z => h.run pins s σ H Q I (i σ H Q z)⟩
theorem PT.weak {X : Cx} {e : Expr} {t t' : TT} (h : PT X e t) (i : ∀ s H Q, t' s H Q → t s H Q) : PT X e t' := ⟨fun pins s σ H Q I z => h.run pins s σ H Q I (i σ H Q z)⟩
theorem PA.weak {X : Cx} {e : List Expr} {t t' : TA} (h : PA X e t) (i : ∀ s H Q, t' s H Q → t s H Q) : PA X e t' := ⟨fun p pins s σ H Q I z => h.run p pins s σ H Q I (i σ H Q z)⟩
theorem PS.weak {X : Cx} {e : Stmt} {t t' : TS} (h : PS X e t) (i : ∀ D s H, t' D s H → t D s H) : PS X e t' := ⟨fun pins s σ H D I z => h.run pins s σ H D I (i D σ H z)⟩
theorem PSs.weak {X : Cx} {e : List Stmt} {t t' : TS} (h : PSs X e t) (i : ∀ D s H, t' D s H → t D s H) : PSs X e t' := ⟨fun pins s σ H D I z => h.run pins s σ H D I (i D σ H z)⟩

def eC (d : D) : ES := fun _ mu => some (.ok d, mu)
def eVar (i : Nat) : ES := fun rho mu => match rho[i]? with
  | some (some d) => some (.ok d, mu)
  | _ => none
section
variable {T : Tb} {X : Cx} {pos : Pos}
/-- a rule that hands out one value, the heap as it stands -/
theorem se_const {e : Expr} {v : V} {d : D} (h : PE X e (tC v)) (r : ∀ al H, Rp X.K al H d v) : SE T X e (eC d) := fun W tk => PE.weak h fun s H Q ⟨al, rho, mu, sl, sr, p⟩ => p.now sr (r al H)
theorem se_int {i j} : SE T X (.Constant (.int i) j pos) (eC (.int i)) := se_const pe_int fun _ _ => by unfold Rp; rfl
theorem se_str {x j} : SE T X (.Constant (.str x) j pos) (eC (.str x)) := se_const pe_str fun _ _ => by unfold Rp; rfl
theorem se_bl {b j} : SE T X (.Constant (.bool b) j pos) (eC (.bl b)) := se_const pe_bl fun _ _ => by unfold Rp; rfl
theorem se_non {j} : SE T X (.Constant .none j pos) (eC .non) := se_const pe_non fun _ _ => by unfold Rp; rfl
theorem se_var (i : Nat) {x : Str} (hN : X.N[i]? = some x := by rfl) (hv : Vis X.env.scope x := by first | exact Or.inl rfl | exact Or.inr (Or.inl rfl) | exact Or.inr (Or.inr rfl)) (hd : (x == ("__debug__" : Str)) = false := by decide)
    (hcd : (x == ("__classdict__" : Str)) = false := by decide) : SE T X (.Name x pos) (eVar i) := fun W tk => PE.weak (pe_var hN hv hd hcd) fun s H Q ⟨al, rho, mu, sl, sr, p⟩ => by
  unfold eVar at p
  match q : rho[i]? with
  | some (some d) =>
    obtain ⟨v, e1, e2⟩ := sl.ok i d q
    rw [q] at p
    exact ⟨v, e1, p.now sr e2⟩
  | some none => rw [q] at p; exact p.elim
  | none => rw [q] at p; exact p.elim
/-- a module's constant -/
theorem se_glob {x : Str} {u : Value} {v : V} {d : D} (hg : Gl X x) (hm : X.mg x = some u) (r : RelV v u) (q : ∀ al H, Rp X.K al H d v) (hd : (x == ("__debug__" : Str)) = false := by decide) : SE T X (.Name x pos) (eC d) := se_const (pe_glob hg hm r hd) q
theorem se_bltn {x : Str} {u : Value} {v : V} {d : D} (hg : Gl X x) (hm : X.mg x = none) (hv : bootBuiltins x = some u) (r : RelV v u) (q : ∀ al H, Rp X.K al H d v) (hn : x ≠ "__name__" := by decide) (hd : (x == ("__debug__" : Str)) = false := by decide) : SE T X (.Name x pos) (eC d) := se_const (pe_bltn hg hm hv r hn hd) q
end
/-! ### two values -/
abbrev D2 := D → D → Mu → Ro
def eOp (h : D2) (f g : ES) : ES := fun rho mu => bnd (f rho mu) fun x mu1 => bnd (g rho mu1) fun y mu2 => h x y mu2
/-- the operation by values -/
def Op2 (K : PySem.W.Frag) (T : Tb) (h : D2) (r : R2) : Prop := ∀ (al : List Addr) (mu : Mu) (H : Hp) (dx dy : D) (x y : V) (Q : VK) (E : XK), SR K T al mu H → Rp K al H dx x → Rp K al H dy y → Wo K T al H Q E (h dx dy mu) → r x y H Q
section
variable {T : Tb} {X : Cx} {pos : Pos} {a b : Expr} {f g : ES}
theorem rd_op {W : WX} {h : D2} {r : R2} (o : Op2 X.K T h r) : ∀ s H Q, rdE X.K T W (eOp h f g) s H Q → tOp r (rdE X.K T W f) (rdE X.K T W g) s H Q := fun s H Q ⟨al, rho, mu, sl, sr, p⟩ =>
  ⟨al, rho, mu, sl, sr, Wo.bnd p fun dx mu1 al1 x H1 _ g1 k1 sr1 rx p1 =>
    ⟨al1, rho, mu1, sl.mono k1 g1, sr1, Wo.bnd p1 fun dy mu2 al2 y H2 _ g2 k2 sr2 ry p2 => o al2 mu2 H2 dx dy x y Q _ sr2 (Rp.mono k2 g2 _ _ rx) ry p2⟩⟩
theorem se_op {op : Operator} {h : D2} {r : R2} (ho : OpR X (binaryOp op) r) (o : Op2 X.K T h r) (ha : SE T X a f) (hb : SE T X b g) : SE T X (.BinOp a op b pos) (eOp h f g) := fun W tk => PE.weak (pe_op ho (ha W tk) (hb W tk)) (rd_op o)
theorem se_cmp {op : CmpOp} {h : D2} {r : R2} (ho : OpR X (compareOp op) r) (o : Op2 X.K T h r) (ha : SE T X a f) (hb : SE T X b g) (hm : behindInMarks op b = false := by first | exact nomark _ | rfl) : SE T X (.Compare a [op] [b] pos) (eOp h f g) := fun W tk => PE.weak (pe_cmpR ho (ha W tk) (hb W tk) hm) (rd_op o)
end
end DL
set_option Elab.async false
set_option linter.all false
set_option autoImplicit false
set_option maxRecDepth 100000
set_option maxHeartbeats 4000000
/-! DL2: tests, statements, arguments, calls, defs. -/
namespace DL
open PySem PySem.Spec PyProof.Rows L2

/-! ### tests -/
def rdT (K : PySem.W.Frag) (T : Tb) (W : WX) (f : ES) : TT := fun s H Q => rdE K T W f s H fun v H' => ∃ b, v = .bl b ∧ Q b H'
def SC (T : Tb) (X : Cx) (e : Expr) (f : ES) : Prop := ∀ W : WX, Cz T.md X W → PT X e (rdT X.K T W f)
def SW (T : Tb) (X : Cx) (e : Expr) (f : ES) : Prop := ∀ W : WX, Cz T.md X W → PW X e (rdT X.K T W f)
theorem PW.weak {X : Cx} {e : Expr} {t t' : TT} (h : PW X e t) (i : ∀ s H Q, t' s H Q → t s H Q) : PW X e t' := ⟨fun wh pins s σ H Q I z => h.run wh pins s σ H Q I (i σ H Q z)⟩
/-- a truth value chooses -/
def chB (a b : Mu → Ro) : D → Mu → Ro := fun d mu => match d with
  | .bl true => a mu
  | .bl false => b mu
  | _ => none
def eAnd (f g : ES) : ES := fun rho mu => bnd (f rho mu) (chB (fun mu1 => g rho mu1) fun mu1 => some (.ok (.bl false), mu1))
def eOr (f g : ES) : ES := fun rho mu => bnd (f rho mu) (chB (fun mu1 => some (.ok (.bl true), mu1)) fun mu1 => g rho mu1)
def eNot (f : ES) : ES := fun rho mu => bnd (f rho mu) (chB (fun mu1 => some (.ok (.bl false), mu1)) fun mu1 => some (.ok (.bl true), mu1))
def eIf (c f g : ES) : ES := fun rho mu => bnd (c rho mu) (chB (fun mu1 => f rho mu1) fun mu1 => g rho mu1)
section
variable {T : Tb} {X : Cx} {pos : Pos} {a b c : Expr} {f g h : ES} {rest : List Expr}
theorem Wo.ch {K : PySem.W.Frag} {al : List Addr} {H : Hp} {Q P : VK} {E : XK} {r : Ro} {A B : Mu → Ro} (h : Wo K T al H Q E (DL.bnd r (chB A B)))
    (hk : ∀ b mu al' H', Gr al al' → Kp H H' → SR K T al' mu H' → Wo K T al' H' Q E (if b = true then A mu else B mu) → P (.bl b) H') : Wo K T al H P E r :=
  h.bnd fun d mu al' v H' _ g k s q p => by
    unfold chB at p
    match d with
    | .bl true =>
      unfold Rp at q; subst q
      exact hk true mu al' H' g k s (by rw [if_pos rfl]; exact p)
    | .bl false =>
      unfold Rp at q; subst q
      exact hk false mu al' H' g k s (by rw [if_neg Bool.false_ne_true]; exact p)
    | .non => exact p.elim
    | .int _ => exact p.elim
    | .str _ => exact p.elim
    | .ty _ => exact p.elim
    | .tup _ => exact p.elim
    | .cel _ => exact p.elim
    | .adr _ => exact p.elim
    | .fl _ => exact p.elim
theorem bl_rp {K : PySem.W.Frag} {al : List Addr} {H : Hp} (b : Bool) : Rp K al H (.bl b) (.bl b) := by unfold Rp; rfl
theorem sc_val (h : SE T X a f) (he : ∀ whole, isTrue a X.env whole = (do let v ← whole; standAt a.pos; holding [v] (truthy v)) := by intro _; rfl) : SC T X a f := fun W tk => PT.weak (pt_val (h W tk) he) fun s H Q z => z
theorem sc_cmp {op : CmpOp} {h : D2} {r : R2} (ho : OpR X (compareOp op) r) (o : Op2 X.K T h r) (ha : SE T X a f) (hb : SE T X b g) (hm : behindInMarks op b = false := by first | exact nomark _ | rfl) : SC T X (.Compare a [op] [b] pos) (eOp h f g) :=
  fun W tk => PT.weak (pt_cmpR ho (ha W tk) (hb W tk) hm) fun s H Q z => rd_op o s H _ z
theorem sc_w (h : SW T X a f) : SC T X a f := fun W tk => (h W tk).pt
theorem sw_and1 (ha : SC T X a f) : SW T X (.BoolOp .And [a] pos) f := fun W tk => pw_and1 (ha W tk)
theorem sw_or1 (ha : SC T X a f) : SW T X (.BoolOp .Or [a] pos) f := fun W tk => pw_or1 (ha W tk)
theorem sw_and (ha : SC T X a f) (hb : SW T X (.BoolOp .And (b :: rest) pos) g) : SW T X (.BoolOp .And (a :: b :: rest) pos) (eAnd f g) := fun W tk => PW.weak (pw_and (ha W tk) (hb W tk)) fun s H Q ⟨al, rho, mu, sl, sr, p⟩ =>
  ⟨al, rho, mu, sl, sr, p.ch fun b mu1 al1 H1 g1 k1 sr1 p1 => ⟨b, rfl, by
    cases b with
    | true => exact ⟨al1, rho, mu1, sl.mono k1 g1, sr1, p1⟩
    | false =>
      obtain ⟨b, e, q⟩ := Wo.now (d := .bl false) p1 sr1 (bl_rp false)
      cases e; exact q⟩⟩
theorem sw_or (ha : SC T X a f) (hb : SW T X (.BoolOp .Or (b :: rest) pos) g) : SW T X (.BoolOp .Or (a :: b :: rest) pos) (eOr f g) := fun W tk => PW.weak (pw_or (ha W tk) (hb W tk)) fun s H Q ⟨al, rho, mu, sl, sr, p⟩ =>
  ⟨al, rho, mu, sl, sr, p.ch fun b mu1 al1 H1 g1 k1 sr1 p1 => ⟨b, rfl, by
    cases b with
    | false => exact ⟨al1, rho, mu1, sl.mono k1 g1, sr1, p1⟩
    | true =>
      obtain ⟨b, e, q⟩ := Wo.now (d := .bl true) p1 sr1 (bl_rp true)
      cases e; exact q⟩⟩
theorem sc_not (ha : SC T X a f) : SC T X (.UnaryOp .Not a pos) (eNot f) := fun W tk => PT.weak (pt_not (ha W tk)) fun s H Q ⟨al, rho, mu, sl, sr, p⟩ =>
  ⟨al, rho, mu, sl, sr, p.ch fun b mu1 al1 H1 g1 k1 sr1 p1 => ⟨b, rfl, by
    cases b with
    | true =>
      obtain ⟨b, e, q⟩ := Wo.now (d := .bl false) p1 sr1 (bl_rp false)
      cases e; exact q
    | false =>
      obtain ⟨b, e, q⟩ := Wo.now (d := .bl true) p1 sr1 (bl_rp true)
      cases e; exact q⟩⟩
/-! the same as values -/
theorem se_one {op} (h : SE T X a f) : SE T X (.BoolOp op [a] pos) f := fun W tk => pe_one (h W tk)
theorem se_and (ha : SE T X a f) (hb : SE T X (.BoolOp .And (b :: rest) pos) g) : SE T X (.BoolOp .And (a :: b :: rest) pos) (eAnd f g) := fun W tk => PE.weak (pe_and (ha W tk) (hb W tk)) fun s H Q ⟨al, rho, mu, sl, sr, p⟩ =>
  ⟨al, rho, mu, sl, sr, p.ch fun b mu1 al1 H1 g1 k1 sr1 p1 => ⟨b, rfl, by
    cases b with
    | true => exact ⟨al1, rho, mu1, sl.mono k1 g1, sr1, p1⟩
    | false => exact Wo.now (d := .bl false) p1 sr1 (bl_rp false)⟩⟩
theorem se_if (hc : SC T X c h) (ha : SE T X a f) (hb : SE T X b g) : SE T X (.IfExp c a b pos) (eIf h f g) := fun W tk => PE.weak (pe_ifExp (hc W tk) (ha W tk) (hb W tk)) fun s H Q ⟨al, rho, mu, sl, sr, p⟩ =>
  ⟨al, rho, mu, sl, sr, p.ch fun b mu1 al1 H1 g1 k1 sr1 p1 => ⟨b, rfl, by
    cases b with
    | true => exact ⟨al1, rho, mu1, sl.mono k1 g1, sr1, p1⟩
    | false => exact ⟨al1, rho, mu1, sl.mono k1 g1, sr1, p1⟩⟩⟩
end

/-! ### arguments -/
def eArgs : List ES → Rho → Mu → (List D → Mu → Ro) → Ro
  | [], _, mu, k => k [] mu
  | f :: fs, rho, mu, k => bnd (f rho mu) fun d mu1 => eArgs fs rho mu1 fun ds mu2 => k (d :: ds) mu2
def rdA (K : PySem.W.Frag) (T : Tb) (W : WX) (fs : List ES) : TA := fun s H Q => ∃ al rho mu k Q0, SL K al H rho s ∧ SR K T al mu H ∧ Wo K T al H Q0 (fun c d H' => W c d s H') (eArgs fs rho mu k) ∧
  ∀ ds mu' al' vs H', ds.length = fs.length → Gr al al' → Kp H H' → SR K T al' mu' H' → Rps K al' H' ds vs → Wo K T al' H' Q0 (fun c d H' => W c d s H') (k ds mu') → Q vs H'
def SA (T : Tb) (X : Cx) (es : List Expr) (fs : List ES) : Prop := ∀ W : WX, Cz T.md X W → PA X es (rdA X.K T W fs)
section
variable {T : Tb} {X : Cx} {pos : Pos} {e : Expr} {es : List Expr} {f : ES} {fs : List ES}
theorem sa_nil : SA T X [] [] := fun W tk => PA.weak pa_nil fun s H Q ⟨al, rho, mu, k, Q0, sl, sr, p, hk⟩ => hk [] mu al [] H rfl (Gr.refl _) (Kp.refl _) sr Rps.nil p
theorem sa_cons (ha : SE T X e f) (hr : SA T X es fs) (hs : starEach (e :: es) X.env = (false, eval e X.env) :: starEach es X.env := by rfl) : SA T X (e :: es) (f :: fs) := fun W tk => PA.weak (pa_cons (ha W tk) (hr W tk) hs) fun s H Q ⟨al, rho, mu, k, Q0, sl, sr, p, hk⟩ =>
  ⟨al, rho, mu, sl, sr, Wo.bnd p fun d mu1 al1 v H1 _ g1 k1 sr1 rv p1 =>
    ⟨al1, rho, mu1, fun ds mu2 => k (d :: ds) mu2, Q0, sl.mono k1 g1, sr1, p1, fun ds mu2 al2 vs H2 hl g2 k2 sr2 rvs p2 => hk (d :: ds) mu2 al2 (v :: vs) H2 (by simp [hl]) (g1.trans g2) (k1.trans k2) sr2 (Rps.cons (Rp.mono k2 g2 _ _ rv) rvs) p2⟩⟩
/-- a rule of a call by values, at data -/
abbrev FS := List D → Mu → Ro
def CallD (K : PySem.W.Frag) (T : Tb) (F : FS) (r : List V → Hp → VK → Prop) : Prop := ∀ (al : List Addr) (mu : Mu) (H : Hp) (ds : List D) (vs : List V) (Q : VK) (E : XK), SR K T al mu H → Rps K al H ds vs → Wo K T al H Q E (F ds mu) → r vs H Q
def eCall (F : FS) (fs : List ES) : ES := fun rho mu => eArgs fs rho mu F
theorem se_callB {x : Str} {id : String} {F : FS} {r : List V → Hp → VK → Prop} {p : Pos} (hc : CallR X (.builtin id) r) (o : CallD X.K T F r) (hg : Gl X x) (hm : X.mg x = none) (hv : bootBuiltins x = some (.builtin id)) (ha : SA T X (e :: es) fs)
    (hn : x ≠ "__name__" := by decide) (hdb : (x == ("__debug__" : Str)) = false := by decide)
    (he : starEach (e :: es) X.env = (false, eval e X.env) :: starEach es X.env := by rfl) (hpl : (backTo pos (starEach es X.env)).any (·.1) = false := by rfl) : SE T X (.Call (.Name x p) (e :: es) [] pos) (eCall F fs) := fun W tk =>
  PE.weak (pe_callB hc hg hm hv (ha W tk) hn hdb he hpl) fun s H Q ⟨al, rho, mu, sl, sr, w⟩ => ⟨al, rho, mu, F, Q, sl, sr, w, fun ds mu' al' vs H' _ g k sr' rv w' => o al' mu' H' ds vs Q _ sr' rv w'⟩
theorem se_callTy {x : Str} {id : String} {F : FS} {r : List V → Hp → VK → Prop} {p : Pos} (hc : CallR X (.type id) r) (o : CallD X.K T F r) (hg : Gl X x) (hm : X.mg x = none) (hv : bootBuiltins x = some (.type id)) (ha : SA T X (e :: es) fs)
    (hn : x ≠ "__name__" := by decide) (hdb : (x == ("__debug__" : Str)) = false := by decide)
    (he : starEach (e :: es) X.env = (false, eval e X.env) :: starEach es X.env := by rfl) (hpl : (backTo pos (starEach es X.env)).any (·.1) = false := by rfl) : SE T X (.Call (.Name x p) (e :: es) [] pos) (eCall F fs) := fun W tk =>
  PE.weak (pe_callTy hc hg hm hv (ha W tk) hn hdb he hpl) fun s H Q ⟨al, rho, mu, sl, sr, w⟩ => ⟨al, rho, mu, F, Q, sl, sr, w, fun ds mu' al' vs H' _ g k sr' rv w' => o al' mu' H' ds vs Q _ sr' rv w'⟩
end
/-! ### a def's promise by a partial function on data -/
def spD (K : PySem.W.Frag) (T : Tb) (n : Nat) (F : FS) : Sp := fun vs H Q E => vs.length = n ∧ ∃ al mu ds, SR K T al mu H ∧ Rps K al H ds vs ∧ Wo K T al H Q E (F ds mu)
/-- a promise that is kept where no repr runs around -/
structure FnG (m : Md) (P : Program) (w : World) (K : PySem.W.Frag) (mg : Str → Option Value) (base : Heap) (k : Nat) (f : Addr) (fd : FuncData) (ps : List Str) (sp : Sp) : Prop where
  len : ∀ vs H Q E, sp vs H Q E → vs.length = ps.length
  run : ∀ (A : Around) (outer : List Env) (s : Shared) (H : Hp) (args : Args) (us : List Value) (vs : List V) (Q : VK) (E : XK), Room k A → A.guards = some [] → Env0 P w K mg base A outer s H → BindsTo s fd args (ps.zip us) → Vals vs us → sp vs H Q E →
    codeAny (model P w) A (.call (.ref f) args) (CR (CXM m P w) outer P w H s Q E) s
theorem FnG.imp {m : Md} {P : Program} {w : World} {K : PySem.W.Frag} {mg : Str → Option Value} {base : Heap} {k : Nat} {f : Addr} {fd : FuncData} {ps : List Str} {sp sp' : Sp} (F : FnG m P w K mg base k f fd ps sp) (h : ∀ vs H Q E, sp' vs H Q E → sp vs H Q E) : FnG m P w K mg base k f fd ps sp' where
  len := fun vs H Q E q => F.len vs H Q E (h vs H Q E q)
  run := fun A o s H args us vs Q E hr hg e0 b r q => F.run A o s H args us vs Q E hr hg e0 b r (h vs H Q E q)
theorem FnOk.toG {P : Program} {w : World} {K : PySem.W.Frag} {mg : Str → Option Value} {base : Heap} {k : Nat} {f : Addr} {fd : FuncData} {ps : List Str} {sp : Sp} (F : FnOk P w K mg base (L2.CX P w) k f fd ps sp) : FnG .a P w K mg base k f fd ps sp where
  len := F.len
  run := fun A o s H args us vs Q E hr _ => F.run A o s H args us vs Q E hr
theorem passM {m : Md} {X : Cx} {W : WX} (tk : TakesM m X W) (s : L2.St) : PassesAt (CXM m X.prog X.w) X s (WE W s) := by
  cases m with
  | a => exact passAt tk s
  | n => exact L2N.passAt tk s
theorem takesM_cx {m : Md} {P : Program} {w : World} {K : PySem.W.Frag} {mg : Str → Option Value} {base : Heap} {N : List Str} {qual : Str} {scope : Scope} {f : Addr} {cd : Value} {A : Around} {outer : List Env} {s : Shared} {H : Hp} {E : XK} : TakesM m (cxOf (CXM m P w) P w K mg base N qual scope f cd A outer s H E) (fun cls d _ H' => E cls d H') := by
  cases m with
  | a => exact takes_of rfl rfl rfl rfl
  | n => exact L2N.takes_of rfl rfl rfl rfl
theorem takesM0 {m : Md} {X : Cx} : TakesM m X (fun _ _ _ _ => False) := by
  cases m with
  | a => exact fun _ _ ⟨_, _, _, _, _, _, _, _, _, _, _, _, _, _, _, _, w⟩ => w.elim
  | n => exact fun _ _ ⟨_, _, _, _, _, _, _, _, _, _, _, _, _, _, _, _, w⟩ => w.elim
/-- x is a def of the module, of n parameters, that is F -/
structure Fx (P : Program) (w : World) (K : PySem.W.Frag) (mg : Str → Option Value) (base : Heap) (T : Tb) (x : Str) (k n : Nat) (F : FS) : Prop where
  ex : ∃ f fd ps, FnG T.md P w K mg base k f fd ps (spD K T n F) ∧ mg x = some (.ref f) ∧ PySem.W.keepIn K (.ref f) = true ∧ Binds K fd ps [] ∧ ps.length = n
section
variable {X : Cx} {W : WX} {k : Nat} {f : Addr} {fd : FuncData} {ps : List Str} {sp : Sp}
theorem run_G {pins : List (Addr × Obj)} {s : L2.St} {H : Hp} {s0 : Shared} {Q : VK} {us : List Value} {vs : List V} {m : Md} (F : FnG m X.prog X.w X.K X.mg X.base k f fd ps sp) (hr : Room k X.A) (z : Cz m X W) (hb : Binds X.K fd ps []) (I : Inv X pins s H s0) (r : Vals vs us) (h : sp vs H Q (WE W s)) :
    wpAny (model X.prog X.w) X.A (call (.ref f) us) (EP X pins s Q) X.xe s0 := by
  have b := hb s0 us I.kIn
  simp only [List.append_nil] at b
  refine wpAny_call (codeAny_mono (F.run X.A X.stack s0 H ⟨us, []⟩ us vs Q (WE W s) hr z.gd I.env0 (b (by rw [← r.length]; exact F.len _ _ _ _ h)) r h) fun o s' q => ?_)
  match o, q with
  | .error e, q => exact passM z.tk s pins H s0 e s' I q
  | .ok (.ret u), q => exact I.after q
end
section
variable {T : Tb} {X : Cx} {pos : Pos} {e : Expr} {es : List Expr} {f : ES} {fs : List ES}
theorem se_call {x : Str} {j k n : Nat} {F : FS} {p : Pos} (c : Fx X.prog X.w X.K X.mg X.base T x k n F) (hr : Room j X.A) (hk : k ≤ j) (hg : Gl X x) (ha : SA T X (e :: es) fs) (hl : fs.length = n := by rfl) (hdb : (x == ("__debug__" : Str)) = false := by decide)
    (he : starEach (e :: es) X.env = (false, eval e X.env) :: starEach es X.env := by rfl) (hpl : (backTo pos (starEach es X.env)).any (·.1) = false := by rfl) : SE T X (.Call (.Name x p) (e :: es) [] pos) (eCall F fs) := fun W z => by
  obtain ⟨fa, fd, ps, G, m, kp, b, hn⟩ := c.ex
  refine ⟨fun pins s0 s H Q I ⟨al, rho, mu, sl, sr, w⟩ => wpAny_Call_Name_kw (ld_glob I hg m ?_ hdb)⟩
  refine PySem.W.callWith_K (h₀ := X.base) I.ok.mod.kin kp (thn ((ha W z).run pos pins s0 s H (fun vs H1 => spD X.K T n F vs H1 Q (WE W s)) I ⟨al, rho, mu, F, Q, sl, sr, w, fun ds mu' al' vs H' hd g q sr' rv w' => ?_⟩) fun us s1 ⟨vs, H1, I1, r, q⟩ => ⟨I1.kIn, run_G G (hr.mono hk) z b I1 r q⟩) he hpl
  exact ⟨by rw [rv.length, hd, hl], al', mu', ds, sr', rv, w'⟩
/-- f() -/
theorem se_call0 {x : Str} {j k : Nat} {F : FS} {p : Pos} (c : Fx X.prog X.w X.K X.mg X.base T x k 0 F) (hr : Room j X.A) (hk : k ≤ j) (hg : Gl X x) (hdb : (x == ("__debug__" : Str)) = false := by decide) : SE T X (.Call (.Name x p) [] [] pos) (eCall F []) := fun W z => by
  obtain ⟨fa, fd, ps, G, m, kp, b, hn⟩ := c.ex
  refine ⟨fun pins s0 s H Q I ⟨al, rho, mu, sl, sr, w⟩ => ?_⟩
  refine wpAny_Call_Name_kw (ld_glob I hg m ?_ hdb)
  exact PySem.W.callWith_K0 I.kIn kp (run_G (us := []) (vs := []) G (hr.mono hk) z b I .nil ⟨rfl, al, mu, [], sr, Rps.nil, w⟩)
end

/-! ### statements -/
inductive Fl where
  | nx | bk | ct
  | rt (d : D)
  | ex (C : Addr) (fs : List (Str × D))
abbrev So := Option (Fl × Rho × Mu)
abbrev SS := Rho → Mu → So
def WoS (K : PySem.W.Frag) (T : Tb) (al : List Addr) (H : Hp) (De : Ends) (W : WX) : So → Prop
  | none => False
  | some (.nx, rho, mu) => ∀ al' s' H', Gr al al' → Kp H H' → SL K al' H' rho s' → SR K T al' mu H' → De.nx s' H'
  | some (.bk, rho, mu) => ∀ al' s' H', Gr al al' → Kp H H' → SL K al' H' rho s' → SR K T al' mu H' → De.bk s' H'
  | some (.ct, rho, mu) => ∀ al' s' H', Gr al al' → Kp H H' → SL K al' H' rho s' → SR K T al' mu H' → De.ct s' H'
  | some (.rt d, _, mu) => ∀ al' v H', Gr al al' → Kp H H' → SR K T al' mu H' → Rp K al' H' d v → De.rt v H'
  | some (.ex C fs, rho, mu) => ∀ al' s' H' dd vs, Gr al al' → Kp H H' → SL K al' H' rho s' → SR K T al' mu H' → H' dd = some (.xd vs) → RpA K al' H' fs vs → W (.ref C) (some dd) s' H'
theorem WoS.mono {K : PySem.W.Frag} {T : Tb} {al al' : List Addr} {H H' : Hp} {De : Ends} {W : WX} {r : So} (h : WoS K T al H De W r) (g : Gr al al') (k : Kp H H') : WoS K T al' H' De W r := by
  match r with
  | none => exact h
  | some (.nx, rho, mu) => exact fun a s H2 g2 k2 => h a s H2 (g.trans g2) (k.trans k2)
  | some (.bk, rho, mu) => exact fun a s H2 g2 k2 => h a s H2 (g.trans g2) (k.trans k2)
  | some (.ct, rho, mu) => exact fun a s H2 g2 k2 => h a s H2 (g.trans g2) (k.trans k2)
  | some (.rt d, rho, mu) => exact fun a s H2 g2 k2 => h a s H2 (g.trans g2) (k.trans k2)
  | some (.ex C fs, rho, mu) => exact fun a s H2 dd vs g2 k2 => h a s H2 dd vs (g.trans g2) (k.trans k2)
/-- an expression's outcome within a statement -/
def bnS (r : Ro) (rho : Rho) (k : D → Mu → So) : So := match r with
  | some (.ok d, mu) => k d mu
  | some (.ex C fs, mu) => some (.ex C fs, rho, mu)
  | none => none
theorem WoS.bn {K : PySem.W.Frag} {T : Tb} {al : List Addr} {H : Hp} {De : Ends} {W : WX} {P : VK} {r : Ro} {rho : Rho} {s : L2.St} {k : D → Mu → So} (sl : SL K al H rho s) (h : WoS K T al H De W (bnS r rho k))
    (hk : ∀ d mu al' v H', r = some (.ok d, mu) → Gr al al' → Kp H H' → SR K T al' mu H' → Rp K al' H' d v → WoS K T al' H' De W (k d mu) → P v H') : Wo K T al H P (fun c d H' => W c d s H') r := by
  match r with
  | none => exact h
  | some (.ok d, mu) => exact fun a v H2 g2 k2 sr q => hk d mu a v H2 rfl g2 k2 sr q (WoS.mono (r := k d mu) h g2 k2)
  | some (.ex C fs, mu) => exact fun a H2 dd vs g2 k2 sr e q => h a s H2 dd vs g2 k2 (sl.mono k2 g2) sr e q
def rdS (K : PySem.W.Frag) (T : Tb) (W : WX) (f : SS) : TS := fun De s H => ∃ al rho mu, SL K al H rho s ∧ SR K T al mu H ∧ WoS K T al H De W (f rho mu)
def ST (T : Tb) (X : Cx) (st : Stmt) (f : SS) : Prop := ∀ W : WX, Cz T.md X W → PassesOwn (model X.prog X.w) X.A X.env X.xe → PS X st (rdS X.K T W f)
def STs (T : Tb) (X : Cx) (st : List Stmt) (f : SS) : Prop := ∀ W : WX, Cz T.md X W → PassesOwn (model X.prog X.w) X.A X.env X.xe → PSs X st (rdS X.K T W f)
def sNil : SS := fun rho mu => some (.nx, rho, mu)
def sSeq (f g : SS) : SS := fun rho mu => match f rho mu with
  | some (.nx, rho1, mu1) => g rho1 mu1
  | o => o
def sSet (i : Nat) (f : ES) : SS := fun rho mu => bnS (f rho mu) rho fun d mu1 => some (.nx, rho.set i (some d), mu1)
def sExpr (f : ES) : SS := fun rho mu => bnS (f rho mu) rho fun _ mu1 => some (.nx, rho, mu1)
def sRet (f : ES) : SS := fun rho mu => bnS (f rho mu) rho fun d mu1 => some (.rt d, rho, mu1)
def chS (a b : Mu → So) : D → Mu → So := fun d mu => match d with
  | .bl true => a mu
  | .bl false => b mu
  | _ => none
def sIf (c : ES) (f g : SS) : SS := fun rho mu => bnS (c rho mu) rho (chS (fun mu1 => f rho mu1) fun mu1 => g rho mu1)
section
variable {T : Tb} {X : Cx} {pos : Pos} {e : Expr} {st : Stmt} {sts ste : List Stmt} {f : ES} {m n : SS}
theorem sts_nil : STs T X [] sNil := fun W tk ps => PSs.weak pss_nil fun De s H ⟨al, rho, mu, sl, sr, w⟩ => w al s H (Gr.refl _) (Kp.refl _) sl sr
theorem sts_one (h : ST T X st m) : STs T X [st] m := fun W tk ps => pss_one (h W tk ps)
theorem sts_cons (h : ST T X st m) (h2 : STs T X sts n) : STs T X (st :: sts) (sSeq m n) := fun W tk ps => PSs.weak (pss_cons (h W tk ps) (h2 W tk ps)) fun De s H ⟨al, rho, mu, sl, sr, w⟩ => ⟨al, rho, mu, sl, sr, by
  unfold sSeq at w
  match q : m rho mu with
  | none => rw [q] at w; exact w
  | some (.nx, rho1, mu1) =>
    rw [q] at w
    exact fun al1 s1 H1 g1 k1 sl1 sr1 => ⟨al1, rho1, mu1, sl1, sr1, WoS.mono w g1 k1⟩
  | some (.bk, rho1, mu1) => rw [q] at w; exact w
  | some (.ct, rho1, mu1) => rw [q] at w; exact w
  | some (.rt d, rho1, mu1) => rw [q] at w; exact w
  | some (.ex C fs, rho1, mu1) => rw [q] at w; exact w⟩
theorem st_set {i : Nat} {x : Str} {pos' : Pos} (hN : X.N.Nodup) (he : SE T X e f) (hi : X.N[i]? = some x := by rfl) (hx : Loc X.env.scope x := by first | exact Or.inl rfl | exact Or.inr rfl) (hs : swapsWith e (some (.Name x pos')) pos.line X.env = pure false := by rfl)
    (hf : X.fn x = true ∨ X.env.scope.names.lookup x = some .local := by first | exact .inl rfl | exact .inr rfl | assumption) : ST T X (.Assign [.Name x pos'] e pos) (sSet i f) := fun W tk ps => PS.weak (ps_set hN hi hx (he W tk) hs hf) fun De s H ⟨al, rho, mu, sl, sr, w⟩ =>
  ⟨al, rho, mu, sl, sr, WoS.bn sl w fun d mu1 al1 v H1 _ g1 k1 sr1 rv w1 => w1 al1 _ H1 (Gr.refl _) (Kp.refl _) ((sl.mono k1 g1).set rv i) sr1⟩
theorem st_expr (he : SE T X e f) (hs : swapsWith e none pos.line X.env = pure false := by rfl) : ST T X (.Expr e pos) (sExpr f) := fun W tk ps => PS.weak (ps_expr (he W tk) hs) fun De s H ⟨al, rho, mu, sl, sr, w⟩ =>
  ⟨al, rho, mu, sl, sr, WoS.bn sl w fun d mu1 al1 v H1 _ g1 k1 sr1 rv w1 => w1 al1 _ H1 (Gr.refl _) (Kp.refl _) (sl.mono k1 g1) sr1⟩
theorem st_ret (he : SE T X e f) : ST T X (.Return (some e) pos) (sRet f) := fun W tk ps => PS.weak (ps_ret (he W tk)) fun De s H ⟨al, rho, mu, sl, sr, w⟩ =>
  ⟨al, rho, mu, sl, sr, WoS.bn sl w fun d mu1 al1 v H1 _ g1 k1 sr1 rv w1 => w1 al1 v H1 (Gr.refl _) (Kp.refl _) sr1 rv⟩
theorem st_if (hc : SC T X e f) (ha : STs T X sts m) (hb : STs T X ste n) : ST T X (.If e sts ste pos) (sIf f m n) := fun W tk ps => PS.weak (ps_if (hc W tk) (ha W tk ps) (hb W tk ps)) fun De s H ⟨al, rho, mu, sl, sr, w⟩ =>
  ⟨al, rho, mu, sl, sr, WoS.bn sl w fun d mu1 al1 v H1 _ g1 k1 sr1 rv w1 => by
    unfold chS at w1
    match d with
    | .bl true =>
      unfold Rp at rv; subst rv
      exact ⟨true, rfl, iteT ⟨al1, rho, mu1, sl.mono k1 g1, sr1, w1⟩⟩
    | .bl false =>
      unfold Rp at rv; subst rv
      exact ⟨false, rfl, iteF ⟨al1, rho, mu1, sl.mono k1 g1, sr1, w1⟩⟩
    | .non => exact w1.elim
    | .int _ => exact w1.elim
    | .str _ => exact w1.elim
    | .ty _ => exact w1.elim
    | .tup _ => exact w1.elim
    | .cel _ => exact w1.elim
    | .adr _ => exact w1.elim
    | .fl _ => exact w1.elim⟩
end
/-! ### a def -/
def fnS (n : Nat) (m : SS) : FS := fun ds mu => match m (ds.map some ++ List.replicate (n - ds.length) none) mu with
  | some (.nx, _, mu1) => some (.ok .non, mu1)
  | some (.rt d, _, mu1) => some (.ok d, mu1)
  | some (.ex C fs, _, mu1) => some (.ex C fs, mu1)
  | _ => none
theorem SL.start {K : PySem.W.Frag} {al : List Addr} {H : Hp} {N : List Str} : ∀ {ds : List D} {vs : List V}, Rps K al H ds vs → SL K al H (ds.map some ++ List.replicate (N.length - ds.length) none) (L2.start N vs) := fun {ds vs} r => by
  refine ⟨by unfold L2.start; simp [r.length], fun i d e => ?_⟩
  by_cases hi : i < ds.length
  · rw [List.getElem?_append_left (by simpa using hi)] at e
    rw [List.getElem?_map] at e
    obtain ⟨d', hd⟩ : ∃ d', ds[i]? = some d' := ⟨ds[i], by simp [hi]⟩
    rw [hd] at e
    cases e
    obtain ⟨v, e1, e2⟩ := r.get hd
    refine ⟨v, ?_, e2⟩
    unfold L2.start
    rw [List.getElem?_append_left (by rw [List.length_map, r.length]; exact hi), List.getElem?_map, e1]
    rfl
  · rw [List.getElem?_append_right (by simpa using hi), List.getElem?_replicate] at e
    split at e <;> cases e
section
variable {P : Program} {w : World} {K : PySem.W.Frag} {mg : Str → Option Value} {base : Heap} {T : Tb}
theorem fnD {x qual : Str} {st : Stmt} {f : Addr} {fd : FuncData} {N ps : List Str} {k : Nat} {m : SS} (F : Fun K x qual st f fd) (S : FnScope N ps (defScope st))
    (hb : ∀ (cdv : Value) (A : Around) (outer : List Env) (s : Shared) (H : Hp) (E : XK), Room k (A.deeper (envOfC qual (defScope st) s.heap.objs.size f cdv)) → STs T (cxOf (CXM T.md P w) P w K mg base N qual (defScope st) f cdv A outer s H E) (defBody st) m) :
    FnG T.md P w K mg base (k + 1) f fd ps (spD K T ps.length (fnS N.length m)) := by
  obtain ⟨oc, od, kV, doc, pm, an, cdv, ct, osl, rfl, lk, hcd⟩ := F.ex
  refine ⟨fun vs H Q E h => h.1, fun A outer s H args us vs Q E hr hg e0 b r h => LamX.run_ofS lk hcd S hr e0 b r h.1 fun hr' => ⟨_, hb cdv A outer s H E hr' (fun cls d _ H' => E cls d H') ⟨takesM_cx, hg⟩ (passes_of rfl), ?_⟩⟩
  obtain ⟨hl, al, mu, ds, sr, r, p⟩ := h
  refine ⟨al, _, mu, SL.start r, sr, ?_⟩
  unfold fnS at p
  match q : m (ds.map some ++ List.replicate (N.length - ds.length) none) mu with
  | none => rw [q] at p; exact p
  | some (.nx, rho1, mu1) =>
    rw [q] at p
    exact fun al1 s1 H1 g1 k1 sl1 sr1 => p al1 .non H1 g1 k1 sr1 (by unfold Rp; rfl)
  | some (.bk, rho1, mu1) => rw [q] at p; exact p.elim
  | some (.ct, rho1, mu1) => rw [q] at p; exact p.elim
  | some (.rt d, rho1, mu1) => rw [q] at p; exact p
  | some (.ex C fs, rho1, mu1) =>
    rw [q] at p
    exact fun al1 s1 H1 dd vs g1 k1 sl1 sr1 e1 e2 => p al1 H1 dd vs g1 k1 sr1 e1 e2
end
end DL
set_option Elab.async false
set_option linter.all false
set_option autoImplicit false
set_option maxRecDepth 100000
set_option maxHeartbeats 4000000
/-! DL3: operations on data. -/
namespace DL
open PySem PySem.Spec PyProof.Rows L2

section
variable {K : PySem.W.Frag} {al : List Addr} {H : Hp} {v : V}
theorem rp_non : Rp K al H .non v ↔ v = .non := by unfold Rp; exact Iff.rfl
theorem rp_bl {b : Bool} : Rp K al H (.bl b) v ↔ v = .bl b := by unfold Rp; exact Iff.rfl
theorem rp_int {i : Int} : Rp K al H (.int i) v ↔ v = .int i := by unfold Rp; exact Iff.rfl
theorem rp_str {x : Str} : Rp K al H (.str x) v ↔ v = .str x := by unfold Rp; exact Iff.rfl
theorem rp_ty {x : String} : Rp K al H (.ty x) v ↔ v = .ty x := by unfold Rp; exact Iff.rfl
theorem rp_adr {x : Addr} : Rp K al H (.adr x) v ↔ v = .ref x := by unfold Rp; exact Iff.rfl
theorem rp_tup {xs : List D} : Rp K al H (.tup xs) v ↔ ∃ a ys, v = .ref a ∧ SqT K H a ys ∧ Rps K al H xs ys := by unfold Rp; exact Iff.rfl
theorem rp_fl {xs : List D} : Rp K al H (.fl xs) v ↔ ∃ a ys, v = .ref a ∧ FzL K H a ys ∧ Rps K al H xs ys := by unfold Rp; exact Iff.rfl
theorem rp_cel {j : Nat} : Rp K al H (.cel j) v ↔ ∃ a, al[j]? = some a ∧ v = .ref a := by unfold Rp; exact Iff.rfl
theorem rps_nil {vs : List V} : Rps K al H [] vs ↔ vs = [] := by unfold Rps; exact Iff.rfl
theorem rps_cons {d : D} {ds : List D} {vs : List V} : Rps K al H (d :: ds) vs ↔ ∃ v r, vs = v :: r ∧ Rp K al H d v ∧ Rps K al H ds r := by
  conv => lhs; unfold Rps
theorem rps_one {d : D} {vs : List V} : Rps K al H [d] vs ↔ ∃ v, vs = [v] ∧ Rp K al H d v := by
  rw [rps_cons]
  constructor
  · rintro ⟨v, r, e, h, q⟩
    rw [rps_nil] at q
    exact ⟨v, by rw [e, q], h⟩
  · rintro ⟨v, e, h⟩
    exact ⟨v, [], e, h, rps_nil.mpr rfl⟩
theorem rps_two {d e : D} {vs : List V} : Rps K al H [d, e] vs ↔ ∃ v u, vs = [v, u] ∧ Rp K al H d v ∧ Rp K al H e u := by
  rw [rps_cons]
  constructor
  · rintro ⟨v, r, z, h, q⟩
    obtain ⟨u, z2, h2⟩ := rps_one.mp q
    exact ⟨v, u, by rw [z, z2], h, h2⟩
  · rintro ⟨v, u, z, h, h2⟩
    exact ⟨v, [u], z, h, rps_one.mpr ⟨u, rfl, h2⟩⟩
end
theorem line (n : Nat) (h : n ≤ 16777216) : n ≤ sizeLine := by rw [sizeLine_eq]; exact h
theorem line1 (n : Nat) (h : n < 16777216) : n < sizeLine := by rw [sizeLine_eq]; exact h
/-- a value -/
abbrev okD (d : D) (mu : Mu) : Ro := some (.ok d, mu)
/-- a new list in the store -/
abbrev newL (xs : List D) (mu : Mu) : Ro := some (.ok (.cel mu.length), mu ++ [.lst xs])
/-- the items of a list, frozen or not -/
def lstD : D → Mu → Option (List D)
  | .cel j, mu => match mu[j]? with
    | some (.lst xs) => some xs
    | _ => none
  | .fl xs, _ => some xs
  | _, _ => none
/-- .. or of a tuple -/
def seqD : D → Mu → Option (List D)
  | .tup xs, _ => some xs
  | d, mu => lstD d mu
section
variable {K : PySem.W.Frag} {T : Tb} {al : List Addr} {mu : Mu} {H : Hp} {Q : VK} {E : XK}
theorem lst_rp {d : D} {v : V} {xs : List D} (sr : SR K T al mu H) (r : Rp K al H d v) (h : lstD d mu = some xs) : ∃ a ys, v = .ref a ∧ SqL K H a ys ∧ Rps K al H xs ys := by
  unfold lstD at h
  split at h
  · split at h
    · rename_i j xs' e
      cases h
      obtain ⟨a, e1, rfl⟩ := rp_cel.mp r
      obtain ⟨vs, e2, r2⟩ := sr.ok _ _ a e e1
      exact ⟨a, vs, rfl, SqL.of e2, r2⟩
    · cases h
  · cases h
    obtain ⟨a, ys, e, q, r2⟩ := rp_fl.mp r
    exact ⟨a, ys, e, q.sq, r2⟩
  · cases h
theorem seq_rp {d : D} {v : V} {xs : List D} (sr : SR K T al mu H) (r : Rp K al H d v) (h : seqD d mu = some xs) : ∃ a ys, v = .ref a ∧ (SqL K H a ys ∨ SqT K H a ys) ∧ Rps K al H xs ys := by
  unfold seqD at h
  split at h
  · cases h
    obtain ⟨a, ys, e, q, r2⟩ := rp_tup.mp r
    exact ⟨a, ys, e, .inr q, r2⟩
  · obtain ⟨a, ys, e, q, r2⟩ := lst_rp sr r h
    exact ⟨a, ys, e, .inl q, r2⟩
/-- a cell that is a list: where it stands -/
theorem cel_lst {j : Nat} {v : V} {xs : List D} (sr : SR K T al mu H) (r : Rp K al H (.cel j) v) (h : mu[j]? = some (.lst xs)) : ∃ a ys, v = .ref a ∧ al[j]? = some a ∧ H a = some (.lst ys) ∧ Rps K al H xs ys := by
  obtain ⟨a, e1, rfl⟩ := rp_cel.mp r
  obtain ⟨vs, e2, r2⟩ := sr.ok _ _ a h e1
  exact ⟨a, vs, rfl, e1, e2, r2⟩
theorem Wo.tup {xs : List D} {vs : List V} (h : Wo K T al H Q E (okD (.tup xs) mu)) (sr : SR K T al mu H) (r : Rps K al H xs vs) (p : Addr) (n : H p = none) : Q (.ref p) (upd H p (.tup vs)) :=
  h al (.ref p) _ (Gr.refl _) (Kp.new n) (sr.fresh n) (rp_tup.mpr ⟨p, vs, rfl, SqT.of upd_same, Rps.mono (Kp.new n) (Gr.refl _) _ _ r⟩)
theorem Wo.lst {xs : List D} {vs : List V} (h : Wo K T al H Q E (newL xs mu)) (sr : SR K T al mu H) (r : Rps K al H xs vs) (p : Addr) (n : H p = none) : Q (.ref p) (upd H p (.lst vs)) :=
  h (al ++ [p]) (.ref p) _ (Gr.app _ _) (Kp.new n) (sr.alloc n ⟨vs, upd_same, Rps.mono (Kp.new n) (Gr.app _ _) _ _ r⟩) (rp_cel.mpr ⟨p, by rw [← sr.len]; simp, rfl⟩)
end
/-! ### + - * // % ** -/
def addD : D2
  | .int i, .int j, mu => okD (.int (i + j)) mu
  | .str a, .str b, mu => if a.length + b.length ≤ 16777216 then okD (.str (a ++ b)) mu else none
  | .tup a, .tup b, mu => if a.length + b.length ≤ 16777216 then okD (.tup (a ++ b)) mu else none
  | .cel i, .cel j, mu => match mu[i]?, mu[j]? with
    | some (.lst a), some (.lst b) => if a.length + b.length ≤ 16777216 then newL (a ++ b) mu else none
    | _, _ => none
  | _, _, _ => none
def subD : D2
  | .int i, .int j, mu => okD (.int (i - j)) mu
  | _, _, _ => none
instance cmulDec (i j : Int) : Decidable (CMul i j) := by unfold CMul; infer_instance
def mulD : D2
  | .int i, .int j, mu => if CMul i j then okD (.int (i * j)) mu else none
  | .cel i, .int k, mu => match mu[i]? with
    | some (.lst a) => if -(2 ^ 63) ≤ k ∧ k < 2 ^ 63 ∧ a.length * k.toNat ≤ 16777216 then newL (List.replicate k.toNat a).flatten mu else none
    | _ => none
  | _, _, _ => none
def modD : D2
  | .int i, .int j, mu => if 0 < j then okD (.int (i % j)) mu else none
  | _, _, _ => none
def fdivD : D2
  | .int i, .int j, mu => if 0 < j ∧ j < 1073741824 then okD (.int (i / j)) mu else none
  | _, _, _ => none
def powD : D2
  | .int i, .int j, mu => if 0 ≤ j ∧ j ≤ 1000000 ∧ i.natAbs < 2 ^ 64 then okD (.int (i ^ j.toNat)) mu else none
  | _, _, _ => none
section
variable {K : PySem.W.Frag} {T : Tb}
abbrev rAddD (K : PySem.W.Frag) : R2 := fun x y H Q => rI0 (fun i j => .int (i + j)) x y H Q ∨ (∃ i j, x = .str i ∧ y = .str j ∧ i.length + j.length ≤ sizeLine ∧ Q (.str (i ++ j)) H) ∨ rCatA K x y H Q ∨ rCat x y H Q
theorem o_add : Op2 K T addD (rAddD K) := fun al mu H dx dy x y Q E sr rx ry p => by
  unfold addD at p
  split at p
  · cases rp_int.mp rx; cases rp_int.mp ry
    exact .inl ⟨_, _, rfl, rfl, p.now sr (rp_int.mpr rfl)⟩
  · cases rp_str.mp rx; cases rp_str.mp ry
    split at p
    · rename_i h
      exact .inr (.inl ⟨_, _, rfl, rfl, line _ h, p.now sr (rp_str.mpr rfl)⟩)
    · exact p.elim
  · obtain ⟨a, xs, rfl, h1, r1⟩ := rp_tup.mp rx
    obtain ⟨b, ys, rfl, h2, r2⟩ := rp_tup.mp ry
    split at p
    · rename_i h
      refine .inr (.inr (.inl ⟨a, b, xs, ys, rfl, rfl, h1, h2, by rw [r1.length, r2.length]; exact line _ h, fun z => ?_, fun _ z => ?_, fun _ _ q n => p.tup sr (r1.app r2) q n⟩))
      · have e := r1.length
        rw [z] at e
        cases List.length_eq_zero_iff.mp e.symm
        exact p.now sr (rp_tup.mpr ⟨b, ys, rfl, h2, r2⟩)
      · have e := r2.length
        rw [z] at e
        cases List.length_eq_zero_iff.mp e.symm
        exact p.now sr (rp_tup.mpr ⟨a, xs, rfl, h1, by rw [List.append_nil]; exact r1⟩)
    · exact p.elim
  · split at p
    · rename_i e1 e2
      obtain ⟨a, xs, rfl, _, h1, r1⟩ := cel_lst sr rx e1
      obtain ⟨b, ys, rfl, _, h2, r2⟩ := cel_lst sr ry e2
      split at p
      · rename_i h
        exact .inr (.inr (.inr ⟨a, b, xs, ys, rfl, rfl, h1, h2, by rw [r1.length, r2.length]; exact line _ h, fun q n => p.lst sr (r1.app r2) q n⟩))
      · exact p.elim
    · exact p.elim
  · exact p.elim
theorem o_sub : Op2 K T subD (rI0 fun i j => .int (i - j)) := fun al mu H dx dy x y Q E sr rx ry p => by
  unfold subD at p
  split at p
  · cases rp_int.mp rx; cases rp_int.mp ry
    exact ⟨_, _, rfl, rfl, p.now sr (rp_int.mpr rfl)⟩
  · exact p.elim
theorem Rps.rep {al : List Addr} {H : Hp} {xs : List D} {vs : List V} (h : Rps K al H xs vs) : ∀ n : Nat, Rps K al H (List.replicate n xs).flatten (List.replicate n vs).flatten
  | 0 => Rps.nil
  | n + 1 => by
    rw [List.replicate_succ, List.replicate_succ, List.flatten_cons, List.flatten_cons]
    exact h.app (Rps.rep h n)
theorem o_mul : Op2 K T mulD (fun x y H Q => rI CMul (fun i j => .int (i * j)) x y H Q ∨ rRep x y H Q) := fun al mu H dx dy x y Q E sr rx ry p => by
  unfold mulD at p
  split at p
  · cases rp_int.mp rx; cases rp_int.mp ry
    split at p
    · rename_i h
      exact .inl ⟨_, _, rfl, rfl, h, p.now sr (rp_int.mpr rfl)⟩
    · exact p.elim
  · cases rp_int.mp ry
    split at p
    · rename_i e1
      obtain ⟨a, xs, rfl, _, h1, r1⟩ := cel_lst sr rx e1
      split at p
      · rename_i h
        exact .inr ⟨a, _, xs, rfl, rfl, h1, h.1, h.2.1, by rw [r1.length]; exact line _ h.2.2, fun q n => p.lst sr (r1.rep _) q n⟩
      · exact p.elim
    · exact p.elim
  · exact p.elim
theorem o_mod : Op2 K T modD (rI (fun _ j => 0 < j) fun i j => .int (i % j)) := fun al mu H dx dy x y Q E sr rx ry p => by
  unfold modD at p
  split at p
  · cases rp_int.mp rx; cases rp_int.mp ry
    split at p
    · rename_i h
      exact ⟨_, _, rfl, rfl, h, p.now sr (rp_int.mpr rfl)⟩
    · exact p.elim
  · exact p.elim
theorem o_fdiv : Op2 K T fdivD (rI CDiv fun i j => .int (i / j)) := fun al mu H dx dy x y Q E sr rx ry p => by
  unfold fdivD at p
  split at p
  · cases rp_int.mp rx; cases rp_int.mp ry
    split at p
    · rename_i h
      exact ⟨_, _, rfl, rfl, h, p.now sr (rp_int.mpr rfl)⟩
    · exact p.elim
  · exact p.elim
theorem o_pow : Op2 K T powD (rI CPow fun i j => .int (i ^ j.toNat)) := fun al mu H dx dy x y Q E sr rx ry p => by
  unfold powD at p
  split at p
  · cases rp_int.mp rx; cases rp_int.mp ry
    split at p
    · rename_i h
      exact ⟨_, _, rfl, rfl, h, p.now sr (rp_int.mpr rfl)⟩
    · exact p.elim
  · exact p.elim
end
section
variable {T : Tb} {X : Cx} {pos : Pos} {a b : Expr} {f g : ES}
theorem se_add (ha : SE T X a f) (hb : SE T X b g) : SE T X (.BinOp a .Add b pos) (eOp addD f g) := se_op (op_add.or (op_add_str.or (op_catA.or op_cat))) o_add ha hb
theorem se_sub (ha : SE T X a f) (hb : SE T X b g) : SE T X (.BinOp a .Sub b pos) (eOp subD f g) := se_op op_sub o_sub ha hb
theorem se_mul (ha : SE T X a f) (hb : SE T X b g) : SE T X (.BinOp a .Mult b pos) (eOp mulD f g) := se_op (op_mul.or op_rep) o_mul ha hb
theorem se_mod (ha : SE T X a f) (hb : SE T X b g) : SE T X (.BinOp a .Mod b pos) (eOp modD f g) := se_op op_mod o_mod ha hb
theorem se_fdiv (ha : SE T X a f) (hb : SE T X b g) : SE T X (.BinOp a .FloorDiv b pos) (eOp fdivD f g) := se_op op_fdiv o_fdiv ha hb
theorem se_pow (ha : SE T X a f) (hb : SE T X b g) : SE T X (.BinOp a .Pow b pos) (eOp powD f g) := se_op op_pow o_pow ha hb
end
end DL
set_option Elab.async false
set_option linter.all false
set_option autoImplicit false
set_option maxRecDepth 100000
set_option maxHeartbeats 4000000
/-! DL4: comparisons, subscripts, slices, displays, built-ins, methods. -/
namespace DL
open PySem PySem.Spec PyProof.Rows L2

/-! ### data as trees -/
mutual
def dP (rc : Nat → Option PyData) : D → Option PyData
  | .non => some .none
  | .bl b => some (.bool b)
  | .int i => some (.int i)
  | .str x => some (.str x)
  | .tup xs => (dPs rc xs).map .tuple
  | .fl xs => (dPs rc xs).map .list
  | .cel j => rc j
  | .ty _ => none
  | .adr _ => none
def dPs (rc : Nat → Option PyData) : List D → Option (List PyData)
  | [] => some []
  | x :: xs => match dP rc x, dPs rc xs with
    | some a, some b => some (a :: b)
    | _, _ => none
end
def cP (mu : Mu) : Nat → Nat → Option PyData
  | 0, _ => none
  | n + 1, j => match mu[j]? with
    | some (.lst xs) => (dPs (cP mu n) xs).map .list
    | some (.dct []) => some (.dict [])
    | _ => none
/-- a datum as a tree -/
def toP (mu : Mu) (d : D) : Option PyData := dP (cP mu 12) d
section
variable {K : PySem.W.Frag} {T : Tb} {al : List Addr} {mu : Mu} {H : Hp}
mutual
theorem rp_dp {rc : Nat → Option PyData} (hrc : ∀ j v p, rc j = some p → p.canLay0 = true → Rp K al H (.cel j) v → Dp K H v p) : ∀ (d : D) (v : V) (p : PyData), dP rc d = some p → p.canLay0 = true → Rp K al H d v → Dp K H v p
  | .non, v, p, h, _, r => by unfold dP at h; cases h; cases rp_non.mp r; exact .non
  | .bl b, v, p, h, _, r => by unfold dP at h; cases h; cases rp_bl.mp r; exact .bl b
  | .int i, v, p, h, _, r => by unfold dP at h; cases h; cases rp_int.mp r; exact .int i
  | .str x, v, p, h, _, r => by unfold dP at h; cases h; cases rp_str.mp r; exact .str x
  | .ty n, v, p, h, _, r => by unfold dP at h; cases h
  | .adr n, v, p, h, _, r => by unfold dP at h; cases h
  | .cel j, v, p, h, c, r => by unfold dP at h; exact hrc j v p h c r
  | .tup xs, v, p, h, c, r => by
    unfold dP at h
    obtain ⟨ps, h1, rfl⟩ := Option.map_eq_some_iff.mp h
    obtain ⟨a, ys, rfl, q, r2⟩ := rp_tup.mp r
    exact .tup q (rps_dp hrc xs ys ps h1 (by unfold PyData.canLay0 at c; exact c) r2)
  | .fl xs, v, p, h, c, r => by
    unfold dP at h
    obtain ⟨ps, h1, rfl⟩ := Option.map_eq_some_iff.mp h
    obtain ⟨a, ys, rfl, q, r2⟩ := rp_fl.mp r
    exact .lst q.sq (rps_dp hrc xs ys ps h1 (by unfold PyData.canLay0 at c; exact c) r2)
theorem rps_dp {rc : Nat → Option PyData} (hrc : ∀ j v p, rc j = some p → p.canLay0 = true → Rp K al H (.cel j) v → Dp K H v p) : ∀ (ds : List D) (vs : List V) (ps : List PyData), dPs rc ds = some ps → PyData.canLayAll0 ps = true → Rps K al H ds vs → DpAll K H vs ps
  | [], vs, ps, h, _, r => by unfold dPs at h; cases h; cases rps_nil.mp r; exact .nil
  | d :: ds, vs, ps, h, c, r => by
    unfold dPs at h
    split at h
    · rename_i p ps' e1 e2
      cases h
      obtain ⟨v, rr, rfl, r1, r2⟩ := rps_cons.mp r
      unfold PyData.canLayAll0 at c
      rw [Bool.and_eq_true] at c
      exact .cons (rp_dp hrc d v p e1 c.1 r1) (rps_dp hrc ds rr ps' e2 c.2 r2)
    · cases h
end
theorem cP_dp (sr : SR K T al mu H) : ∀ (n j : Nat) (v : V) (p : PyData), cP mu n j = some p → p.canLay0 = true → Rp K al H (.cel j) v → Dp K H v p
  | 0, j, v, p, h, _, _ => by unfold cP at h; cases h
  | n + 1, j, v, p, h, c, r => by
    unfold cP at h
    split at h
    · rename_i xs e
      obtain ⟨ps, h1, rfl⟩ := Option.map_eq_some_iff.mp h
      obtain ⟨a, ys, rfl, _, q, r2⟩ := cel_lst sr r e
      exact .lst (SqL.of q) (rps_dp (cP_dp sr n) xs ys ps h1 (by unfold PyData.canLay0 at c; exact c) r2)
    · cases h
      unfold PyData.canLay0 at c
      cases c
    · cases h
theorem toP_dp (sr : SR K T al mu H) {d : D} {v : V} {p : PyData} (h : toP mu d = some p) (c : p.canLay0 = true) (r : Rp K al H d v) : Dp K H v p := rp_dp (cP_dp sr 12) d v p h c r
end
/-! ### == != -/
def scV : D → Option V
  | .non => some .non
  | .bl b => some (.bl b)
  | .int i => some (.int i)
  | .str x => some (.str x)
  | _ => none
theorem scV_rp {K : PySem.W.Frag} {al : List Addr} {H : Hp} {d : D} {v x : V} (r : Rp K al H d v) (h : scV d = some x) : v = x := by
  unfold scV at h
  split at h
  · cases h; exact rp_non.mp r
  · cases h; exact rp_bl.mp r
  · cases h; exact rp_int.mp r
  · cases h; exact rp_str.mp r
  · cases h
def eqP (d e : D) (mu : Mu) : Option Bool := match toP mu d, toP mu e with
  | some p, some q => if SeqAt.shaped p = true ∧ SeqAt.shaped q = true then some (PyData.eqv p q) else none
  | _, _ => none
def eqB (d e : D) (mu : Mu) : Option Bool := match scV d, scV e with
  | some x, some y => if scal x y = true then some (decide (x = y)) else eqP d e mu
  | _, _ => eqP d e mu
def eqD : D2 := fun d e mu => match eqB d e mu with
  | some b => okD (.bl b) mu
  | none => none
def neD : D2 := fun d e mu => match eqB d e mu with
  | some b => okD (.bl (!b)) mu
  | none => none
section
variable {K : PySem.W.Frag} {T : Tb} {al : List Addr} {mu : Mu} {H : Hp}
theorem eqB_rp {d e : D} {x y : V} {b : Bool} (sr : SR K T al mu H) (rx : Rp K al H d x) (ry : Rp K al H e y) (h : eqB d e mu = some b) : (scal x y = true ∧ b = decide (x = y)) ∨ ∃ p q, Dp K H x p ∧ Dp K H y q ∧ SeqAt.shaped p = true ∧ SeqAt.shaped q = true ∧ b = PyData.eqv p q := by
  have gen : eqP d e mu = some b → (scal x y = true ∧ b = decide (x = y)) ∨ ∃ p q, Dp K H x p ∧ Dp K H y q ∧ SeqAt.shaped p = true ∧ SeqAt.shaped q = true ∧ b = PyData.eqv p q := fun h => by
    unfold eqP at h
    split at h
    · rename_i p q e1 e2
      split at h
      · rename_i c
        cases h
        exact .inr ⟨p, q, toP_dp sr e1 (SeqAt.canLay_of_shaped c.1) rx, toP_dp sr e2 (SeqAt.canLay_of_shaped c.2) ry, c.1, c.2, rfl⟩
      · cases h
    · cases h
  unfold eqB at h
  split at h
  · rename_i u w e1 e2
    cases scV_rp rx e1
    cases scV_rp ry e2
    split at h
    · rename_i c
      cases h
      exact .inl ⟨c, rfl⟩
    · exact gen h
  · exact gen h
theorem o_eq : Op2 K T eqD (fun x y H Q => rEq x y H Q ∨ rEqD K x y H Q) := fun al mu H dx dy x y Q E sr rx ry p => by
  unfold eqD at p
  split at p
  · rename_i b e
    have q := p.now sr (bl_rp b)
    rcases eqB_rp sr rx ry e with ⟨c, rfl⟩ | ⟨p1, p2, h1, h2, h3, h4, rfl⟩
    · exact .inl ⟨c, q⟩
    · exact .inr ⟨p1, p2, h1, h2, h3, h4, q⟩
  · exact p.elim
theorem o_ne : Op2 K T neD (fun x y H Q => rNe x y H Q ∨ rNeD K x y H Q) := fun al mu H dx dy x y Q E sr rx ry p => by
  unfold neD at p
  split at p
  · rename_i b e
    have q := p.now sr (bl_rp (!b))
    rcases eqB_rp sr rx ry e with ⟨c, rfl⟩ | ⟨p1, p2, h1, h2, h3, h4, rfl⟩
    · exact .inl ⟨c, q⟩
    · exact .inr ⟨p1, p2, h1, h2, h3, h4, q⟩
  · exact p.elim
end
/-! ### < <= > >= -/
def ordD (p : Int → Int → Bool) (q : List Nat → List Nat → Bool) : D2
  | .int i, .int j, mu => okD (.bl (p i j)) mu
  | .str a, .str b, mu => okD (.bl (q a.cps.toList b.cps.toList)) mu
  | _, _, _ => none
abbrev ltD : D2 := ordD (fun i j => decide (i < j)) fun a b => decide (a < b)
abbrev leD : D2 := ordD (fun i j => decide (i ≤ j)) fun a b => !decide (b < a)
abbrev gtD : D2 := ordD (fun i j => decide (j < i)) fun a b => decide (b < a)
abbrev geD : D2 := ordD (fun i j => decide (j ≤ i)) fun a b => !decide (a < b)
theorem o_ord {K : PySem.W.Frag} {T : Tb} {p : Int → Int → Bool} {q : List Nat → List Nat → Bool} : Op2 K T (ordD p q) (fun x y H Q => rI0 (fun i j => .bl (p i j)) x y H Q ∨ ∃ i j, x = .str i ∧ y = .str j ∧ Q (.bl (q i.cps.toList j.cps.toList)) H) := fun al mu H dx dy x y Q E sr rx ry p => by
  unfold ordD at p
  split at p
  · cases rp_int.mp rx; cases rp_int.mp ry
    exact .inl ⟨_, _, rfl, rfl, p.now sr (bl_rp _)⟩
  · cases rp_str.mp rx; cases rp_str.mp ry
    exact .inr ⟨_, _, rfl, rfl, p.now sr (bl_rp _)⟩
  · exact p.elim
/-! ### is None -/
def isN : D → Bool
  | .non => true
  | _ => false
def eIsN (f : ES) : ES := fun rho mu => bnd (f rho mu) fun d mu1 => okD (.bl (isN d)) mu1
def eNotN (f : ES) : ES := fun rho mu => bnd (f rho mu) fun d mu1 => okD (.bl (!isN d)) mu1
theorem isN_rp {K : PySem.W.Frag} {al : List Addr} {H : Hp} : ∀ {d : D} {v : V}, Rp K al H d v → decide (v = .non) = isN d
  | .non, v, r => by cases rp_non.mp r; rfl
  | .bl _, v, r => by cases rp_bl.mp r; rfl
  | .int _, v, r => by cases rp_int.mp r; rfl
  | .str _, v, r => by cases rp_str.mp r; rfl
  | .ty _, v, r => by cases rp_ty.mp r; rfl
  | .adr _, v, r => by cases rp_adr.mp r; rfl
  | .cel _, v, r => by obtain ⟨a, _, rfl⟩ := rp_cel.mp r; rfl
  | .tup _, v, r => by obtain ⟨a, _, rfl, _⟩ := rp_tup.mp r; rfl
  | .fl _, v, r => by obtain ⟨a, _, rfl, _⟩ := rp_fl.mp r; rfl
/-! ### in, not in -/
def flatD : D → Bool
  | .non => true
  | .bl _ => true
  | .int _ => true
  | .str _ => true
  | _ => false
def eqF : D → D → Bool
  | .non, .non => true
  | .bl a, .bl b => a == b
  | .bl a, .int b => (if a then 1 else 0) == b
  | .int a, .bl b => a == (if b then 1 else 0)
  | .int a, .int b => a == b
  | .str a, .str b => a == b
  | _, _ => false
def inB (x y : D) (mu : Mu) : Option Bool := match y with
  | .str s => match x with
    | .str t => some (!(Builtin.Str.occurrences s t 0 s.length 1).isEmpty)
    | _ => none
  | _ => match seqD y mu with
    | some xs => if flatD x = true ∧ xs.all flatD = true then some (xs.any fun z => eqF z x) else none
    | none => none
def inD : D2 := fun x y mu => match inB x y mu with
  | some b => okD (.bl b) mu
  | none => none
def notInD : D2 := fun x y mu => match inB x y mu with
  | some b => okD (.bl (!b)) mu
  | none => none
section
variable {K : PySem.W.Frag} {T : Tb} {al : List Addr} {mu : Mu} {H : Hp}
theorem flat_rp {d : D} {v : V} (r : Rp K al H d v) (h : flatD d = true) : flatV v = true := by
  unfold flatD at h
  split at h
  · cases rp_non.mp r; rfl
  · cases rp_bl.mp r; rfl
  · cases rp_int.mp r; rfl
  · cases rp_str.mp r; rfl
  · cases h
theorem eqF_rp {d e : D} {v u : V} (r : Rp K al H d v) (q : Rp K al H e u) (h : flatD d = true) (h2 : flatD e = true) : eqV v u = eqF d e := by
  cases d with
  | non => cases rp_non.mp r; cases e with
    | non => cases rp_non.mp q; rfl
    | bl _ => cases rp_bl.mp q; rfl
    | int _ => cases rp_int.mp q; rfl
    | str _ => cases rp_str.mp q; rfl
    | _ => cases h2
  | bl _ => cases rp_bl.mp r; cases e with
    | non => cases rp_non.mp q; rfl
    | bl _ => cases rp_bl.mp q; rfl
    | int _ => cases rp_int.mp q; rfl
    | str _ => cases rp_str.mp q; rfl
    | _ => cases h2
  | int _ => cases rp_int.mp r; cases e with
    | non => cases rp_non.mp q; rfl
    | bl _ => cases rp_bl.mp q; rfl
    | int _ => cases rp_int.mp q; rfl
    | str _ => cases rp_str.mp q; rfl
    | _ => cases h2
  | str _ => cases rp_str.mp r; cases e with
    | non => cases rp_non.mp q; rfl
    | bl _ => cases rp_bl.mp q; rfl
    | int _ => cases rp_int.mp q; rfl
    | str _ => cases rp_str.mp q; rfl
    | _ => cases h2
  | _ => cases h
theorem in_rps {x : D} {v : V} (r : Rp K al H x v) (hx : flatD x = true) : ∀ {xs : List D} {vs : List V}, Rps K al H xs vs → xs.all flatD = true → vs.all flatV = true ∧ inV v vs = xs.any fun z => eqF z x
  | [], vs, h, _ => by cases rps_nil.mp h; exact ⟨rfl, rfl⟩
  | d :: ds, vs, h, c => by
    obtain ⟨u, us, rfl, h1, h2⟩ := rps_cons.mp h
    rw [List.all_cons, Bool.and_eq_true] at c
    obtain ⟨q1, q2⟩ := in_rps r hx h2 c.2
    refine ⟨by rw [List.all_cons, flat_rp h1 c.1, q1]; rfl, ?_⟩
    unfold inV at q2 ⊢
    rw [List.any_cons, List.any_cons, eqF_rp h1 r c.1 hx, q2]
theorem inB_rp {d e : D} {x y : V} {b : Bool} (sr : SR K T al mu H) (rx : Rp K al H d x) (ry : Rp K al H e y) (h : inB d e mu = some b) :
    (∃ i j, x = .str i ∧ y = .str j ∧ b = !(Builtin.Str.occurrences j i 0 j.length 1).isEmpty) ∨ ∃ p vs, y = .ref p ∧ (SqL K H p vs ∨ SqT K H p vs) ∧ flatV x = true ∧ vs.all flatV = true ∧ b = inV x vs := by
  unfold inB at h
  split at h
  · split at h
    · cases h
      cases rp_str.mp rx; cases rp_str.mp ry
      exact .inl ⟨_, _, rfl, rfl, rfl⟩
    · cases h
  · split at h
    · rename_i xs e1
      split at h
      · rename_i c
        cases h
        obtain ⟨a, ys, rfl, q, r2⟩ := seq_rp sr ry e1
        obtain ⟨q1, q2⟩ := in_rps rx c.1 r2 c.2
        exact .inr ⟨a, ys, rfl, q, flat_rp rx c.1, q1, q2.symm⟩
      · cases h
    · cases h
theorem o_in : Op2 K T inD (fun x y H Q => (∃ i j, x = .str i ∧ y = .str j ∧ Q (.bl (!(Builtin.Str.occurrences j i 0 j.length 1).isEmpty)) H) ∨ rIn K false x y H Q) := fun al mu H dx dy x y Q E sr rx ry p => by
  unfold inD at p
  split at p
  · rename_i b e
    have q := p.now sr (bl_rp b)
    rcases inB_rp sr rx ry e with ⟨i, j, h1, h2, rfl⟩ | ⟨p1, vs, h1, h2, h3, h4, rfl⟩
    · exact .inl ⟨i, j, h1, h2, q⟩
    · exact .inr ⟨p1, vs, h1, h2, h3, h4, q⟩
  · exact p.elim
theorem o_notIn : Op2 K T notInD (fun x y H Q => (∃ i j, x = .str i ∧ y = .str j ∧ Q (.bl (!(!(Builtin.Str.occurrences j i 0 j.length 1).isEmpty))) H) ∨ rIn K true x y H Q) := fun al mu H dx dy x y Q E sr rx ry p => by
  unfold notInD at p
  split at p
  · rename_i b e
    have q := p.now sr (bl_rp (!b))
    rcases inB_rp sr rx ry e with ⟨i, j, h1, h2, rfl⟩ | ⟨p1, vs, h1, h2, h3, h4, rfl⟩
    · exact .inl ⟨i, j, h1, h2, q⟩
    · exact .inr ⟨p1, vs, h1, h2, h3, h4, q⟩
  · exact p.elim
end
section
variable {T : Tb} {X : Cx} {pos pos' : Pos} {a b c : Expr} {f g h : ES} {k : Nat}
theorem se_eq (hr : Room k X.A) (ha : SE T X a f) (hb : SE T X b g) : SE T X (.Compare a [.Eq] [b] pos) (eOp eqD f g) := se_cmp (op_eq.or (op_eqD hr.units)) o_eq ha hb (nomark _)
theorem sc_eq (hr : Room k X.A) (ha : SE T X a f) (hb : SE T X b g) : SC T X (.Compare a [.Eq] [b] pos) (eOp eqD f g) := sc_cmp (op_eq.or (op_eqD hr.units)) o_eq ha hb (nomark _)
theorem sc_ne (hr : Room k X.A) (ha : SE T X a f) (hb : SE T X b g) : SC T X (.Compare a [.NotEq] [b] pos) (eOp neD f g) := sc_cmp (op_ne.or (op_neD hr.units)) o_ne ha hb (nomark _)
theorem sc_ge (ha : SE T X a f) (hb : SE T X b g) : SC T X (.Compare a [.GtE] [b] pos) (eOp geD f g) := sc_cmp (op_ge.or op_ge_str) o_ord ha hb (nomark _)
theorem se_in (ha : SE T X a f) (hb : SE T X b g) (hm : behindInMarks .In b = false := by rfl) : SE T X (.Compare a [.In] [b] pos) (eOp inD f g) := se_cmp (op_in_str.or op_in_seq) o_in ha hb hm
theorem sc_in (ha : SE T X a f) (hb : SE T X b g) (hm : behindInMarks .In b = false := by rfl) : SC T X (.Compare a [.In] [b] pos) (eOp inD f g) := sc_cmp (op_in_str.or op_in_seq) o_in ha hb hm
theorem se_notIn (ha : SE T X a f) (hb : SE T X b g) (hm : behindInMarks .NotIn b = false := by rfl) : SE T X (.Compare a [.NotIn] [b] pos) (eOp notInD f g) := se_cmp (op_notin_str.or op_notIn_seq) o_notIn ha hb hm
theorem sc_notIn (ha : SE T X a f) (hb : SE T X b g) (hm : behindInMarks .NotIn b = false := by rfl) : SC T X (.Compare a [.NotIn] [b] pos) (eOp notInD f g) := sc_cmp (op_notin_str.or op_notIn_seq) o_notIn ha hb hm
end
end DL
set_option Elab.async false
set_option linter.all false
set_option autoImplicit false
set_option maxRecDepth 100000
set_option maxHeartbeats 4000000
/-! DL5: subscripts, slices, displays, stores, built-ins, methods. -/
namespace DL
open PySem PySem.Spec PyProof.Rows L2

/-! ### x[i] of a list, a tuple, a text -/
def ixD : D2 := fun d e mu => match e with
  | .int i => match d with
    | .str z => if z.length ≤ 16777216 then match atI z.cps.toList i with
        | some c => okD (.str ⟨#[c]⟩) mu
        | none => none
      else none
    | _ => match seqD d mu with
      | some xs => match atI xs i with
        | some x => okD x mu
        | none => none
      | none => none
  | _ => none
theorem Rps.atI {K : PySem.W.Frag} {al : List Addr} {H : Hp} {xs : List D} {vs : List V} {i : Int} {x : D} (r : Rps K al H xs vs) (h : L2.atI xs i = some x) : ∃ v, L2.atI vs i = some v ∧ Rp K al H x v := by
  unfold L2.atI at h ⊢
  rw [r.length]
  cases e : ixN xs.length i with
  | none => rw [e] at h; cases h
  | some j =>
    rw [e] at h
    obtain ⟨v, h1, h2⟩ := r.get (show xs[j]? = some x from h)
    exact ⟨v, h1, h2⟩
section
variable {K : PySem.W.Frag} {T : Tb}
theorem o_ix : Op2 K T ixD (rIx K) := fun al mu H dx dy x y Q E sr rx ry p => by
  unfold ixD at p
  split at p
  · cases rp_int.mp ry
    split at p
    · cases rp_str.mp rx
      split at p
      · rename_i hz
        split at p
        · rename_i c e
          exact .inr (.inr ⟨_, _, c, rfl, rfl, line _ hz, e, p.now sr (rp_str.mpr rfl)⟩)
        · exact p.elim
      · exact p.elim
    · split at p
      · rename_i xs e1
        split at p
        · rename_i z e2
          obtain ⟨a, ys, rfl, q, r⟩ := seq_rp sr rx e1
          obtain ⟨v, h1, h2⟩ := r.atI e2
          rcases q with q | q
          · exact .inl ⟨a, ys, _, v, rfl, rfl, q, h1, p.now sr h2⟩
          · exact .inr (.inl ⟨a, ys, _, v, rfl, rfl, q, h1, p.now sr h2⟩)
        · exact p.elim
      · exact p.elim
  · exact p.elim
end
/-! ### slices -/
def cutD (xs : List D) (lo hi : Option Int) : List D := (xs.drop (HT.sIx xs.length 0 lo)).take (HT.sIx xs.length xs.length hi - HT.sIx xs.length 0 lo)
theorem Rps.cut {K : PySem.W.Frag} {al : List Addr} {H : Hp} {xs : List D} {vs : List V} {lo hi : Option Int} (r : Rps K al H xs vs) : Rps K al H (cutD xs lo hi) (cutV vs lo hi) := by
  unfold cutD cutV
  rw [r.length]
  exact (r.drop _).take _
def slD (d : D) (lo hi : Option Int) (mu : Mu) : Ro := match d with
  | .str z => if z.length ≤ 16777216 then okD (.str (cutS z lo hi)) mu else none
  | .tup xs => okD (.tup (cutD xs lo hi)) mu
  | _ => match lstD d mu with
    | some xs => newL (cutD xs lo hi) mu
    | none => none
/-- an end of a slice -/
def ePart (f : Option ES) (rho : Rho) (mu : Mu) (k : Option Int → Mu → Ro) : Ro := match f with
  | none => k none mu
  | some f => bnd (f rho mu) fun d mu1 => match d with
    | .int i => k (some i) mu1
    | _ => none
def eSl (f : ES) (lo hi : Option ES) : ES := fun rho mu => bnd (f rho mu) fun d mu1 => ePart lo rho mu1 fun l mu2 => ePart hi rho mu2 fun u mu3 => slD d l u mu3
def rdO (K : PySem.W.Frag) (T : Tb) (W : WX) (f : Option ES) : TO := fun s H Q => ∃ al rho mu k Q0, SL K al H rho s ∧ SR K T al mu H ∧ Wo K T al H Q0 (fun c d H' => W c d s H') (ePart f rho mu k) ∧
  ∀ o mu' al' H', Gr al al' → Kp H H' → SR K T al' mu' H' → Wo K T al' H' Q0 (fun c d H' => W c d s H') (k o mu') → Q o H'
def SO (T : Tb) (X : Cx) (e : Option Expr) (f : Option ES) : Prop := ∀ W : WX, Cz T.md X W → L2.PO X e (rdO X.K T W f)
theorem PO.weak {X : Cx} {e : Option Expr} {t t' : TO} (h : L2.PO X e t) (i : ∀ s H Q, t' s H Q → t s H Q) : L2.PO X e t' := ⟨fun pins s σ H Q I z => h.run pins s σ H Q I (i σ H Q z)⟩
section
variable {T : Tb} {X : Cx} {pos p2 : Pos} {a b e : Expr} {f g : ES} {lo hi : Option Expr} {fl fh : Option ES} {k : Nat}
theorem se_ix (ha : SE T X a f) (hb : SE T X b g) (hs : PlainIx b := by exact fun _ _ => rfl) : SE T X (.Subscript a b pos) (eOp ixD f g) := fun W z => PE.weak (pe_ix ix_seq (ha W z) (hb W z) hs) (rd_op o_ix)
theorem so_none : SO T X none none := fun W z => PO.weak po_none fun s H Q ⟨al, rho, mu, k, Q0, sl, sr, w, hk⟩ => hk none mu al H (Gr.refl _) (Kp.refl _) sr w
theorem so_some (h : SE T X e f) : SO T X (some e) (some f) := fun W z => PO.weak (po_some (h W z)) fun s H Q ⟨al, rho, mu, k, Q0, sl, sr, w, hk⟩ => ⟨al, rho, mu, sl, sr, Wo.bnd (k := fun d mu1 => match d with
    | .int i => k (some i) mu1
    | _ => none) w fun d mu1 al1 v H1 _ g1 k1 sr1 rv w1 => by
  match d with
  | .int i => cases rp_int.mp rv; exact ⟨i, rfl, hk (some i) mu1 al1 H1 g1 k1 sr1 w1⟩
  | .non => exact w1.elim
  | .bl _ => exact w1.elim
  | .str _ => exact w1.elim
  | .ty _ => exact w1.elim
  | .tup _ => exact w1.elim
  | .cel _ => exact w1.elim
  | .adr _ => exact w1.elim
  | .fl _ => exact w1.elim⟩
theorem slD_rp {K : PySem.W.Frag} {al : List Addr} {mu : Mu} {H : Hp} {Q : VK} {E : XK} {d : D} {x : V} {l u : Option Int} (sr : SR K T al mu H) (r : Rp K al H d x) (p : Wo K T al H Q E (slD d l u mu)) : rSlS x l u H Q ∨ rSlA K x l u H Q ∨ rSlL K x l u H Q := by
  unfold slD at p
  split at p
  · cases rp_str.mp r
    split at p
    · rename_i h
      exact .inl ⟨_, rfl, line _ h, p.now sr (rp_str.mpr rfl)⟩
    · exact p.elim
  · obtain ⟨a, ys, rfl, q, r2⟩ := rp_tup.mp r
    refine .inr (.inl ⟨a, ys, rfl, q, fun c => ?_, fun _ q n => p.tup sr r2.cut q n⟩)
    refine p.now sr (rp_tup.mpr ⟨a, ys, rfl, q, ?_⟩)
    have e := r2.cut (lo := l) (hi := u)
    have e2 : cutV ys l u = ys := by unfold cutV; rw [c.1, c.2]; simp
    rw [e2] at e
    exact e
  · split at p
    · rename_i xs e1
      obtain ⟨a, ys, rfl, q, r2⟩ := lst_rp sr r e1
      exact .inr (.inr ⟨a, ys, rfl, q, fun p' n => p.lst sr r2.cut p' n⟩)
    · exact p.elim
theorem se_sl (ha : SE T X a f) (hl : SO T X lo fl) (hh : SO T X hi fh) : SE T X (.Subscript a (.Slice lo hi none p2) pos) (eSl f fl fh) := fun W z => PE.weak (pe_slice (sl_str.or (sl_tupA.or sl_list)) (ha W z) (hl W z) (hh W z)) fun s H Q ⟨al, rho, mu, sl, sr, p⟩ =>
  ⟨al, rho, mu, sl, sr, Wo.bnd p fun d mu1 al1 v H1 _ g1 k1 sr1 rv p1 =>
    ⟨al1, rho, mu1, fun l mu2 => ePart fh rho mu2 fun u mu3 => slD d l u mu3, Q, sl.mono k1 g1, sr1, p1, fun l mu2 al2 H2 g2 k2 sr2 p2 =>
      ⟨al2, rho, mu2, fun u mu3 => slD d l u mu3, Q, (sl.mono k1 g1).mono k2 g2, sr2, p2, fun u mu3 al3 H3 g3 k3 sr3 p3 => slD_rp sr3 (Rp.mono k3 g3 _ _ (Rp.mono k2 g2 _ _ rv)) p3⟩⟩⟩
end
/-! ### displays -/
def tupF : FS := fun ds mu => if ds.length ≤ 16777216 then okD (.tup ds) mu else none
def lstF : FS := fun ds mu => if ds.length ≤ 16777216 then newL ds mu else none
section
variable {T : Tb} {X : Cx} {pos : Pos} {es : List Expr} {fs : List ES} {x1 : Nat}
theorem se_tup {x1} (h : SA T X es fs) : SE T X (.Tuple es x1 pos) (eCall tupF fs) := fun W z => PE.weak (pe_tup (h W z)) fun s H Q ⟨al, rho, mu, sl, sr, w⟩ =>
  ⟨al, rho, mu, tupF, Q, sl, sr, w, fun ds mu' al' vs H' _ g k sr' rv w' => by
    unfold tupF at w'
    split at w'
    · rename_i h
      exact ⟨by rw [rv.length]; exact line _ h, fun p n => w'.tup sr' rv p n⟩
    · exact w'.elim⟩
theorem se_lst (h : SA T X es fs) : SE T X (.List es pos) (eCall lstF fs) := fun W z => PE.weak (pe_lst (h W z)) fun s H Q ⟨al, rho, mu, sl, sr, w⟩ =>
  ⟨al, rho, mu, lstF, Q, sl, sr, w, fun ds mu' al' vs H' _ g k sr' rv w' => by
    unfold lstF at w'
    split at w'
    · rename_i h
      exact ⟨by rw [rv.length]; exact line _ h, fun p n => w'.lst sr' rv p n⟩
    · exact w'.elim⟩
end
/-! ### dicts with ints and texts for keys -/
def keyD : D → Option Key
  | .int i => some (.inl i)
  | .str x => some (.inr x)
  | _ => none
theorem key_rp {K : PySem.W.Frag} {al : List Addr} {H : Hp} {d : D} {v : V} {k : Key} (r : Rp K al H d v) (h : keyD d = some k) : v = kV k := by
  unfold keyD at h
  split at h
  · cases h; exact rp_int.mp r
  · cases h; exact rp_str.mp r
  · cases h
def valD (kvs : List (Key × D)) (k : Key) : Option D := (kvs.find? fun kv => decide (kv.1 = k)).map (·.2)
def putD (kvs : List (Key × D)) (k : Key) (d : D) : List (Key × D) := if (kvs.any fun kv => decide (kv.1 = k)) = true then kvs.map (fun kv => if kv.1 = k then (kv.1, d) else kv) else kvs ++ [(k, d)]
section
variable {K : PySem.W.Frag} {al : List Addr} {H : Hp}
theorem rpa_nil {k : Type} : RpA (k := k) K al H [] [] := ⟨rfl, Rps.nil⟩
theorem rpa_cons {k : Type} {x : k} {d : D} {kvs : List (k × D)} {vs : List (k × V)} (h : RpA K al H ((x, d) :: kvs) vs) : ∃ v r, vs = (x, v) :: r ∧ Rp K al H d v ∧ RpA K al H kvs r := by
  obtain ⟨h1, h2⟩ := h
  cases vs with
  | nil => cases h1
  | cons p r =>
    obtain ⟨y, v⟩ := p
    simp only [List.map_cons, List.cons.injEq] at h1 h2
    obtain ⟨rfl, h1⟩ := h1
    obtain ⟨u, r', e, h3, h4⟩ := rps_cons.mp h2
    simp only [List.map_cons, List.cons.injEq] at e
    obtain ⟨rfl, rfl⟩ := e
    exact ⟨v, r, rfl, h3, h1, h4⟩
theorem RpA.cons {k : Type} {x : k} {d : D} {v : V} {kvs : List (k × D)} {vs : List (k × V)} (h : Rp K al H d v) (r : RpA K al H kvs vs) : RpA K al H ((x, d) :: kvs) ((x, v) :: vs) := ⟨by simp [r.1], Rps.cons h r.2⟩
theorem RpA.val {k : Key} : ∀ {kvs : List (Key × D)} {vs : List (Key × V)} {d : D}, RpA K al H kvs vs → valD kvs k = some d → ∃ v, valV vs k = some v ∧ Rp K al H d v
  | [], vs, d, r, h => by cases h
  | (x, e) :: kvs, vs, d, r, h => by
    obtain ⟨v, rr, rfl, h1, h2⟩ := rpa_cons r
    by_cases hx : x = k
    · have e2 : valD ((x, e) :: kvs) k = some e := by simp [valD, List.find?_cons, hx]
      rw [e2] at h; cases h
      exact ⟨v, valV_pos hx, h1⟩
    · have e2 : valD ((x, e) :: kvs) k = valD kvs k := by simp [valD, List.find?_cons, hx]
      rw [e2] at h
      obtain ⟨u, q1, q2⟩ := RpA.val h2 h
      exact ⟨u, by rw [valV_neg hx]; exact q1, q2⟩
theorem RpA.any {k : Key} : ∀ {kvs : List (Key × D)} {vs : List (Key × V)}, RpA K al H kvs vs → (vs.any fun kv => decide (kv.1 = k)) = kvs.any fun kv => decide (kv.1 = k)
  | [], vs, r => by
    have e := r.1
    simp at e
    rw [e]; rfl
  | (x, e) :: kvs, vs, r => by
    obtain ⟨v, rr, rfl, h1, h2⟩ := rpa_cons r
    rw [List.any_cons, List.any_cons, RpA.any h2]
theorem RpA.app {k : Type} : ∀ {kvs kws : List (k × D)} {vs us : List (k × V)}, RpA K al H kvs vs → RpA K al H kws us → RpA K al H (kvs ++ kws) (vs ++ us) := fun r q => ⟨by simp [r.1, q.1], by rw [List.map_append, List.map_append]; exact r.2.app q.2⟩
theorem RpA.repl {k : Key} {d : D} {v : V} (q : Rp K al H d v) : ∀ {kvs : List (Key × D)} {vs : List (Key × V)}, RpA K al H kvs vs → RpA K al H (kvs.map fun kv => if kv.1 = k then (kv.1, d) else kv) (vs.map fun kv => if kv.1 = k then (kv.1, v) else kv)
  | [], vs, r => by
    have e := r.1
    simp at e
    rw [e]; exact rpa_nil
  | (x, e) :: kvs, vs, r => by
    obtain ⟨u, rr, rfl, h1, h2⟩ := rpa_cons r
    rw [List.map_cons, List.map_cons]
    by_cases hx : x = k
    · simp only [hx, if_true]
      exact RpA.cons q (by rw [← hx]; exact RpA.repl q h2)
    · simp only [hx, if_false]
      exact RpA.cons h1 (RpA.repl q h2)
theorem RpA.put {k : Key} {d : D} {v : V} (q : Rp K al H d v) {kvs : List (Key × D)} {vs : List (Key × V)} (r : RpA K al H kvs vs) : RpA K al H (putD kvs k d) (putK vs k v) := by
  unfold putD putK
  rw [r.any]
  by_cases h : (kvs.any fun kv => decide (kv.1 = k)) = true
  · rw [if_pos h, if_pos h]
    exact r.repl q
  · rw [if_neg h, if_neg h]
    exact r.app (RpA.cons q rpa_nil)
theorem RpA.length {k : Type} {kvs : List (k × D)} {vs : List (k × V)} (r : RpA K al H kvs vs) : vs.length = kvs.length := by
  have e := congrArg List.length r.1
  simpa using e
end
def dctD : D → Mu → Option (Nat × List (Key × D))
  | .cel j, mu => match mu[j]? with
    | some (.dct kvs) => some (j, kvs)
    | _ => none
  | _, _ => none
theorem dct_rp {K : PySem.W.Frag} {T : Tb} {al : List Addr} {mu : Mu} {H : Hp} {d : D} {v : V} {j : Nat} {kvs : List (Key × D)} (sr : SR K T al mu H) (r : Rp K al H d v) (h : dctD d mu = some (j, kvs)) :
    ∃ a vs, v = .ref a ∧ al[j]? = some a ∧ mu[j]? = some (.dct kvs) ∧ H a = some (.dK vs) ∧ RpA K al H kvs vs := by
  unfold dctD at h
  split at h
  · split at h
    · rename_i e
      cases h
      obtain ⟨a, e1, rfl⟩ := rp_cel.mp r
      obtain ⟨vs, e2, r2⟩ := sr.ok _ _ a e e1
      exact ⟨a, vs, rfl, e1, e, e2, r2⟩
    · cases h
  · cases h
/-- .. to be read -/
def dctR : D → Mu → Option (List (Key × D))
  | .cel j, mu => match mu[j]? with
    | some (.dct kvs) => some kvs
    | some (.fdc kvs) => some kvs
    | _ => none
  | _, _ => none
theorem dctR_rp {K : PySem.W.Frag} {T : Tb} {al : List Addr} {mu : Mu} {H : Hp} {d : D} {v : V} {kvs : List (Key × D)} (sr : SR K T al mu H) (r : Rp K al H d v) (h : dctR d mu = some kvs) :
    ∃ a vs, v = .ref a ∧ Rd H a (.dK vs) ∧ RpA K al H kvs vs := by
  unfold dctR at h
  split at h
  · split at h
    · rename_i e
      cases h
      obtain ⟨a, e1, rfl⟩ := rp_cel.mp r
      obtain ⟨vs, e2, r2⟩ := sr.ok _ _ a e e1
      exact ⟨a, vs, rfl, .inl e2, r2⟩
    · rename_i e
      cases h
      obtain ⟨a, e1, rfl⟩ := rp_cel.mp r
      obtain ⟨o, vs, e2, r2⟩ := sr.ok _ _ a e e1
      exact ⟨a, vs, rfl, .inr ⟨o, e2⟩, r2⟩
    · cases h
  · cases h
/-- d[k] -/
def getD : D2 := fun d e mu => match dctR d mu, keyD e with
  | some kvs, some k => match valD kvs k with
    | some x => okD x mu
    | none => none
  | _, _ => none
theorem o_get {K : PySem.W.Frag} {T : Tb} : Op2 K T getD (fun x y H Q => ∃ a v, x = .ref a ∧ DGet H a y (some v) ∧ Q v H) := fun al mu H dx dy x y Q E sr rx ry p => by
  unfold getD at p
  split at p
  · rename_i kvs k e1 e2
    split at p
    · rename_i z e3
      obtain ⟨a, vs, rfl, h1, r1⟩ := dctR_rp sr rx e1
      cases key_rp ry e2
      obtain ⟨v, h2, h3⟩ := r1.val e3
      exact ⟨a, v, rfl, by rw [← h2]; exact .inl ⟨vs, k, h1, rfl, rfl⟩, p.now sr h3⟩
    · exact p.elim
  · exact p.elim
/-- a cell written -/
theorem SR.setL {K : PySem.W.Frag} {T : Tb} {al : List Addr} {mu : Mu} {H : Hp} {j : Nat} {a : Addr} {xs xs' : List D} {vs vs' : List V} (sr : SR K T al mu H) (e : mu[j]? = some (.lst xs)) (ea : al[j]? = some a) (h : H a = some (.lst vs)) (r : Rps K al H xs' vs') :
    SR K T al (mu.set j (.lst xs')) (upd H a (.lst vs')) ∧ Kp H (upd H a (.lst vs')) := by
  have k : Kp H (upd H a (.lst vs')) := Kp.wr h (fun _ z => nomatch z) (fun _ _ z => nomatch z)
  exact ⟨sr.write e ea h (fun _ z => nomatch z) (fun _ _ z => nomatch z) (fun _ z => nomatch z) (fun _ z => nomatch z) (fun _ z => nomatch z) ⟨vs', upd_same, Rps.mono k (Gr.refl _) _ _ r⟩, k⟩
theorem SR.setD {K : PySem.W.Frag} {T : Tb} {al : List Addr} {mu : Mu} {H : Hp} {j : Nat} {a : Addr} {xs xs' : List (Key × D)} {vs vs' : List (Key × V)} (sr : SR K T al mu H) (e : mu[j]? = some (.dct xs)) (ea : al[j]? = some a) (h : H a = some (.dK vs)) (r : RpA K al H xs' vs') :
    SR K T al (mu.set j (.dct xs')) (upd H a (.dK vs')) ∧ Kp H (upd H a (.dK vs')) := by
  have k : Kp H (upd H a (.dK vs')) := Kp.wr h (fun _ z => nomatch z) (fun _ _ z => nomatch z)
  exact ⟨sr.write e ea h (fun _ z => nomatch z) (fun _ _ z => nomatch z) (fun _ z => nomatch z) (fun _ z => nomatch z) (fun _ z => nomatch z) ⟨vs', upd_same, r.mono k (Gr.refl _)⟩, k⟩
/-! ### o[i] = e -/
def putF (d e x : D) (mu : Mu) : Option Mu := match dctD d mu, keyD e with
  | some (j, kvs), some k => if kvs.length < 16777216 then some (mu.set j (.dct (putD kvs k x))) else none
  | _, _ => none
def setF (d e x : D) (mu : Mu) : Option Mu := match d, e with
  | .cel j, .int i => match mu[j]? with
    | some (.lst xs) => match ixN xs.length i with
      | some n => some (mu.set j (.lst (xs.set n x)))
      | none => none
    | _ => none
  | _, _ => none
def sPut (F : D → D → D → Mu → Option Mu) (fo fi fv : ES) : SS := fun rho mu => bnS (fv rho mu) rho fun x mu1 => bnS (fo rho mu1) rho fun d mu2 => bnS (fi rho mu2) rho fun e mu3 => match F d e x mu3 with
  | some mu4 => some (.nx, rho, mu4)
  | none => none
section
variable {T : Tb} {X : Cx} {pos pos' : Pos} {o i v e : Expr} {fo fi fv f g : ES} {k : Nat}
theorem se_get (hr : Room k X.A) (ha : SE T X o fo) (hb : SE T X i fi) (hs : NoSl i := by exact fun _ _ => rfl) : SE T X (.Subscript o i pos) (eOp getD fo fi) := fun W z => PE.weak (pe_dget (hu_of hr) (ha W z) (hb W z) hs) fun s H Q h => rd_op o_get s H Q h
theorem st_dput (hr : Room k X.A) (ho : SE T X o fo) (hi : SE T X i fi) (hv : SE T X v fv) (hs : swapsWith v (some (.Subscript o i pos')) pos.line X.env = pure false := by rfl) : ST T X (.Assign [.Subscript o i pos'] v pos) (sPut putF fo fi fv) := fun W z _ =>
  PS.weak (ps_dput (hu_of hr) (ho W z) (hi W z) (hv W z) hs) fun De s H ⟨al, rho, mu, sl, sr, w⟩ =>
    ⟨al, rho, mu, sl, sr, WoS.bn sl w fun x mu1 al1 xv H1 _ g1 k1 sr1 rx w1 =>
      ⟨al1, rho, mu1, sl.mono k1 g1, sr1, WoS.bn (sl.mono k1 g1) w1 fun d mu2 al2 dv H2 _ g2 k2 sr2 rd w2 =>
        ⟨al2, rho, mu2, (sl.mono k1 g1).mono k2 g2, sr2, WoS.bn ((sl.mono k1 g1).mono k2 g2) w2 fun e mu3 al3 ev H3 _ g3 k3 sr3 re w3 => by
          have slz := ((sl.mono k1 g1).mono k2 g2).mono k3 g3
          have rxz := Rp.mono k3 g3 _ _ (Rp.mono k2 g2 _ _ rx)
          have rdz := Rp.mono k3 g3 _ _ rd
          split at w3
          · rename_i mu4 e4
            unfold putF at e4
            split at e4
            · rename_i j kvs kk e1 e2
              split at e4
              · rename_i hl
                cases e4
                obtain ⟨a, vs, rfl, ea, em, h1, r1⟩ := dct_rp sr3 rdz e1
                cases key_rp re e2
                obtain ⟨q1, q2⟩ := sr3.setD em ea h1 (r1.put rxz)
                exact ⟨a, _, rfl, DPut.k h1 (by rw [r1.length]; exact line1 _ hl), w3 al3 s _ (Gr.refl _) q2 (slz.mono q2 (Gr.refl _)) q1⟩
              · cases e4
            · cases e4
          · exact w3.elim⟩⟩⟩
theorem st_lput (ho : SE T X o fo) (hi : SE T X i fi) (hv : SE T X v fv) (hs : swapsWithSole [.Subscript o i pos'] v pos.line X.env = pure false := by rfl) (hw : swappedStores [.Subscript o i pos'] v X.env = pure none := by rfl)
    (h1 : (assignEach [.Subscript o i pos'] X.env).map (·.2) = [assign (.Subscript o i pos') X.env] := by rfl)
    (ha : ∀ v, assign (.Subscript o i pos') X.env v = (do
      let ov ← holding [v] (eval o X.env)
      let iv ← holding [v, ov] (eval i X.env)
      standAt pos'
      holding [v, ov, iv] (setItem ov iv v)
      release [v, ov, iv] []) := by intro _; rfl) : ST T X (.Assign [.Subscript o i pos'] v pos) (sPut setF fo fi fv) := fun W z _ =>
  PS.weak (ps_asg (hv W z) (pg_sub (ho W z) (hi W z) set_list ha) hs hw h1) fun De s H ⟨al, rho, mu, sl, sr, w⟩ =>
    ⟨al, rho, mu, sl, sr, WoS.bn sl w fun x mu1 al1 xv H1 _ g1 k1 sr1 rx w1 =>
      ⟨al1, rho, mu1, sl.mono k1 g1, sr1, WoS.bn (sl.mono k1 g1) w1 fun d mu2 al2 dv H2 _ g2 k2 sr2 rd w2 =>
        ⟨al2, rho, mu2, (sl.mono k1 g1).mono k2 g2, sr2, WoS.bn ((sl.mono k1 g1).mono k2 g2) w2 fun e mu3 al3 ev H3 _ g3 k3 sr3 re w3 => by
          have slz := ((sl.mono k1 g1).mono k2 g2).mono k3 g3
          have rxz := Rp.mono k3 g3 _ _ (Rp.mono k2 g2 _ _ rx)
          have rdz := Rp.mono k3 g3 _ _ rd
          split at w3
          · rename_i mu4 e4
            unfold setF at e4
            split at e4
            · cases rp_int.mp re
              split at e4
              · rename_i em
                split at e4
                · rename_i n en
                  cases e4
                  obtain ⟨a, ys, rfl, ea, h1, r1⟩ := cel_lst sr3 rdz em
                  obtain ⟨q1, q2⟩ := sr3.setL em ea h1 (r1.set rxz n)
                  exact ⟨a, ys, _, n, rfl, rfl, h1, by rw [r1.length]; exact en, w3 al3 s _ (Gr.refl _) q2 (slz.mono q2 (Gr.refl _)) q1⟩
                · cases e4
              · cases e4
            · cases e4
          · exact w3.elim⟩⟩⟩
end
end DL
set_option Elab.async false
set_option linter.all false
set_option autoImplicit false
set_option maxRecDepth 100000
set_option maxHeartbeats 4000000
/-! DL6: built-in functions, methods of texts and lists. -/
namespace DL
open PySem PySem.Spec PyProof.Rows L2

/-! ### len, min, max, int, str, tuple, list, any, all -/
def lenF : FS
  | [.str z], mu => if z.length ≤ 16777216 then okD (.int z.length) mu else none
  | [d], mu => match seqD d mu with
    | some xs => okD (.int xs.length) mu
    | none => none
  | _, _ => none
def minF : FS
  | [.int i, .int j], mu => okD (.int (if j < i then j else i)) mu
  | _, _ => none
def intF : FS
  | [.int i], mu => okD (.int i) mu
  | [.bl k], mu => okD (.int (if k then 1 else 0)) mu
  | _, _ => none
def listF : FS
  | [d], mu => match seqD d mu with
    | some xs => newL xs mu
    | none => none
  | _, _ => none
def blsD : List D → Option (List Bool)
  | [] => some []
  | .bl b :: r => (blsD r).map (b :: ·)
  | _ => none
def strsD : List D → Option (List Str)
  | [] => some []
  | .str b :: r => (strsD r).map (b :: ·)
  | _ => none
section
variable {K : PySem.W.Frag} {T : Tb} {al : List Addr} {mu : Mu} {H : Hp}
theorem bls_rp : ∀ {xs : List D} {bs : List Bool} {vs : List V}, blsD xs = some bs → Rps K al H xs vs → vs = bs.map V.bl
  | [], bs, vs, h, r => by unfold blsD at h; cases h; exact rps_nil.mp r
  | .bl b :: xs, bs, vs, h, r => by
    unfold blsD at h
    obtain ⟨bs', h1, rfl⟩ := Option.map_eq_some_iff.mp h
    obtain ⟨v, rr, rfl, r1, r2⟩ := rps_cons.mp r
    cases rp_bl.mp r1
    rw [bls_rp h1 r2]; rfl
  | .non :: _, _, _, h, _ => by unfold blsD at h; cases h
  | .int _ :: _, _, _, h, _ => by unfold blsD at h; cases h
  | .str _ :: _, _, _, h, _ => by unfold blsD at h; cases h
  | .ty _ :: _, _, _, h, _ => by unfold blsD at h; cases h
  | .tup _ :: _, _, _, h, _ => by unfold blsD at h; cases h
  | .cel _ :: _, _, _, h, _ => by unfold blsD at h; cases h
  | .adr _ :: _, _, _, h, _ => by unfold blsD at h; cases h
  | .fl _ :: _, _, _, h, _ => by unfold blsD at h; cases h
theorem strs_rp : ∀ {xs : List D} {bs : List Str} {vs : List V}, strsD xs = some bs → Rps K al H xs vs → vs = bs.map V.str
  | [], bs, vs, h, r => by unfold strsD at h; cases h; exact rps_nil.mp r
  | .str b :: xs, bs, vs, h, r => by
    unfold strsD at h
    obtain ⟨bs', h1, rfl⟩ := Option.map_eq_some_iff.mp h
    obtain ⟨v, rr, rfl, r1, r2⟩ := rps_cons.mp r
    cases rp_str.mp r1
    rw [strs_rp h1 r2]; rfl
  | .non :: _, _, _, h, _ => by unfold strsD at h; cases h
  | .int _ :: _, _, _, h, _ => by unfold strsD at h; cases h
  | .bl _ :: _, _, _, h, _ => by unfold strsD at h; cases h
  | .ty _ :: _, _, _, h, _ => by unfold strsD at h; cases h
  | .tup _ :: _, _, _, h, _ => by unfold strsD at h; cases h
  | .cel _ :: _, _, _, h, _ => by unfold strsD at h; cases h
  | .adr _ :: _, _, _, h, _ => by unfold strsD at h; cases h
  | .fl _ :: _, _, _, h, _ => by unfold strsD at h; cases h
theorem c_len : CallD K T lenF (fun xs H Q => ∃ x n, xs = [x] ∧ LenV K x H n ∧ Q (.int n) H) := fun al mu H ds vs Q E sr r p => by
  unfold lenF at p
  split at p
  · obtain ⟨v, rfl, r1⟩ := rps_one.mp r
    cases rp_str.mp r1
    split at p
    · rename_i h
      exact ⟨_, _, rfl, ⟨line _ h, rfl⟩, p.now sr (rp_int.mpr rfl)⟩
    · exact p.elim
  · obtain ⟨v, rfl, r1⟩ := rps_one.mp r
    split at p
    · rename_i xs e
      obtain ⟨a, ys, rfl, q, r2⟩ := seq_rp sr r1 e
      refine ⟨_, xs.length, rfl, ?_, p.now sr (rp_int.mpr rfl)⟩
      rcases q with q | q
      · exact .inl ⟨ys, q, r2.length.symm⟩
      · exact .inr ⟨ys, q, r2.length.symm⟩
    · exact p.elim
  · exact p.elim
theorem c_min : CallD K T minF (fun xs H Q => ∃ i j, xs = [.int i, .int j] ∧ Q (.int (if j < i then j else i)) H) := fun al mu H ds vs Q E sr r p => by
  unfold minF at p
  split at p
  · obtain ⟨v, u, rfl, r1, r2⟩ := rps_two.mp r
    cases rp_int.mp r1; cases rp_int.mp r2
    exact ⟨_, _, rfl, p.now sr (rp_int.mpr rfl)⟩
  · exact p.elim
theorem c_int : CallD K T intF (fun xs H Q => (∃ i, xs = [.int i] ∧ Q (.int i) H) ∨ ∃ k, xs = [.bl k] ∧ Q (.int (if k then 1 else 0)) H) := fun al mu H ds vs Q E sr r p => by
  unfold intF at p
  split at p
  · obtain ⟨v, rfl, r1⟩ := rps_one.mp r
    cases rp_int.mp r1
    exact .inl ⟨_, rfl, p.now sr (rp_int.mpr rfl)⟩
  · obtain ⟨v, rfl, r1⟩ := rps_one.mp r
    cases rp_bl.mp r1
    exact .inr ⟨_, rfl, p.now sr (rp_int.mpr rfl)⟩
  · exact p.elim
end
section
variable {T : Tb} {X : Cx} {pos p : Pos} {e : Expr} {es : List Expr} {fs : List ES} {f : ES}
theorem se_len (hm : X.mg "len" = none) (ha : SA T X (e :: es) fs) (hg : Gl X "len" := by rfl) (he : starEach (e :: es) X.env = (false, eval e X.env) :: starEach es X.env := by rfl) (hpl : (backTo pos (starEach es X.env)).any (·.1) = false := by rfl) :
    SE T X (.Call (.Name "len" p) (e :: es) [] pos) (eCall lenF fs) := se_callB call_len c_len hg hm PySem.boot_len ha (by decide) (by decide) he hpl
theorem se_min (hm : X.mg "min" = none) (ha : SA T X (e :: es) fs) (hc : X.calm = true := by rfl) (hg : Gl X "min" := by rfl) (he : starEach (e :: es) X.env = (false, eval e X.env) :: starEach es X.env := by rfl) (hpl : (backTo pos (starEach es X.env)).any (·.1) = false := by rfl) :
    SE T X (.Call (.Name "min" p) (e :: es) [] pos) (eCall minF fs) := se_callB (call_min2 hc) c_min hg hm (by decide +kernel) ha (by decide) (by decide) he hpl
theorem se_intc (hm : X.mg "int" = none) (ha : SA T X (e :: es) fs) (hg : Gl X "int" := by rfl) (he : starEach (e :: es) X.env = (false, eval e X.env) :: starEach es X.env := by rfl) (hpl : (backTo pos (starEach es X.env)).any (·.1) = false := by rfl) :
    SE T X (.Call (.Name "int" p) (e :: es) [] pos) (eCall intF fs) := se_callTy call_int1 c_int hg hm (by decide +kernel) ha (by decide) (by decide) he hpl
end
/-! ### isinstance(x, T), T a built-in type -/
def tyN (d : D) (mu : Mu) : Option String := match d with
  | .non => some "NoneType"
  | .bl _ => some "bool"
  | .int _ => some "int"
  | .str _ => some "str"
  | .tup _ => some "tuple"
  | .fl _ => none
  | .cel j => match mu[j]? with
    | some (.lst _) => some "list"
    | some (.dct _) => some "dict"
    | _ => none
  | _ => none
def isTyB (a b : String) : Bool := a == b || (a == "bool" && b == "int")
def isiF : FS
  | [d, .ty n], mu => match tyN d mu with
    | some t => if kitB t n = some (isTyB t n) then okD (.bl (isTyB t n)) mu else none
    | none => none
  | _, _ => none
theorem tyN_rp {K : PySem.W.Frag} {T : Tb} {al : List Addr} {mu : Mu} {H : Hp} {d : D} {v : V} {t : String} (sr : SR K T al mu H) (r : Rp K al H d v) (h : tyN d mu = some t) : TyX K H v (.type t) := by
  unfold tyN at h
  split at h
  · cases h; cases rp_non.mp r; exact .base .non
  · cases h; cases rp_bl.mp r; exact .base (.bl _)
  · cases h; cases rp_int.mp r; exact .base (.int _)
  · cases h; cases rp_str.mp r; exact .base (.str _)
  · cases h
    obtain ⟨a, ys, rfl, q, r2⟩ := rp_tup.mp r
    rcases q with (q | ⟨o, q⟩) | ⟨o, its, n, q, c, _⟩
    · exact .base (.tup q)
    · exact .fTuple q
    · exact .kTuple q c
  · cases h
  · split at h
    · rename_i e
      cases h
      obtain ⟨a, ys, rfl, _, q, _⟩ := cel_lst sr r e
      exact .base (.lst q)
    · rename_i e
      cases h
      obtain ⟨a, e1, rfl⟩ := rp_cel.mp r
      obtain ⟨vs, e2, r2⟩ := sr.ok _ _ a e e1
      exact .base (.dK e2)
    · cases h
  · cases h
theorem c_isi {K : PySem.W.Frag} {T : Tb} : CallD K T isiF (rIsi K) := fun al mu H ds vs Q E sr r p => by
  unfold isiF at p
  split at p
  · obtain ⟨v, u, rfl, r1, r2⟩ := rps_two.mp r
    cases rp_ty.mp r2
    split at p
    · rename_i t e
      split at p
      · rename_i h
        exact ⟨v, _, .type t, _, _, rfl, .ty _, tyN_rp sr r1 e, kit_ty h, p.now sr (bl_rp _)⟩
      · exact p.elim
    · exact p.elim
  · exact p.elim
section
variable {T : Tb} {X : Cx} {pos p : Pos} {e : Expr} {es : List Expr} {fs : List ES} {f : ES}
theorem se_isi (hm : X.mg "isinstance" = none) (ha : SA T X (e :: es) fs) (hg : Gl X "isinstance" := by rfl) (he : starEach (e :: es) X.env = (false, eval e X.env) :: starEach es X.env := by rfl) (hpl : (backTo pos (starEach es X.env)).any (·.1) = false := by rfl) :
    SE T X (.Call (.Name "isinstance" p) (e :: es) [] pos) (eCall isiF fs) := se_callB call_isi c_isi hg hm (by decide +kernel) ha (by decide) (by decide) he hpl
/-- a built-in type's name -/
theorem se_tyn {x : Str} {n : String} (hm : X.mg x = none) (hv : bootBuiltins x = some (.type n)) (hg : Gl X x := by rfl) (hn : x ≠ "__name__" := by decide) (hd : (x == ("__debug__" : Str)) = false := by decide) : SE T X (.Name x pos) (eC (.ty n)) :=
  se_bltn (v := .ty n) hg hm hv rfl (fun _ _ => rp_ty.mpr rfl) hn hd
end
/-! ### tuple(x), list(x) -/
section
variable {T : Tb} {X : Cx} {pos p : Pos} {e : Expr} {f : ES}
def tup1 (d : D) (mu : Mu) : Ro := match d with
  | .tup xs => okD (.tup xs) mu
  | _ => match lstD d mu with
    | some xs => okD (.tup xs) mu
    | none => none
def eTuple (f : ES) : ES := fun rho mu => bnd (f rho mu) tup1
theorem se_tuplec (hm : X.mg "tuple" = none) (ha : SE T X e f) (hg : Gl X "tuple" := by rfl) (hs : starEach [e] X.env = [(false, eval e X.env)] := by rfl) : SE T X (.Call (.Name "tuple" p) [e] [] pos) (eTuple f) := fun W z =>
  PE.weak (pe_tupleOf hg hm (ha W z) hs) fun s H Q ⟨al, rho, mu, sl, sr, w⟩ => ⟨al, rho, mu, sl, sr, Wo.bnd w fun d mu1 al1 v H1 _ g1 k1 sr1 rv w1 => by
    unfold tup1 at w1
    split at w1
    · obtain ⟨a, ys, rfl, q, r⟩ := rp_tup.mp rv
      exact .inr ⟨a, ys, rfl, q, w1.now sr1 (rp_tup.mpr ⟨a, ys, rfl, q, r⟩)⟩
    · split at w1
      · rename_i xs e2
        obtain ⟨a, ys, rfl, q, r⟩ := lst_rp sr1 rv e2
        exact .inl ⟨a, ys, rfl, q, fun p n => w1.tup sr1 r p n⟩
      · exact w1.elim⟩
end
/-! ### methods -/
def eMth (chk : D → Mu → Bool) (M : D → List D → Mu → Ro) (f : ES) (fs : List ES) : ES := fun rho mu => bnd (f rho mu) fun d mu1 => if chk d mu1 = true then eArgs fs rho mu1 (M d) else none
def isSB (d : D) (_ : Mu) : Bool := match d with
  | .str _ => true
  | _ => false
def isLB (d : D) (mu : Mu) : Bool := (lstD d mu).isSome
/-- a method by values, at data -/
def MthD (K : PySem.W.Frag) (T : Tb) (M : D → List D → Mu → Ro) (r : V → List V → Hp → VK → Prop) : Prop := ∀ (al : List Addr) (mu : Mu) (H : Hp) (d : D) (ds : List D) (v : V) (vs : List V) (Q : VK) (E : XK), SR K T al mu H → Rp K al H d v → Rps K al H ds vs → Wo K T al H Q E (M d ds mu) → r v vs H Q
section
variable {K : PySem.W.Frag} {T : Tb} {X : Cx} {o e : Expr} {es : List Expr} {name : Str} {apos cpos : Pos} {Ty id : String} {r : V → List V → Hp → VK → Prop} {f : ES} {fs : List ES} {M : D → List D → Mu → Ro} {chk : D → Mu → Bool}
theorem se_bm (pa : PlainAttrs Ty) (slot : Slot Ty name id) (hty : typeOf (.builtin id) = pure (.type "method_descriptor")) (hm : MtR X id r) (oM : MthD X.K T M r) (hk : ∀ al mu H d v, SR X.K T al mu H → Rp X.K al H d v → chk d mu = true → tyV X.K Ty v H) (ho : SE T X o f) (ha : SA T X (e :: es) fs)
    (hbase : attributeBase o name X.env (eval o X.env) = eval o X.env := by rfl)
    (hfew : ((backTo cpos (starEach (e :: es) X.env)).all (fun x => !x.1) && (backToKw cpos (keywordEach [] X.env)).all (fun x => x.1.isSome)
      && decide ((e :: es).length + ([] : List Keyword).length + (if ([] : List Keyword).isEmpty then 0 else 1) < 30)) = true := by rfl)
    (hline : (apos.endLine == cpos.line) = true := by rfl) (hs : starEach (e :: es) X.env = (false, eval e X.env) :: starEach es X.env := by rfl) (hplain : (backTo cpos (starEach es X.env)).any (·.1) = false := by rfl) :
    SE T X (.Call (.Attribute o name apos) (e :: es) [] cpos) (eMth chk M f fs) := fun W z => PE.weak (pe_bm pa slot hty hm (ho W z) (ha W z) hbase hfew hline hs hplain) fun s H Q ⟨al, rho, mu, sl, sr, w⟩ =>
  ⟨al, rho, mu, sl, sr, Wo.bnd w fun d mu1 al1 v H1 _ g1 k1 sr1 rv w1 => by
    split at w1
    · rename_i hc
      exact ⟨hk al1 mu1 H1 d v sr1 rv hc, al1, rho, mu1, M d, Q, sl.mono k1 g1, sr1, w1, fun ds mu2 al2 vs H2 _ g2 k2 sr2 rvs w2 => oM al2 mu2 H2 d ds v vs Q _ sr2 (Rp.mono k2 g2 _ _ rv) rvs w2⟩
    · exact w1.elim⟩
theorem chk_s {al : List Addr} {mu : Mu} {H : Hp} {d : D} {v : V} (sr : SR K T al mu H) (r : Rp K al H d v) (h : isSB d mu = true) : tyV K "str" v H := by
  unfold isSB at h
  split at h
  · cases rp_str.mp r; rfl
  · cases h
theorem chk_l {al : List Addr} {mu : Mu} {H : Hp} {d : D} {v : V} (sr : SR K T al mu H) (r : Rp K al H d v) (h : isLB d mu = true) : tyV K "list" v H := by
  obtain ⟨xs, e⟩ := Option.isSome_iff_exists.mp h
  obtain ⟨a, ys, rfl, q, _⟩ := lst_rp sr r e
  exact .inl ⟨rfl, ys, q⟩
/-! lists -/
def appM : D → List D → Mu → Ro
  | .cel j, [x], mu => match mu[j]? with
    | some (.lst xs) => if xs.length < 16777216 then some (.ok .non, mu.set j (.lst (xs ++ [x]))) else none
    | _ => none
  | _, _, _ => none
def popAtM : D → List D → Mu → Ro
  | .cel j, [.int i], mu => match mu[j]? with
    | some (.lst xs) => match ixN xs.length i with
      | some n => match xs[n]? with
        | some x => if -(2 ^ 63) ≤ i ∧ i < 2 ^ 63 then some (.ok x, mu.set j (.lst (xs.eraseIdx n))) else none
        | none => none
      | none => none
    | _ => none
  | _, _, _ => none
theorem Rps.erase {al : List Addr} {H : Hp} : ∀ {ds : List D} {vs : List V} (i : Nat), Rps K al H ds vs → Rps K al H (ds.eraseIdx i) (vs.eraseIdx i)
  | [], vs, i, h => by cases rps_nil.mp h; exact Rps.nil
  | d :: ds, vs, 0, h => by
    obtain ⟨v, r, rfl, h1, h2⟩ := rps_cons.mp h
    exact h2
  | d :: ds, vs, i + 1, h => by
    obtain ⟨v, r, rfl, h1, h2⟩ := rps_cons.mp h
    exact Rps.cons h1 (Rps.erase i h2)
theorem m_append : MthD K T appM rAppend := fun al mu H d ds v vs Q E sr r rs p => by
  unfold appM at p
  split at p
  · obtain ⟨u, rfl, r1⟩ := rps_one.mp rs
    split at p
    · rename_i e
      split at p
      · rename_i h
        obtain ⟨a, ys, rfl, ea, q, r2⟩ := cel_lst sr r e
        obtain ⟨q1, q2⟩ := sr.setL e ea q (r2.app (Rps.one r1))
        exact ⟨a, ys, u, rfl, rfl, q, by rw [r2.length]; exact line1 _ h, p al .non _ (Gr.refl _) q2 q1 (rp_non.mpr rfl)⟩
      · exact p.elim
    · exact p.elim
  · exact p.elim
theorem m_popAt : MthD K T popAtM rPopAt := fun al mu H d ds v vs Q E sr r rs p => by
  unfold popAtM at p
  split at p
  · obtain ⟨u, rfl, r1⟩ := rps_one.mp rs
    cases rp_int.mp r1
    split at p
    · rename_i e
      split at p
      · rename_i n en
        split at p
        · rename_i x ex
          obtain ⟨a, ys, rfl, ea, q, r2⟩ := cel_lst sr r e
          obtain ⟨q1, q2⟩ := sr.setL e ea q (r2.erase n)
          obtain ⟨y, h1, h2⟩ := r2.get ex
          split at p
          · rename_i hb
            obtain ⟨z1, _⟩ := ixN_seq (by rw [← r2.length] at en; exact en)
            exact ⟨a, ys, _, n, y, rfl, rfl, q, hb.1, hb.2, z1, h1, p al y _ (Gr.refl _) q2 q1 (Rp.mono q2 (Gr.refl _) _ _ h2)⟩
          · exact p.elim
        · exact p.elim
      · exact p.elim
    · exact p.elim
  · exact p.elim
/-! texts -/
def joinM : D → List D → Mu → Ro
  | .str a, [d], mu => match seqD d mu with
    | some xs => match strsD xs with
      | some ys => if (ys.map (·.length)).sum + ys.length * a.length ≤ 16777216 then okD (.str (Txt.join a ys)) mu else none
      | none => none
    | none => none
  | _, _, _ => none
theorem m_join : MthD K T joinM (fun x xs H Q => ∃ a p, ∃ ys : List Str, x = .str a ∧ xs = [.ref p] ∧ (SqL K H p (ys.map V.str) ∨ SqT K H p (ys.map V.str)) ∧
    (ys.map (·.length)).sum + ys.length * a.length ≤ 16777216 ∧ Q (.str (Txt.join a ys)) H) := fun al mu H d ds v vs Q E sr r rs p => by
  unfold joinM at p
  split at p
  · obtain ⟨u, rfl, r1⟩ := rps_one.mp rs
    cases rp_str.mp r
    split at p
    · rename_i xs e
      split at p
      · rename_i ys e2
        split at p
        · rename_i h
          obtain ⟨a, zs, rfl, q, r2⟩ := seq_rp sr r1 e
          cases strs_rp e2 r2
          exact ⟨_, a, ys, rfl, rfl, q, h, p.now sr (rp_str.mpr rfl)⟩
        · exact p.elim
      · exact p.elim
    · exact p.elim
  · exact p.elim
end
end DL
set_option Elab.async false
set_option linter.all false
set_option autoImplicit false
set_option maxRecDepth 100000
set_option maxHeartbeats 4000000
/-! DL7: targets, loops, comprehensions. -/
namespace DL
open PySem PySem.Spec PyProof.Rows L2

/-! ### targets: a name, a tuple of names -/
inductive Tg where
  | nm (i : Nat)
  | tp (is : List Nat)
def Tg.slots : Tg → List Nat
  | .nm i => [i]
  | .tp is => is
def setsR : List Nat → List D → Rho → Rho
  | i :: is, d :: ds, rho => setsR is ds (rho.set i (some d))
  | _, _, rho => rho
def setsV : List Nat → List V → L2.St → L2.St
  | i :: is, d :: ds, s => setsV is ds (s.set i (some d))
  | _, _, s => s
def asgD (t : Tg) (d : D) (rho : Rho) : Option Rho := match t with
  | .nm i => some (rho.set i (some d))
  | .tp is => match d with
    | .tup ds => if ds.length = is.length then some (setsR is ds rho) else none
    | _ => none
def gT (K : PySem.W.Frag) : Tg → TG
  | .nm i => gName i
  | .tp is => fun v s H Q => ∃ a xs, v = .ref a ∧ SqT K H a xs ∧ xs.length = is.length ∧ Q (setsV is xs s) H
theorem setsV_wipe (vs : List Nat) : ∀ (is : List Nat) (xs : List V) (s : L2.St), (∀ i ∈ is, i ∈ vs) → wipe (setsV is xs s) vs = wipe s vs
  | [], xs, s, _ => by cases xs <;> rfl
  | i :: is, [], s, _ => rfl
  | i :: is, x :: xs, s, h => by
    show wipe (setsV is xs (s.set i (some x))) vs = wipe s vs
    rw [setsV_wipe vs is xs _ fun j hj => h j (List.mem_cons_of_mem _ hj)]
    have hi := h i (List.mem_cons_self ..)
    clear h
    induction vs with
    | nil => cases hi
    | cons v vs ih =>
      unfold wipe
      by_cases e : i = v
      · subst e
        have key : ∀ (l : List Nat) (s : L2.St), (wipe (s.set i (some x)) l).set i none = (wipe s l).set i none := by
          intro l
          induction l with
          | nil => intro s; unfold wipe; rw [List.set_set]
          | cons w l ih2 =>
            intro s
            unfold wipe
            by_cases e2 : w = i
            · subst e2
              rw [List.set_set, List.set_set]
              exact ih2 s
            · rw [List.set_comm _ _ e2, ih2 s, List.set_comm _ _ e2]
        exact key vs s
      · have hv : i ∈ vs := by
          rcases List.mem_cons.mp hi with z | z
          · exact absurd z e
          · exact z
        rw [ih hv]
theorem sets_sl {K : PySem.W.Frag} {al : List Addr} {H : Hp} : ∀ {is : List Nat} {ds : List D} {xs : List V} {rho : Rho} {s : L2.St}, Rps K al H ds xs → SL K al H rho s → SL K al H (setsR is ds rho) (setsV is xs s)
  | [], ds, xs, rho, s, _, h => by
    cases ds <;> cases xs <;> exact h
  | i :: is, [], xs, rho, s, r, h => by cases rps_nil.mp r; exact h
  | i :: is, d :: ds, xs, rho, s, r, h => by
    obtain ⟨v, rr, rfl, r1, r2⟩ := rps_cons.mp r
    show SL K al H (setsR is ds (rho.set i (some d))) (setsV is rr (s.set i (some v)))
    exact sets_sl r2 (h.set r1 i)
theorem gT_of {K : PySem.W.Frag} {al : List Addr} {H : Hp} {t : Tg} {d : D} {v : V} {rho rho' : Rho} {s : L2.St} {Q : L2.St → Hp → Prop} (h : asgD t d rho = some rho') (r : Rp K al H d v) (sl : SL K al H rho s)
    (hq : ∀ s', SL K al H rho' s' → (∀ vs : List Nat, (∀ i ∈ t.slots, i ∈ vs) → wipe s' vs = wipe s vs) → Q s' H) : gT K t v s H Q := by
  unfold asgD at h
  split at h
  · cases h
    exact hq _ (sl.set r _) fun vs hv => setsV_wipe vs [_] [v] s hv
  · split at h
    · split at h
      · rename_i hl
        cases h
        obtain ⟨a, ys, rfl, q, r2⟩ := rp_tup.mp r
        exact ⟨a, ys, rfl, q, by rw [r2.length]; exact hl, hq _ (sets_sl r2 sl) fun vs hv => setsV_wipe vs _ ys s hv⟩
      · cases h
    · cases h
def SG (X : Cx) (tg : Expr) (t : Tg) : Prop := PG X tg (gT X.K t)
def gNs : List Nat → TGs
  | [] => gNil
  | i :: is => gCons (gName i) (gNs is)
theorem gNs_of : ∀ (is : List Nat) (vs : List V) (s : L2.St) (H : Hp) (Q : L2.St → Hp → Prop), vs.length = is.length → Q (setsV is vs s) H → gNs is vs s H Q
  | [], vs, s, H, Q, hl, q => by
    cases vs with
    | nil => exact ⟨rfl, q⟩
    | cons _ _ => cases hl
  | i :: is, vs, s, H, Q, hl, q => by
    cases vs with
    | nil => cases hl
    | cons v vs => exact ⟨v, vs, rfl, gNs_of is vs _ H Q (Nat.succ.inj hl) q⟩
section
variable {X : Cx} {pos : Pos}
theorem sg_name {i : Nat} {x : Str} (hN : X.N.Nodup) (hi : X.N[i]? = some x := by rfl) (hx : Loc X.env.scope x := by first | exact Or.inl rfl | exact Or.inr rfl) (hf : X.fn x = true ∨ X.env.scope.names.lookup x = some .local := by first | exact .inl rfl | exact .inr rfl | assumption) : SG X (.Name x pos) (.nm i) := pg_name hN hi hx hf
theorem PG.weak {tg : Expr} {t t' : TG} (h : PG X tg t) (i : ∀ v s H Q, t' v s H Q → t v s H Q) : PG X tg t' := ⟨fun pins s σ H v u Q I r z => h.run pins s σ H v u Q I r (i v σ H Q z)⟩
theorem sg_tup {es : List Expr} {k : Nat} {is : List Nat} (h : PGs X es (gNs is)) (hc : X.calm = true := by rfl) (hn : (assignEach es X.env).length = is.length := by rfl) (hst : (assignEach es X.env).findIdx? (·.1) = none := by rfl) : SG X (.Tuple es k pos) (.tp is) :=
  PG.weak (pg_tup hc h hn hst) fun v s H Q ⟨a, xs, e, q, hl, z⟩ => ⟨a, xs, e, q, hl, gNs_of is xs s H Q hl z⟩
theorem sgs_nil : PGs X [] (gNs []) := pgs_nil
theorem sgs_cons {i : Nat} {x : Str} {is : List Nat} {es : List Expr} {p : Pos} (hN : X.N.Nodup) (h2 : PGs X es (gNs is)) (hi : X.N[i]? = some x := by rfl) (hx : Loc X.env.scope x := by first | exact Or.inl rfl | exact Or.inr rfl) (hf : X.fn x = true ∨ X.env.scope.names.lookup x = some .local := by first | exact .inl rfl | exact .inr rfl | assumption)
    (hs : (assignEach (.Name x p :: es) X.env).map (·.2) = assign (.Name x p) X.env :: (assignEach es X.env).map (·.2) := by rfl) : PGs X (.Name x p :: es) (gNs (i :: is)) := pgs_cons (pg_name hN hi hx hf) h2 hs
end
/-! ### sources -/
/-- items, and a list that must stay as it is -/
inductive Sc where
  | ok (items : List D) (g : Option (Nat × List D))
  | ex (C : Addr) (fs : List (Str × D))
abbrev Io := Option (Sc × Mu)
abbrev IS := Rho → Mu → Io
def grdOk (g : Option (Nat × List D)) (mu : Mu) : Prop := match g with
  | none => True
  | some (j, xs) => mu[j]? = some (.lst xs)
/-- a walk at data -/
def WkD (K : PySem.W.Frag) (T : Tb) (J : It) (al : List Addr) (H : Hp) (items : List D) (g : Option (Nat × List D)) : Prop := ∃ (G : Hp → Prop) (Y : Nat → Hp → V → Hp → Prop), Walk J items.length G Y ∧
  (∀ al2 mu2 H2, Gr al al2 → Kp H H2 → SR K T al2 mu2 H2 → grdOk g mu2 → G H2) ∧
  ∀ (i : Nat) (al2 : List Addr) (mu2 : Mu) (H2 : Hp) (x : V) (H3 : Hp), i < items.length → Gr al al2 → Kp H H2 → SR K T al2 mu2 H2 → grdOk g mu2 → Y i H2 x H3 → Same H2 H3 ∧ ∃ d, items[i]? = some d ∧ Rp K al2 H3 d x
def rdI (K : PySem.W.Frag) (T : Tb) (W : WX) (f : IS) : TI := fun s H R => ∃ al rho mu, SL K al H rho s ∧ SR K T al mu H ∧ match f rho mu with
  | none => False
  | some (.ex C fs, mu') => ∀ al' H' dd vs, Gr al al' → Kp H H' → SR K T al' mu' H' → H' dd = some (.xd vs) → RpA K al' H' fs vs → W (.ref C) (some dd) s H'
  | some (.ok items g, mu') => ∀ J al' H', Gr al al' → Kp H H' → SR K T al' mu' H' → WkD K T J al' H' items g → R J H'
def SI (T : Tb) (X : Cx) (tg iter : Expr) (f : IS) : Prop := ∀ W : WX, Cz T.md X W → PI X tg iter (rdI X.K T W f)
theorem PI.weak {X : Cx} {tg e : Expr} {t t' : TI} (h : PI X tg e t) (i : ∀ s H R, t' s H R → t s H R) : PI X tg e t' := ⟨fun pins s σ H R I z => h.run pins s σ H R I (i σ H R z)⟩
theorem PI.or {X : Cx} {tg e : Expr} {t t' : TI} (h : PI X tg e t) (h' : PI X tg e t') : PI X tg e (fun s H R => t s H R ∨ t' s H R) := ⟨fun pins s σ H R I z => z.elim (h.run pins s σ H R I) (h'.run pins s σ H R I)⟩
/-- what a value gives when it is walked -/
def srcV (d : D) (mu : Mu) : Option (List D × Option (Nat × List D)) := match d with
  | .tup xs => some (xs, none)
  | .fl xs => some (xs, none)
  | .str z => some (z.cps.toList.map fun c => D.str ⟨#[c]⟩, none)
  | .cel j => match mu[j]? with
    | some (.lst xs) => some (xs, some (j, xs))
    | _ => none
  | _ => none
def iV (f : ES) : IS := fun rho mu => match f rho mu with
  | some (.ok d, mu1) => match srcV d mu1 with
    | some (xs, g) => some (.ok xs g, mu1)
    | none => none
  | some (.ex C fs, mu1) => some (.ex C fs, mu1)
  | none => none
/-- range(n) -/
def iRg (f : ES) : IS := fun rho mu => match f rho mu with
  | some (.ok (.int n), mu1) => if -(2 ^ 62) ≤ n ∧ n < 2 ^ 62 then some (.ok ((List.range n.toNat).map fun k => D.int (k : Nat)) none, mu1) else none
  | some (.ok _, _) => none
  | some (.ex C fs, mu1) => some (.ex C fs, mu1)
  | none => none
theorem walk_seq {K : PySem.W.Frag} {T : Tb} {a : Addr} {al : List Addr} {H : Hp} {xs : List D} {ys : List V} (q : SqT K H a ys) (r : Rps K al H xs ys) : WkD K T (Itt K a) al H xs none :=
  ⟨fun H => SqT K H a ys, YAt ys, by rw [← r.length]; exact walk_tup, fun al2 mu2 H2 _ k _ _ => SqT.kp k q, fun i al2 mu2 H2 x H3 _ g k sr _ y => by
    obtain ⟨rfl, e⟩ := y
    refine ⟨Same.refl _, ?_⟩
    have hi : i < xs.length := by rw [← r.length]; exact (List.getElem?_eq_some_iff.mp e).1
    obtain ⟨v, h1, h2⟩ := r.get (d := xs[i]) (i := i) (by simp [hi])
    rw [e] at h1; cases h1
    exact ⟨_, by simp [hi], Rp.mono k g _ _ h2⟩⟩
theorem walk_fz {K : PySem.W.Frag} {T : Tb} {a : Addr} {al : List Addr} {H : Hp} {xs : List D} {ys : List V} (q : FzL K H a ys) (r : Rps K al H xs ys) : WkD K T (Itl K a) al H xs none :=
  ⟨fun H => SqL K H a ys, YAt ys, by rw [← r.length]; exact walk_list, fun al2 mu2 H2 _ k _ _ => (q.kp k).sq, fun i al2 mu2 H2 x H3 _ g k sr _ y => by
    obtain ⟨rfl, e⟩ := y
    refine ⟨Same.refl _, ?_⟩
    have hi : i < xs.length := by rw [← r.length]; exact (List.getElem?_eq_some_iff.mp e).1
    obtain ⟨v, h1, h2⟩ := r.get (d := xs[i]) (i := i) (by simp [hi])
    rw [e] at h1; cases h1
    exact ⟨_, by simp [hi], Rp.mono k g _ _ h2⟩⟩
theorem walk_cel {K : PySem.W.Frag} {T : Tb} {a : Addr} {j : Nat} {al : List Addr} {H : Hp} {xs : List D} (ea : al[j]? = some a) : WkD K T (Itl K a) al H xs (some (j, xs)) := by
  refine ⟨fun H => ∃ ys, H a = some (.lst ys) ∧ ys.length = xs.length, fun i H x H' => H' = H ∧ ∀ ys, H a = some (.lst ys) → ys[i]? = some x, ⟨fun i H hi ⟨ys, q, e⟩ => ⟨ys, ys[i]'(by omega), SqL.of q, by simp [show i < ys.length by omega]⟩, fun H ⟨ys, q, e⟩ => ⟨ys, SqL.of q, by omega⟩, fun i H x H' hi ⟨ys, q, e⟩ y => ⟨y.1, fun zs hz => y.2 zs (SqL.of hz)⟩⟩, ?_, ?_⟩
  · intro al2 mu2 H2 g k sr hg
    obtain ⟨vs, e2, r2⟩ := sr.ok _ _ a hg (g _ _ ea)
    exact ⟨vs, e2, r2.length⟩
  · intro i al2 mu2 H2 x H3 hil g k sr hg y
    obtain ⟨rfl, y⟩ := y
    obtain ⟨vs, e2, r2⟩ := sr.ok _ _ a hg (g _ _ ea)
    have e := y vs e2
    have hi : i < xs.length := by rw [← r2.length]; exact (List.getElem?_eq_some_iff.mp e).1
    obtain ⟨v, h1, h2⟩ := r2.get (d := xs[i]) (i := i) (by simp [hi])
    rw [e] at h1; cases h1
    exact ⟨Same.refl _, _, by simp [hi], h2⟩
theorem walk_st {K : PySem.W.Frag} {T : Tb} {z : Str} {al : List Addr} {H : Hp} : WkD K T (Its z) al H (z.cps.toList.map fun c => D.str ⟨#[c]⟩) none := by
  refine ⟨fun _ => True, _, by rw [List.length_map, Array.length_toList]; exact walk_str, fun _ _ _ _ _ _ _ => trivial, ?_⟩
  intro i al2 mu2 H2 x H3 hil g k sr hg y
  obtain ⟨rfl, c, e, rfl⟩ := y
  exact ⟨Same.refl _, .str ⟨#[c]⟩, by rw [List.getElem?_map, Array.getElem?_toList, e]; rfl, rp_str.mpr rfl⟩
theorem walk_rg {K : PySem.W.Frag} {T : Tb} {n : Nat} {al : List Addr} {H : Hp} : WkD K T (Itr 0 n) al H ((List.range n).map fun k => D.int (k : Nat)) none := by
  refine ⟨fun _ => True, _, by rw [List.length_map, List.length_range]; exact walk_range, fun _ _ _ _ _ _ _ => trivial, ?_⟩
  intro i al2 mu2 H2 x H3 hil g k sr hg y
  obtain ⟨rfl, rfl⟩ := y
  rw [List.length_map, List.length_range] at hil
  exact ⟨Same.refl _, .int (i : Nat), by rw [List.getElem?_map, List.getElem?_range hil]; rfl, rp_int.mpr (by simp)⟩
section
variable {T : Tb} {X : Cx} {tg e : Expr} {f : ES} {pos p : Pos}
theorem si_val (h : SE T X e f) : SI T X tg e (iV f) := fun W z => PI.weak (PI.or (pi_tup (h W z)) (PI.or (pi_list (h W z)) (pi_str (h W z)))) fun s H R ⟨al, rho, mu, sl, sr, w⟩ => by
  unfold iV at w
  match q : f rho mu with
  | none => rw [q] at w; exact w.elim
  | some (.ex C fs, mu1) =>
    rw [q] at w
    exact .inl ⟨al, rho, mu, sl, sr, by rw [q]; exact fun al' H' dd vs g k sr' e r => w al' H' dd vs g k sr' e r⟩
  | some (.ok d, mu1) =>
    rw [q] at w
    dsimp only at w
    have fin : ∀ {P : VK}, (∀ al' v H', Gr al al' → Kp H H' → SR X.K T al' mu1 H' → Rp X.K al' H' d v → P v H') → rdE X.K T W f s H P := fun {P} h => ⟨al, rho, mu, sl, sr, by rw [q]; exact h⟩
    match hd : srcV d mu1 with
    | none => rw [hd] at w; exact w.elim
    | some (xs, g) =>
      rw [hd] at w
      unfold srcV at hd
      split at hd
      · cases hd
        exact .inl (fin fun al' v H' g k sr' r => by
          obtain ⟨a, ys, rfl, q, r2⟩ := rp_tup.mp r
          exact ⟨a, rfl, ⟨ys, q⟩, w _ al' H' g k sr' (walk_seq q r2)⟩)
      · cases hd
        exact .inr (.inl (fin fun al' v H' g k sr' r => by
          obtain ⟨a, ys, rfl, q, r2⟩ := rp_fl.mp r
          exact ⟨a, rfl, ⟨ys, q.sq⟩, w _ al' H' g k sr' (walk_fz q r2)⟩))
      · cases hd
        exact .inr (.inr (fin fun al' v H' g k sr' r => by
          cases rp_str.mp r
          exact ⟨_, rfl, w _ al' H' g k sr' walk_st⟩))
      · split at hd
        · rename_i em
          cases hd
          exact .inr (.inl (fin fun al' v H' g k sr' r => by
            obtain ⟨a, ys, rfl, ea, q, r2⟩ := cel_lst sr' r em
            exact ⟨a, rfl, ⟨ys, SqL.of q⟩, w _ al' H' g k sr' (walk_cel ea)⟩))
        · cases hd
      · cases hd
theorem si_range (hm : X.mg "range" = none) (h : SE T X e f) (hg : Gl X "range" := by rfl) (hs : starEach [e] X.env = [(false, eval e X.env)] := by rfl) : SI T X tg (.Call (.Name "range" p) [e] [] pos) (iRg f) := fun W z =>
  PI.weak (pi_range1 hg hm (pa_cons (h W z) pa_nil hs) hs) fun s H R ⟨al, rho, mu, sl, sr, w⟩ => by
    unfold iRg at w
    refine ⟨al, rho, mu, sl, sr, ?_⟩
    match q : f rho mu with
    | none => rw [q] at w; exact w.elim
    | some (.ex C fs, mu1) =>
      rw [q] at w
      exact fun al' H' dd vs g k sr' e r => w al' H' dd vs g k sr' e r
    | some (.ok d, mu1) =>
      rw [q] at w
      cases d with
      | int n =>
        dsimp only at w
        by_cases hb : -(2 ^ 62) ≤ n ∧ n < 2 ^ 62
        · rw [if_pos hb] at w
          exact fun al' v H' g k sr' r => by
            cases rp_int.mp r
            exact ⟨n, rfl, hb.1, hb.2, w _ al' H' g k sr' walk_rg⟩
        · rw [if_neg hb] at w
          exact w.elim
      | _ => exact w.elim
end
/-! ### for -/
open Classical in
noncomputable def forL (g : Option (Nat × List D)) (t : Tg) (b : SS) : List D → Rho → Mu → So
  | [], rho, mu => if grdOk g mu then some (.nx, rho, mu) else none
  | x :: r, rho, mu => if grdOk g mu then match asgD t x rho with
      | none => none
      | some rho1 => match b rho1 mu with
        | some (.nx, rho2, mu2) => forL g t b r rho2 mu2
        | some (.ct, rho2, mu2) => forL g t b r rho2 mu2
        | some (.bk, rho2, mu2) => some (.nx, rho2, mu2)
        | o => o
    else none
noncomputable def sFor (f : IS) (t : Tg) (b : SS) : SS := fun rho mu => match f rho mu with
  | some (.ok xs g, mu1) => forL g t b xs rho mu1
  | some (.ex C fs, mu1) => some (.ex C fs, rho, mu1)
  | none => none
section
variable {T : Tb} {X : Cx} {tg iter : Expr} {body : List Stmt} {f : IS} {t : Tg} {b : SS} {pos : Pos}
theorem st_for (hi : SI T X tg iter f) (hg : SG X tg t) (hb : STs T X body b) (hc : X.calm = true := by rfl) (hs : ∀ x, foldedSetIterable iter X.env x = pure x := by intro _; rfl) : ST T X (.For tg iter body [] pos) (sFor f t b) := fun W z ps =>
  PS.weak (ps_for ps hc (hi W z) hg (hb W z ps) hs) fun De s H ⟨al, rho, mu, sl, sr, w⟩ => by
    refine ⟨al, rho, mu, sl, sr, ?_⟩
    unfold sFor at w
    match q : f rho mu with
    | none => rw [q] at w; exact w.elim
    | some (.ex C fs, mu1) =>
      rw [q] at w
      exact fun al' H' dd vs g k sr' e r => w al' s H' dd vs g k (sl.mono k g) sr' e r
    | some (.ok xs g, mu1) =>
      rw [q] at w
      dsimp only at w
      intro J al1 H1 g1 k1 sr1 wk
      obtain ⟨G, Y, wl, hG, hY⟩ := wk
      refine for_it wl (fun i s' H' => ∃ al' rho' mu', Gr al1 al' ∧ Kp H1 H' ∧ SL X.K al' H' rho' s' ∧ SR X.K T al' mu' H' ∧ WoS X.K T al' H' De W (forL g t b (xs.drop i) rho' mu')) ?_ ?_ ?_ ?_
      · exact ⟨al1, rho, mu1, Gr.refl _, Kp.refl _, sl.mono k1 g1, sr1, WoS.mono (r := forL g t b xs rho mu1) w g1 k1⟩
      · rintro i s' H' hil ⟨al', rho', mu', g', k', sl', sr', w'⟩
        refine hG al' mu' H' g' k' sr' ?_
        cases e : xs.drop i with
        | nil =>
          rw [e] at w'
          unfold forL at w'
          split at w'
          · assumption
          · exact w'.elim
        | cons x r =>
          rw [e] at w'
          unfold forL at w'
          split at w'
          · assumption
          · exact w'.elim
      · rintro i x s' H' H3 hil ⟨al', rho', mu', g', k', sl', sr', w'⟩ y
        have e : xs.drop i = xs[i] :: xs.drop (i + 1) := List.drop_eq_getElem_cons hil
        rw [e] at w'
        unfold forL at w'
        split at w'
        · rename_i gk
          obtain ⟨same, d, ed, rd⟩ := hY i al' mu' H' x H3 hil g' k' sr' gk y
          have ed' : d = xs[i] := by
            rw [List.getElem?_eq_getElem hil] at ed
            exact (Option.some.inj ed).symm
          subst ed'
          have k3 : Kp H' H3 := Kp.same same
          split at w'
          · exact w'.elim
          · rename_i rho1 er
            refine gT_of er rd (sl'.mono k3 (Gr.refl _)) fun s2 sl2 _ => ?_
            refine ⟨al', rho1, mu', sl2, sr'.same same, ?_⟩
            match qb : b rho1 mu' with
            | none => rw [qb] at w'; exact w'
            | some (.nx, rho2, mu2) =>
              rw [qb] at w'
              exact fun al2 s3 H4 g2 k2 sl3 sr3 => ⟨al2, rho2, mu2, g'.trans g2, (k'.trans k3).trans k2, sl3, sr3, WoS.mono w' g2 (k3.trans k2)⟩
            | some (.ct, rho2, mu2) =>
              rw [qb] at w'
              exact fun al2 s3 H4 g2 k2 sl3 sr3 => ⟨al2, rho2, mu2, g'.trans g2, (k'.trans k3).trans k2, sl3, sr3, WoS.mono w' g2 (k3.trans k2)⟩
            | some (.bk, rho2, mu2) =>
              rw [qb] at w'
              exact fun al2 s3 H4 g2 k2 sl3 sr3 => w' al2 s3 H4 g2 (k3.trans k2) sl3 sr3
            | some (.rt d, rho2, mu2) =>
              rw [qb] at w'
              exact fun al2 s3 H4 g2 k2 => w' al2 s3 H4 g2 (k3.trans k2)
            | some (.ex C fs, rho2, mu2) =>
              rw [qb] at w'
              exact fun al2 s3 H4 dd vs g2 k2 => w' al2 s3 H4 dd vs g2 (k3.trans k2)
        · exact w'.elim
      · rintro s' H' ⟨al', rho', mu', g', k', sl', sr', w'⟩
        rw [List.drop_length] at w'
        unfold forL at w'
        split at w'
        · exact w' al' s' H' (Gr.refl _) (Kp.refl _) sl' sr'
        · exact w'.elim
end
/-! ### while -/
def whl (c : ES) (b : SS) : Nat → Rho → Mu → So
  | 0, _, _ => none
  | n + 1, rho, mu => bnS (c rho mu) rho (chS (fun mu1 => match b rho mu1 with
      | some (.nx, rho2, mu2) => whl c b n rho2 mu2
      | some (.ct, rho2, mu2) => whl c b n rho2 mu2
      | some (.bk, rho2, mu2) => some (.nx, rho2, mu2)
      | o => o) fun mu1 => some (.nx, rho, mu1))
open Classical in
noncomputable def sWhl (c : ES) (b : SS) : SS := fun rho mu => if h : ∃ n, (whl c b n rho mu).isSome = true then whl c b (choose h) rho mu else none
section
variable {T : Tb} {X : Cx} {c : Expr} {body : List Stmt} {f : ES} {b : SS} {pos : Pos}
theorem st_while (hc : SC T X c f) (hb : STs T X body b) : ST T X (.While c body [] pos) (sWhl f b) := fun W z ps =>
  PS.weak (ps_while ps (hc W z) (hb W z ps)) fun De s H ⟨al, rho, mu, sl, sr, w⟩ => by
    obtain ⟨n, wn⟩ : ∃ n, WoS X.K T al H De W (whl f b n rho mu) := by
      unfold sWhl at w
      split at w
      · exact ⟨_, w⟩
      · exact w.elim
    refine ⟨fun m s' H' => ∃ al' rho' mu', SL X.K al' H' rho' s' ∧ SR X.K T al' mu' H' ∧ WoS X.K T al' H' De W (whl f b m rho' mu'), ⟨n, al, rho, mu, sl, sr, wn⟩, ?_⟩
    rintro m s' H' ⟨al', rho', mu', sl', sr', w'⟩
    cases m with
    | zero => exact w'.elim
    | succ m =>
      unfold whl at w'
      refine ⟨al', rho', mu', sl', sr', WoS.bn sl' w' fun d mu1 al1 v H1 _ g1 k1 sr1 rv w1 => ?_⟩
      unfold chS at w1
      match d with
      | .bl true =>
        cases rp_bl.mp rv
        refine ⟨true, rfl, iteT ⟨fun s2 H2 => ∃ al' rho' mu', SL X.K al' H2 rho' s2 ∧ SR X.K T al' mu' H2 ∧ WoS X.K T al' H2 De W (whl f b m rho' mu'), fun s2 H2 q => ⟨m, Nat.lt_succ_self _, q⟩, al1, rho', mu1, sl'.mono k1 g1, sr1, ?_⟩⟩
        dsimp only at w1
        match qb : b rho' mu1 with
        | none => rw [qb] at w1; exact w1
        | some (.nx, rho2, mu2) =>
          rw [qb] at w1
          exact fun al2 s3 H4 g2 k2 sl3 sr3 => ⟨al2, rho2, mu2, sl3, sr3, WoS.mono w1 g2 k2⟩
        | some (.ct, rho2, mu2) =>
          rw [qb] at w1
          exact fun al2 s3 H4 g2 k2 sl3 sr3 => ⟨al2, rho2, mu2, sl3, sr3, WoS.mono w1 g2 k2⟩
        | some (.bk, rho2, mu2) => rw [qb] at w1; exact w1
        | some (.rt d, rho2, mu2) => rw [qb] at w1; exact w1
        | some (.ex C fs, rho2, mu2) => rw [qb] at w1; exact w1
      | .bl false =>
        cases rp_bl.mp rv
        exact ⟨false, rfl, iteF (w1 al1 s' H1 (Gr.refl _) (Kp.refl _) (sl'.mono k1 g1) sr1)⟩
      | .non => exact w1.elim
      | .int _ => exact w1.elim
      | .str _ => exact w1.elim
      | .ty _ => exact w1.elim
      | .tup _ => exact w1.elim
      | .cel _ => exact w1.elim
      | .adr _ => exact w1.elim
      | .fl _ => exact w1.elim
end
end DL
set_option Elab.async false
set_option linter.all false
set_option autoImplicit false
set_option maxRecDepth 100000
set_option maxHeartbeats 4000000
/-! DL8: list comprehensions, dict displays. -/
namespace DL
open PySem PySem.Spec PyProof.Rows L2

def wipeR (rho : Rho) : List Nat → Rho
  | [] => rho
  | v :: vs => (wipeR rho vs).set v none
theorem wipe_mem {s : L2.St} {i : Nat} : ∀ {vs : List Nat}, i ∈ vs → (wipe s vs)[i]? = none ∨ (wipe s vs)[i]? = some none
  | [], h => by cases h
  | v :: vs, h => by
    unfold wipe
    by_cases e : v = i
    · subst e
      by_cases hl : v < (wipe s vs).length
      · rw [List.getElem?_set_self hl]; exact .inr rfl
      · rw [List.getElem?_eq_none (by simpa using hl)]; exact .inl rfl
    · rw [List.getElem?_set_ne e]
      rcases List.mem_cons.mp h with z | z
      · exact absurd z.symm e
      · exact wipe_mem z
theorem wipe_wipe (s : L2.St) (vs : List Nat) : wipe (wipe s vs) vs = wipe s vs := by
  apply List.ext_getElem?
  intro i
  by_cases h : i ∈ vs
  · have l1 : (wipe (wipe s vs) vs).length = (wipe s vs).length := by rw [wipe_length]
    rcases wipe_mem (s := wipe s vs) h with a | a <;> rcases wipe_mem (s := s) h with b | b
    · rw [a, b]
    · have z := List.getElem?_eq_none_iff.mp a
      have y := (List.getElem?_eq_some_iff.mp b).1
      omega
    · have z := List.getElem?_eq_none_iff.mp b
      have y := (List.getElem?_eq_some_iff.mp a).1
      omega
    · rw [a, b]
  · rw [wipe_out h, wipe_out h]
theorem SL.wipe {K : PySem.W.Frag} {al : List Addr} {H : Hp} {rho : Rho} {s : L2.St} (h : SL K al H rho s) : ∀ vs : List Nat, SL K al H (wipeR rho vs) (L2.wipe s vs)
  | [] => h
  | v :: vs => by
    have ih := SL.wipe h vs
    refine ⟨by show ((wipeR rho vs).set v none).length = ((L2.wipe s vs).set v none).length; simp [ih.len], fun i d e => ?_⟩
    have e' : ((wipeR rho vs).set v none)[i]? = some (some d) := e
    by_cases hv : v = i
    · subst hv
      by_cases hl : v < (wipeR rho vs).length
      · rw [List.getElem?_set_self hl] at e'; cases e'
      · rw [List.getElem?_eq_none (by simpa using hl)] at e'; cases e'
    · rw [List.getElem?_set_ne hv] at e'
      obtain ⟨w, e1, e2⟩ := ih.ok i d e'
      exact ⟨w, by show ((L2.wipe s vs).set v none)[i]? = _; rw [List.getElem?_set_ne hv]; exact e1, e2⟩
/-! ### the turns -/
open Classical in
noncomputable def compL (n : Nat) (g : Option (Nat × List D)) (t : Tg) (tt te : ES) : List D → Rho → Mu → Option Mu
  | [], _, mu => if grdOk g mu then some mu else none
  | x :: r, rho, mu => if grdOk g mu then match asgD t x rho with
      | none => none
      | some rho1 => match tt rho1 mu with
        | some (.ok (.bl true), mu1) => match te rho1 mu1 with
          | some (.ok y, mu2) => match mu2[n]? with
            | some (.lst acc) => if acc.length < 16777216 then compL n g t tt te r rho (mu2.set n (.lst (acc ++ [y]))) else none
            | _ => none
          | _ => none
        | some (.ok (.bl false), mu1) => compL n g t tt te r rho mu1
        | _ => none
    else none
noncomputable def eComp (f : IS) (t : Tg) (vs : List Nat) (tt te : ES) : ES := fun rho mu => match f rho mu with
  | some (.ok xs g, mu1) => match compL mu1.length g t tt te xs (wipeR rho vs) (mu1 ++ [.lst []]) with
    | some mu2 => some (.ok (.cel mu1.length), mu2)
    | none => none
  | some (.ex C fs, mu1) => some (.ex C fs, mu1)
  | none => none
abbrev WF : WX := fun _ _ _ _ => False
/-- the tests of a comprehension -/
def SP (T : Tb) (X : Cx) (ifs : List Expr) (f : ES) : Prop := Cz T.md X WF → PTs X ifs (rdT X.K T WF f)
section
variable {T : Tb} {X : Cx}
theorem sp_nil : SP T X [] (eC (.bl true)) := fun z => ⟨fun pins s σ H Q I ⟨al, rho, mu, sl, sr, w⟩ => pts_nil.run pins s σ H Q I (by
  obtain ⟨b, e, q⟩ := Wo.now (d := .bl true) w sr (bl_rp true)
  cases e; exact q)⟩
theorem sp_one {c : Expr} {f : ES} (h : SC T X c f) : SP T X [c] f := fun z => pts_one (h WF z)
theorem rd_comp {W : WX} {K : PySem.W.Frag} {f : IS} {t : Tg} {vs : List Nat} {tt te : ES} (hv : ∀ i ∈ t.slots, i ∈ vs) (s : L2.St) (H : Hp) (Q : VK) (h : rdE K T W (eComp f t vs tt te) s H Q) : tLc (rdI K T W f) (gT K t) (rdT K T WF tt) (rdE K T WF te) vs s H Q := by
  obtain ⟨al, rho, mu, sl, sr, w⟩ := h
  refine ⟨al, rho, mu, sl, sr, ?_⟩
  unfold eComp at w
  match q : f rho mu with
  | none => rw [q] at w; exact w.elim
  | some (.ex C fs, mu1) =>
    rw [q] at w
    exact fun al' H' dd vs g k sr' e r => w al' H' dd vs g k sr' e r
  | some (.ok xs g, mu1) =>
    rw [q] at w
    dsimp only at w
    intro J al1 H1 g1 k1 sr1 wk D hD
    have srD : SR K T (al1 ++ [D]) (mu1 ++ [.lst []]) (upd H1 D (.lst [])) := sr1.alloc hD ⟨[], upd_same, Rps.nil⟩
    have kD : Kp H1 (upd H1 D (.lst [])) := Kp.new hD
    have eD : (al1 ++ [D])[mu1.length]? = some D := by rw [← sr1.len]; simp
    obtain ⟨G, Y, wl, hG, hY⟩ := wk
    refine lc_it wl (fun i H' => ∃ al' mu' mu2, Gr (al1 ++ [D]) al' ∧ Kp (upd H1 D (.lst [])) H' ∧ SR K T al' mu' H' ∧ compL mu1.length g t tt te (xs.drop i) (wipeR rho vs) mu' = some mu2 ∧ Wo K T al' H' Q (fun c d H' => W c d s H') (some (.ok (.cel mu1.length), mu2))) ?_ ?_ ?_ ?_
    · match hc : compL mu1.length g t tt te xs (wipeR rho vs) (mu1 ++ [.lst []]) with
      | none => rw [hc] at w; exact w.elim
      | some mu2 =>
        rw [hc] at w
        exact ⟨_, _, mu2, Gr.refl _, Kp.refl _, srD, hc, Wo.mono (r := some (.ok (.cel mu1.length), mu2)) w (g1.trans (Gr.app _ _)) (k1.trans kD)⟩
    · rintro i H' hil ⟨al', mu', mu2, g', k', sr', hc, w'⟩
      refine hG al' mu' H' ((Gr.app _ _).trans g') (kD.trans k') sr' ?_
      cases e : xs.drop i with
      | nil =>
        rw [e] at hc
        unfold compL at hc
        split at hc
        · assumption
        · cases hc
      | cons x r =>
        rw [e] at hc
        unfold compL at hc
        split at hc
        · assumption
        · cases hc
    · rintro i x H' H3 hil ⟨al', mu', mu2, g', k', sr', hc, w'⟩ y
      have e : xs.drop i = xs[i] :: xs.drop (i + 1) := List.drop_eq_getElem_cons hil
      rw [e] at hc
      unfold compL at hc
      split at hc
      · rename_i gk
        obtain ⟨same, d, ed, rd⟩ := hY i al' mu' H' x H3 hil ((Gr.app _ _).trans g') (kD.trans k') sr' gk y
        have ed' : d = xs[i] := by
          rw [List.getElem?_eq_getElem hil] at ed
          exact (Option.some.inj ed).symm
        subst ed'
        have k3 : Kp H' H3 := Kp.same same
        have slw : SL K al' H3 (wipeR rho vs) (L2.wipe s vs) := (sl.wipe vs).mono (((k1.trans kD).trans k').trans k3) (g1.trans ((Gr.app _ _).trans g'))
        split at hc
        · cases hc
        · rename_i rho1 er
          refine gT_of er rd slw fun s2 sl2 hw => ⟨by rw [hw vs hv, wipe_wipe], ?_⟩
          have sr3 := sr'.same same
          refine ⟨al', rho1, mu', sl2, sr3, ?_⟩
          split at hc
          · rename_i mu3 et
            rw [et]
            intro al4 v4 H4 g4 k4 sr4 r4
            cases rp_bl.mp r4
            refine ⟨true, rfl, iteT ⟨al4, rho1, mu3, sl2.mono k4 g4, sr4, ?_⟩⟩
            split at hc
            · rename_i y5 mu5 ey
              rw [ey]
              intro al6 v6 H6 g6 k6 sr6 r6
              split at hc
              · rename_i acc ea
                split at hc
                · rename_i hz
                  have eA : al6[mu1.length]? = some D := g6 _ _ (g4 _ _ (g' _ _ eD))
                  obtain ⟨ys, e2, r2⟩ := sr6.ok _ _ D ea eA
                  obtain ⟨q1, q2⟩ := sr6.setL ea eA e2 (r2.app (Rps.one r6))
                  refine ⟨ys, e2, by rw [r2.length]; exact line1 _ hz, al6, _, mu2, ((g'.trans g4).trans g6), (((k'.trans k3).trans k4).trans k6).trans q2, q1, hc, ?_⟩
                  exact w'.mono (g4.trans g6) (((k3.trans k4).trans k6).trans q2)
                · cases hc
              · cases hc
            · cases hc
          · rename_i mu3 et
            rw [et]
            intro al4 v4 H4 g4 k4 sr4 r4
            cases rp_bl.mp r4
            exact ⟨false, rfl, iteF ⟨al4, mu3, mu2, g'.trans g4, (k'.trans k3).trans k4, sr4, hc, w'.mono g4 (k3.trans k4)⟩⟩
          · cases hc
      · cases hc
    · rintro H' ⟨al', mu', mu2, g', k', sr', hc, w'⟩
      rw [List.drop_length] at hc
      unfold compL at hc
      split at hc
      · cases hc
        exact w' al' (.ref D) H' (Gr.refl _) (Kp.refl _) sr' (rp_cel.mpr ⟨D, g' _ _ eD, rfl⟩)
      · cases hc
variable {elt tg iter : Expr} {ifs : List Expr} {scope : Scope} {own : List (Str × Nat)} {pos : Pos} {f : IS} {t : Tg} {tt te : ES}
theorem se_comp (own : List (Str × Nat)) (hN : X.N.Nodup) (hi : SI T X tg iter f) (ok : BlkOk X.N X.env.scope scope own)
    (hg : ∀ (s : Shared) (H : Hp) (C : Addr) (cl : List (Str × Addr)) (fp : List Addr), SG (X.blk s H scope (compEnvC scope cl C X.env) fp) tg t) (ht : ∀ (s : Shared) (H : Hp) (C : Addr) (cl : List (Str × Addr)) (fp : List Addr), SP T (X.blk s H scope (compEnvC scope cl C X.env) fp) ifs tt)
    (he : ∀ (s : Shared) (H : Hp) (C : Addr) (cl : List (Str × Addr)) (fp : List Addr), SE T (X.blk s H scope (compEnvC scope cl C X.env) fp) elt te) (hv : ∀ i ∈ t.slots, i ∈ own.map (·.2) := by decide) (hc : X.calm = true := by rfl) (hs : ∀ x, foldedSetIterable iter X.env x = pure x := by intro _; rfl) :
    SE T X (.ListComp elt [⟨tg, iter, ifs, 0⟩] scope pos) (eComp f t (own.map (·.2)) tt te) := fun W z =>
  PE.weak (pe_lc (g := gT X.K t) hc hN (hi W z) ok (fun s H C cl fp => hg s H C cl fp) (fun s H C cl fp => ht s H C cl fp ⟨takesM0, z.gd⟩) (fun s H C cl fp => he s H C cl fp WF ⟨takesM0, z.gd⟩) hs) fun s H Q h => rd_comp hv s H Q h
/-- y = [e for ..] -/
theorem st_setComp {i : Nat} {y : Str} {py spos : Pos} (own : List (Str × Nat)) (hN : X.N.Nodup) (hsw : swapsWith (.ListComp elt [⟨tg, iter, ifs, 0⟩] scope pos) (some (.Name y py)) spos.line X.env = pure true) (hi : SI T X tg iter f) (ok : BlkOk X.N X.env.scope scope own)
    (hg : ∀ (s : Shared) (H : Hp) (C : Addr) (cl : List (Str × Addr)) (fp : List Addr), SG (X.blk s H scope (compEnvC scope cl C X.env) fp) tg t) (ht : ∀ (s : Shared) (H : Hp) (C : Addr) (cl : List (Str × Addr)) (fp : List Addr), SP T (X.blk s H scope (compEnvC scope cl C X.env) fp) ifs tt)
    (he : ∀ (s : Shared) (H : Hp) (C : Addr) (cl : List (Str × Addr)) (fp : List Addr), SE T (X.blk s H scope (compEnvC scope cl C X.env) fp) elt te) (hv : ∀ i ∈ t.slots, i ∈ own.map (·.2) := by decide) (hc : X.calm = true := by rfl) (hy : X.N[i]? = some y := by rfl) (hyl : X.env.scope.names.lookup y = some .local := by rfl)
    (hs : ∀ x, foldedSetIterable iter X.env x = pure x := by intro _; rfl) :
    ST T X (.Assign [.Name y py] (.ListComp elt [⟨tg, iter, ifs, 0⟩] scope pos) spos) (sSet i (eComp f t (own.map (·.2)) tt te)) := fun W z _ =>
  PS.weak (ps_setLc (g := gT X.K t) hc hN hy hyl hsw (hi W z) ok (fun s H C cl fp => hg s H C cl fp) (fun s H C cl fp => ht s H C cl fp ⟨takesM0, z.gd⟩) (fun s H C cl fp => he s H C cl fp WF ⟨takesM0, z.gd⟩) hs) fun De s H ⟨al, rho, mu, sl, sr, w⟩ => rd_comp hv s H _
    ⟨al, rho, mu, sl, sr, WoS.bn sl w fun d mu1 al1 v H1 _ g1 k1 sr1 rv w1 => w1 al1 _ H1 (Gr.refl _) (Kp.refl _) ((sl.mono k1 g1).set rv i) sr1⟩
end
/-! ### dict displays -/
def prs : List (ES × ES) → Rho → Mu → (List (Key × D) → Mu → Ro) → Ro
  | [], _, mu, k => k [] mu
  | (fk, fv) :: r, rho, mu, k => bnd (fk rho mu) fun x mu1 => bnd (fv rho mu1) fun y mu2 => prs r rho mu2 fun kvs mu3 => match keyD x with
    | some c => k ((c, y) :: kvs) mu3
    | none => none
def mergeD (kvs more : List (Key × D)) : List (Key × D) := more.foldl (fun acc kv => putD acc kv.1 kv.2) kvs
def eDisp (fs : List (ES × ES)) : ES := fun rho mu => prs fs rho (mu ++ [.dct []]) fun kvs mu1 => match mu1[mu.length]? with
  | some (.dct []) => if kvs.length ≤ 15 then some (.ok (.cel mu.length), mu1.set mu.length (.dct (mergeD [] kvs))) else none
  | _ => none
def SD (T : Tb) (X : Cx) (pos : Pos) (keys : List (Option Expr)) (vals : List Expr) (fs : List (ES × ES)) : Prop := ∀ W : WX, Cz T.md X W → PPs X pos keys vals (fs.map fun p => (rdE X.K T W p.1, rdE X.K T W p.2))
section
variable {T : Tb} {X : Cx} {pos : Pos} {k v : Expr} {keys : List (Option Expr)} {vals : List Expr} {fs : List (ES × ES)} {fk fv : ES}
theorem sd_nil : SD T X pos [] [] [] := fun W z => pps_nil
theorem sd_cons (hk : SE T X k fk) (hv : SE T X v fv) (hr : SD T X pos keys vals fs) : SD T X pos (some k :: keys) (v :: vals) ((fk, fv) :: fs) := fun W z => pps_cons (hk W z) (hv W z) (hr W z)
theorem merge_rp {K : PySem.W.Frag} {al : List Addr} {H : Hp} : ∀ {more : List (Key × D)} {kvs : List (Key × D)} {us vs : List (Key × V)}, RpA K al H kvs vs → RpA K al H more us → RpA K al H (mergeD kvs more) (mergeK vs us)
  | [], kvs, us, vs, r, q => by
    have e := q.1
    simp at e
    subst e
    exact r
  | (x, d) :: more, kvs, us, vs, r, q => by
    obtain ⟨u, rr, rfl, h1, h2⟩ := rpa_cons q
    show RpA K al H (mergeD (putD kvs x d) more) (mergeK (putK vs x u) rr)
    exact merge_rp (more := more) (r.put h1) h2
theorem prs_rp {W : WX} {s : L2.St} : ∀ {fs : List (ES × ES)} {al : List Addr} {rho : Rho} {mu : Mu} {H : Hp} {Q0 : VK} {kk : List (Key × D) → Mu → Ro} {P : List (V × V) → Hp → Prop}, SL X.K al H rho s → SR X.K T al mu H → Wo X.K T al H Q0 (fun c d H' => W c d s H') (prs fs rho mu kk) →
    (∀ kvs mu' al' (us : List (Key × V)) H', Gr al al' → Kp H H' → SR X.K T al' mu' H' → RpA X.K al' H' kvs us → Wo X.K T al' H' Q0 (fun c d H' => W c d s H') (kk kvs mu') → P (us.map fun kv => (kV kv.1, kv.2)) H') → tPairs (fs.map fun p => (rdE X.K T W p.1, rdE X.K T W p.2)) s H P
  | [], al, rho, mu, H, Q0, kk, P, sl, sr, w, h => h [] mu al [] H (Gr.refl _) (Kp.refl _) sr rpa_nil w
  | (fk, fv) :: fs, al, rho, mu, H, Q0, kk, P, sl, sr, w, h => by
    refine ⟨al, rho, mu, sl, sr, Wo.bnd w fun x mu1 al1 xv H1 _ g1 k1 sr1 rx w1 => ?_⟩
    refine ⟨al1, rho, mu1, sl.mono k1 g1, sr1, Wo.bnd w1 fun y mu2 al2 yv H2 _ g2 k2 sr2 ry w2 => ?_⟩
    refine prs_rp ((sl.mono k1 g1).mono k2 g2) sr2 w2 fun kvs mu3 al3 us H3 g3 k3 sr3 ru w3 => ?_
    split at w3
    · rename_i c ec
      cases key_rp (Rp.mono k3 g3 _ _ (Rp.mono k2 g2 _ _ rx)) ec
      exact h ((c, y) :: kvs) mu3 al3 ((c, yv) :: us) H3 ((g1.trans g2).trans g3) ((k1.trans k2).trans k3) sr3 (RpA.cons (Rp.mono k3 g3 _ _ ry) ru) w3
    · exact w3.elim
theorem se_disp (h : SD T X pos keys vals fs) (hall : keys.all (·.isSome) = true := by rfl) (hl : keys.length = vals.length := by rfl) (h0 : keys ≠ [] := by exact fun z => by cases z) (h15 : keys.length ≤ 15 := by decide) : SE T X (.Dict keys vals pos) (eDisp fs) := fun W z =>
  PE.weak (pe_disp (h W z) hall hl h0 h15) fun s H Q ⟨al, rho, mu, sl, sr, w⟩ p hp => by
    have sr1 : SR X.K T (al ++ [p]) (mu ++ [.dct []]) (upd H p (.dK [])) := sr.alloc hp ⟨[], upd_same, rpa_nil⟩
    have kp : Kp H (upd H p (.dK [])) := Kp.new hp
    have ep : (al ++ [p])[mu.length]? = some p := by rw [← sr.len]; simp
    refine prs_rp (sl.mono kp (Gr.app _ _)) sr1 (Wo.mono w (Gr.app _ _) kp) fun kvs mu1 al1 us H1 g1 k1 sr2 ru w1 => ?_
    split at w1
    · rename_i em
      split at w1
      · rename_i hk
        have ea := g1 _ _ ep
        obtain ⟨vs, e2, r2⟩ := sr2.ok _ _ p em ea
        have ev : vs = [] := by
          have e := r2.1
          simpa using e
        subst ev
        obtain ⟨q1, q2⟩ := sr2.setD em ea e2 (merge_rp rpa_nil ru)
        exact ⟨e2, us, rfl, by rw [ru.length]; exact hk, w1 al1 (.ref p) _ (Gr.refl _) q2 q1 (rp_cel.mpr ⟨p, ea, rfl⟩)⟩
      · exact w1.elim
    · exact w1.elim
/-- {} -/
def eDict0 : ES := fun _ mu => some (.ok (.cel mu.length), mu ++ [.dct []])
theorem se_dict0 : SE T X (.Dict [] [] pos) eDict0 := fun W z => PE.weak pe_dnewK fun s H Q ⟨al, rho, mu, sl, sr, w⟩ p hp =>
  w (al ++ [p]) (.ref p) _ (Gr.app _ _) (Kp.new hp) (sr.alloc hp ⟨[], upd_same, rpa_nil⟩) (rp_cel.mpr ⟨p, by rw [← sr.len]; simp, rfl⟩)
end
end DL
set_option Elab.async false
set_option linter.all false
set_option autoImplicit false
set_option maxRecDepth 100000
set_option maxHeartbeats 4000000
/-! DL9: enumerate of tuples, texts, lists. -/
namespace DL
open PySem PySem.Spec PyProof.Rows L2

/-! ### enumerate(v) is made -/
theorem enum_made {v : Value} {o : Obj} {Hh : Heap → Prop} (B : Begins v o Hh) :
    Meets (Builtin.«enumerate.__new__» ⟨[.type "enumerate", v], []⟩) (fun _ R s => Hh s.heap ∧
      R (.ok (.ret (.ref (s.heap.push o).objs.size))) { s with heap := (s.heap.push o).push { cls := .type "enumerate", data := .fields #[.none, .bool false, .ref s.heap.objs.size, rawInt 0, .none, .none] } }) :=
  .of_wp fun prog w A R s h => by
    obtain ⟨hp, g, d, tk, os⟩ := s
    obtain ⟨h1, h⟩ := h
    have hsub := sub_enumerate
    have go : ∀ {A' : Around} {E : Value → Shared → Prop} {Q : Value → Shared → Prop}, Q (.ref hp.objs.size) ⟨hp.push o, g, d, tk, os⟩ → wpAny (model prog w) A' (pyIter v) Q E ⟨hp, g, d, tk, os⟩ := fun q => B.iter prog w _ _ ⟨hp, g, d, tk, os⟩ _ h1 q
    wp_walk using go
    refine wpAny_stack_any fun st => wpAny_pure ?_
    split
    · rename_i c _ _ _ _ _
      cases (c == Value.type "enumerate") <;> (wp_walk using go; exact ⟨_, rfl, h⟩)
    · wp_walk using go
      exact ⟨_, rfl, h⟩
theorem enum_call {prog : Program} {w : World} {A : Around} {E : Value → Shared → Prop} {s : Shared} {v : Value} {o : Obj} {Hh : Heap → Prop} {Q : Value → Shared → Prop} (B : Begins v o Hh) (h1 : Hh s.heap)
    (h : ∀ h', IsEnum h' (s.heap.objs.size + 1) s.heap.objs.size 0 .none → h'.get? s.heap.objs.size = some o → (∀ b u, s.heap.get? b = some u → h'.get? b = some u) → Q (.ref (s.heap.objs.size + 1)) { s with heap := h' }) :
    wpAny (model prog w) A (call (.type "enumerate") [v]) Q E s := by
  refine callType_new F.called_enumerate (by decide) (F.typeCall_enumerate_1 _) (F.newCall_enumerate_1 _) (fun obj => F.args_object_init_2 obj _) F.entry_enumerate_new (enum_made B) ⟨h1, ?_⟩
  have hz : (s.heap.push o).objs.size = s.heap.objs.size + 1 := Heap.size_push ..
  have he := Heap.get?_push_size (s.heap.push o) (o := { cls := .type "enumerate", data := .fields #[.none, .bool false, .ref s.heap.objs.size, rawInt 0, .none, .none] }) rfl
  rw [hz] at he
  show _ ∧ _
  rw [hz]
  exact ⟨⟨_, he, rfl⟩, h _ he (Heap.get?_push_of_some _ (Heap.get?_push_size _ B.free)) fun b u x => Heap.get?_push_of_some _ (Heap.get?_push_of_some _ x)⟩
/-! ### its turns, over any draws -/
/-- a new pair of the number and what xs tells -/
def Itn (go : Nat → Hp → Prop) (is : Nat → Hp → V → Prop) (stop : Nat → Hp → Prop) : It :=
  ⟨go, fun i H v H' => ∃ T x, v = .ref T ∧ H T = none ∧ H' = upd H T (.tup [.int (i : Nat), x]) ∧ is i H x, stop⟩
/-- one turn of an enumerate whose inner iterator draws -/
theorem enum_turn {X : Cx} {elts : List Expr} {kk : Nat} {tpos : Pos} {e it : Addr} {fp : List Addr} {n i : Nat} {Pd : Nat → Value → Prop} {St : Nat → Heap → Prop} {old : Value} {is : Nat → Hp → V → Prop} {tn : Nat → Heap → Prop} {go stop : Nat → Hp → Prop}
    {pins : List (Addr × Obj)} {s : Shared} {σ : L2.St} {H : Hp} {E : Value → Shared → Prop} (I : Inv X pins σ H s) (hf : ∀ b ∈ [e, it], FpOk X pins H b) (D : Draws X.prog X.w X.A.in1 it fp n Pd St) (he : IsEnum s.heap e it ((i : Nat) : Int) old) (hst : St i s.heap) (hlt : i < n) (hne : e ≠ it) (hef : e ∉ fp)
    (hx : ∀ u, Pd i u → ∃ x, RelV x u ∧ is i H x) (ht : ∀ h' u, IsEnum h' e it (((i + 1 : Nat) : Nat) : Int) u → St (i + 1) h' → tn (i + 1) h') :
    wpAny (model X.prog X.w) X.A (pyNext (.ref e)) (fun r s1 => ∃ u, r = some u ∧
      wpAny (model X.prog X.w) X.A (letOwnedTupleGo (.Tuple elts kk tpos) (.ref e) u) (fun _ s2 => ∃ x H', Inv X pins σ H' s2 ∧ RelV x u ∧ (Itn go is stop).yld i H x H' ∧ tn (i + 1) s2.heap ∧ ∀ b ∈ [e, it], H' b = none) E s1) E s := by
  have hel : e < s.heap.objs.size := Heap.lt_size he
  have hil : it < s.heap.objs.size := by obtain ⟨o, q⟩ := D.live _ _ hst; exact Heap.lt_size q
  refine wpAny_pyNext_enum_itemD D he hst hlt hne hef fun u h' tk hP ho hst' hT hsz hk => ?_
  refine ⟨_, rfl, wpAny_letOwnedTupleGo_enum (s := { s with heap := h', toks := tk + 1 }) ho fun h'' he' sb => ?_⟩
  obtain ⟨x, rx, ix⟩ := hx u hP
  have hT2 : h''.get? s.heap.objs.size = some { cls := .type "tuple", data := .seq #[.int i tk, u] } := (sb.2 _ (Nat.ne_of_gt hel)).trans hT
  have new : ObjOk X.prog X.w (upd H s.heap.objs.size (.tup [.int (i : Nat), x])) h'' s.heap.objs.size (.tup [.int (i : Nat), x]) :=
    ⟨by rw [sizeLine_eq]; show 2 ≤ 16777216; decide, [.int i tk, u], .cons ⟨_, rfl⟩ (.cons rx .nil), ⟨_, hT2, rfl, _, rfl⟩⟩
  have I1 : Inv X pins σ (upd H s.heap.objs.size (.tup [.int (i : Nat), x])) { s with heap := h'', toks := tk + 1 } :=
    I.turnedNew (ch := [e, it]) (fun b ob hb q => (sb.2 b (fun z => hb (by simp [z]))).trans (hk b ob (fun z => hb (by simp [z])) (fun z => hb (by simp [z])) q)) hf (Nat.le_refl _) new
  refine ⟨.ref s.heap.objs.size, _, I1, rfl, ⟨_, x, rfl, I.hok.fresh (Nat.le_refl _), rfl, ix⟩, ht h'' u ?_ (D.frame _ _ _ hst' fun b hb o y => (sb.2 b fun z => hef (z ▸ hb)).trans y), fun b hb => ?_⟩
  · have e1 : ((i + 1 : Nat) : Int) = (i : Int) + 1 := by omega
    rw [e1]; exact he'
  · have hb' : b < s.heap.objs.size := by
      rcases List.mem_cons.mp hb with z | z
      · rw [z]; exact hel
      · rw [List.mem_singleton.mp z]; exact hil
    rw [upd_ne (Nat.ne_of_lt hb')]
    exact (hf b hb).1
theorem enum_obj {e it : Addr} {i : Nat} {h : Heap} {old : Value} {o : Obj} {vs : Array Value} (he : IsEnum h e it ((i : Nat) : Int) old) (ho : h.get? it = some o) (hd : o.data = .fields vs) : ∀ b ∈ [e, it], ∃ o, h.get? b = some o ∧ ∀ v, o.data ≠ .cell v := fun b hb => by
  rcases List.mem_cons.mp hb with z | z
  · rw [z]; exact ⟨_, he, fun v q => nomatch q⟩
  · rw [List.mem_singleton.mp z]; exact ⟨o, ho, fun v q => by rw [hd] at q; cases q⟩
/-! ### over a tuple -/
def Itet (K : PySem.W.Frag) (a : Addr) : It := Itn (fun i H => ∃ xs x, SqT K H a xs ∧ xs[i]? = some x) (fun i H x => ∀ xs, SqT K H a xs → xs[i]? = some x) (fun i H => ∃ xs, SqT K H a xs ∧ xs.length = i)
theorem tup_ne {h : Heap} {a b : Addr} {its : Array Value} {o : Obj} {vs : Array Value} (ht : h.IsTuple a its) (ho : h.get? b = some o) (hd : o.data = .fields vs) : a ≠ b := fun z => by
  obtain ⟨o', e, _, n, d⟩ := ht
  rw [z, ho] at e
  cases e
  rw [hd] at d
  cases d
theorem turn_enumT {P : Program} {w : World} {K : PySem.W.Frag} {elts : List Expr} {kk : Nat} {tpos : Pos} (a e it : Addr) :
    Turn P w K (.Tuple elts kk tpos) (Itet K a) [e, it] e (fun i h => (∃ old, IsEnum h e it ((i : Nat) : Int) old) ∧ h.IsTupleIter it a i ∧ e ≠ it) where
  mem := List.mem_cons_self ..
  obj := fun i h ⟨⟨old, he⟩, ⟨o, ho, _, hd⟩, _⟩ => enum_obj he ho hd
  keep := fun i h h' ⟨⟨old, he⟩, hi, hne⟩ k => ⟨⟨old, k e (List.mem_cons_self ..) _ he⟩, hi.at fun o q => k it (by simp) o q, hne⟩
  item := by
    intro X hP hw hK hc i pins s σ H E I hf st hg
    subst hP hw hK
    obtain ⟨⟨old, he⟩, hit, hne⟩ := st
    obtain ⟨xs, x, hq, hx⟩ := hg
    obtain ⟨its, rv, p, hz⟩ := I.tuple hq
    obtain ⟨u, hu, ru⟩ := rv.get hx
    obtain ⟨oi, hoi, _, hdi⟩ := id hit
    have ht : s.heap.IsTuple a its.toArray := p
    have h1 : a ≠ it := tup_ne ht hoi hdi
    have h2 : a ≠ e := tup_ne ht he rfl
    refine enum_turn (n := its.toArray.size) (is := fun i H x => ∀ xs, SqT X.K H a xs → xs[i]? = some x) (tn := fun i h => (∃ old, IsEnum h e it ((i : Nat) : Int) old) ∧ h.IsTupleIter it a i ∧ e ≠ it) I hf (Draws.tuple (show X.A.in1.handled = none from I.ok.hd hc) it a h1 its.toArray) he ⟨hit, ht⟩ ?_ hne (by simp [hne, Ne.symm h2]) (fun u' hu' => ⟨x, ?_, fun ys hy => by rw [I.tuple_inj hy hq]; exact hx⟩) fun h' u' he' st' => ⟨⟨u', he'⟩, st'.1, hne⟩
    · have := (List.getElem?_eq_some_iff.mp hu).1
      simpa using this
    · have e1 : its[i]? = some u' := by simpa using hu'
      rw [hu] at e1
      cases e1
      exact ru
  done := by
    intro X hP hw hK hc i pins s σ H E I hf st hg
    subst hP hw hK
    obtain ⟨⟨old, he⟩, hit, hne⟩ := st
    obtain ⟨xs, hq, hx⟩ := hg
    obtain ⟨its, rv, p, hz⟩ := I.tuple hq
    obtain ⟨f0, f1, f2, f3, f4, f5⟩ := hf it (by simp)
    have hl := rv.length
    obtain ⟨oi, hoi, _, hdi⟩ := id hit
    have ht : s.heap.IsTuple a its.toArray := p
    have hn : i = its.toArray.size := by simp; omega
    subst hn
    exact wpAny_pyNext_enum_endD (Draws.tuple (show X.A.in1.handled = none from I.ok.hd hc) it a (tup_ne ht hoi hdi) its.toArray) he ⟨hit, ht⟩ fun h' eb => ⟨rfl, I.turned (t' := s.toks) (fun b o hb q => eb b o hb q) f0 f1 f3 f4 f5⟩
  self := fun A i s Q E ⟨⟨_, he⟩, _⟩ h => wpAny_pyIter_enum he h
/-! ### over a text -/
def Ites (z : Str) : It := Itn (fun i _ => i < z.cps.size) (fun i _ x => ∃ c, z.cps[i]? = some c ∧ x = .str ⟨#[c]⟩) (fun i _ => z.cps.size = i)
theorem turn_enumS {P : Program} {w : World} {K : PySem.W.Frag} {elts : List Expr} {kk : Nat} {tpos : Pos} (z : Str) (t : Tok) (e it : Addr) :
    Turn P w K (.Tuple elts kk tpos) (Ites z) [e, it] e (fun i h => (∃ old, IsEnum h e it ((i : Nat) : Int) old) ∧ h.IsStrIter it (strIterType z) z t i ∧ e ≠ it) where
  mem := List.mem_cons_self ..
  obj := fun i h ⟨⟨old, he⟩, ⟨o, ho, _, hd⟩, _⟩ => enum_obj he ho hd
  keep := fun i h h' ⟨⟨old, he⟩, ⟨o, ho, r⟩, hne⟩ k => ⟨⟨old, k e (List.mem_cons_self ..) _ he⟩, ⟨o, k it (by simp) o ho, r⟩, hne⟩
  item := by
    intro X hP hw hK hc i pins s σ H E I hf st hg
    subst hP hw hK
    obtain ⟨⟨old, he⟩, hit, hne⟩ := st
    refine enum_turn (n := z.cps.size) (is := fun i _ x => ∃ c, z.cps[i]? = some c ∧ x = .str ⟨#[c]⟩) (tn := fun i h => (∃ old, IsEnum h e it ((i : Nat) : Int) old) ∧ h.IsStrIter it (strIterType z) z t i ∧ e ≠ it) I hf (Draws.text (show X.A.in1.handled = none from I.ok.hd hc) it z t) he hit hg hne (by simp [hne])
      (fun u' hu' => ?_) fun h' u' he' st' => ⟨⟨u', he'⟩, st', hne⟩
    obtain ⟨c, tk, e1, rfl⟩ := hu'
    exact ⟨.str ⟨#[c]⟩, ⟨tk, rfl⟩, c, e1, rfl⟩
  done := by
    intro X hP hw hK hc i pins s σ H E I hf st hg
    subst hP hw hK
    obtain ⟨⟨old, he⟩, hit, hne⟩ := st
    obtain ⟨f0, f1, f2, f3, f4, f5⟩ := hf it (by simp)
    have hn : z.cps.size = i := hg
    subst hn
    exact wpAny_pyNext_enum_endD (Draws.text (show X.A.in1.handled = none from I.ok.hd hc) it z t) he hit fun h' eb => ⟨rfl, I.turned (t' := s.toks) (fun b o hb q => eb b o hb q) f0 f1 f3 f4 f5⟩
  self := fun A i s Q E ⟨⟨_, he⟩, _⟩ h => wpAny_pyIter_enum he h
/-! ### the rules -/
section
variable {X : Cx} {e : Expr} {te : TE} {p pos tpos : Pos} {elts : List Expr} {kk : Nat}
theorem new_pair {pins : List (Addr × Obj)} {σ : L2.St} {H : Hp} {s : Shared} (I : Inv X pins σ H s) : ∀ b ∈ [s.heap.objs.size + 1, s.heap.objs.size], FpOk X pins H b := fun b hb => by
  have hle : s.heap.objs.size ≤ b := by
    rcases List.mem_cons.mp hb with z | z
    · rw [z]; exact Nat.le_succ _
    · rw [List.mem_singleton.mp z]; exact Nat.le_refl _
  exact I.fpOk hle (I.hok.fresh hle)
def iEnT (K : PySem.W.Frag) (ta : TA) : TI := fun σ H R => ta σ H fun vs H1 => ∃ a xs, vs = [.ref a] ∧ SqT K H1 a xs ∧ R (Itet K a) H1
def iEnS (ta : TA) : TI := fun σ H R => ta σ H fun vs H1 => ∃ z, vs = [.str z] ∧ R (Ites z) H1
theorem pi_enumT {ta : TA} (hg : Gl X "enumerate") (hm : X.mg "enumerate" = none) (ha : PA X [e] ta) (hs : starEach [e] X.env = [(false, eval e X.env)] := by rfl) : PI X (.Tuple elts kk tpos) (.Call (.Name "enumerate" p) [e] [] pos) (iEnT X.K ta) := by
  refine ⟨fun pins s σ H R I h => Call_ (ld_blt I hg hm boot_enumerate (PyProof.Rows.callWith_type1 (thn (ha.run pos pins s σ H _ I h) fun us s1 ⟨vs, H1, I1, r1, a, xs, ev, hq, q⟩ => ?_) hs rfl))⟩
  subst ev
  obtain ⟨u, rfl, ru⟩ := vals1 r1
  cases (show u = Value.ref a from ru)
  obtain ⟨its, rv, p', hz⟩ := I1.tuple hq
  refine enum_call (begins_tuple a its.toArray) p' fun h' he hit hk => wpAny_pyIter_enum he ?_
  exact ⟨s1.heap.objs.size + 1, [s1.heap.objs.size + 1, s1.heap.objs.size], _, _, H1, rfl, I1.kept (t' := s1.toks) hk, turn_enumT a _ _, ⟨⟨.none, he⟩, ⟨_, hit, rfl, rfl⟩, Nat.succ_ne_self _⟩, new_pair I1, q⟩
theorem pi_enumS {ta : TA} (hg : Gl X "enumerate") (hm : X.mg "enumerate" = none) (ha : PA X [e] ta) (hs : starEach [e] X.env = [(false, eval e X.env)] := by rfl) : PI X (.Tuple elts kk tpos) (.Call (.Name "enumerate" p) [e] [] pos) (iEnS ta) := by
  refine ⟨fun pins s σ H R I h => Call_ (ld_blt I hg hm boot_enumerate (PyProof.Rows.callWith_type1 (thn (ha.run pos pins s σ H _ I h) fun us s1 ⟨vs, H1, I1, r1, z, ev, q⟩ => ?_) hs rfl))⟩
  subst ev
  obtain ⟨u, rfl, t, rfl⟩ := vals1 r1
  refine enum_call (begins_text z t) trivial fun h' he hit hk => wpAny_pyIter_enum he ?_
  exact ⟨s1.heap.objs.size + 1, [s1.heap.objs.size + 1, s1.heap.objs.size], _, _, H1, rfl, I1.kept (t' := s1.toks) hk, turn_enumS z t _ _, ⟨⟨.none, he⟩, ⟨_, hit, rfl, rfl⟩, Nat.succ_ne_self _⟩, new_pair I1, q⟩
end
/-! ### at data -/
def enumD (xs : List D) : List D := xs.zipIdx.map fun p => D.tup [.int (p.2 : Nat), p.1]
def iEn (f : ES) : IS := fun rho mu => match f rho mu with
  | some (.ok d, mu1) => match srcV d mu1 with
    | some (xs, g) => some (.ok (enumD xs) g, mu1)
    | none => none
  | some (.ex C fs, mu1) => some (.ex C fs, mu1)
  | none => none
theorem enumD_length (xs : List D) : (enumD xs).length = xs.length := by simp [enumD]
theorem enumD_get (xs : List D) (i : Nat) : (enumD xs)[i]? = xs[i]?.map fun x => D.tup [.int (i : Nat), x] := by
  unfold enumD
  rw [List.getElem?_map, List.getElem?_zipIdx]
  cases xs[i]? <;> simp
/-- the new pair as a datum -/
theorem pair_rp {K : PySem.W.Frag} {al : List Addr} {H : Hp} {Tt : Addr} {i : Nat} {x : V} {d : D} (hn : H Tt = none) (r : Rp K al H d x) : Rp K al (upd H Tt (.tup [.int (i : Nat), x])) (.tup [.int (i : Nat), d]) (.ref Tt) :=
  rp_tup.mpr ⟨Tt, _, rfl, SqT.of upd_same, rps_two.mpr ⟨_, _, rfl, rp_int.mpr rfl, Rp.mono (Kp.new hn) (Gr.refl _) _ _ r⟩⟩
section
variable {K : PySem.W.Frag} {T : Tb} {a : Addr} {al : List Addr} {H : Hp} {xs : List D} {ys : List V}
theorem wk_enT (q : SqT K H a ys) (r : Rps K al H xs ys) : WkD K T (Itet K a) al H (enumD xs) none := by
  refine ⟨fun H => SqT K H a ys, fun i H v H' => ∃ Tt x, v = .ref Tt ∧ H Tt = none ∧ H' = upd H Tt (.tup [.int (i : Nat), x]) ∧ ys[i]? = some x, ⟨fun i H hi q => ?_, fun H q => ⟨ys, q, by rw [enumD_length, r.length]⟩, fun i H x H' hi q ⟨Tt, x', e1, e2, e3, e4⟩ => ⟨Tt, x', e1, e2, e3, e4 ys q⟩⟩, fun al2 mu2 H2 _ k _ _ => SqT.kp k q, ?_⟩
  · rw [enumD_length, ← r.length] at hi
    exact ⟨ys, ys[i], q, by simp [hi]⟩
  · rintro i al2 mu2 H2 v H3 hi g k sr _ ⟨Tt, x, rfl, hn, rfl, e⟩
    refine ⟨same_new hn, ?_⟩
    have hi' : i < xs.length := by rw [enumD_length] at hi; exact hi
    obtain ⟨v, h1, h2⟩ := r.get (d := xs[i]) (i := i) (by simp [hi'])
    rw [e] at h1; cases h1
    exact ⟨_, by rw [enumD_get, List.getElem?_eq_getElem hi']; rfl, pair_rp hn (Rp.mono k g _ _ h2)⟩
theorem wk_enS {z : Str} : WkD K T (Ites z) al H (enumD (z.cps.toList.map fun c => D.str ⟨#[c]⟩)) none := by
  have hl : (enumD (z.cps.toList.map fun c => D.str ⟨#[c]⟩)).length = z.cps.size := by rw [enumD_length, List.length_map, Array.length_toList]
  refine ⟨fun _ => True, fun i H v H' => ∃ Tt x, v = .ref Tt ∧ H Tt = none ∧ H' = upd H Tt (.tup [.int (i : Nat), x]) ∧ ∃ c, z.cps[i]? = some c ∧ x = .str ⟨#[c]⟩, ⟨fun i H hi _ => by rw [hl] at hi; exact hi, fun H _ => hl.symm, fun i H x H' hi _ y => y⟩, fun _ _ _ _ _ _ _ => trivial, ?_⟩
  rintro i al2 mu2 H2 v H3 hi g k sr _ ⟨Tt, x, rfl, hn, rfl, c, e, rfl⟩
  exact ⟨same_new hn, _, by rw [enumD_get, List.getElem?_map, Array.getElem?_toList, e]; rfl, pair_rp hn (rp_str.mpr rfl)⟩
theorem wk_enL (q : FzL K H a ys) (r : Rps K al H xs ys) : WkD K T (Ite K a) al H (enumD xs) none := by
  refine ⟨fun H => SqL K H a ys, _, by rw [enumD_length, ← r.length]; exact walk_enum, fun al2 mu2 H2 _ k _ _ => (q.kp k).sq, ?_⟩
  rintro i al2 mu2 H2 v H3 hi g k sr _ ⟨Tt, x, y, rfl, hn, rfl, e1, e⟩
  cases e1
  refine ⟨same_new hn, ?_⟩
  have hi' : i < xs.length := by rw [enumD_length] at hi; exact hi
  obtain ⟨v, h1, h2⟩ := r.get (d := xs[i]) (i := i) (by simp [hi'])
  have e' : ys[i]? = some y := e
  rw [e'] at h1; cases h1
  exact ⟨_, by rw [enumD_get, List.getElem?_eq_getElem hi']; rfl, pair_rp hn (Rp.mono k g _ _ h2)⟩
theorem wk_enC {j : Nat} (ea : al[j]? = some a) : WkD K T (Ite K a) al H (enumD xs) (some (j, xs)) := by
  refine ⟨fun H => ∃ ys, H a = some (.lst ys) ∧ ys.length = xs.length, fun i H v H' => ∃ Tt x, v = .ref Tt ∧ H Tt = none ∧ H' = upd H Tt (.tup [.int (i : Nat), x]) ∧ ∀ ys, H a = some (.lst ys) → ys[i]? = some x, ⟨fun i H hi ⟨ys, q, e⟩ => ?_, fun H ⟨ys, q, e⟩ => ⟨ys, SqL.of q, by rw [enumD_length]; omega⟩, ?_⟩, ?_, ?_⟩
  · rw [enumD_length] at hi
    exact ⟨ys, ys[i]'(by omega), SqL.of q, by simp [show i < ys.length by omega]⟩
  · rintro i H v H' hi ⟨ys, q, e⟩ ⟨Tt, x, h1, h2, h3, h4⟩
    exact ⟨Tt, x, h1, h2, h3, fun zs hz => h4 zs (SqL.of hz)⟩
  · intro al2 mu2 H2 g k sr hg
    obtain ⟨vs, e2, r2⟩ := sr.ok _ _ a hg (g _ _ ea)
    exact ⟨vs, e2, r2.length⟩
  · rintro i al2 mu2 H2 v H3 hi g k sr hg ⟨Tt, x, rfl, hn, rfl, y⟩
    obtain ⟨vs, e2, r2⟩ := sr.ok _ _ a hg (g _ _ ea)
    have e := y vs e2
    have hi' : i < xs.length := by rw [enumD_length] at hi; exact hi
    obtain ⟨v, h1, h2⟩ := r2.get (d := xs[i]) (i := i) (by simp [hi'])
    rw [e] at h1; cases h1
    exact ⟨same_new hn, _, by rw [enumD_get, List.getElem?_eq_getElem hi']; rfl, pair_rp hn h2⟩
end
theorem si_enum {T : Tb} {X : Cx} {e : Expr} {f : ES} {p pos tpos : Pos} {elts : List Expr} {kk : Nat} (hm : X.mg "enumerate" = none) (h : SE T X e f) (hg : Gl X "enumerate" := by rfl) (hs : starEach [e] X.env = [(false, eval e X.env)] := by rfl) :
    SI T X (.Tuple elts kk tpos) (.Call (.Name "enumerate" p) [e] [] pos) (iEn f) := fun W z => by
  have pa := pa_cons (h W z) pa_nil hs
  refine PI.weak (PI.or (pi_enumT hg hm pa hs) (PI.or (pi_enum hg hm pa hs) (pi_enumS hg hm pa hs))) fun s H R ⟨al, rho, mu, sl, sr, w⟩ => ?_
  unfold iEn at w
  match q : f rho mu with
  | none => rw [q] at w; exact w.elim
  | some (.ex C fs, mu1) =>
    rw [q] at w
    exact .inl ⟨al, rho, mu, sl, sr, by rw [q]; exact fun al' H' dd vs g k sr' e r => w al' H' dd vs g k sr' e r⟩
  | some (.ok d, mu1) =>
    rw [q] at w
    dsimp only at w
    have fin : ∀ {P : VK}, (∀ al' v H', Gr al al' → Kp H H' → SR X.K T al' mu1 H' → Rp X.K al' H' d v → P v H') → rdE X.K T W f s H P := fun {P} h => ⟨al, rho, mu, sl, sr, by rw [q]; exact h⟩
    match hd : srcV d mu1 with
    | none => rw [hd] at w; exact w.elim
    | some (xs, g) =>
      rw [hd] at w
      unfold srcV at hd
      split at hd
      · cases hd
        exact .inl (fin fun al' v H' g k sr' r => by
          obtain ⟨a, ys, rfl, q, r2⟩ := rp_tup.mp r
          exact ⟨a, ys, rfl, q, w _ al' H' g k sr' (wk_enT q r2)⟩)
      · cases hd
        exact .inr (.inl (fin fun al' v H' g k sr' r => by
          obtain ⟨a, ys, rfl, q, r2⟩ := rp_fl.mp r
          exact ⟨a, ys, rfl, q.sq, w _ al' H' g k sr' (wk_enL q r2)⟩))
      · cases hd
        exact .inr (.inr (fin fun al' v H' g k sr' r => by
          cases rp_str.mp r
          exact ⟨_, rfl, w _ al' H' g k sr' wk_enS⟩))
      · split at hd
        · rename_i em
          cases hd
          exact .inr (.inl (fin fun al' v H' g k sr' r => by
            obtain ⟨a, ys, rfl, ea, q, r2⟩ := cel_lst sr' r em
            exact ⟨a, ys, rfl, SqL.of q, w _ al' H' g k sr' (wk_enC ea)⟩))
        · cases hd
      · cases hd
end DL
set_option Elab.async false
set_option linter.all false
set_option autoImplicit false
set_option maxRecDepth 100000
set_option maxHeartbeats 4000000
/-! DL10: exceptions: raised, caught and held, asked. -/
/-! ### isinstance of a held exception -/
namespace DLX
open PySem PySem.Spec PySem.W PySem.Calls PyProof.Rows
section
variable {prog : Program} {w : World} {A : Around} {E : Value → Shared → Prop} {s : Shared} {K : Frag} {x D : Addr} {ox : Obj} {od : Obj}
/-- x.__class__ for an own exception with fields -/
theorem exc_class {Q : Option Value → Shared → Prop} (c : L2.ExcC K D) (kin : K.In s.heap) (J : InstAt s.heap x ox D (some od)) (q : Q (some (.ref D)) { s with toks := s.toks + 1 }) :
    wpAny (model prog w) A (getAttr? (.ref x) "__class__") Q E s := by
  obtain ⟨gt, gn, su, di, ca, cn, ct, cm⟩ := c
  have fo : findObj K D (some od) "__class__" = some (.bind (.builtin "getset_descriptor.__get__") (.builtin "object.__class__")) := findObj_data (by obtain ⟨cd, e, _⟩ := any_some di; rw [e]; rfl) ca cn ct
  obtain ⟨hp, gs, dr, tk, os⟩ := s
  have T0 := J.type (M := model prog w)
  have T1 := looks_findIn (M := model prog w) kin gt
  have T2 := looks_findIn (M := model prog w) kin gn
  have T3 := looks_find (M := model prog w) kin J fo
  have ins : Looks (model prog w) hp (isInstance (.ref x) (.type "BaseException")) true := T0.andThen (looks_subIn kin su)
  have n0 : (Value.builtin "BaseException.__getattribute__" == Value.builtin "object.__getattribute__") = false := by decide +kernel
  have n1 : (onTheHeap (Value.ref D) && Value.builtin "BaseException.__getattribute__" == Value.builtin "object.__getattribute__") = false := by rw [n0]; rfl
  have n2 : (false && onTheHeap (Value.builtin "BaseException.__getattribute__")) = false := rfl
  unfold getAttr? getAttrBy? getAttrBy
  refine wpAny_bind (wpAny_mkText (wpAny_bind (wpAny_attempt (wpAny_holding (wpAny_bind (T0.at (wpAny_bind (T1.at ?_))))))))
  show wpAny _ _ (if (onTheHeap (Value.ref D) && Value.builtin "BaseException.__getattribute__" == Value.builtin "object.__getattribute__") = true then _ else _) _ _ (_ : Shared)
  rw [n1, if_neg Bool.false_ne_true]
  unfold getAttrByItsOwn hookBefore
  refine wpAny_bind ?_
  rw [if_pos (show onTheHeap (Value.ref D) = true by rfl)]
  refine T2.at (wpAny_bind (wpAny_attempt (wpAny_holding ?_)))
  unfold callGetattribute
  rw [n2, if_neg Bool.false_ne_true]
  unfold boundAndCalled
  rw [PySem.F.excAttr_ValueError.ga.bind (.ref x)]
  refine wpAny_bind (wpAny_pure ?_)
  show wpAny _ _ (call (.builtin "BaseException.__getattribute__") [.ref x, .str "__class__" tk]) _ _ (_ : Shared)
  refine wpAny_call (codeAny_call_builtin PySem.F.excAttr_ValueError.ga.plain PySem.F.entry_bexc_ga ?_)
  refine @check_slot (model prog w) _ _ ⟨hp, gs, dr, tk + 1, os⟩ "BaseException.__getattribute__" "BaseException" "__getattribute__" (.ref x) [.str "__class__" tk] [] _ (by decide +kernel) (by decide +kernel) ins (PySem.F.args_bexc_ga (.ref x) (.str "__class__" tk)) ?_
  unfold Builtin.«object.__getattribute__»
  refine wpAny_bind (wpAny_of_eq (a := ((Value.ref x : Value), [Value.str "__class__" tk])) (by first | rfl | (simp only [slotArgs]; rfl)) ?_)
  refine wpAny_bind (wpAny_pure (wpAny_bind (T0.at (wpAny_bind (T3.at ?_)))))
  show wpAny _ _ (holding [Value.builtin "object.__class__"] (call (.builtin "getset_descriptor.__get__") [.builtin "object.__class__", .ref x, .ref D]) >>= ret) _ _ (_ : Shared)
  refine wpAny_bind (wpAny_holding (wpAny_call (class_get (s := ⟨hp, gs, dr, tk + 1, os⟩) (ox := ox) (od := some od) kin J cm (wpAny_pure ?_))))
  show wpAny _ _ (handedOut (.ref D)) _ _ (_ : Shared)
  rw [handedOut_of (v := .ref D) rfl]
  first
    | exact wpAny_pure (wpAny_pure q)
    | exact wpAny_pure q
    | exact wpAny_pure (wpAny_bind (wpAny_pure (wpAny_pure q)))
theorem kitx_held (c : L2.ExcC K D) : KitX K (.ref x) (.ref D) (fun h => ∃ ox od, InstAt h x ox D (some od)) where
  ty := fun _ _ _ ⟨_, _, I⟩ => I.type
  it := fun _ _ X _ => by
    obtain ⟨cd, e, _⟩ := any_some c.hd
    unfold clsIn at e
    split at e
    · rename_i _ _ _ _ ho
      intro A' Q' E' s' k q
      unfold isType loadHead
      exact wpAny_bind (wpAny_loadPart (k _ _ (X _ _ ho)) (wpAny_pure q))
    · cases e
  ne := fun h tp dd its n sl X htp => by
    obtain ⟨cd, e, _⟩ := any_some c.hd
    refine Bool.eq_false_iff.mpr fun q => ?_
    have z : D = tp := Value.ref.inj (beq_iff_eq.mp q)
    subst z
    unfold clsIn at e
    split at e
    · rename_i _ _ _ _ ho
      have z := (X _ _ ho).symm.trans htp
      cases z
    · cases e
  ca := fun X ⟨_, _, I⟩ k => exc_class c X I k
end
end DLX
namespace DL
open PySem PySem.Spec PyProof.Rows L2
/-! ### a new address is tracked -/
theorem _root_.L2.Inv.track {X : Cx} {pins : List (Addr × Obj)} {s1 s2 : L2.St} {H : Hp} {sI s : Shared} {a : Addr} {o : HO} (J : Inv X pins s1 H sI) (I : Inv X pins s2 H s) (hn : sI.heap.get? a = none) (na : H a = none) (ok : ObjOk X.prog X.w (upd H a o) s.heap a o) : Inv X pins s2 (upd H a o) s := by
  have ne : ∀ {b : Addr} {u : Obj}, sI.heap.get? b = some u → b ≠ a := fun e z => by rw [z, hn] at e; cases e
  have neL : X.env.locals ≠ a := by
    obtain ⟨m, ⟨o, _, _, e, _⟩, _⟩ := J.loc
    exact ne e
  have neC : ∀ x c, X.env.cells.lookup x = some c → c ≠ a := fun x c e => by
    obtain ⟨v, z⟩ := J.cell x c e
    obtain ⟨o, z1, _⟩ := z
    exact ne z1
  refine ⟨I.ok, I.os, I.bare, ⟨I.base.keep, I.base.slot, fun b u e n hx => ?_, I.base.there, fun b xs e => ?_, fun b u xs e => ?_, fun b ps e => ?_⟩, I.loc, I.cell, by rw [upd_ne neL]; exact I.free, fun x c e => by rw [upd_ne (neC x c e)]; exact I.freeC x c e, fun p hp => ?_, fun b u e => ?_, I.len⟩
  · obtain ⟨u', e'⟩ := J.base.there b u e hx
    rw [upd_ne (ne e')]; exact I.base.free b u e n hx
  · have z := I.base.tups b xs e
    rw [upd_ne (ne_of_none z na)]; exact z
  · have z := I.base.frzs b u xs e
    rw [upd_ne (ne_of_none z na)]; exact z
  · obtain ⟨more, z⟩ := I.base.tbls b ps e
    exact ⟨more, by rw [upd_ne (ne_of_none z na)]; exact z⟩
  · obtain ⟨e, n, nl, nf, d⟩ := I.pin p hp
    exact ⟨e, by rw [upd_ne (ne (J.pin p hp).1)]; exact n, nl, nf, d⟩
  · by_cases hb : b = a
    · subst hb
      rw [upd_same] at e
      cases e
      exact ok
    · rw [upd_ne hb] at e
      exact (I.hok b u e).stay (fun c v _ q => q) (fun c q => by rw [upd_ne (ne_of_none q na)]; exact q) fun c xs q => by rw [upd_ne (ne_of_none q na)]; exact q
theorem exH_ok {P : Program} {w : World} {H : Hp} {h : Heap} {a C dd : Addr} {oe : Obj} {vs : Array Value} (e : h.get? a = some oe) (z : Zc (.ref C) (some dd) oe) (d : oe.data = .fields vs) : ObjOk P w H h a (ExH a C dd) :=
  ⟨⟨oe, vs, e, z.1, z.2, d⟩, ⟨_, e⟩, fun h1 h2 ⟨o, v, e1, e2, e3, e4⟩ k => ⟨o, v, k _ e1, e2, e3, e4⟩⟩
/-! ### the test of a clause -/
/-- the clause's expression t catches what f says -/
def Tst (X : Cx) (t : Expr) (f : Addr → Option Bool) : Prop := ∀ (a : Addr) (oe : Obj) (pn : List (Addr × Obj)) (st : L2.St) (H : Hp) (s : Shared) (C : Addr) (b : Bool) (Q : Bool → Shared → Prop) (E : Value → Shared → Prop), Inv (X.suite a ((a, oe) :: pn)) [] st H s → s.heap.get? a = some oe → oe.cls = .ref C → f C = some b →
  (∀ h', (h' = s.heap ∨ ∃ o, o.isFreed = false ∧ h' = s.heap.push o) → Q b { s with heap := h' }) → wpAny (model X.prog X.w) (X.A.mark (some (.ref a))) (eval t X.env) (fun c s1 => wpAny (model X.prog X.w) (X.A.mark (some (.ref a))) (excMatches (.ref a) c) Q E s1) E s
theorem tst_name {X : Cx} {x : Str} {c : Value} {f : Addr → Option Bool} {np : Pos} (hc : Names X x c) (hf : ∀ C b, f C = some b → PySem.W.exmOne X.K (.ref C) c = some b) : Tst X (.Name x np) f := fun a oe pn st H s C b Q E I ea ec ef q => by
  have LT : PySem.W.Looks (model X.prog X.w) s.heap (typeOf (.ref a)) (.ref C) := fun A Q E s k q => wpAny_typeOf_ref (k _ _ ea) (by rw [ec]; exact q)
  have LM := PySem.W.exm_one (M := model X.prog X.w) I.kIn LT (hf C b ef)
  obtain ⟨hg, hdbg, hm | ⟨hm, hv, hnn⟩⟩ := hc
  · exact ld_glob (X := X.suite a ((a, oe) :: pn)) I hg hm (LM.here (q _ (.inl rfl))) hdbg
  · exact ld_blt (X := X.suite a ((a, oe) :: pn)) I hg hm hv (LM.here (q _ (.inl rfl))) hnn hdbg
end DL
set_option Elab.async false
set_option linter.all false
set_option autoImplicit false
set_option maxRecDepth 100000
set_option maxHeartbeats 4000000
/-! DL11: try .. except .. as e: y = e; isinstance and fields of what was caught. -/
namespace DL
open PySem PySem.Spec PyProof.Rows L2
theorem stays_push {h h' : Heap} {B : Heap} (st : B.StaysIn h) (k : ∀ b o, h.get? b = some o → h'.get? b = some o) : B.StaysIn h' := fun b o e => k b o (st b o e)
theorem fly_push {B h h' : Heap} {l : List Env} {a : Addr} {Z : Obj → Prop} (f : HandSPX.FlyingZ B l a Z h) (k : ∀ b o, h.get? b = some o → h'.get? b = some o) : HandSPX.FlyingZ B l a Z h' := by
  obtain ⟨k1, k2, k3, oe, vs, T, oT, ts, he, hz, hd, h1, hnT, hTe, hT, hdT, h3⟩ := f
  exact ⟨stays_push k1 k, k2, k3.of_keeps fun b o e _ => ⟨o, k b o e, rfl⟩, oe, vs, T, oT, ts, k _ _ he, hz, hd, h1, hnT, hTe, k _ _ hT, hdT, h3⟩
theorem upto_push {g h h' : Heap} (u : g.UpToSlots h) (k : ∀ b o, h.get? b = some o → h'.get? b = some o) : g.UpToSlots h' := fun b o e n => by
  obtain ⟨sl, q⟩ := u b o e n
  exact ⟨sl, k _ _ q⟩
theorem push_keep {h h' : Heap} (q : h' = h ∨ ∃ o, o.isFreed = false ∧ h' = h.push o) : ∀ b o, h.get? b = some o → h'.get? b = some o := by
  rcases q with rfl | ⟨o, _, rfl⟩
  · exact fun _ _ e => e
  · exact fun b u e => Heap.get?_push_of_some _ e
/-- what is caught is kept -/
def sTryK (i j : Nat) (f : Addr → Option Bool) (m : SS) : SS := fun rho mu => match m rho mu with
  | some (.ex C fs, rho1, mu1) => match f C with
    | some true => some (.nx, ((rho1.set i none).set j (some (.cel mu1.length))), mu1 ++ [.exc C fs])
    | some false => some (.ex C fs, rho1, mu1)
    | none => none
  | o => o
theorem SL.unset {K : PySem.W.Frag} {al : List Addr} {H : Hp} {rho : Rho} {s : L2.St} (h : SL K al H rho s) (i : Nat) : SL K al H (rho.set i none) (s.set i none) := by
  refine ⟨by simp [h.len], fun k d e => ?_⟩
  by_cases hk : k = i
  · subst hk
    by_cases hl : k < rho.length
    · rw [List.getElem?_set_self hl] at e; cases e
    · rw [List.getElem?_eq_none (by simpa using hl)] at e; cases e
  · rw [List.getElem?_set_ne (Ne.symm hk)] at e
    obtain ⟨v, e1, e2⟩ := h.ok k d e
    exact ⟨v, by rw [List.getElem?_set_ne (Ne.symm hk)]; exact e1, e2⟩
section
variable {T : Tb} {X : Cx} {pos pos' sp np np' : Pos} {t : Expr} {body : List Stmt} {m : SS} {f : Addr → Option Bool} {n y : Str} {i j : Nat}
theorem st_tryK (hmd : T.md = .a) (hs : X.stack = X.env :: X.outer) (hf : X.env.frame = some X.env.locals) (hN : X.N.Nodup) (hi : X.N[i]? = some n) (hj : X.N[j]? = some y) (hln : X.env.kindOf n = some .local) (hly : X.env.kindOf y = some .local) (hij : j ≠ i) (ht : Tst X t f)
    (hb : ∀ (pn : List (Addr × Obj)) (xe : Value → Shared → Prop), STs T (X.tr pn xe) body m) (hd1 : (n == ("__debug__" : Str)) = false := by decide) (hd2 : (n == ("__classdict__" : Str)) = false := by decide) (hsw : swapsWith (.Name n np') (some (.Name y np)) sp.line X.env = pure false := by rfl) :
    ST T X (.Try body [.ExceptHandler (some t) (some n) [.Assign [.Name y np] (.Name n np') sp] pos'] [] [] pos) (sTryK i j f m) := fun W z ps => by
  refine ⟨fun pins s0 s H De I h => ?_⟩
  obtain ⟨al, rho, mu, sl, sr, w⟩ := h
  have ok := I.ok
  have hfr : X.A.frames = some (X.env :: X.outer) := by rw [ok.frames, hs]
  have hloc : Loc X.env.scope n := .inl hln
  -- the wish for the body
  let Wb : WX := fun cls d s' H' => ∃ C dd vs rho1 mu1 fs al', cls = .ref C ∧ d = some dd ∧ Gr al al' ∧ Kp H H' ∧ SL X.K al' H' rho1 s' ∧ SR X.K T al' mu1 H' ∧ H' dd = some (.xd vs) ∧ RpA X.K al' H' fs vs ∧ m rho mu = some (.ex C fs, rho1, mu1)
  refine wpAny_Try_except ?_
  have ztk : Takes X W := by have q := z.tk; rw [hmd] at q; exact q
  have hz : ∀ xe, Takes (X.tr (X.pn ++ pins) xe) Wb → Cz T.md (X.tr (X.pn ++ pins) xe) Wb := fun xe tk => ⟨by rw [hmd]; exact tk, z.gd⟩
  have run := fun xe tk po => (hb (X.pn ++ pins) xe Wb (hz xe tk) po).run [] s0 s H De (I.toTry xe)
  have rd : rdS X.K T Wb m De s H := by
    refine ⟨al, rho, mu, sl, sr, ?_⟩
    unfold sTryK at w
    match q : m rho mu with
    | none => rw [q] at w; exact w
    | some (.nx, rho1, mu1) => rw [q] at w; exact w
    | some (.bk, rho1, mu1) => rw [q] at w; exact w
    | some (.ct, rho1, mu1) => rw [q] at w; exact w
    | some (.rt d, rho1, mu1) => rw [q] at w; exact w
    | some (.ex C fs, rho1, mu1) => exact fun al' s' H' dd vs g k sl' sr' e r => ⟨C, dd, vs, rho1, mu1, fs, al', rfl, rfl, g, k, sl', sr', e, r, q⟩
  refine wpAny_mono (run (fun e s1 => wpAny (model X.prog X.w) X.A (noteFrame e X.env) (fun _ s2 => wpAny (model X.prog X.w) X.A (setFlight e none) (fun _ s3 =>
    wpAny (model X.prog X.w) X.A (handleBy e X.env [.ExceptHandler (some t) (some n) [.Assign [.Name y np] (.Name n np') sp] pos']) (L2.SP X pins De) X.xe s3) X.xe s2) X.xe s1) (fun u s' xx => ?_) PassesOwn.looking rd) (fun fl s1 hsp => ?_) (fun e s1 he => he)
  · obtain ⟨a, B, sI, pins', st', H', cls, d, rfl, J', nb, up, sky, na, os, ag, C, dd, vs, rho1, mu1, fs, al', rfl, rfl, g1, k1, sl1, sr1, edd, rfs, em⟩ := xx
    have J : Inv X pins st' H' sI := J'.ofTry ok
    have sky' : Sky B (X.env :: X.outer) a (Zc (.ref C) (some dd)) X.env.locals s'.heap := by rw [← hs]; exact sky
    show wpAny (model X.prog X.w) X.A (noteFrame (.ref a) X.env) _ _ (_ : Shared)
    refine Sky.land Zc.steady hfr hf sky' fun h3 fl3 up3 => ?_
    have J3 : Inv X pins st' H' { s' with heap := h3 } := J.landed nb fl3.1 (up.trans up3) os ag
    obtain ⟨oe3, vs3, he3, hz3, hd3⟩ := fl3.there
    have nfr : a ∉ frs (X.env :: X.outer) := fun hm => by
      obtain ⟨_, o', e', hnf⟩ := fl3.2.2.1.mem hm
      rw [he3] at e'; cases e'
      exact hnf _ hd3
    have nL : a ≠ X.env.locals := fun z => nfr (List.mem_filterMap.mpr ⟨X.env, List.mem_cons_self, by rw [hf, z]⟩)
    have nF : a ∉ X.fs := fun hm => by
      obtain ⟨e, he, q⟩ := List.mem_filterMap.mp hm
      exact nfr (List.mem_filterMap.mpr ⟨e, List.mem_cons_of_mem _ he, q⟩)
    have hnI : sI.heap.get? a = none := by
      cases e : sI.heap.get? a with
      | none => rfl
      | some o =>
        have z1 := nb a o e (by rw [hs]; exact nfr)
        rw [fl3.2.1] at z1; cases z1
    have S3 := J3.suite he3 hd3 na nL nF
    unfold sTryK at w
    rw [em] at w
    dsimp only at w
    refine wpAny_handleBy_cons (codeAny_handlers_test ?_) (by intro q; cases q)
    cases hfc : f C with
    | none => rw [hfc] at w; exact w.elim
    | some b =>
      rw [hfc] at w
      refine ht a oe3 _ _ _ _ C b _ _ S3 he3 hz3.1 hfc fun h4 hh4 => ?_
      have kk := push_keep hh4
      have fl4 := fly_push fl3 kk
      have up4 := upto_push (up.trans up3) kk
      cases b with
      | true =>
        refine codeAny_handlers_suite_as ?_
        refine HandSPX.lands_againZ fl4 fun h5 fl5 up5 => ?_
        have J5 : Inv X pins st' H' { s' with heap := h5 } := J.landed nb fl5.1 (up4.trans up5) os ag
        obtain ⟨oe5, vs5, he5, hz5, hd5⟩ := fl5.there
        have S5 := J5.suite he5 hd5 na nL nF
        refine store_ok (X := X.suite a ((a, oe5) :: (X.pn ++ pins))) (v := .ref a) S5 hN hi hloc rfl (fun s6 S6 => ?_) (.inr hln)
        have rule := ps_set (X := X.suite a ((a, oe5) :: (X.pn ++ pins))) (pos := sp) (pos' := np) hN hj (.inl hly) (pe_var (X := X.suite a ((a, oe5) :: (X.pn ++ pins))) (pos := np') hi (.inl hln) hd1 hd2) hsw (.inr hly)
        have lt : i < st'.length := by rw [J.len]; exact (List.getElem?_eq_some_iff.mp hi).1
        have ndd : dd ≠ a := fun z => by rw [z, na] at edd; cases edd
        refine wpAny_mono ((pss_one rule).run [] s6 _ H' { nx := fun s7 H7 => H7 = H' ∧ s7 = (st'.set i (some (.ref a))).set j (some (.ref a)), rt := fun _ _ => False, bk := fun _ _ => False, ct := fun _ _ => False } S6 ⟨.ref a, List.getElem?_set_self lt, rfl, rfl⟩) (fun fl s7 hsp => ?_) (fun _ _ z => False.elim z)
        cases fl with
        | next =>
          obtain ⟨s8, H8, S8, rfl, rfl⟩ := hsp
          refine gone_ok (X := X.suite a ((a, oe5) :: (X.pn ++ pins))) S8 hN hi hln fun s9 S9 => ?_
          obtain ⟨eb, _⟩ := S9.pin (a, oe5) (List.mem_append_left _ List.mem_cons_self)
          have J9 : Inv X pins _ H8 s9 := S9.unsuite ok
          have J10 := J.track (o := ExH a C dd) J9 hnI na (exH_ok eb hz5 hd5)
          have r1 : SR X.K T (al' ++ [a]) (mu1 ++ [.exc C fs]) (upd H8 a (ExH a C dd)) := sr1.alloc na ⟨dd, vs, upd_same, by rw [upd_ne ndd]; exact edd, rfs.mono (Kp.new na) (Gr.app _ _)⟩
          refine ⟨_, _, J10, w (al' ++ [a]) _ _ (g1.trans (Gr.app _ _)) (k1.trans (Kp.new na)) ?_ r1⟩
          have e1 : ((st'.set i (some (V.ref a))).set j (some (V.ref a))).set i none = (st'.set i none).set j (some (V.ref a)) := by
            rw [List.set_comm _ _ hij, List.set_set]
          rw [e1]
          exact ((sl1.mono (Kp.new na) (Gr.app _ _)).unset i).set (by unfold Rp; exact ⟨a, by rw [← sr1.len]; simp, rfl⟩) j
        | brk =>
          obtain ⟨s8, H8, S8, q⟩ := hsp
          exact q.elim
        | cont =>
          obtain ⟨s8, H8, S8, q⟩ := hsp
          exact q.elim
        | ret u =>
          obtain ⟨v8, s8, H8, S8, r8, q⟩ := hsp
          exact q.elim
      | false =>
        show wpAny _ X.A (handleBy (.ref a) X.env []) _ _ (_ : Shared)
        refine wpAny_handleBy_nil ?_
        obtain ⟨k1', k2', k3', oe, vs', TT, oT, ts', he, hz', hd, h1, hr⟩ := id fl4
        unfold PySem.passOn
        refine wpAny_bind (wpAny_field he hd h1 ?_)
        rw [if_neg (show ¬ ((Value.ref TT == Value.none) = true) by simp)]
        have fin : wpAny (model X.prog X.w) X.A (setFlight (.ref a) X.env.frame) (fun _ s4 => wpAny (model X.prog X.w) X.A (throw (.ref a) : Sem Flow) (L2.SP X pins De) X.xe s4) X.xe { s' with heap := h4 } := by
          rw [hf]
          refine HandSPX.setFlight_upZ fl4 fun h5 hh5 up5 => wpAny_throw (ztk _ _ ?_)
          exact ⟨a, B, sI, pins, st', H', .ref C, some dd, rfl, J, nb, up4.trans up5, .inr (.inr (by rw [hs]; exact hh5)), na, os, ag, w al' st' H' dd vs g1 k1 sl1 sr1 edd rfs⟩
        first
          | exact wpAny_bind (wpAny_pure (wpAny_bind fin))
          | exact wpAny_bind fin
  · cases fl with
    | next =>
      obtain ⟨st', H', J', q⟩ := hsp
      exact wpAny_execs_nil ⟨st', H', J'.ofTry ok, q⟩
    | brk =>
      obtain ⟨st', H', J', q⟩ := hsp
      exact ⟨st', H', J'.ofTry ok, q⟩
    | cont =>
      obtain ⟨st', H', J', q⟩ := hsp
      exact ⟨st', H', J'.ofTry ok, q⟩
    | ret u =>
      obtain ⟨v, st', H', J', r, q⟩ := hsp
      exact ⟨v, st', H', J'.ofTry ok, r, q⟩
/-! ### isinstance(e, C), C an own class -/
def isO (c : Addr) (f : Addr → Option Bool) : FS
  | [.cel j, .adr a], mu => if a = c then (match mu[j]? with
    | some (.exc C _) => (f C).bind fun b => some (.ok (.bl b), mu)
    | _ => none) else none
  | _, _ => none
/-- isinstance(x, c), x a held exception -/
def rIsX (K : PySem.W.Frag) : List V → Hp → VK → Prop := fun xs H Q => ∃ (a D dd : Addr) (fs : List (Str × V)) (c : Addr) (b : Bool), xs = [.ref a, .ref c] ∧ H a = some (ExH a D dd) ∧ H dd = some (.xd fs) ∧ L2.ExcC K D ∧ PySem.W.kitOne K (.ref D) (.ref c) = some b ∧ Q (.bl b) H
theorem call_isX {X : Cx} : CallR X (.builtin "isinstance") (rIsX X.K) := by
  intro pins s st H xs us Q I r h
  obtain ⟨a, D, dd, fs, c, b, rfl, ea, ed, C, e, q⟩ := h
  cases r with
  | cons rx rr =>
    cases rr with
    | cons rt rr =>
      cases rr
      cases rx
      cases rt
      have x1 : ObjOk X.prog X.w H s.heap a (ExH a D dd) := I.hok a _ ea
      obtain ⟨⟨oe, vs, h1, h2, h3, h4⟩, _⟩ := x1
      have x2 : ObjOk X.prog X.w H s.heap dd (.xd fs) := I.hok dd _ ed
      obtain ⟨mA, hns, hr⟩ := x2
      obtain ⟨od, ho, hl⟩ := lookIn_ns hns
      have J : PySem.W.InstAt s.heap a oe D (some od) := ⟨h1, h2, by unfold PySem.W.notCls; rw [h4] <;> rfl, by rw [h3]; exact ho⟩
      exact PySem.W.kia_one (DLX.kitx_held C) I.kIn ⟨oe, od, J⟩ e (fun z => nomatch z) fun tk => ⟨.bl b, H, I.kept (t' := tk) fun _ _ z => z, rfl, q⟩
theorem c_isX {K : PySem.W.Frag} {T : Tb} {f : Addr → Option Bool} {c : Addr} (hf : ∀ C b, f C = some b → L2.ExcC K C ∧ PySem.W.kitOne K (.ref C) (.ref c) = some b) : CallD K T (isO c f) (rIsX K) := fun al mu H ds vs Q E sr r p => by
  unfold isO at p
  split at p
  · rename_i j a mu
    split at p
    · rename_i ha
      subst ha
      split at p
      · rename_i C fs hj
        match hb : f C with
        | none => rw [hb] at p; exact p.elim
        | some b =>
          rw [hb] at p
          obtain ⟨h1, h2⟩ := hf C b hb
          unfold Rps at r
          obtain ⟨v, r1, rfl, rx, r⟩ := r
          unfold Rps at r
          obtain ⟨v2, r2, rfl, ry, r⟩ := r
          unfold Rps at r
          subst r
          unfold Rp at rx ry
          obtain ⟨ad, e1, rfl⟩ := rx
          subst ry
          obtain ⟨dd, ws, e2, e3, _⟩ := sr.ok _ _ ad hj e1
          exact ⟨ad, C, dd, ws, _, b, rfl, e2, e3, h1, h2, Wo.now p sr (bl_rp _)⟩
      · exact p.elim
    · exact p.elim
  · exact p.elim
theorem se_isX {T : Tb} {X : Cx} {e : Expr} {es : List Expr} {fs : List ES} {pos p : Pos} {f : Addr → Option Bool} {c : Addr} (hf : ∀ C b, f C = some b → L2.ExcC X.K C ∧ PySem.W.kitOne X.K (.ref C) (.ref c) = some b) (hm : X.mg "isinstance" = none) (ha : SA T X (e :: es) fs)
    (hg : Gl X "isinstance" := by rfl) (he : starEach (e :: es) X.env = (false, eval e X.env) :: starEach es X.env := by rfl) (hpl : (backTo pos (starEach es X.env)).any (·.1) = false := by rfl) :
    SE T X (.Call (.Name "isinstance" p) (e :: es) [] pos) (eCall (isO c f) fs) := se_callB call_isX (c_isX hf) hg hm (by decide +kernel) ha (by decide) (by decide) he hpl
/-! ### e.f of what is held -/
def excGet (n : Str) (ok : Addr → Bool) (f : ES) : ES := fun rho mu => DL.bnd (f rho mu) fun d mu1 => match d with
  | .cel j => match mu1[j]? with
    | some (.exc C fs) => if ok C then (match fs.lookup n with
      | some d => some (.ok d, mu1)
      | none => none) else none
    | _ => none
  | _ => none
theorem rpa_look {K : PySem.W.Frag} {al : List Addr} {H : Hp} : ∀ {kvs : List (Str × D)} {vs : List (Str × V)} {n : Str} {d : D}, RpA K al H kvs vs → kvs.lookup n = some d → ∃ v, vs.lookup n = some v ∧ Rp K al H d v
  | [], vs, n, d, h, e => by cases e
  | (k, x) :: kvs, vs, n, d, h, e => by
    obtain ⟨h1, h2⟩ := h
    match vs with
    | [] => simp at h1
    | (k', u) :: vs =>
      simp only [List.map_cons, List.cons.injEq] at h1
      obtain ⟨rfl, h1⟩ := h1
      simp only [List.map_cons] at h2
      unfold Rps at h2
      obtain ⟨v0, r0, e0, h3, h4⟩ := h2
      cases e0
      simp only [List.lookup] at e ⊢
      split
      · rename_i q
        rw [q] at e
        cases e
        exact ⟨_, rfl, h3⟩
      · rename_i q
        rw [q] at e
        exact rpa_look ⟨h1, h4⟩ e
theorem se_excGet {T : Tb} {X : Cx} {e : Expr} {f : ES} {pos : Pos} {n : Str} {ok : Addr → Bool} (hT : ∀ C, ok C = true → XfC X.K C ∧ PySem.W.findIn X.K (.ref C) n = some none) (he : SE T X e f) (hb : attributeBase e n X.env (eval e X.env) = eval e X.env := by rfl) : SE T X (.Attribute e n pos) (excGet n ok f) := fun W z => by
  refine ⟨fun pins s0 s H Q I ⟨al, rho, mu, sl, sr, w⟩ => attr_of hb ?_⟩
  refine thn ((he W z).run pins s0 s H (fun v H1 => ∃ (a C dd : Addr) (fs : List (Str × V)) (u : V), v = .ref a ∧ ok C = true ∧ H1 a = some (ExH a C dd) ∧ H1 dd = some (.xd fs) ∧ fs.lookup n = some u ∧ Q u H1) I ⟨al, rho, mu, sl, sr, ?_⟩) fun u s1 ⟨x, H1, I1, rx, a, C, dd, fs, v, ex, hok, ea, ed, l, q⟩ => ?_
  · unfold excGet at w
    refine Wo.bnd w fun d mu1 al1 v H1 _ g1 k1 sr1 rv w1 => ?_
    split at w1
    · rename_i j
      split at w1
      · rename_i C fs hj
        split at w1
        · rename_i hok
          split at w1
          · rename_i d hd
            unfold Rp at rv
            obtain ⟨a, e1, rfl⟩ := rv
            obtain ⟨dd, vs, e2, e3, r⟩ := sr1.ok _ _ a hj e1
            obtain ⟨v, e4, r2⟩ := rpa_look r hd
            exact ⟨a, C, dd, vs, v, rfl, hok, e2, e3, e4, Wo.now w1 sr1 r2⟩
          · exact w1.elim
        · exact w1.elim
      · exact w1.elim
    · exact w1.elim
  · subst ex
    obtain rfl : u = Value.ref a := rx
    obtain ⟨hX, hno⟩ := hT C hok
    have x1 : ObjOk X.prog X.w H1 s1.heap a (ExH a C dd) := I1.hok a _ ea
    obtain ⟨⟨oe, vs, h1, h2, h3, h4⟩, _⟩ := x1
    have x2 : ObjOk X.prog X.w H1 s1.heap dd (.xd fs) := I1.hok dd _ ed
    obtain ⟨mA, hns, hr⟩ := x2
    obtain ⟨od, ho, hl⟩ := lookIn_ns hns
    obtain ⟨u, hu, ru⟩ := RelO.some_of (v := v) (o := mA n) (by rw [← l]; exact hr n)
    have J : PySem.W.InstAt s1.heap a oe C (some od) := ⟨h1, h2, by unfold PySem.W.notCls; rw [h4] <;> rfl, by rw [h3]; exact ho⟩
    exact HandSPX.exc_get I1.kIn J hX.ga hX.gg hX.exC (PySem.W.findObj_own hX.hdC hno rfl (by rw [hl, hu])) (handed_of ru) ⟨v, H1, I1.tok _, ru, q⟩
end
end DL
set_option Elab.async false
set_option linter.all false
set_option autoImplicit false
set_option maxRecDepth 100000
set_option maxHeartbeats 4000000
/-! DL12: raise C(..), C an own exception over ValueError. -/
namespace DL
open PySem PySem.Spec PyProof.Rows L2
/-- what the written part says of the class that is named ahead of .__init__ -/
structure BaseC (K : PySem.W.Frag) (B : Addr) : Prop where
  ga : PySem.W.specialIn K (.ref B) "__getattribute__" = some (some (.builtin "type.__getattribute__"))
  rd : PySem.W.readsIn K B (.type "type") = true
  fc : PySem.W.findCls K (.ref B) (.type "type") "__init__" = some (.val (.builtin "ValueError.__init__"))
section
variable {X : Cx} {e : Expr} {es : List Expr} {ta : TA} {cs : Str} {B : Addr} {p1 p2 pos : Pos} {pl : Sem Bool}
theorem pe_binit (hB : BaseC X.K B) (hg : Gl X cs) (hm : X.mg cs = some (.ref B)) (ha : PA X (e :: es) ta) (hdb : (cs == ("__debug__" : Str)) = false)
    (hc : eval (.Call (.Attribute (.Name cs p1) "__init__" p2) (e :: es) [] pos) X.env = (do
      let ov ← eval (.Name cs p1) X.env
      standAt p2.atName
      let (f, first) ← holding [ov] (getMethod ov "__init__" pl)
      callWith pos f first (backTo pos (starEach (e :: es) X.env)) (backToKw pos (keywordEach [] X.env))) := by rfl)
    (he : starEach (e :: es) X.env = (false, eval e X.env) :: starEach es X.env := by rfl) (hpl : (backTo pos (starEach es X.env)).any (·.1) = false := by rfl) :
    PE X (.Call (.Attribute (.Name cs p1) "__init__" p2) (e :: es) [] pos) (tVeI X.K ta) := by
  refine ⟨fun pins s0 s H Q I h => ?_⟩
  refine PySem.W.methodCall_KW (ld_glob I hg hm ?_ hdb) hc
  refine PySem.W.method_cls I.kIn hB.ga (PySem.W.cls_value I.kIn hB.rd hB.fc (by decide +kernel) ?_)
  show wpAny _ _ (callWith pos (Value.builtin "ValueError.__init__") [] (backTo pos (starEach (e :: es) X.env)) []) _ _ (_ : Shared)
  refine PyProof.Rows.callWith_method1 (thn (ha.run pos pins _ s H _ (I.tok _) h) fun us s1 ⟨vs, H1, I1, r1, a, C, ws, ev, hl, T, ea, q⟩ => ?_) he hpl
  subst ev
  cases r1 with
  | @cons _ u0 _ ur ra rr =>
    obtain rfl : u0 = Value.ref a := ra
    exact oinit_ok T I1 ea (by rw [← Paired.length rr, sizeLine_eq]; omega) fun s' J => ⟨.non, H1, J, rfl, q⟩
end
/-- what __init__(self, ..) with the fields gs does -/
def spI (K : PySem.W.Frag) (C : Addr) (gs : List Str) : Sp := fun vs H Q _ => ∃ a ws, vs = .ref a :: ws ∧ ws.length = gs.length ∧ OexC K C ∧ (∀ g ∈ gs, PySem.W.findIn K (.ref C) g = some none) ∧ H a = some (exo a C none) ∧
  ∀ (dx : Addr) (H2 : Hp), H dx = none → dx ≠ a → H2 a = some (exo a C (some dx)) → H2 dx = some (exd dx (gs.zip ws).reverse) → (∀ b, b ≠ a → b ≠ dx → H2 b = H b) → Q .non H2
/-- the class x, made with values of its fields gs -/
structure Mk (P : Program) (w : World) (K : PySem.W.Frag) (mg : Str → Option Value) (base : Heap) (x : Str) (k : Nat) (C : Addr) (gs : List Str) : Prop where
  ex : ∃ fI fd ps, FnOk P w K mg base (L2.CX P w) k fI fd ps (spI K C gs) ∧ PySem.W.findIn K (.ref C) "__init__" = some (some (.ref fI)) ∧ PySem.W.typeIn K (.ref fI) = some (.type "function") ∧ Binds K fd ps []
  oc : OexC K C
  gs : ∀ g ∈ gs, PySem.W.findIn K (.ref C) g = some none
  mg : mg x = some (.ref C)
section
variable {P : Program} {w : World} {K : PySem.W.Frag} {mg : Str → Option Value} {base : Heap} {qual g g1 g2 : Str} {st : Stmt} {f : Addr} {fd : FuncData} {N ps : List Str} {k : Nat} {C : Addr} {tx : Str}
theorem init1 (F : Fun K "__init__" qual st f fd) (S : FnScope N ps (defScope st)) (hp : ps.length = 2) (hN : N.length = 2)
    (hb : ∀ (cdv : Value) (A : Around) (outer : List Env) (s : Shared) (H : Hp) (E : XK), PSs (cxOf (L2.CX P w) P w K mg base N qual (defScope st) f cdv A outer s H E) (defBody st) (tSeq (tDrop (tVeI K (tCons (tVar 0) (tCons (tC (.str tx)) tNil)))) (tOst K g (tVar 0) (tVar 1)))) :
    FnOk P w K mg base (L2.CX P w) (k + 1) f fd ps (spI K C [g]) := by
  obtain ⟨oc, od, kV, doc, pm, an, cdv, ct, osl, rfl, lk, hcd⟩ := F.ex
  refine ⟨fun vs H Q E ⟨a, ws, e, l, _⟩ => by rw [e, hp]; simp [l], fun A outer s H args us vs Q E hr e0 b r h => ?_⟩
  obtain ⟨a, ws, rfl, l, oc', gg, ea, q⟩ := h
  refine LamX.run_ofS lk hcd S hr e0 b r (by rw [hp]; simp [l]) fun hr' => ⟨_, hb cdv A outer s H E, ?_⟩
  match ws, l with
  | [v], _ =>
    have s0 : (L2.start N [V.ref a, v])[0]? = some (some (V.ref a)) := rfl
    have s1 : (L2.start N [V.ref a, v])[1]? = some (some v) := rfl
    refine ⟨_, s0, a, C, [.str tx], rfl, by simp, oc', ea, ?_⟩
    refine ⟨_, s1, _, s0, a, C, rfl, oc', gg g (by simp), .inl ⟨ea, fun dx hd hne => ?_⟩⟩
    refine q dx _ hd hne upd_same (by rw [upd_ne hne, upd_same]; rfl) fun b h1 h2 => by rw [upd_ne h1, upd_ne h2]
end
def raiseF (C : Addr) (gs : List Str) : FS := fun ds mu => some (.ex C (gs.zip ds).reverse, mu)
def sRaise (C : Addr) (gs : List Str) (fs : List ES) : SS := fun rho mu => bnS (eCall (raiseF C gs) fs rho mu) rho fun _ _ => none
theorem rpa_zip {K : PySem.W.Frag} {al : List Addr} {H : Hp} : ∀ {gs : List Str} {ds : List D} {vs : List V}, Rps K al H ds vs → RpA K al H (gs.zip ds) (gs.zip vs)
  | [], ds, vs, h => ⟨rfl, by simp; exact Rps.nil⟩
  | g :: gs, [], vs, h => by unfold Rps at h; subst h; exact ⟨rfl, by simp; exact Rps.nil⟩
  | g :: gs, d :: ds, vs, h => by
    unfold Rps at h
    obtain ⟨v, r, rfl, h1, h2⟩ := h
    obtain ⟨e, q⟩ := rpa_zip (gs := gs) h2
    exact ⟨by simp only [List.zip_cons_cons, List.map_cons, e], by simp only [List.zip_cons_cons, List.map_cons]; exact Rps.cons h1 q⟩
theorem Rps.rev {K : PySem.W.Frag} {al : List Addr} {H : Hp} : ∀ {ds : List D} {vs : List V}, Rps K al H ds vs → Rps K al H ds.reverse vs.reverse
  | [], vs, h => by unfold Rps at h; subst h; exact Rps.nil
  | d :: ds, vs, h => by
    unfold Rps at h
    obtain ⟨v, r, rfl, h1, h2⟩ := h
    simp only [List.reverse_cons]
    exact (Rps.rev h2).app (Rps.one h1)
theorem rpa_rev {K : PySem.W.Frag} {al : List Addr} {H : Hp} {kvs : List (Str × D)} {vs : List (Str × V)} (h : RpA K al H kvs vs) : RpA K al H kvs.reverse vs.reverse := ⟨by rw [List.map_reverse, List.map_reverse, h.1], by rw [List.map_reverse, List.map_reverse]; exact Rps.rev h.2⟩
/-- C(e, ..): the exception that is made has no context -/
theorem pmk_oexN {X : Cx} {ta : TA} {e : Expr} {es : List Expr} {p pos : Pos} {CX : CXT} {x : Str} {C fI : Addr} {k : Nat} {fd : FuncData} {ps : List Str} {sp : Sp} (T : OexC X.K C) (iC : PySem.W.findIn X.K (.ref C) "__init__" = some (some (.ref fI))) (tI : PySem.W.typeIn X.K (.ref fI) = some (.type "function"))
    (F1 : FnOk X.prog X.w X.K X.mg X.base CX k fI fd ps sp) (hr : Room (k + 1) X.A) (hb : Binds X.K fd ps []) (hx : Passes CX X (fun _ _ _ => False)) (hg : Gl X x) (hm : X.mg x = some (.ref C)) (ha : PA X (e :: es) ta)
    (hdb : (x == ("__debug__" : Str)) = false) (he : starEach (e :: es) X.env = (false, eval e X.env) :: starEach es X.env) (hpl : (backTo pos (starEach es X.env)).any (·.1) = false) : L2N.PMk X (.Call (.Name x p) (e :: es) [] pos) (tMkO C sp [] ta) := by
  intro pins s st H Q I h
  obtain ⟨nm, q, N, bs, bm, sn, sub, ab, col, dd, j0, j1, j2, j3, j5, hC, hbm⟩ := T.cls
  refine wpAny_Call_Name_kw (ld_glob I hg hm ?_ hdb)
  refine PySem.W.callWith_K (h₀ := X.base) I.ok.mod.kin T.kC (thn (ha.run pos pins s st H _ I h) fun us s1 ⟨vs, H1, I1, r1, hz, q1⟩ => ⟨I1.kIn, ?_⟩) he hpl
  show wpAny _ _ (call (.ref C) us) _ _ (_ : Shared)
  obtain ⟨hp, g, dr, tk, os⟩ := s1
  have sz : hp.objs.size ≤ hp.objs.size + 1 := Nat.le_succ _
  have hq := q1 (hp.objs.size + 1) (I1.hok.fresh sz)
  rw [List.append_nil] at hq
  obtain ⟨hp2, e2⟩ : ∃ hp2, hp2 = (hp.push (PySem.W.kdv_tup us)).push (PySem.HandSPX.excO C hp.objs.size) := ⟨_, rfl⟩
  have kk : ∀ b o, hp.get? b = some o → hp2.get? b = some o := fun b o e => by rw [e2]; exact Heap.get?_push_of_some _ (Heap.get?_push_of_some _ e)
  have hget : hp2.get? (hp.objs.size + 1) = some (PySem.HandSPX.excO C hp.objs.size) := by rw [e2]; heap_get
  have I2 : Inv X pins st (upd H1 (hp.objs.size + 1) (exo (hp.objs.size + 1) C none)) ⟨hp2, g, dr, tk, os⟩ := I1.laid (t' := tk) (a := hp.objs.size + 1) (o := exo (hp.objs.size + 1) C none) (h' := hp2) kk sz (exo_ok hget)
  have r2 : Vals (V.ref (hp.objs.size + 1) :: vs) (Value.ref (hp.objs.size + 1) :: us) := .cons rfl r1
  have hl : (Value.ref (hp.objs.size + 1) :: us ++ []).length = ps.length := by
    have z := r2.length
    rw [F1.len _ _ _ _ hq] at z
    rw [List.append_nil]; exact z.symm
  have hus : us.length ≤ sizeLine := by rw [← Paired.length r1, sizeLine_eq]; omega
  have b2 := hb _ (Value.ref (hp.objs.size + 1) :: us) I2.kIn hl
  rw [List.append_nil] at b2
  have run := F1.run _ X.stack _ _ ⟨Value.ref (hp.objs.size + 1) :: us, []⟩ (Value.ref (hp.objs.size + 1) :: us) _ _ (fun _ _ _ => False) (hr.make C us []) (I2.env0.make C us []) b2 r2 hq
  rw [e2] at run
  refine wpAny_call (PySem.HandSPX.call_own F.excBase_ValueError (fun Y => PySem.HandSPX.refsVE_contains Y bm hbm) (I1.kIn _ _ hC) (PySem.W.looks_findIn I1.kIn iC) (fun self => PySem.W.bind_fn I1.kIn self tI) hus (codeAny_mono run fun r s' hq' => ?_))
  match r, hq' with
  | .error er, hq' => rw [← e2] at hq'; exact hx pins st _ _ er s' I2 hq'
  | .ok (.ret u), hq' =>
    obtain ⟨v, H2, os2, bare2, un2, hok2, rv, ev, d, fs, ea, ed, hd1, q2⟩ := hq'
    subst ev
    obtain ⟨h2, g2, d2, t2, os'⟩ := s'
    rw [← e2] at un2
    obtain ⟨t0, G, J, kG, ge, hoe, na⟩ := mk_end0 (d2 := d2) (t2 := t2) I1 sz kk un2 hok2 os2 bare2 ea ed hd1
    exact ⟨rv, hp.objs.size + 1, _, _, ⟨G, g2, d2, t2, os'⟩, _, .ref C, some d, rfl, J, kG, ge, hoe, ⟨rfl, rfl, fun vs hv => by cases hv; rfl⟩, rfl, rfl, na, rfl, bare2, raises_own T.exC T.tyC, q2⟩
theorem pmk_of {X : Cx} {e : Expr} {t : L2.St → Hp → XK → Prop} (h : L2N.PMk X e t) : L2.PMk X e t := fun pins s st H Q I z => thn (h pins s st H Q I z) fun u s' ⟨a, oe, vs, sI, H', cls, d, x1, x2, x3, x4, x5, x6, x7⟩ => ⟨a, oe, vs, sI, H', cls, d, x1, x2, x3, x4, x5, x6.zc, x7⟩
theorem ps_raiseM {m : Md} {X : Cx} {W : WX} {e : Expr} {t : L2.St → Hp → XK → Prop} {pos : Pos} (hc : X.calm = true) (tk : TakesM m X W) (he : L2N.PMk X e t) : PS X (.Raise (some e) none pos) (fun _ s H => t s H fun cls d H' => W cls d s H') := by
  cases m with
  | a => exact ps_raise hc tk (pmk_of he)
  | n => exact L2N.ps_raise hc tk he
section
variable {T : Tb} {X : Cx} {pos pos' p : Pos} {e : Expr} {es : List Expr} {fs : List ES}
theorem st_raise {x : Str} {j k : Nat} {C : Addr} {gs : List Str} (c : Mk X.prog X.w X.K X.mg X.base x k C gs) (hr : Room j X.A) (hk : k + 1 ≤ j) (hcalm : X.calm = true) (hg : Gl X x) (ha : SA T X (e :: es) fs) (hl : fs.length = gs.length := by rfl) (hz : gs.length ≤ 1000 := by decide)
    (hdb : (x == ("__debug__" : Str)) = false := by decide) (he : starEach (e :: es) X.env = (false, eval e X.env) :: starEach es X.env := by rfl) (hpl : (backTo pos (starEach es X.env)).any (·.1) = false := by rfl) :
    ST T X (.Raise (some (.Call (.Name x p) (e :: es) [] pos)) none pos') (sRaise C gs fs) := fun W z ps => by
  obtain ⟨fI, fd, pps, G, iC, tI, b⟩ := c.ex
  have mk := pmk_oexN (pos := pos) (p := p) c.oc iC tI G (hr.mono hk) b (fun _ _ _ _ _ _ _ ⟨_, _, _, _, _, _, _, _, _, _, _, _, q⟩ => q.elim) hg c.mg (ha W z) hdb he hpl
  refine PS.weak (ps_raiseM hcalm z.tk mk) fun De s H ⟨al, rho, mu, sl, sr, w1⟩ => ?_
  refine ⟨al, rho, mu, raiseF C gs, fun _ _ => False, sl, sr, WoS.bn sl w1 fun d mu1 al1 v H1 e1 _ _ _ _ w2 => w2, fun ds mu1 al1 vs H1 hd g1 k1 sr1 rv w2 => ⟨by rw [rv.length, hd, hl]; exact hz, fun a na => ?_⟩⟩
  rw [List.append_nil]
  refine ⟨a, vs, rfl, by rw [rv.length, hd, hl], c.oc, c.gs, upd_same, fun dx H2 hdx hne ea ed ot => ⟨rfl, dx, (gs.zip vs).reverse, ea, ed, ?_, ?_⟩⟩
  · rw [upd_ne hne] at hdx; exact hdx
  · rw [upd_ne hne] at hdx
    have sm : Same H1 (upd (del H2 a) dx (.xd (gs.zip vs).reverse)) := fun b o eb => by
      have n1 : b ≠ dx := fun q => by rw [q, hdx] at eb; cases eb
      have n2 : b ≠ a := fun q => by rw [q, na] at eb; cases eb
      rw [upd_ne n1, del_ne n2, ot b n2 n1, upd_ne n2]
      exact eb
    exact w2 al1 _ dx _ (Gr.refl _) (Kp.same sm) (sr1.same sm) upd_same ((rpa_rev (rpa_zip rv)).mono (Kp.same sm) (Gr.refl _))
end
end DL
set_option Elab.async false
set_option linter.all false
set_option autoImplicit false
set_option maxRecDepth 100000
set_option maxHeartbeats 4000000
/-! DL13: a lambda handed to a def that calls it. -/
namespace DLX
open PySem PySem.Spec PyProof.Rows L2
/-- the function object of a lambda whose defaults stand at dV -/
abbrev lamFd (qual : Str) (params : Arguments) (body : Expr) (scope : Scope) (cl : List (Str × Addr)) (pm cdv ct dV : Value) : FuncData := { PySem.W.kla_fn "<lambda>" qual params body scope cl pm cdv ct with defaults := dV }
abbrev lamOb (qual : Str) (params : Arguments) (body : Expr) (scope : Scope) (cl : List (Str × Addr)) (pm cdv ct dV : Value) : Obj := { cls := .type "function", data := .func (lamFd qual params body scope cl pm cdv ct dV) }
section
variable {M : Model} {A : Around} {E : Value → Shared → Prop} {s : Shared} {qual : Str} {params : Arguments} {body : Expr} {scope : Scope} {env : Env} {c P : Addr} {ps : Array Value} {pos : Pos} {fl : Nat} {mg : Str → Option Value} {cl : List (Str × Addr)} {Q : Value → Shared → Prop} {dV : Value}
theorem tail_new (hcl : closureFor scope env = pure cl) (e0 : env.globals = mainGlobals) (ng : s.heap.Ns mainGlobals mg) (ec : env.code = .ref c) (C : PySem.W.CodeHd s.heap c P) (eP : s.heap.get? P = some (PySem.W.tabObj ps)) (ht : TriplesOk ps.toList)
    (no : codeAmong pos ps.toList = none) (nP : mainGlobals ≠ P) (bb : s.heap.BuiltinsAt mg P)
    (q : ∀ c' ctv h' tk, Heap.ExtBut P s.heap h' → s.heap.objs.size ≤ c' → c' < h'.objs.size → h'.CodeRec (.ref c') qual → h'.get? P = some (PySem.W.tabObj (ps ++ #[rawInt pos.line, rawInt pos.col, .ref c'])) →
      Q (.ref h'.objs.size) { s with heap := h'.push (lamOb qual params body scope cl ((mg "__name__").getD .none) (.ref c') ctv dV), toks := tk }) : wpAny M A (makeTail "<lambda>" qual params (.expr body) scope env dV .none none pos fl) Q E s := by
  obtain ⟨bm, ob, b1, b2, _, b3, b4, b5, b6, b7⟩ := bb
  unfold makeTail
  rw [hcl, e0]
  refine wpAny_bind (wpAny_pure ?_)
  cases cl with
  | nil =>
    simp only [List.isEmpty_nil, if_true]
    refine wpAny_bind (wpAny_pure (wpAny_bind (wpAny_functionCodeX ec (C.code eP ht) (C.tab eP) no fun c' h' tk x1 x2 x3 _ x4 x5 _ => ?_)))
    have ng' := ng.extBut x1 nP
    exact wpAny_bind (wpAny_builtinsFor ng' b1 b2 (x1 _ _ b3 b4) b5 b6 b7 (wpAny_bind (wpAny_nsGet ng' (wpAny_bind (wpAny_pure (wpAny_newObj_type (q c' .none h' tk x1 x2 x3 x4 x5.2) (by size_fits)))))))
  | cons a r =>
    simp only [List.isEmpty_cons, Bool.false_eq_true, if_false]
    have kp : ∀ {o1 : Obj} b o, s.heap.get? b = some o → (s.heap.push o1).get? b = some o := fun b o e => Heap.get?_push_of_some _ e
    refine wpAny_bind (wpAny_newTextTuple (wpAny_bind (wpAny_functionCodeX ec ((C.keeps kp).code (kp _ _ eP) ht) ((C.keeps kp).tab (kp _ _ eP)) no fun c' h' tk x1 x2 x3 _ x4 x5 _ => ?_)))
    have ng' := (ng.push _).extBut x1 nP
    have y1 : Heap.ExtBut P s.heap h' := fun b o hb e => x1 b o hb (kp _ _ e)
    have y2 : s.heap.objs.size ≤ c' := Nat.le_trans (by rw [Heap.size_push]; omega) x2
    exact wpAny_bind (wpAny_builtinsFor ng' b1 b2 (y1 _ _ b3 b4) b5 b6 b7 (wpAny_bind (wpAny_nsGet ng' (wpAny_bind (wpAny_pure (wpAny_newObj_type (q c' _ h' tk y1 y2 x3 x4 x5.2) (by size_fits)))))))
theorem tail_hit {cv : Value} (hcl : closureFor scope env = pure cl) (e0 : env.globals = mainGlobals) (ng : s.heap.Ns mainGlobals mg) (ec : env.code = .ref c) (C : PySem.W.CodeHd s.heap c P) (eP : s.heap.get? P = some (PySem.W.tabObj ps)) (ht : TriplesOk ps.toList)
    (yes : codeAmong pos ps.toList = some cv) (bb : s.heap.BuiltinsAt mg P)
    (q : ∀ (ctv : Value) (h' : Heap) (tk : Tok), (∀ b o, s.heap.get? b = some o → h'.get? b = some o) → s.heap.objs.size ≤ h'.objs.size → Q (.ref h'.objs.size) { s with heap := h'.push (lamOb qual params body scope cl ((mg "__name__").getD .none) cv ctv dV), toks := tk }) :
    wpAny M A (makeTail "<lambda>" qual params (.expr body) scope env dV .none none pos fl) Q E s := by
  obtain ⟨bm, ob, b1, b2, _, b3, b4, b5, b6, b7⟩ := bb
  unfold makeTail
  rw [hcl, e0]
  refine wpAny_bind (wpAny_pure ?_)
  cases cl with
  | nil =>
    simp only [List.isEmpty_nil, if_true]
    exact wpAny_bind (wpAny_pure (wpAny_bind (wpAny_functionCode_hit ec (C.code eP ht) yes (wpAny_bind (wpAny_builtinsFor ng b1 b2 b4 b5 b6 b7 (wpAny_bind (wpAny_nsGet ng (wpAny_bind (wpAny_pure (wpAny_newObj_type (q .none s.heap s.toks (fun _ _ e => e) (Nat.le_refl _)) (by size_fits)))))))))))
  | cons a r =>
    simp only [List.isEmpty_cons, Bool.false_eq_true, if_false]
    have kp : ∀ {o1 : Obj} b o, s.heap.get? b = some o → (s.heap.push o1).get? b = some o := fun b o e => Heap.get?_push_of_some _ e
    have sz : ∀ o1 : Obj, s.heap.objs.size ≤ (s.heap.push o1).objs.size := fun o1 => by rw [Heap.size_push]; omega
    exact wpAny_bind (wpAny_newTextTuple (wpAny_bind (wpAny_functionCode_hit ec ((C.keeps kp).code (kp _ _ eP) ht) yes (wpAny_bind (wpAny_builtinsFor (ng.push _) b1 b2 (kp _ _ b4) b5 b6 b7 (wpAny_bind (wpAny_nsGet (ng.push _) (wpAny_bind (wpAny_pure (wpAny_newObj_type (q _ _ s.toks kp (sz _)) (by size_fits)))))))))))
end
theorem among_left {p : Pos} {cv : Value} (m : List Value) : ∀ (l : List Value), codeAmong p l = some cv → codeAmong p (l ++ m) = some cv := fun l h => by
  fun_induction codeAmong p l with
  | case1 a t b u x rest q => 
    simp only [List.cons_append]
    unfold codeAmong
    rw [if_pos q]; exact h
  | case2 a t b u x rest q ih =>
    simp only [List.cons_append]
    unfold codeAmong
    rw [if_neg q]; exact ih h
  | case3 l hl => cases h
theorem among_snoc {p : Pos} {c : Value} (l : List Value) (ht : TriplesOk l) (h : codeAmong p l = none) : codeAmong p (l ++ [rawInt p.line, rawInt p.col, c]) = some c := by
  fun_induction TriplesOk l with
  | case1 => simp [rawInt, codeAmong]
  | case2 a t b u x rest ih =>
    simp only [codeAmong] at h
    split at h
    · cases h
    · rename_i q
      simp only [List.cons_append, codeAmong]
      rw [if_neg q]
      exact ih ht h
  | case3 l h1 h2 => exact ht.elim
section
variable {X : Cx} {pins : List (Addr × Obj)} {st : L2.St} {H : Hp} {s : Shared}
theorem lam_tail {T : List (Addr × Str)} {c P : Addr} {params : Arguments} {body : Expr} {scope : Scope} {pos : Pos} {E : Value → Shared → Prop} {Q : Value → Shared → Prop} {dV : Value} (I : Inv X pins st H s) (TB : LamX.TabB X.base X.mg c P) (ec : X.env.code = .ref c)
    (mT : (P, X.env.qual ++ "<lambda>") ∈ T) (uT : ∀ p ∈ T, p.1 = P → p.2 = X.env.qual ++ "<lambda>") (hT : LamX.Tabs T H) (fr : ∀ y ∈ scope.names, y.2 = .free → ∃ c, X.env.cells.lookup y.1 = some c)
    (h : ∀ (f c' : Addr) (pm ctv : Value) (H1 : Hp) (s' : Shared) (ps1 : Array Value), Inv X pins st H1 s' → LamX.ExtN H H1 → LamX.Tabs T H1 → s'.heap.get? f = some (lamOb (X.env.qual ++ "<lambda>") params body scope (cloFrom X.env.cells scope.names []) pm (.ref c') ctv dV) → H1 f = none → f ∉ frs X.stack →
      H1 P = some (.tbl ps1) → codeAmong pos ps1.toList = some (.ref c') → (∀ b o, b ≠ P → s.heap.get? b = some o → s'.heap.get? b = some o) → (∀ b o, s.heap.get? b = some o → H b = none → H1 b = none) → Q (.ref f) s') :
    wpAny (model X.prog X.w) X.A (makeTail "<lambda>" (X.env.qual ++ "<lambda>") params (.expr body) scope X.env dV .none none pos pos.line) Q E s := by
  obtain ⟨ps, eP, ht, ha⟩ := hT _ mT
  have bP : s.heap.BuiltinsAt X.mg P := TB.bm.keeps I.bk
  have eP' : s.heap.get? P = some { cls := .none, data := .fields ps } := I.hok P _ eP
  have nofr : ∀ f, s.heap.objs.size ≤ f → f ∉ frs X.stack := fun f hf z => by
    rcases List.mem_cons.mp (I.stkSub _ z) with e | e
    · have l := I.lt
      rw [← e] at l
      exact absurd (Nat.lt_of_lt_of_le l hf) (Nat.lt_irrefl _)
    · exact I.nofs hf e
  cases hc : codeAmong pos ps.toList with
  | none =>
    refine tail_new (mg := X.mg) (c := c) (P := P) (ps := ps) (closure_ok fr) I.ok.glob (I.mod.glob.keeps I.bk) ec (TB.code.keeps I.bk) eP' ht hc TB.gP bP fun c' ctv h' tk x1 x2 x3 x4 x5 => ?_
    obtain ⟨c2, oc, vs, t, e2, hoc, hd, hv⟩ := x4
    cases e2
    have sz : s.heap.objs.size ≤ h'.objs.size := Nat.le_trans x2 (Nat.le_of_lt x3)
    have nC : H c' = none := I.hok.fresh x2
    have I1 := LamX.inv_table (t' := tk) (more := #[rawInt pos.line, rawInt pos.col, .ref c']) (h' := h'.push (lamOb (X.env.qual ++ "<lambda>") params body scope (cloFrom X.env.cells scope.names []) ((X.mg "__name__").getD .none) (.ref c') ctv dV)) I eP
      (fun b o hb e => Heap.get?_push_of_some _ (x1 b o hb e)) (Heap.get?_push_of_some _ x5) x2 ⟨oc, vs, t, Heap.get?_push_of_some _ hoc, hd, hv⟩
    have hE : LamX.ExtN H (upd (upd H P (.tbl (ps ++ #[rawInt pos.line, rawInt pos.col, .ref c']))) c' (LamX.CodeO c' (X.env.qual ++ "<lambda>"))) := fun b o e n => by
      have n2 : b ≠ P := fun z => n ps (Option.some.inj (e.symm.trans (by rw [z]; exact eP)))
      rw [upd_ne (ne_of_none e nC), upd_ne n2]; exact e
    have eL : (ps ++ #[rawInt pos.line, rawInt pos.col, .ref c']).toList = ps.toList ++ [rawInt pos.line, rawInt pos.col, .ref c'] := by simp
    have e1 : upd (upd H P (.tbl (ps ++ #[rawInt pos.line, rawInt pos.col, .ref c']))) c' (LamX.CodeO c' (X.env.qual ++ "<lambda>")) P = some (.tbl (ps ++ #[rawInt pos.line, rawInt pos.col, .ref c'])) := by rw [upd_ne (ne_of_none eP nC), upd_same]
    refine h h'.objs.size c' _ ctv _ _ _ I1 hE (fun p hp => ?_) (Heap.get?_push_size _ rfl) ?_ (nofr _ sz) e1 (by rw [eL]; exact among_snoc _ ht hc) (fun b o hb e => Heap.get?_push_of_some _ (x1 b o hb e)) (fun b o e n => by
      have n1 : b ≠ P := fun q => by rw [q, eP] at n; cases n
      rw [upd_ne (Nat.ne_of_lt (Nat.lt_of_lt_of_le (Heap.lt_size e) x2)), upd_ne n1]; exact n)
    · by_cases hb : p.1 = P
      · rw [uT p hp hb, hb]
        refine ⟨_, e1, by rw [eL]; exact PySem.TriplesOk_snoc _ _ _ _ ht, fun p' cv hcv => ?_⟩
        rw [eL] at hcv
        rcases LamX.among_app _ ht hcv with z | z
        · obtain ⟨c0, f1, f2⟩ := ha p' cv z
          exact ⟨c0, f1, hE _ _ f2 LamX.codeO_ne⟩
        · exact ⟨c', z, upd_same⟩
      · obtain ⟨ps', a1, a2, a3⟩ := hT p hp
        refine ⟨ps', by rw [upd_ne (ne_of_none a1 nC), upd_ne hb]; exact a1, a2, fun p' cv hcv => ?_⟩
        obtain ⟨c0, f1, f2⟩ := a3 p' cv hcv
        exact ⟨c0, f1, hE _ _ f2 LamX.codeO_ne⟩
    · rw [upd_ne (Nat.ne_of_gt x3), upd_ne (Nat.ne_of_gt (Nat.lt_of_lt_of_le (Heap.lt_size eP') sz))]
      exact I.hok.fresh sz
  | some cv =>
    obtain ⟨c', e, hco⟩ := ha pos cv hc
    subst e
    refine tail_hit (mg := X.mg) (c := c) (P := P) (ps := ps) (closure_ok fr) I.ok.glob (I.mod.glob.keeps I.bk) ec (TB.code.keeps I.bk) eP' ht hc bP fun ctv h' tk x1 x2 => ?_
    have I1 : Inv X pins st H { s with heap := h'.push (lamOb (X.env.qual ++ "<lambda>") params body scope (cloFrom X.env.cells scope.names []) ((X.mg "__name__").getD .none) (.ref c') ctv dV), toks := tk } := I.kept fun b o e => Heap.get?_push_of_some _ (x1 b o e)
    exact h h'.objs.size c' _ ctv H _ ps I1 (LamX.ExtN.refl H) hT (Heap.get?_push_size _ rfl) (I.hok.fresh x2) (nofr _ x2) eP hc (fun b o _ e => Heap.get?_push_of_some _ (x1 b o e)) (fun b o _ n => n)
end
/-! ### the lambda's own context -/
/-- its parameters are xs, it has no cell of its own; captured names and globals else -/
structure LamP (sc scope : Scope) (xs : List Str) : Prop where
  kind : scope.kind = .function
  co : scope.isCoroutine = false
  gen : scope.isGenerator = false
  own : ∀ y ∈ scope.names, y.2 ≠ .cell ∧ (y.2 = .local → y.1 ∈ xs)
  free : ∀ y ∈ scope.names, y.2 = .free → sc.names.lookup y.1 = some .cell ∨ sc.names.lookup y.1 = some .free
  par : ∀ x ∈ xs, scope.names.lookup x = some .local
def lamPB (sc scope : Scope) (xs : List Str) : Bool :=
  decide (scope.kind = .function) && !scope.isCoroutine && !scope.isGenerator && (scope.names.all fun y => !decide (y.2 = .cell) && (!decide (y.2 = .local) || decide (y.1 ∈ xs)) && (!decide (y.2 = .free) || decide (sc.names.lookup y.1 = some .cell) || decide (sc.names.lookup y.1 = some .free))) && xs.all fun x => decide (scope.names.lookup x = some .local)
theorem lamP_by {sc scope : Scope} {xs : List Str} (h : lamPB sc scope xs = true) : LamP sc scope xs := by
  unfold lamPB at h
  simp only [Bool.and_eq_true, Bool.or_eq_true, Bool.not_eq_true', decide_eq_true_eq, decide_eq_false_iff_not, List.all_eq_true] at h
  obtain ⟨⟨⟨⟨h1, h2⟩, h3⟩, h4⟩, h5⟩ := h
  refine ⟨h1, h2, h3, fun y hy => ⟨(h4 y hy).1.1, fun e => ?_⟩, fun y hy e => ?_, h5⟩
  · rcases (h4 y hy).1.2 with z | z
    · exact absurd e z
    · exact z
  · rcases (h4 y hy).2 with (z | z) | z
    · exact absurd e z
    · exact .inl z
    · exact .inr z
theorem LamP.has {X : Cx} {scope : Scope} {xs : List Str} (L : LamP X.env.scope scope xs) (ok : X.Ok) : ∀ y ∈ scope.names, y.2 = .free → ∃ c, X.env.cells.lookup y.1 = some c := fun y hy e => by
  rcases L.free y hy e with k | k
  · exact ok.has _ (.inl k)
  · exact ok.has _ (.inr k)
section
variable {X : Cx} {pins : List (Addr × Obj)} {st st' : L2.St} {H HZ : Hp} {s s1 : Shared}
theorem lam_enter {A : Around} {outer : List Env} {E : XK} {scope : Scope} {xs : List Str} {bs : List (Str × Value)} {f c' : Addr} {h1 : Heap} {tk : Nat} (I : Inv X pins st H s) (L : LamP X.env.scope scope xs) (e0 : Env0 X.prog X.w X.K X.mg X.base A outer s1 HZ) (hd : A.handled = none)
    (un : Un (frs X.stack) [] H HZ s.heap s1.heap) (hns : h1.Ns s1.heap.objs.size fun y => bs.reverse.lookup y) (kp : ∀ b o, s1.heap.get? b = some o → h1.get? b = some o)
    (hl : st'.length = st.length) (hst : ∀ (i : Nat) (y : Str) (v : V), X.N[i]? = some y → st'[i]? = some (some v) → y ∉ xs ∧ st[i]? = some (some v)) :
    Inv (LamX.lamCx X A outer s1 HZ E scope f c') [] st' HZ { s1 with heap := h1, toks := tk } := by
  have hfree := L.has I.ok
  have cm : ∀ {y c}, (cloFrom X.env.cells scope.names []).lookup y = some c → X.env.cells.lookup y = some c := fun {y c} e => by
    rcases cloFrom_mem (PySem.mem_of_lookup e) with hm | ⟨g1, g2⟩
    · cases hm
    · obtain ⟨c1, hc⟩ := hfree _ g1 rfl
      have hc : X.env.cells.lookup y = some c1 := hc
      have z : c = c1 := by rw [g2, hc] <;> rfl
      rw [z]; exact hc
  have look : ∀ {y}, scope.names.lookup y = some .free → ∃ c, (cloFrom X.env.cells scope.names []).lookup y = some c := fun {y} hl => mem_lookup (cloFrom_has (cells := X.env.cells) (acc := []) (PySem.mem_of_lookup hl : (y, NameKind.free) ∈ scope.names))
  have ck : ∀ {c : Addr} {v : Option Value}, H c = none → s.heap.IsCell c v → h1.IsCell c v := fun {c v} n ⟨o, ho, hd⟩ => by
    obtain ⟨sl, q⟩ := un.any ho n (by simp)
    exact ⟨_, kp _ _ q, hd⟩
  have noA : ∀ b : Addr, b ∉ (LamX.lamCx X A outer s1 HZ E scope f c').ex := fun b z => nomatch (show b ∈ ([] : List Addr) from z)
  refine ⟨⟨e0.mod, L.kind, rfl, rfl, Nat.le_refl _, fun y z c e1 e2 => I.ok.inj y z c (cm e1) (cm e2), fun y hy => ?_, fun y c z _ => (nomatch (show false = true from z)), fun _ => hd, Around.frames_deeper e0.frames, .inr ⟨rfl, rfl⟩, fun b z => absurd z (noA b), e0.bs, e0.bsz, fun b _ _ => noA b,
      fun b z => absurd z (noA b), e0.funs, e0.frf⟩,
    rfl, e0.bare, Un.kept kp, ⟨_, hns, fun i y v e1 e2 e3 => ?_⟩, fun y c e => ?_, e0.hok.fresh (Nat.le_refl _), fun y c e => ?_, fun q hq => (nomatch (show q ∈ ([] : List (Addr × Obj)) from hq)), e0.hok.kept kp, hl.trans I.len⟩
  · rcases (show scope.names.lookup y = some .cell ∨ scope.names.lookup y = some .free from hy) with hy | hy
    · exact absurd rfl (L.own _ (PySem.mem_of_lookup hy)).1
    · exact look hy
  · obtain ⟨n1, n2⟩ := hst i y v e1 e2
    rcases (show Vis scope y from e3) with k | k | k
    · exact absurd ((L.own _ (PySem.mem_of_lookup k)).2 rfl) n1
    · exact absurd rfl (L.own _ (PySem.mem_of_lookup k)).1
    · obtain ⟨m, hn, hlk⟩ := I.loc
      have vis : Vis X.env.scope y := (L.free _ (PySem.mem_of_lookup k) rfl).elim (fun k => .inr (.inl k)) (fun k => .inr (.inr k))
      obtain ⟨w', r, q⟩ := hlk i y v e1 n2 vis
      obtain ⟨c2, h2⟩ := look k
      refine ⟨w', r, .inr ⟨.inr k, c2, h2, ?_⟩⟩
      have c1 := cm h2
      rcases q with ⟨k', _⟩ | ⟨_, c3, e', z⟩
      · have k' : X.env.scope.names.lookup y = some .local := k'
        rcases L.free _ (PySem.mem_of_lookup k) rfl with k2 | k2 <;> rw [show X.env.scope.names.lookup y = _ from k2] at k' <;> cases k'
      · rw [c1] at e'
        cases e'
        exact ck (I.freeC y _ c1) z
  · obtain ⟨w', z⟩ := I.cell y c (cm e)
    exact ⟨w', ck (I.freeC y c (cm e)) z⟩
  · obtain ⟨v, o, ho, hd⟩ := I.cell y c (cm e)
    exact un.free c o ho (I.freeC y c (cm e)) (by simp)
end
end DLX
set_option Elab.async false
set_option linter.all false
set_option autoImplicit false
set_option maxRecDepth 100000
set_option maxHeartbeats 4000000
/-! DL14: the rules for x(lambda: e) and for the call of what was handed. -/
namespace DLX
open PySem PySem.Spec PyProof.Rows L2
/-- the defaults at dV: none, or one value -/
def DfOk (xs : List Str) (dV : Value) (h : Heap) : Prop := (xs = [] ∧ dV = .none) ∨ ∃ (y : Str) (d : Addr) (v : Value), xs = [y] ∧ dV = .ref d ∧ h.get? d = some { cls := .type "tuple", data := .seq [v].toArray }
/-- a lambda's parameters xs: all of them have a default; how it is made and bound -/
structure LamA (X : Cx) (params : Arguments) (body : Expr) (scope : Scope) (pos : Pos) (xs : List Str) : Prop where
  mak : ∀ (pins : List (Addr × Obj)) (st : L2.St) (H : Hp) (s : Shared) (Q : Value → Shared → Prop) (E : Value → Shared → Prop), Inv X pins st H s →
    (∀ dV s1, Inv X pins st H s1 → DfOk xs dV s1.heap → (∀ d, dV = .ref d → H d = none ∧ d ∉ frs X.stack) → wpAny (model X.prog X.w) X.A (makeTail "<lambda>" (X.env.qual ++ "<lambda>") params (.expr body) scope X.env dV .none none pos pos.line) Q E s1) →
    wpAny (model X.prog X.w) X.A (eval (.Lambda params body scope pos) X.env) Q E s
  bd : ∀ (q : Str) (cl : List (Str × Addr)) (pm cv ctv dV : Value) (s : Shared), DfOk xs dV s.heap → ∃ bs, bs.map (·.1) = xs ∧ BindsTo s (lamFd q params body scope cl pm cv ctv dV) ⟨[], []⟩ bs
theorem lamA_0 {X : Cx} {params : Arguments} {body : Expr} {scope : Scope} {pos : Pos} (hdef : defaultsOf params X.env = ([], [])) (hb : ∀ (q : Str) (cl : List (Str × Addr)) (pm cv ctv : Value), bindArgs (lamFd q params body scope cl pm cv ctv .none) ⟨[], []⟩ = pure []) : LamA X params body scope pos [] where
  mak := fun pins st H s Q E I h => by
    refine PySem.W.kla_eval hdef ?_
    rw [makeFunction_eq]
    simp only [List.zip_nil_right, List.filterMap_nil, List.isEmpty_nil, if_true, pure_bind]
    exact h .none s I (.inl ⟨rfl, rfl⟩) fun d e => nomatch e
  bd := fun q cl pm cv ctv dV s h => by
    rcases h with ⟨_, rfl⟩ | ⟨y, d, v, e, _⟩
    · exact ⟨[], rfl, .of_eq (hb q cl pm cv ctv)⟩
    · cases e
end DLX

namespace DL
open PySem PySem.Spec PyProof.Rows L2
theorem SR.extN {K : PySem.W.Frag} {T : Tb} {al : List Addr} {mu : Mu} {H H1 : Hp} (r : SR K T al mu H) (e : LamX.ExtN H H1) (t : LamX.Tabs T.tb H1) : SR K T al mu H1 := by
  have kp : Kp H H1 := ⟨fun b xs h => e b _ h (fun ps z => nomatch z), fun b o u h => e b _ h (fun ps z => nomatch z)⟩
  refine ⟨r.len, r.nd, fun j c a e1 e2 => ?_, t, r.pre⟩
  have h := r.ok j c a e1 e2
  cases c with
  | lst xs => obtain ⟨vs, g, q⟩ := h; exact ⟨vs, e _ _ g (fun ps z => nomatch z), Rps.mono kp (Gr.refl _) _ _ q⟩
  | dct kvs => obtain ⟨vs, g, q⟩ := h; exact ⟨vs, e _ _ g (fun ps z => nomatch z), q.mono kp (Gr.refl _)⟩
  | fdc kvs => obtain ⟨o, vs, g, q⟩ := h; exact ⟨o, vs, e _ _ g (fun ps z => nomatch z), q.mono kp (Gr.refl _)⟩
  | ins C fs => obtain ⟨dx, vs, g, q⟩ := h; exact ⟨dx, vs, e _ _ g (fun ps z => nomatch z), q.mono kp (Gr.refl _)⟩
  | exc C fs => obtain ⟨dd, vs, g, g2, q⟩ := h; exact ⟨dd, vs, e _ _ g (fun ps z => by unfold ExH at z; cases z), e _ _ g2 (fun ps z => nomatch z), q.mono kp (Gr.refl _)⟩
theorem Kp.extN {H H1 : Hp} (e : LamX.ExtN H H1) : Kp H H1 := ⟨fun b xs h => e b _ h (fun ps z => nomatch z), fun b o u h => e b _ h (fun ps z => nomatch z)⟩
/-- the same store, its head fixed -/
theorem SR.fix {K : PySem.W.Frag} {T : Tb} {al : List Addr} {mu : Mu} {H : Hp} (r : SR K T al mu H) : SR K ⟨T.tb, al, T.md⟩ al mu H := ⟨r.len, r.nd, r.ok, r.tabs, Gr.refl _⟩
theorem SR.unfix {K : PySem.W.Frag} {T : Tb} {al al' : List Addr} {mu : Mu} {H : Hp} (p : Gr T.pre al) (r : SR K ⟨T.tb, al, T.md⟩ al' mu H) : SR K T al' mu H := ⟨r.len, r.nd, r.ok, r.tabs, p.trans r.pre⟩
theorem Wo.fix {K : PySem.W.Frag} {T : Tb} {a0 al : List Addr} {H : Hp} {Q : VK} {E : XK} {r : Ro} (p : Gr T.pre a0) (h : Wo K T al H Q E r) : Wo K ⟨T.tb, a0, T.md⟩ al H Q E r := by
  match r with
  | none => exact h
  | some (.ok d, mu) => exact fun a v H2 g k sr q => h a v H2 g k (sr.unfix p) q
  | some (.ex C fs, mu) => exact fun a H2 dd vs g k sr e q => h a H2 dd vs g k (sr.unfix p) e q
/-- a promise, the head fixed -/
theorem Fx.fix {P : Program} {w : World} {K : PySem.W.Frag} {mg : Str → Option Value} {base : Heap} {tb : List (Addr × Str)} {md : Md} {x : Str} {k n : Nat} {F : FS} (h : Fx P w K mg base ⟨tb, [], md⟩ x k n F) (pre : List Addr) : Fx P w K mg base ⟨tb, pre, md⟩ x k n F := by
  obtain ⟨f, fd, ps, G, a, b, c, d⟩ := h.ex
  refine ⟨f, fd, ps, G.imp fun vs H Q E ⟨l, al, mu, ds, sr, r, w⟩ => ⟨l, al, mu, ds, ⟨sr.len, sr.nd, sr.ok, sr.tabs, fun j a e => nomatch e⟩, r, ?_⟩, a, b, c, d⟩
  match hr : F ds mu with
  | none => rw [hr] at w; exact w
  | some (.ok d, mu') => rw [hr] at w; exact fun a v H2 g k sr2 q => w a v H2 g k ⟨sr2.len, sr2.nd, sr2.ok, sr2.tabs, sr.pre.trans g⟩ q
  | some (.ex C fs, mu') => rw [hr] at w; exact fun a H2 dd vs g k sr2 e q => w a H2 dd vs g k ⟨sr2.len, sr2.nd, sr2.ok, sr2.tabs, sr.pre.trans g⟩ e q
theorem fnS_wo {K : PySem.W.Frag} {T : Tb} {al : List Addr} {H : Hp} {Q : VK} {E : XK} {n : Nat} {m : SS} {ds : List D} {mu : Mu} (p : Wo K T al H Q E (fnS n m ds mu)) : WoS K T al H { nx := fun _ H' => Q .non H', rt := Q } (fun cls d _ H' => E cls d H') (m (ds.map some ++ List.replicate (n - ds.length) none) mu) := by
  unfold fnS at p
  match q : m (ds.map some ++ List.replicate (n - ds.length) none) mu with
  | none => rw [q] at p; exact p
  | some (.nx, rho1, mu1) =>
    rw [q] at p
    exact fun al1 s1 H1 g1 k1 sl1 sr1 => p al1 .non H1 g1 k1 sr1 (by unfold Rp; rfl)
  | some (.bk, rho1, mu1) => rw [q] at p; exact p.elim
  | some (.ct, rho1, mu1) => rw [q] at p; exact p.elim
  | some (.rt d, rho1, mu1) => rw [q] at p; exact p
  | some (.ex C fs, rho1, mu1) =>
    rw [q] at p
    exact fun al1 s1 H1 dd vs g1 k1 sl1 sr1 e1 e2 => p al1 H1 dd vs g1 k1 sr1 e1 e2
/-- a() of the lambda at f -/
def eAct (f : Addr) (cl : Mu → Ro) : ES := fun rho mu => match (rho[0]? : Option (Option D)) with
  | some (some (.adr g)) => if g = f then cl mu else none
  | _ => none
/-- x(lambda: e): G is what x does with the call -/
def eLam (G : (Mu → Ro) → Mu → Ro) (rm : Rho → Rho) (t : ES) : ES := fun rho mu => G (fun mu' => t (rm rho) mu') mu
/-- how the slots look in the lambda -/
structure Rm (X : Cx) (xs : List Str) (rm : Rho → Rho) (rs : L2.St → L2.St) : Prop where
  len : ∀ s, (rs s).length = s.length
  out : ∀ (s : L2.St) (i : Nat) (y : Str) (v : V), X.N[i]? = some y → (rs s)[i]? = some (some v) → y ∉ xs ∧ s[i]? = some (some v)
  sl : ∀ {K : PySem.W.Frag} {al : List Addr} {H : Hp} {rho : Rho} {s : L2.St}, SL K al H rho s → SL K al H (rm rho) (rs s)
theorem rm_0 {X : Cx} : Rm X [] id id := ⟨fun _ => rfl, fun s i y v _ e => ⟨by simp, e⟩, fun h => h⟩
section
variable {T : Tb} {X : Cx} {x a : Str} {g c P : Addr} {j k kb : Nat} {st : Stmt} {fd : FuncData} {Ng : List Str} {params : Arguments} {body : Expr} {scope : Scope} {xs : List Str} {rm : Rho → Rho} {rs : L2.St → L2.St} {t : ES} {p lpos pos : Pos} {m : Addr → (Mu → Ro) → SS} {G : (Mu → Ro) → Mu → Ro}
theorem se_lam (hmd : T.md = .a) (hg : Gl X x) (hm : X.mg x = some (.ref g)) (F : L2.Fun X.K x x st g fd) (hb : Binds X.K fd [a] []) (Sg : FnScope Ng [a] (defScope st)) (hNg : Ng[0]? = some a) (hva : Vis (defScope st) a)
    (hG : ∀ (T' : Tb) (cdv : Value) (A : Around) (outer : List Env) (s : Shared) (H : Hp) (E : XK) (f : Addr) (cl : Mu → Ro), T'.tb = T.tb → T'.md = .a → Room k (A.deeper (envOfC x (defScope st) s.heap.objs.size g cdv)) →
      (∀ (pn : List (Addr × Obj)) (xe : Value → Shared → Prop) (p1 p2 : Pos), SE T' ((cxOf (L2.CX X.prog X.w) X.prog X.w X.K X.mg X.base Ng x (defScope st) g cdv A outer s H E).tr pn xe) (.Call (.Name a p1) [] [] p2) (eAct f cl)) →
      STs T' (cxOf (L2.CX X.prog X.w) X.prog X.w X.K X.mg X.base Ng x (defScope st) g cdv A outer s H E) (defBody st) (m f cl))
    (hind : ∀ f cl mu, fnS Ng.length (m f cl) [.adr f] mu = G cl mu)
    (TB : LamX.TabB X.base X.mg c P) (ec : X.env.code = .ref c) (mT : (P, X.env.qual ++ "<lambda>") ∈ T.tb) (uT : ∀ p ∈ T.tb, p.1 = P → p.2 = X.env.qual ++ "<lambda>") (hr : Room j X.A) (hj : k + 1 ≤ j) (hkb : kb + 1 ≤ k)
    (L : DLX.LamP X.env.scope scope xs) (LA : DLX.LamA X params body scope lpos xs) (R : Rm X xs rm rs)
    (hbody : ∀ (T' : Tb) (A : Around) (outer : List Env) (s : Shared) (H : Hp) (E : XK) (f c' : Addr), T'.tb = T.tb → T'.md = .a → Room kb (A.deeper (LamX.lamEnv X scope s.heap.objs.size f c')) → SE T' (LamX.lamCx X A outer s H E scope f c') body t)
    (hdb : (x == ("__debug__" : Str)) = false := by decide) (hd : (a == ("__debug__" : Str)) = false := by decide) (hcd : (a == ("__classdict__" : Str)) = false := by decide) :
    SE T X (.Call (.Name x p) [.Lambda params body scope lpos] [] pos) (eLam G rm t) := fun W z => by
  obtain ⟨oc, od, kV, doc, pm0, an, cdv, ct, osl, rfl, lk, hcg⟩ := F.ex
  refine ⟨fun pins s0 s H Q I ⟨al, rho, mu, sl, sr, w⟩ => ?_⟩
  refine wpAny_Call_Name_kw (ld_glob I hg hm ?_ hdb)
  refine PySem.W.callWith_K (h₀ := X.base) I.ok.mod.kin F.kp ?_ (by rfl) (by rfl)
  show wpAny _ _ (spliced ((false, eval (.Lambda params body scope lpos) X.env) :: backTo pos (starEach [] X.env))) _ _ (s0 : Shared)
  refine Calls.spliced_cons (LA.mak pins s H s0 _ _ I fun dV s1 I1 dok dn => DLX.lam_tail I1 TB ec mT uT sr.tabs (L.has I.ok) fun f c' pm ctv H1 s2 ps1 I2 eN T1 hf hfn hfr eP1 hcP kp kn => Calls.spliced_nil ⟨I2.kIn, ?_⟩)
  have sr1 : SR X.K T al mu H1 := sr.extN eN T1
  have sl1 : SL X.K al H1 rho s := sl.mono (Kp.extN eN) (Gr.refl _)
  have ztk : Takes X W := by have q := z.tk; rw [hmd] at q; exact q
  have w1 : Wo X.K ⟨T.tb, al, T.md⟩ al H1 Q (WE W s) (eLam G rm t rho mu) := Wo.fix sr.pre (Wo.mono w (Gr.refl _) (Kp.extN eN))
  have dok2 : ∀ d, dV = .ref d → ∀ o, s1.heap.get? d = some o → s2.heap.get? d = some o ∧ H1 d = none ∧ d ∉ frs X.stack := fun d e o ho => by
    obtain ⟨n1, n2⟩ := dn d e
    have ndP : d ≠ P := fun q => by
      obtain ⟨ps, e1, _⟩ := sr.tabs _ mT
      rw [q, e1] at n1; cases n1
    exact ⟨kp d o ndP ho, kn d o ho n1, n2⟩
  have dok3 : DLX.DfOk xs dV s2.heap := by
    rcases dok with h | ⟨y, d, v, e1, e2, e3⟩
    · exact .inl h
    · exact .inr ⟨y, d, v, e1, e2, (dok2 d e2 _ e3).1⟩
  have rc : codeAny (model X.prog X.w) X.A (.call (.ref g) ⟨[.ref f], []⟩) (CR (L2.CX X.prog X.w) X.stack X.prog X.w H1 s2 Q (WE W s)) s2 := by
    refine LamX.run_ofS (N := Ng) (ps := [a]) (us := [.ref f]) (vs := [.ref f]) (k := k) lk hcg Sg (hr.mono hj) I2.env0 (hb s2 [.ref f] I2.kIn rfl) (.cons rfl .nil) rfl fun hr' => ?_
    refine ⟨_, hG ⟨T.tb, al, T.md⟩ cdv X.A X.stack s2 H1 (WE W s) f (fun mu' => t (rm rho) mu') rfl hmd hr' ?_ (fun cls d _ H' => WE W s cls d H') ⟨by rw [hmd]; exact takes_of rfl rfl rfl rfl, z.gd⟩ (passes_of rfl), ?_⟩
    · intro pn xe p1 p2 W2 z2
      refine ⟨fun pinsZ sZ stZ HZ QZ IZ ⟨alZ, rhoZ, muZ, slZ, srZ, wZ⟩ => ?_⟩
      unfold eAct at wZ
      split at wZ
      · rename_i g' hg'
        split at wZ
        · rename_i hgf
          subst hgf
          obtain ⟨v0, hs0, rv0⟩ := slZ.ok 0 _ hg'
          unfold Rp at rv0
          subst rv0
          refine wpAny_Call_Name_kw (thn ((pe_var (pos := p1) (i := 0) hNg hva hd hcd).run pinsZ sZ stZ HZ (fun v H3 => v = .ref g' ∧ H3 = HZ) IZ ⟨.ref g', hs0, rfl, rfl⟩) fun u s3 ⟨v, H3, I3, r3, q1, q2⟩ => ?_)
          subst q1 q2
          obtain rfl : u = Value.ref g' := r3
          have of3 : s3.heap.get? g' = some (DLX.lamOb (X.env.qual ++ "<lambda>") params body scope (cloFrom X.env.cells scope.names []) pm (.ref c') ctv dV) := I3.base.keep g' _ hf hfn hfr (fun q => nomatch (show g' ∈ ([] : List Addr) from q))
          refine PySem.W.callWith_F0 ⟨_, _, _, _, of3⟩ ?_
          have un : Un (frs X.stack) [] H1 H3 s2.heap s3.heap := I3.base
          have dok4 : DLX.DfOk xs dV s3.heap := by
            rcases dok with h | ⟨y, d, v, e1, e2, e3⟩
            · exact .inl h
            · obtain ⟨f1, f2, f3⟩ := dok2 d e2 _ e3
              exact .inr ⟨y, d, v, e1, e2, un.keep d _ f1 f2 f3 (by simp)⟩
          have hco : H3 c' = some (LamX.CodeO c' (X.env.qual ++ "<lambda>")) := by
            obtain ⟨more, e1⟩ := un.tbls P ps1 eP1
            obtain ⟨ps', e2, _, e3⟩ := srZ.tabs _ mT
            dsimp only at e2
            rw [e1] at e2
            cases e2
            obtain ⟨c0, e4, e5⟩ := e3 lpos (.ref c') (by rw [Array.toList_append]; exact DLX.among_left _ _ hcP)
            cases e4
            exact e5
          obtain ⟨⟨oc2, vs2, t2, hoc, hdc, hvc⟩, _, _⟩ := I3.hok c' _ hco
          have rc2 : codeAny (model X.prog X.w) (X.A.deeper (envOfC x (defScope st) s2.heap.objs.size g cdv)) (.call (.ref g') ⟨[], []⟩) (CR (L2.CX X.prog X.w) (envOfC x (defScope st) s2.heap.objs.size g cdv :: X.stack) X.prog X.w H3 s3 QZ (WE W2 stZ)) s3 := by
            refine PySem.W.kla_callFunE (hr'.mono hkb).depth of3 rfl L.co L.gen rfl ⟨c', oc2, vs2, t2, rfl, hoc, hdc, hvc⟩ ?_
            obtain ⟨bs, hbs, bt⟩ := LA.bd _ _ _ _ _ dV s3 dok4
            refine bt _ _ _ _ (wpAny_newFunctionEnv (fun y hy => (L.own y hy).1) (fun y hy => L.par _ (by rw [← hbs]; exact List.mem_map_of_mem hy)) (fun h1 hns hsb => ⟨I3.nolimit.fresh _ hsb, ?_⟩) L.kind)
            show codeAny _ _ (.expr body (LamX.lamEnv X scope s3.heap.objs.size g' c')) _ _
            have kp3 : ∀ b o, s3.heap.get? b = some o → h1.get? b = some o := fun b o e => hsb.extBut b o (Nat.ne_of_lt (Heap.lt_size e)) (Heap.get?_push_of_some _ e)
            have J := DLX.lam_enter (A := X.A.deeper (envOfC x (defScope st) s2.heap.objs.size g cdv)) (outer := envOfC x (defScope st) s2.heap.objs.size g cdv :: X.stack) (E := WE W2 stZ) (f := g') (c' := c') (tk := s3.toks + bs.length) I2 L I3.env0 hr'.hd un hns kp3 (R.len s) (R.out s)
            have slL : SL X.K alZ H3 (rm rho) (rs s) := R.sl (sl1.mono ⟨un.tups, un.frzs⟩ srZ.pre)
            refine PySem.W.kla_codeExpr (wpAny_mono ((hbody ⟨T.tb, al, T.md⟩ _ _ s3 H3 (WE W2 stZ) g' c' rfl hmd ((hr'.mono hkb).deeper _) (fun cls d _ H' => WE W2 stZ cls d H') ⟨by rw [hmd]; exact takes_of rfl rfl rfl rfl, z.gd⟩).run [] _ _ H3 QZ J ⟨alZ, rm rho, muZ, slL, srZ, wZ⟩) (fun v s' hq => ?_) fun e s' hq => hq)
            obtain ⟨w', H', J', rv, q⟩ := hq
            exact ⟨w', H', J'.os, J'.bare, J'.base, J'.hok, rv, q⟩
          refine wpAny_call (codeAny_mono rc2 fun r s' hq => ?_)
          match r, hq with
          | .error e, q => exact passAt (by have q := z2.tk; rw [show (⟨T.tb, al, T.md⟩ : Tb).md = .a from hmd] at q; exact q) stZ pinsZ H3 s3 e s' I3 q
          | .ok (.ret u), q => exact I3.after q
        · exact wZ.elim
      · exact wZ.elim
    · refine ⟨al, _, mu, SL.start (N := Ng) (Rps.one (d := .adr f) (v := .ref f) (by unfold Rp; rfl)), sr1.fix, fnS_wo (T := ⟨T.tb, al, T.md⟩) ?_⟩
      rw [hind]
      exact w1
  refine wpAny_call (codeAny_mono rc fun r s' hq => ?_)
  match r, hq with
  | .error e, q => exact passAt ztk s pins H1 s2 e s' I2 q
  | .ok (.ret u), q => exact I2.after q
end
end DL
set_option Elab.async false
set_option linter.all false
set_option autoImplicit false
set_option maxRecDepth 100000
set_option maxHeartbeats 4000000
/-! DL15: repr of trees. -/
namespace DLX
open PySem PySem.Spec PyProof.Rows
mutual
/-- what stands at a value: dicts that are empty and are not the interpreter's own -/
inductive Sh (h : Heap) : Value → PyData → Prop
  | none : Sh h .none .none
  | bool (b : Bool) : Sh h (.bool b) (.bool b)
  | int (i : Int) (t : Tok) : Sh h (.int i t) (.int i)
  | str (x : Str) (t : Tok) : Sh h (.str x t) (.str x)
  | list {a : Addr} {o : Obj} {l : List Value} {n : Nat} {xs : List PyData} : h.get? a = some o → o.cls = .type "list" → o.data = .seq l.toArray n → ShA h l xs → Sh h (.ref a) (.list xs)
  | tuple {a : Addr} {o : Obj} {l : List Value} {n : Nat} {xs : List PyData} : h.get? a = some o → o.cls = .type "tuple" → o.data = .seq l.toArray n → ShA h l xs → Sh h (.ref a) (.tuple xs)
  | dict0 {a : Addr} {o : Obj} {n : Nat} : h.get? a = some o → o.cls = .type "dict" → o.data = .dict #[] n → (a == sysModules) = false → Sh h (.ref a) (.dict [])
inductive ShA (h : Heap) : List Value → List PyData → Prop
  | nil : ShA h [] []
  | cons {v : Value} {vs : List Value} {d : PyData} {ds : List PyData} : Sh h v d → ShA h vs ds → ShA h (v :: vs) (d :: ds)
end
mutual
theorem Sh.reads {h : Heap} : ∀ {v : Value} {d : PyData}, Sh h v d → ∃ as, Reads h v d as
  | _, _, .none => ⟨_, .none⟩
  | _, _, .bool b => ⟨_, .bool b⟩
  | _, _, .int i t => ⟨_, .int i t⟩
  | _, _, .str x t => ⟨_, .str x t⟩
  | _, _, .list h1 h2 h3 h4 => by
    obtain ⟨as, r⟩ := ShA.reads h4
    exact ⟨_, .list h1 h2 h3 (by simpa using r)⟩
  | _, _, .tuple h1 h2 h3 h4 => by
    obtain ⟨as, r⟩ := ShA.reads h4
    exact ⟨_, .tuple h1 h2 h3 (by simpa using r)⟩
  | _, _, .dict0 h1 h2 h3 _ => ⟨_, .dict h1 h2 h3 .nil .nil⟩
theorem ShA.reads {h : Heap} : ∀ {vs : List Value} {ds : List PyData}, ShA h vs ds → ∃ as, ReadsAll h vs ds as
  | _, _, .nil => ⟨_, .nil⟩
  | _, _, .cons a b => by
    obtain ⟨as, r⟩ := Sh.reads a
    obtain ⟨bs, q⟩ := ShA.reads b
    exact ⟨_, .cons r q⟩
end
section
variable {prog : Program} {w : World} {h0 : Heap}
mutual
theorem Sh.repr : ∀ {v : Value} {d : PyData}, Sh h0 v d → d.showable = true → d.shown.length ≤ sizeLine → ∃ bs, ReadAtMost h0 d.depth bs ∧ ReprK prog w bs h0 d.depth v d.shown
  | _, _, .none, _, _ => ⟨[], (fun _ q => nomatch q), by simp only [PyData.shown]; exact .of_is ReprIs.none _ _ _⟩
  | _, _, .bool b, _, _ => ⟨[], (fun _ q => nomatch q), by simp only [PyData.shown]; exact .of_is (ReprIs.bool b) _ _ _⟩
  | _, _, .int i t, hs, _ => ⟨[], (fun _ q => nomatch q), by simp only [PyData.shown]; exact .of_is (ReprIs.int t (by simpa [PyData.showable] using hs)) _ _ _⟩
  | _, _, .str x t, _, hz => ⟨[], (fun _ q => nomatch q), by simp only [PyData.shown]; exact .of_is (ReprIs.str x t (by simpa only [PyData.shown] using hz)) _ _ _⟩
  | _, _, .list (a := a) (l := l) (xs := xs) h1 h2 h3 h4, hs, hz => by
    obtain ⟨as, r⟩ := Sh.reads (Sh.list h1 h2 h3 h4)
    have z : (listText (PyData.shownAll xs)).length ≤ sizeLine := by simpa only [PyData.shown] using hz
    obtain ⟨bs, hb, hk⟩ := ShA.repr h4 (by simpa [PyData.showable] using hs) (fun t ht => Nat.le_trans (listText_mem_le ht) z)
    have na : a ∉ bs := not_mem_of_deeper r (by simp only [PyData.depth]; omega) hb
    refine ⟨a :: bs, ReadAtMost.cons r (by simp only [PyData.depth]; omega) hb, ?_⟩
    simp only [PyData.depth, PyData.shown]
    cases l with
    | nil =>
      cases h4
      simp only [PyData.shownAll, listText_nil]
      exact ReprK.listEmpty h1 h2 h3
    | cons x l => exact ReprK.list h1 h2 h3 na (by simpa using hk.length_eq) (fun i y e => hk.item i y (by simpa using e))
  | _, _, .tuple (a := a) (l := l) (xs := xs) h1 h2 h3 h4, hs, hz => by
    obtain ⟨as, r⟩ := Sh.reads (Sh.tuple h1 h2 h3 h4)
    have z : (tupleText (PyData.shownAll xs)).length ≤ sizeLine := by simpa only [PyData.shown] using hz
    obtain ⟨bs, hb, hk⟩ := ShA.repr h4 (by simpa [PyData.showable] using hs) (fun t ht => Nat.le_trans (tupleText_mem_le ht) z)
    have na : a ∉ bs := not_mem_of_deeper r (by simp only [PyData.depth]; omega) hb
    refine ⟨a :: bs, ReadAtMost.cons r (by simp only [PyData.depth]; omega) hb, ?_⟩
    simp only [PyData.depth, PyData.shown]
    exact ReprK.tuple h1 h2 h3 na (by simpa using hk)
  | _, _, .dict0 (a := a) h1 h2 h3 h4, hs, hz => by
    obtain ⟨as, r⟩ := Sh.reads (Sh.dict0 h1 h2 h3 h4)
    refine ⟨[a], ReadAtMost.cons (n := 0) r (by omega) (fun _ q => nomatch q), ?_⟩
    simp only [PyData.depth, PyData.shown, PyData.shownKv, PyData.depthKv]
    exact ReprK.dict h1 h2 h3 h4 (by simp) (ReprEntriesK.nil)
theorem ShA.repr : ∀ {vs : List Value} {ds : List PyData}, ShA h0 vs ds → PyData.showableAll ds = true → (∀ t ∈ PyData.shownAll ds, t.length ≤ sizeLine) → ∃ bs, ReadAtMost h0 (PyData.depthAll ds) bs ∧ ReprAllK prog w bs h0 (PyData.depthAll ds) vs (PyData.shownAll ds)
  | _, _, .nil, _, _ => ⟨[], (fun _ q => nomatch q), by simp only [PyData.shownAll]; exact .nil⟩
  | _, _, .cons (d := d) (ds := ds) r rs, hs, hz => by
    have hs' : d.showable = true ∧ PyData.showableAll ds = true := by simpa [PyData.showableAll] using hs
    obtain ⟨b1, q1, k1⟩ := Sh.repr r hs'.1 (hz _ (by simp only [PyData.shownAll]; exact List.mem_cons_self ..))
    obtain ⟨b2, q2, k2⟩ := ShA.repr rs hs'.2 (fun t ht => hz t (by simp only [PyData.shownAll]; exact List.mem_cons_of_mem _ ht))
    simp only [PyData.depthAll, PyData.shownAll]
    exact ⟨b1 ++ b2, (q1.mono (Nat.le_max_left _ _)).append (q2.mono (Nat.le_max_right _ _)), .cons ((k1.more fun b hb => List.mem_append_left _ hb).level_le (Nat.le_max_left _ _)) (k2.more_le (fun b hb => List.mem_append_right _ hb) (Nat.le_max_right _ _))⟩
end
/-- repr(x), x a list, a tuple or an empty dict -/
theorem call_repr_sh {a : Addr} {d : PyData} {A : Around} {E : Value → Shared → Prop} {s : Shared} {Q : Value → Shared → Prop} (r : Sh s.heap (.ref a) d) (hs : d.showable = true) (hsz : d.shown.length ≤ sizeLine) (hg : A.guards = some []) (hu : A.units + (d.depth + 1) < cLine)
    (hQ : ∀ h' u tk, (∀ b o, s.heap.get? b = some o → h'.get? b = some o) → Q (.str d.shown u) { s with heap := h', toks := tk }) : wpAny (model prog w) A (call (.builtin "repr") [.ref a]) Q E s := by
  obtain ⟨as, rr⟩ := r.reads
  cases r with
  | @list _ o l n xs h1 h2 h3 h4 =>
    have z : (listText (PyData.shownAll xs)).length ≤ sizeLine := by simpa only [PyData.shown] using hsz
    obtain ⟨bs, hb, hk⟩ := ShA.repr (prog := prog) (w := w) h4 (by simpa [PyData.showable] using hs) (fun t ht => Nat.le_trans (listText_mem_le ht) z)
    have na : a ∉ bs := not_mem_of_deeper rr (by simp only [PyData.depth]; omega) hb
    simp only [PyData.depth] at hu
    simp only [PyData.shown] at hQ
    refine call_repr_slot (by omega) ⟨o, h1, h2⟩ F.slot_list_repr.toG ?_
    cases l with
    | nil =>
      cases h4
      simp only [PyData.shownAll, listText_nil] at hQ
      exact call_list_repr_empty ⟨o, h1, h2⟩ h1 h3 ⟨_, _, rfl, hQ s.heap _ _ fun _ _ e => e⟩
    | cons x l => exact call_list_reprK h1 h2 h3 na (by simpa using hk.length_eq) (fun i y e => hk.item i y (by simpa using e)) hg (fun b _ => Clear.nil b) (by show A.units + 1 + _ < cLine; omega) (fun _ _ e => e) (fun h' u tk k => ⟨_, _, rfl, hQ h' u tk k⟩) z
  | @tuple _ o l n xs h1 h2 h3 h4 =>
    have z : (tupleText (PyData.shownAll xs)).length ≤ sizeLine := by simpa only [PyData.shown] using hsz
    obtain ⟨bs, hb, hk⟩ := ShA.repr (prog := prog) (w := w) h4 (by simpa [PyData.showable] using hs) (fun t ht => Nat.le_trans (tupleText_mem_le ht) z)
    have na : a ∉ bs := not_mem_of_deeper rr (by simp only [PyData.depth]; omega) hb
    simp only [PyData.depth] at hu
    simp only [PyData.shown] at hQ
    refine call_repr_slot (by omega) ⟨o, h1, h2⟩ F.slot_tuple_repr ?_
    exact call_tuple_reprK h1 h2 h3 na (by simpa using hk) hg (fun b _ => Clear.nil b) (by show A.units + 1 + _ < cLine; omega) (fun _ _ e => e) (fun h' u tk k => ⟨_, _, rfl, hQ h' u tk k⟩) z
  | @dict0 _ o n h1 h2 h3 h4 =>
    simp only [PyData.depth, PyData.depthKv] at hu
    simp only [PyData.shown, PyData.shownKv] at hQ hsz
    refine call_repr_slot (by omega) ⟨o, h1, h2⟩ F.slot_dict_repr ?_
    exact call_dict_reprK (d := 0) (as := []) h1 h2 h3 h4 (by simp) ReprEntriesK.nil hg (fun b _ => Clear.nil b) (by show A.units + 1 + _ < cLine; omega) (fun _ _ e => e) (fun h' u tk k => ⟨_, _, rfl, hQ h' u tk k⟩) hsz
end
end DLX
namespace DL
open PySem PySem.Spec PyProof.Rows L2
section
variable {P : Program} {w : World} {K : PySem.W.Frag} {T : Tb} {al : List Addr} {mu : Mu} {H : Hp} {h : Heap}
mutual
theorem rp_sh (hok : HOk P w H h) (KX : K.In h) {rc : Nat → Option PyData} (hrc : ∀ j v p u, rc j = some p → Rp K al H (.cel j) v → RelV v u → DLX.Sh h u p) : ∀ (d : D) (v : V) (p : PyData) (u : Value), dP rc d = some p → Rp K al H d v → RelV v u → DLX.Sh h u p
  | .non, v, p, u, e, r, q => by unfold dP at e; cases e; cases rp_non.mp r; cases q; exact .none
  | .bl b, v, p, u, e, r, q => by unfold dP at e; cases e; cases rp_bl.mp r; cases q; exact .bool b
  | .int i, v, p, u, e, r, q => by unfold dP at e; cases e; cases rp_int.mp r; obtain ⟨t, rfl⟩ := q; exact .int i t
  | .str x, v, p, u, e, r, q => by unfold dP at e; cases e; cases rp_str.mp r; obtain ⟨t, rfl⟩ := q; exact .str x t
  | .ty n, v, p, u, e, r, q => by unfold dP at e; cases e
  | .adr n, v, p, u, e, r, q => by unfold dP at e; cases e
  | .cel j, v, p, u, e, r, q => by unfold dP at e; exact hrc j v p u e r q
  | .tup xs, v, p, u, e, r, q => by
    unfold dP at e
    obtain ⟨ps, h1, rfl⟩ := Option.map_eq_some_iff.mp e
    obtain ⟨a, ys, rfl, g, r2⟩ := rp_tup.mp r
    cases q
    obtain ⟨its, o, n, rv, e1, e2, e3⟩ := sqT_at hok KX g
    exact .tuple e1 e2 e3 (rps_sh hok KX hrc xs ys ps its h1 r2 rv)
  | .fl xs, v, p, u, e, r, q => by
    unfold dP at e
    obtain ⟨ps, h1, rfl⟩ := Option.map_eq_some_iff.mp e
    obtain ⟨a, ys, rfl, g, r2⟩ := rp_fl.mp r
    cases q
    obtain ⟨its, o, n, rv, e1, e2, e3⟩ := sqL_at hok KX g.sq
    exact .list e1 e2 e3 (rps_sh hok KX hrc xs ys ps its h1 r2 rv)
theorem rps_sh (hok : HOk P w H h) (KX : K.In h) {rc : Nat → Option PyData} (hrc : ∀ j v p u, rc j = some p → Rp K al H (.cel j) v → RelV v u → DLX.Sh h u p) : ∀ (ds : List D) (vs : List V) (ps : List PyData) (us : List Value), dPs rc ds = some ps → Rps K al H ds vs → Vals vs us → DLX.ShA h us ps
  | [], vs, ps, us, e, r, q => by unfold dPs at e; cases e; cases rps_nil.mp r; cases q; exact .nil
  | d :: ds, vs, ps, us, e, r, q => by
    unfold dPs at e
    split at e
    · rename_i p ps' e1 e2
      cases e
      obtain ⟨v, rr, rfl, r1, r2⟩ := rps_cons.mp r
      cases q with
      | cons q1 q2 => exact .cons (rp_sh hok KX hrc d v p _ e1 r1 q1) (rps_sh hok KX hrc ds rr ps' _ e2 r2 q2)
    · cases e
end
theorem cP_sh (hok : HOk P w H h) (KX : K.In h) (sr : SR K T al mu H) : ∀ (n j : Nat) (v : V) (p : PyData) (u : Value), cP mu n j = some p → Rp K al H (.cel j) v → RelV v u → DLX.Sh h u p
  | 0, j, v, p, u, e, _, _ => by unfold cP at e; cases e
  | n + 1, j, v, p, u, e, r, q => by
    unfold cP at e
    split at e
    · rename_i xs ex
      obtain ⟨ps, h1, rfl⟩ := Option.map_eq_some_iff.mp e
      obtain ⟨a, ys, rfl, _, g, r2⟩ := cel_lst sr r ex
      cases q
      obtain ⟨its, o, n', rv, e1, e2, e3⟩ := sqL_at hok KX (SqL.of (K := K) g)
      exact .list e1 e2 e3 (rps_sh hok KX (cP_sh hok KX sr n) xs ys ps its h1 r2 rv)
    · rename_i ex
      cases e
      unfold Rp at r
      obtain ⟨a, e1, rfl⟩ := r
      obtain ⟨vs, e2, e3, _⟩ := sr.ok j _ a ex e1
      have e3 : vs.map (·.1) = [] := e3
      have : vs = [] := by simpa using e3
      subst this
      cases q
      obtain ⟨z1, z2, us, kv, o, es, ep, f1, f2, f3, f4, f5, f6⟩ := dk_of hok e2
      have hu : us = [] := by cases kv; rfl
      subst hu
      have he : es = #[] := by
        cases f5' : es.toList with
        | nil => exact Array.toList_eq_nil_iff.mp f5'
        | cons x l => rw [f5'] at f5; cases f5
      subst he
      exact .dict0 f1 f2.1 f3 z2
    · cases e
end
end DL
set_option Elab.async false
set_option linter.all false
set_option autoImplicit false
set_option maxRecDepth 100000
set_option maxHeartbeats 4000000
/-! DL16: the end of a law row. -/
namespace DLX
open PySem PySem.Spec PyProof.Rows L2
/-- the call of the law from the outermost frame; cs: code objects whose tables are empty as yet -/
theorem law_callG {P : Program} {w : World} {K : PySem.W.Frag} {mg mb : Str → Option Value} {k : Nat} {fa a : Addr} {cs : List (Addr × Addr)} {fd : FuncData} {x : Str} {sp : Sp} {s1 : Shared} {vs : List Value} {ns : List Int}
    (KX : K.In s1.heap) (gg : s1.heap.Ns mainGlobals mg) (gb : s1.heap.Ns builtinsNs mb) (eb : ∀ x : Str, x ≠ "__name__" → mb x = bootBuiltins x) (lim : s1.heap.NoLimit) (g0 : s1.gens = #[])
    (tE : ∀ p ∈ cs, s1.heap.get? p.2 = some { cls := .none, data := .fields #[] }) (tK : ∀ p ∈ cs, K.lookup p.2 = none) (tC : ∀ p ∈ cs, PySem.W.CodeHd s1.heap p.1 p.2)
    (bM : ∃ (bm : Addr) (ob : Obj), mg "__builtins__" = some (.ref bm) ∧ bm ≠ builtinsNs ∧ s1.heap.get? bm = some ob ∧ ob.cls = .type "module" ∧ ob.dict = some builtinsNs ∧ ob.data = .plain)
    (ea : s1.heap.get? a = some { cls := .type "list", data := .seq vs.toArray }) (hi : IntsAre vs ns) (hl : ns.length ≤ sizeLine) (hr : Room k callerA)
    (F : ∀ base : Heap, K.In base → base.Ns mainGlobals mg → (∀ p ∈ cs, LamX.TabB base mg p.1 p.2) → DL.FnG .a P w K mg base k fa fd [x] sp) (hb : ∀ (s : Shared) (u : Value), BindsTo s fd ⟨[u], []⟩ [(x, u)])
    (hsp : ∀ H : Hp, (∀ p ∈ cs, H p.2 = some (.tbl #[])) → DL.FzL K H a (ns.map V.int) → sp [.ref a] H (fun v _ => v = .bl true) fun _ _ _ => False) :
    codeAny (model P w) callerA (.call (.ref fa) ⟨[.ref a], []⟩) (fun r s' => r = .ok (.ret (.bool true)) ∧ OldK s1.heap s'.heap ∧ s'.os = s1.os ∧ AllBare s'.gens) s1 := by
  have rv := vals_ints hi
  have lv := hi.length
  have tE' : ∀ b : Addr, b ∈ cs.map (·.2) → s1.heap.get? b = some { cls := .none, data := .fields #[] } := fun b hb => by
    obtain ⟨p, hp, rfl⟩ := List.mem_map.mp hb
    exact tE p hp
  have inT : ∀ p ∈ cs, p.2 ∈ cs.map (·.2) := fun p hp => List.mem_map_of_mem hp
  have notT : a ∉ cs.map (·.2) := fun z => by
    have q := tE' a z
    rw [ea] at q
    cases q
  -- the script is tracked unless the written part has it
  let scr : HO := .frz { cls := .type "list", data := .seq vs.toArray } (.lst (ns.map V.int))
  let H : Hp := fun b => if b ∈ cs.map (·.2) then some (.tbl #[]) else if b = a ∧ K.lookup a = none then some scr else none
  have hT : ∀ b, b ∈ cs.map (·.2) → H b = some (.tbl #[]) := fun b z => if_pos z
  have hS : K.lookup a = none → H a = some scr := fun z => (if_neg notT).trans (if_pos ⟨rfl, z⟩)
  have only : ∀ b u, H b = some u → (b ∈ cs.map (·.2) ∧ u = .tbl #[]) ∨ (b = a ∧ K.lookup a = none ∧ u = scr) := fun b u e => by
    by_cases z : b ∈ cs.map (·.2)
    · exact .inl ⟨z, (Option.some.inj ((hT b z).symm.trans e)).symm⟩
    · have e' : (if b = a ∧ K.lookup a = none then some scr else none) = some u := (if_neg z).symm.trans e
      by_cases y : b = a ∧ K.lookup a = none
      · exact .inr ⟨y.1, y.2, (Option.some.inj ((if_pos y).symm.trans e')).symm⟩
      · rw [if_neg y] at e'; cases e'
  have hok : HOk P w H s1.heap := fun b u e => by
    rcases only b u e with ⟨z, rfl⟩ | ⟨rfl, _, rfl⟩
    · exact tE' b z
    · exact ⟨ea, by rw [List.length_map]; exact hl, vs, _, rv, ea⟩
  have fz : DL.FzL K H a (ns.map V.int) := by
    cases z : K.lookup a with
    | none => exact .inl ⟨_, hS z⟩
    | some o =>
      have q := KX a o z
      rw [ea] at q
      cases q
      exact .inr ⟨_, vs.toArray, _, z, rfl, rfl, rfl, by rw [List.size_toArray, lv]; exact hl, by simpa using rv⟩
  have hid : ∀ {b : Addr} {o : Obj}, s1.heap.get? b = some o → H b = none → (hidT s1.heap H).get? b = some o := fun e n => hidT_get e n
  -- neither a table nor a list
  have out : ∀ {b : Addr} {o : Obj}, s1.heap.get? b = some o → (∀ l n, o.data ≠ .seq l n) → o.data ≠ .fields #[] → H b = none := fun {b o} e n1 n2 => by
    cases q : H b with
    | none => rfl
    | some u =>
      rcases only b u q with ⟨z, _⟩ | ⟨rfl, _, _⟩
      · rw [tE' b z] at e; cases e; exact (n2 rfl).elim
      · rw [ea] at e; cases e; exact (n1 _ _ rfl).elim
  have ns' : ∀ {b : Addr} {m : Str → Option Value}, s1.heap.Ns b m → (hidT s1.heap H).Ns b m := fun ⟨o, es, ep, e, d, r⟩ => ⟨o, es, ep, hid e (out e (fun l n z => by rw [d] at z; cases z) (fun z => by rw [d] at z; cases z)), d, r⟩
  have kin : K.In (hidT s1.heap H) := fun b o e => hid (KX b o e) (by
    cases q : H b with
    | none => rfl
    | some u =>
      rcases only b u q with ⟨z, _⟩ | ⟨rfl, z, _⟩
      · obtain ⟨p, hp, rfl⟩ := List.mem_map.mp z
        rw [tK p hp] at e; cases e
      · rw [z] at e; cases e)
  have md : L2.Mod K mg (hidT s1.heap H) := ⟨kin, ns' gg, ⟨mb, ns' gb, eb⟩, let ⟨mc, e1, e2⟩ := lim; ⟨mc, ns' e1, e2⟩⟩
  have tb : ∀ p ∈ cs, LamX.TabB (hidT s1.heap H) mg p.1 p.2 := fun p hp => by
    refine ⟨?_, ?_, fun z => ?_⟩
    · obtain ⟨o, us, f1, f2, f3, f4, f5, f6, f7, e1, r1, r2, r3, r4, r5, r6, r7, r8, r9⟩ := tC p hp
      refine ⟨o, us, f1, f2, f3, f4, f5, f6, f7, hid e1 (out e1 (fun l n z => by rw [r2] at z; cases z) fun z => ?_), r1, r2, r3, r4, r5, r6, r7, r8, r9⟩
      rw [r2] at z
      cases z
      simp at r3
    · obtain ⟨bm, ob, b1, b2, b3, b4, b5, b6⟩ := bM
      have n1 : bm ≠ mainGlobals := fun q => by
        obtain ⟨o, es, ep, e, hd, _⟩ := gg
        rw [q, e] at b3; cases b3
        rw [hd] at b6; cases b6
      have n2 : bm ≠ p.2 := fun q => by
        rw [q, tE p hp] at b3; cases b3; cases b6
      exact ⟨bm, ob, b1, b2, n1, n2, hid b3 (out b3 (fun l n z => by rw [b6] at z; cases z) (fun z => by rw [b6] at z; cases z)), b4, b5, b6⟩
    · obtain ⟨o, es, ep, e, hd, _⟩ := gg
      rw [z, tE p hp] at e; cases e; cases hd
  have e0 : Env0 P w K mg (hidT s1.heap H) callerA [] s1 H := ⟨rfl, md, fun b o e => of_hidT e, Nat.le_of_eq (hidT_size _ _), trivial, fun b z => (nomatch (show b ∈ ([] : List Addr) from z)), hok, .of_eq g0⟩
  refine codeAny_mono ((F _ kin (ns' gg) tb).run callerA [] s1 H ⟨[.ref a], []⟩ [.ref a] [.ref a] _ _ hr rfl e0 (hb s1 (.ref a)) (.cons rfl .nil) (hsp H (fun p hp => hT _ (inT p hp)) fz)) fun r s' h => ?_
  match r, h with
  | .error e, h =>
    obtain ⟨_, _, _, _, _, _, _, _, _, _, _, _, z⟩ := h
    exact z.elim
  | .ok (.ret u), h =>
    obtain ⟨v, H', os, bare, un, hok', r', q⟩ := h
    have q : v = .bl true := q
    subst q
    obtain rfl : u = Value.bool true := r'
    have stay : ∀ b o, b ∉ cs.map (·.2) → s1.heap.get? b = some o → s'.heap.get? b = some o := fun b o nb e => by
      cases q : H b with
      | none => exact un.keep b o e q (fun z => nomatch (show b ∈ ([] : List Addr) from z)) (by simp)
      | some u =>
        rcases only b u q with ⟨z, _⟩ | ⟨rfl, _, rfl⟩
        · exact absurd z nb
        · obtain ⟨e1, _⟩ := hok b _ q
          obtain ⟨e2, _⟩ := hok' b _ (un.frzs b _ _ q)
          rw [e] at e1; cases e1
          exact e2
    have grow : ∀ p ∈ cs, ∃ more : Array Value, s'.heap.get? p.2 = some { cls := .none, data := .fields more } := fun p hp => by
      obtain ⟨more, z⟩ := un.tbls p.2 #[] (hT _ (inT p hp))
      exact ⟨_, hok' p.2 _ z⟩
    refine ⟨rfl, ⟨fun b o e => ?_, fun b o e => ?_⟩, os, bare⟩
    · by_cases z : b ∈ cs.map (·.2)
      · obtain ⟨p, hp, rfl⟩ := List.mem_map.mp z
        obtain ⟨more, hm⟩ := grow p hp
        rw [tE p hp] at e
        cases e
        exact .inr (.inl ⟨((tC p hp).tab (tE p hp)).isCodeTable, rfl, #[], more, rfl, by rw [Array.empty_append]; exact hm⟩)
      · exact .inl (stay b o z e)
    · by_cases z : b ∈ cs.map (·.2)
      · obtain ⟨p, hp, rfl⟩ := List.mem_map.mp z
        obtain ⟨more, hm⟩ := grow p hp
        exact ⟨_, hm⟩
      · exact ⟨o, stay b o z e⟩
end DLX
namespace DL
open PySem PySem.Spec PyProof.Rows L2
/-- the tables of the defs that the walk sees -/
def TabOf (q : Program) (K : PySem.W.Frag) (mg : Str → Option Value) (h : Heap) : Prop := ∀ (x : Str) (f c P : Addr) (o : Obj) (fd : FuncData) (e : Value) (dd : Option Addr) (vs : Array Value) (sl : Array (Option Value)),
  ((recsOf q).any fun e => e.name == x) = true → mg x = some (.ref f) → K.lookup f = some o → o.data = .func fd → fd.code = .ref c → K.lookup c = some ⟨e, dd, .fields vs, sl⟩ → vs[11]? = some (.ref P) →
    PySem.W.CodeHd h c P ∧ h.get? P = some { cls := .none, data := .fields #[] }
/-- what is known of the law at the head's heap h: it is L, and L tells True of every script -/
def LawG (l : PySem.W.OpenLaw) (w : World) (K : PySem.W.Frag) (k n : Nat) (x : Str) (mg : Str → Option Value) (fa : Addr) (h : Heap) : Prop :=
  ∃ (fd : FuncData) (cs : List (Addr × Addr × Str)) (L : FS), (∀ p ∈ cs, h.get? p.2.1 = some { cls := .none, data := .fields #[] }) ∧ (∀ p ∈ cs, K.lookup p.2.1 = none) ∧ (∀ p ∈ cs, PySem.W.CodeHd h p.1 p.2.1) ∧ (∀ (s : Shared) (u : Value), BindsTo s fd ⟨[u], []⟩ [(x, u)]) ∧
    (∀ ns : List Int, ns.length ≤ n → (∀ z ∈ ns, Builtin.Int.intBits z ≤ 1048576) → ∃ mu, L [.fl (ns.map D.int)] [] = some (.ok (.bl true), mu)) ∧
    ∀ base : Heap, K.In base → base.Ns mainGlobals mg → (∀ p ∈ cs, LamX.TabB base mg p.1 p.2.1) → FnG .a l.prog w K mg base k fa fd [x] (spD K ⟨cs.map (·.2), [], .a⟩ 1 L)
theorem rps_ints {K : PySem.W.Frag} {al : List Addr} {H : Hp} : ∀ ns : List Int, Rps K al H (ns.map D.int) (ns.map V.int)
  | [] => Rps.nil
  | n :: ns => Rps.cons (rp_int.mpr rfl) (rps_ints ns)
theorem walk_G {l : PySem.W.OpenLaw} {n k : Nat} {q : Program} {loose : List Str} {XP : (Str → Option Value) → Heap → Prop} {YP : World → Heap → Prop} {d : DefRec} {K : Params → PySem.W.Frag} {x : Str}
    (hn : l.most = some n) (hn2 : n ≤ sizeLine) (hdf : d.params.defaults = []) (hr : Room k callerA) (hY : ∀ (w : World) (h : Heap), YP w h → (K w.params).In h)
    (F : ∀ (w : World) (mg : Str → Option Value) (fa : Addr) (h : Heap), YP w h → (K w.params).In h → h.Ns mainGlobals mg → mg d.name = some (.ref fa) → TabOf q (K w.params) mg h → LawG l w (K w.params) k n x mg fa h) :
    PySem.W.WalkO q loose XP YP l.row.toRowW d [] (fun f vs => PySem.call f vs) := by
  refine Att.attach_callB hn hdf fun w s0 s1 mg mb fa o pm cd doc a vs ns G Y ho hd hcd hmg hobj hints hlen hbits hg => ?_
  have KX := hY w _ Y
  have tab : TabOf q (K w.params) mg s1.heap := fun x f c P o1 fd1 e dd us sl hx k0 k1 k2 k3 k4 k5 => by
    obtain ⟨dL, hm, e1⟩ := List.any_eq_true.mp hx
    obtain ⟨a', o', fd', c', P', h1, h2, h3, h4, h5, h6⟩ := G.T.tab dL hm
    rw [beq_iff_eq.mp e1, k0] at h1
    cases h1
    rw [KX _ _ k1] at h2
    cases h2
    rw [k2] at h3
    cases h3
    rw [k3] at h4
    cases h4
    have hc := PySem.W.CodeHd.of h5 h6
    obtain ⟨⟨oc, vc, e1, e2, e3, e4⟩, hP⟩ := h6
    rw [KX _ _ k4] at e1
    cases e1
    cases e3
    rw [k5] at e4
    cases e4
    exact ⟨hc, hP⟩
  obtain ⟨fd, cs, L, hT, nT, C, hb, hL, hF⟩ := F w mg fa _ Y KX G.T.g hmg tab
  have up : ∀ {p : Addr × Addr}, p ∈ cs.map (fun p => (p.1, p.2.1)) → ∃ p' ∈ cs, p = (p'.1, p'.2.1) := fun hp => by
    obtain ⟨p', h1, h2⟩ := List.mem_map.mp hp
    exact ⟨p', h1, h2.symm⟩
  refine DLX.law_callG (cs := cs.map (fun p => (p.1, p.2.1))) KX G.T.g G.T.b G.T.builtins G.T.nolimit hg (fun p hp => ?_) (fun p hp => ?_) (fun p hp => ?_) G.T.bmain hobj hints (Nat.le_trans hlen hn2) hr (fun base h1 h2 h3 => hF base h1 h2 fun p hp => h3 _ (List.mem_map.mpr ⟨p, hp, rfl⟩)) hb fun H hH hS => ?_
  · obtain ⟨p', h1, rfl⟩ := up hp; exact hT p' h1
  · obtain ⟨p', h1, rfl⟩ := up hp; exact nT p' h1
  · obtain ⟨p', h1, rfl⟩ := up hp; exact C p' h1
  · obtain ⟨mu, e⟩ := hL ns hlen hbits
    refine ⟨rfl, [], [], [.fl (ns.map D.int)], ⟨rfl, by simp, fun j c a e => by simp at e, fun p hp => ?_, fun j a e => by simp at e⟩, Rps.one (rp_fl.mpr ⟨a, _, rfl, hS, rps_ints ns⟩), ?_⟩
    · obtain ⟨p', h1, rfl⟩ := List.mem_map.mp hp
      exact LamX.TabS.nil (hH (p'.1, p'.2.1) (List.mem_map.mpr ⟨p', h1, rfl⟩))
    · rw [e]
      exact fun al' v H' _ _ _ r => rp_bl.mp r
end DL
set_option Elab.async false
set_option linter.all false
set_option autoImplicit false
set_option maxRecDepth 100000
set_option maxHeartbeats 4000000
/-! DL17: more rules. -/
namespace DL
open PySem PySem.Spec PyProof.Rows L2
/-- a, b = x, y -/
def sPar (i j : Nat) (f g : ES) : SS := fun rho mu => bnS (f rho mu) rho fun a mu1 => bnS (g rho mu1) rho fun b mu2 => some (.nx, (rho.set i (some a)).set j (some b), mu2)
/-- target = e -/
def sAsg (t : Tg) (f : ES) : SS := fun rho mu => bnS (f rho mu) rho fun d mu1 => match asgD t d rho with
  | some rho1 => some (.nx, rho1, mu1)
  | none => none
section
variable {T : Tb} {X : Cx} {pos : Pos} {a b e tg : Expr} {f g : ES} {t : Tg}
theorem st_par {i j : Nat} {x y : Str} {px py pt pt2 : Pos} {kt k2 : Nat} (hN : X.N.Nodup) (ha : SE T X a f) (hb : SE T X b g) (hc : X.calm = true := by rfl) (hi : X.N[i]? = some x := by rfl) (hj : X.N[j]? = some y := by rfl) (hij : i ≠ j := by decide)
    (hx : X.env.scope.names.lookup x = some .local := by rfl) (hy : X.env.scope.names.lookup y = some .local := by rfl)
    (hw : swappedStores [.Tuple [.Name x px, .Name y py] kt pt] (.Tuple [a, b] k2 pt2) X.env = pure (some [x, y]) := by rfl)
    (hs : swapsWithSole [.Tuple [.Name x px, .Name y py] kt pt] (.Tuple [a, b] k2 pt2) pos.line X.env = pure false := by rfl)
    (s1 : starEach [a, b] X.env = (false, eval a X.env) :: starEach [b] X.env := by rfl) (s2 : starEach [b] X.env = (false, eval b X.env) :: starEach [] X.env := by rfl) :
    ST T X (.Assign [.Tuple [.Name x px, .Name y py] kt pt] (.Tuple [a, b] k2 pt2) pos) (sPar i j f g) := fun W z ps =>
  PS.weak (ps_par hc hN hi hj hij hx hy (pa_cons (ha W z) (pa_cons (hb W z) pa_nil s2) s1) hw hs) fun De s H ⟨al, rho, mu, sl, sr, w⟩ =>
    ⟨al, rho, mu, sl, sr, WoS.bn sl w fun d mu1 al1 v H1 _ g1 k1 sr1 rv w1 => ⟨al1, rho, mu1, sl.mono k1 g1, sr1, WoS.bn (sl.mono k1 g1) w1 fun d2 mu2 al2 v2 H2 _ g2 k2 sr2 rv2 w2 =>
      ⟨v, v2, rfl, w2 al2 _ H2 (Gr.refl _) (Kp.refl _) ((((sl.mono k1 g1).mono k2 g2).set (Rp.mono k2 g2 _ _ rv) i).set rv2 j) sr2⟩⟩⟩
theorem st_asg (he : SE T X e f) (hg : SG X tg t) (hs : swapsWithSole [tg] e pos.line X.env = pure false := by rfl) (hw : swappedStores [tg] e X.env = pure none := by rfl)
    (h1 : (assignEach [tg] X.env).map (·.2) = [assign tg X.env] := by rfl) : ST T X (.Assign [tg] e pos) (sAsg t f) := fun W z ps => PS.weak (ps_asg (he W z) hg hs hw h1) fun De s H ⟨al, rho, mu, sl, sr, w⟩ =>
  ⟨al, rho, mu, sl, sr, WoS.bn sl w fun d mu1 al1 v H1 _ g1 k1 sr1 rv w1 => by
    split at w1
    · rename_i rho1 h1
      exact gT_of h1 rv (sl.mono k1 g1) fun s' sl' _ => w1 al1 s' H1 (Gr.refl _) (Kp.refl _) sl' sr1
    · exact w1.elim⟩
end
/-- a module's tuple of texts -/
theorem rp_ktup {K : PySem.W.Frag} {al : List Addr} {H : Hp} {a : Addr} {o : Obj} {its : Array Value} {n : Nat} {ds : List D} {vs : List V} (l : K.lookup a = some o) (hc : o.cls = .type "tuple") (hd : o.data = .seq its n) (hz : its.size ≤ sizeLine) (r : Vals vs its.toList) (q : Rps K al H ds vs) : Rp K al H (.tup ds) (.ref a) :=
  rp_tup.mpr ⟨a, vs, rfl, .inr ⟨o, its, n, l, hc, hd, hz, r⟩, q⟩
theorem rps_strs {K : PySem.W.Frag} {al : List Addr} {H : Hp} : ∀ xs : List Str, Rps K al H (xs.map D.str) (xs.map V.str)
  | [] => Rps.nil
  | x :: xs => Rps.cons (rp_str.mpr rfl) (rps_strs xs)
end DL
namespace DL
open PySem PySem.Spec PyProof.Rows L2
def blkB (N : List Str) (sc scope : Scope) (own : List (Str × Nat)) : Bool :=
  decide (scope.kind = .function) && (scope.names.all fun y => decide (scope.names.lookup y.1 = some y.2) && (!decide (y.2 = .free) || decide (sc.names.lookup y.1 = some .cell) || decide (sc.names.lookup y.1 = some .free)) && (!(decide (y.2 = .local) || decide (y.2 = .cell)) || decide (y.1 ∈ own.map (·.1)) || !decide (y.1 ∈ N))) && own.all fun p => decide (N[p.2]? = some p.1)
theorem blk_by {N : List Str} {sc scope : Scope} {own : List (Str × Nat)} (h : blkB N sc scope own = true) : BlkOk N sc scope own := by
  unfold blkB at h
  simp only [Bool.and_eq_true, Bool.or_eq_true, Bool.not_eq_true', decide_eq_true_eq, decide_eq_false_iff_not, List.all_eq_true, Bool.or_eq_false_iff] at h
  obtain ⟨⟨h1, h2⟩, h3⟩ := h
  refine ⟨h1, fun y hy => (h2 y hy).1.1, h3, fun y hy e => ?_, fun y hy e => ?_⟩
  · rcases (h2 y hy).1.2 with (z | z) | z
    · exact absurd e z
    · exact .inl z
    · exact .inr z
  · rcases (h2 y hy).2 with (z | z) | z
    · rcases e with e | e
      · exact absurd e z.1
      · exact absurd e z.2
    · exact .inl z
    · exact .inr z
theorem Fx.fixT {P : Program} {w : World} {K : PySem.W.Frag} {mg : Str → Option Value} {base : Heap} {tb : List (Addr × Str)} {T2 : Tb} {x : Str} {k n : Nat} {F : FS} {md : Md} (h : Fx P w K mg base ⟨tb, [], md⟩ x k n F) (ht : T2.tb = tb) (hm : T2.md = md) : Fx P w K mg base T2 x k n F := by
  obtain ⟨t2, pre, m2⟩ := T2
  cases ht
  cases hm
  exact h.fix pre
/-- a def whose code object is known -/
theorem fnDc {P : Program} {w : World} {K : PySem.W.Frag} {mg : Str → Option Value} {base : Heap} {T : Tb} {x qual : Str} {st : Stmt} {f c : Addr} {fd : FuncData} {N ps : List Str} {k : Nat} {m : SS} (F : L2.Fun K x qual st f fd) (hc : fd.code = .ref c) (S : FnScope N ps (defScope st))
    (hb : ∀ (A : Around) (outer : List Env) (s : Shared) (H : Hp) (E : XK), Room k (A.deeper (envOfC qual (defScope st) s.heap.objs.size f (.ref c))) → STs T (cxOf (CXM T.md P w) P w K mg base N qual (defScope st) f (.ref c) A outer s H E) (defBody st) m) :
    FnG T.md P w K mg base (k + 1) f fd ps (spD K T ps.length (fnS N.length m)) := by
  obtain ⟨oc, od, kV, doc, pm, an, cdv, ct, osl, rfl, lk, hcd⟩ := F.ex
  have hc : cdv = .ref c := hc
  subst hc
  refine ⟨fun vs H Q E h => h.1, fun A outer s H args us vs Q E hr hg e0 b r h => LamX.run_ofS lk hcd S hr e0 b r h.1 fun hr' => ⟨_, hb A outer s H E hr' (fun cls d _ H' => E cls d H') ⟨takesM_cx, hg⟩ (passes_of rfl), ?_⟩⟩
  obtain ⟨hl, al, mu, ds, sr, r, p⟩ := h
  exact ⟨al, _, mu, SL.start r, sr, fnS_wo p⟩
end DL
namespace DL
open PySem PySem.Spec PyProof.Rows L2
section
variable {T : Tb} {X : Cx} {pos pos' : Pos} {a : Expr} {f : ES}
theorem sc_isN {j : Nat} (ha : SE T X a f) : SC T X (.Compare a [.Is] [.Constant .none j pos'] pos) (eIsN f) := fun W z => PT.weak (pt_cmp (pc_isN (ha W z))) fun s H Q ⟨al, rho, mu, sl, sr, p⟩ =>
  ⟨al, rho, mu, sl, sr, Wo.bnd p fun d mu1 al1 v H1 _ g1 k1 sr1 rv p1 => by
    rw [isN_rp rv]
    obtain ⟨b, e, q⟩ := p1.now sr1 (bl_rp _)
    cases e
    exact ⟨_, rfl, q⟩⟩
end
end DL
set_option Elab.async false
set_option linter.all false
set_option autoImplicit false
set_option maxRecDepth 100000
set_option maxHeartbeats 4000000
/-! DL25: a def's promise by a model of one's own: what it leaves behind is forgotten, new cells are renumbered. -/
namespace DL
open PySem PySem.Spec PyProof.Rows L2

/-! ### data that speak of the first n cells alone -/
mutual
def cl (n : Nat) : D → Prop
  | .cel j => j < n
  | .tup xs => clL n xs
  | .fl xs => clL n xs
  | .non => True
  | .bl _ => True
  | .int _ => True
  | .str _ => True
  | .ty _ => True
  | .adr _ => True
def clL (n : Nat) : List D → Prop
  | [] => True
  | x :: xs => cl n x ∧ clL n xs
end
mutual
def ren (ks : List Nat) : D → D
  | .cel j => .cel (ks.getD j 0)
  | .tup xs => .tup (renL ks xs)
  | .fl xs => .fl (renL ks xs)
  | .non => .non
  | .bl b => .bl b
  | .int i => .int i
  | .str x => .str x
  | .ty n => .ty n
  | .adr a => .adr a
def renL (ks : List Nat) : List D → List D
  | [] => []
  | x :: xs => ren ks x :: renL ks xs
end
theorem clL_iff {n : Nat} : ∀ {xs : List D}, clL n xs ↔ ∀ x ∈ xs, cl n x
  | [] => by simp [clL]
  | x :: xs => by simp [clL, clL_iff (xs := xs)]
theorem renL_map {ks : List Nat} : ∀ xs : List D, renL ks xs = xs.map (ren ks)
  | [] => by simp [renL]
  | x :: xs => by simp [renL, renL_map xs]
theorem clL_app {n : Nat} {xs ys : List D} : clL n (xs ++ ys) ↔ clL n xs ∧ clL n ys := by
  simp only [clL_iff, List.mem_append]
  exact ⟨fun h => ⟨fun x hx => h x (.inl hx), fun x hx => h x (.inr hx)⟩, fun h x hx => hx.elim (h.1 x) (h.2 x)⟩
mutual
theorem cl.mono {n m : Nat} (h : n ≤ m) : ∀ d : D, cl n d → cl m d
  | .cel j, q => by unfold cl at q ⊢; omega
  | .tup xs, q => by unfold cl at q ⊢; exact clL.mono h xs q
  | .fl xs, q => by unfold cl at q ⊢; exact clL.mono h xs q
  | .non, q => by unfold cl; trivial
  | .bl _, q => by unfold cl; trivial
  | .int _, q => by unfold cl; trivial
  | .str _, q => by unfold cl; trivial
  | .ty _, q => by unfold cl; trivial
  | .adr _, q => by unfold cl; trivial
theorem clL.mono {n m : Nat} (h : n ≤ m) : ∀ ds : List D, clL n ds → clL m ds
  | [], q => by unfold clL; trivial
  | x :: xs, q => by unfold clL at q ⊢; exact ⟨cl.mono h x q.1, clL.mono h xs q.2⟩
end
mutual
theorem ren_id {n : Nat} {ks : List Nat} (h : ∀ j < n, ks.getD j 0 = j) : ∀ d : D, cl n d → ren ks d = d
  | .cel j, q => by unfold cl at q; unfold ren; rw [h j q]
  | .tup xs, q => by unfold cl at q; unfold ren; rw [renL_id h xs q]
  | .fl xs, q => by unfold cl at q; unfold ren; rw [renL_id h xs q]
  | .non, q => by unfold ren; rfl
  | .bl _, q => by unfold ren; rfl
  | .int _, q => by unfold ren; rfl
  | .str _, q => by unfold ren; rfl
  | .ty _, q => by unfold ren; rfl
  | .adr _, q => by unfold ren; rfl
theorem renL_id {n : Nat} {ks : List Nat} (h : ∀ j < n, ks.getD j 0 = j) : ∀ ds : List D, clL n ds → renL ks ds = ds
  | [], q => by unfold renL; rfl
  | x :: xs, q => by unfold clL at q; unfold renL; rw [ren_id h x q.1, renL_id h xs q.2]
end
mutual
theorem Rp.cl {K : PySem.W.Frag} {al : List Addr} {H : Hp} : ∀ (d : D) (v : V), Rp K al H d v → DL.cl al.length d
  | .cel j, v, r => by
    unfold Rp at r; unfold DL.cl
    obtain ⟨a, e, _⟩ := r
    exact (List.getElem?_eq_some_iff.mp e).1
  | .tup xs, v, r => by
    unfold Rp at r; unfold DL.cl
    obtain ⟨a, ys, _, _, r⟩ := r
    exact Rps.cl xs ys r
  | .fl xs, v, r => by
    unfold Rp at r; unfold DL.cl
    obtain ⟨a, ys, _, _, r⟩ := r
    exact Rps.cl xs ys r
  | .non, v, r => by unfold DL.cl; trivial
  | .bl _, v, r => by unfold DL.cl; trivial
  | .int _, v, r => by unfold DL.cl; trivial
  | .str _, v, r => by unfold DL.cl; trivial
  | .ty _, v, r => by unfold DL.cl; trivial
  | .adr _, v, r => by unfold DL.cl; trivial
theorem Rps.cl {K : PySem.W.Frag} {al : List Addr} {H : Hp} : ∀ (ds : List D) (vs : List V), Rps K al H ds vs → DL.clL al.length ds
  | [], vs, r => by unfold DL.clL; trivial
  | x :: xs, vs, r => by
    unfold Rps at r; unfold DL.clL
    obtain ⟨v, r, _, h1, h2⟩ := r
    exact ⟨Rp.cl x v h1, Rps.cl xs r h2⟩
end
def pick (al : List Addr) (ks : List Nat) : List Addr := ks.map fun k => al.getD k 0
theorem pick_at {al : List Addr} {ks : List Nat} {j : Nat} {a : Addr} (hj : j < ks.length) (e : al[ks.getD j 0]? = some a) : (pick al ks)[j]? = some a := by
  unfold pick
  rw [List.getElem?_map, List.getElem?_eq_getElem hj]
  simp only [List.getD_eq_getElem?_getD, List.getElem?_eq_getElem hj, Option.getD_some] at e
  simp [List.getD_eq_getElem?_getD, e]
mutual
theorem Rp.ren {K : PySem.W.Frag} {al : List Addr} {ks : List Nat} {H : Hp} : ∀ (d : D) (v : V), Rp K al H (ren ks d) v → DL.cl ks.length d → Rp K (pick al ks) H d v
  | .cel j, v, r, q => by
    unfold DL.ren at r; unfold DL.cl at q; unfold Rp at r ⊢
    obtain ⟨a, e, z⟩ := r
    exact ⟨a, pick_at q e, z⟩
  | .tup xs, v, r, q => by
    unfold DL.ren at r; unfold DL.cl at q; unfold Rp at r ⊢
    obtain ⟨a, ys, e, z, r⟩ := r
    exact ⟨a, ys, e, z, Rps.ren xs ys r q⟩
  | .fl xs, v, r, q => by
    unfold DL.ren at r; unfold DL.cl at q; unfold Rp at r ⊢
    obtain ⟨a, ys, e, z, r⟩ := r
    exact ⟨a, ys, e, z, Rps.ren xs ys r q⟩
  | .non, v, r, q => by unfold DL.ren at r; unfold Rp at r ⊢; exact r
  | .bl _, v, r, q => by unfold DL.ren at r; unfold Rp at r ⊢; exact r
  | .int _, v, r, q => by unfold DL.ren at r; unfold Rp at r ⊢; exact r
  | .str _, v, r, q => by unfold DL.ren at r; unfold Rp at r ⊢; exact r
  | .ty _, v, r, q => by unfold DL.ren at r; unfold Rp at r ⊢; exact r
  | .adr _, v, r, q => by unfold DL.ren at r; unfold Rp at r ⊢; exact r
theorem Rps.ren {K : PySem.W.Frag} {al : List Addr} {ks : List Nat} {H : Hp} : ∀ (ds : List D) (vs : List V), Rps K al H (renL ks ds) vs → DL.clL ks.length ds → Rps K (pick al ks) H ds vs
  | [], vs, r, q => by unfold DL.renL at r; unfold Rps at r ⊢; exact r
  | x :: xs, vs, r, q => by
    unfold DL.renL at r; unfold DL.clL at q; unfold Rps at r ⊢
    obtain ⟨v, w, e, h1, h2⟩ := r
    exact ⟨v, w, e, Rp.ren x v h1 q.1, Rps.ren xs w h2 q.2⟩
end
/-! ### cells -/
def clC (n : Nat) : Cell → Prop
  | .lst xs => clL n xs
  | .dct kvs => clL n (kvs.map (·.2))
  | .fdc kvs => clL n (kvs.map (·.2))
  | .ins _ fs => clL n (fs.map (·.2))
  | .exc _ fs => clL n (fs.map (·.2))
def renC (ks : List Nat) : Cell → Cell
  | .lst xs => .lst (renL ks xs)
  | .dct kvs => .dct (kvs.map fun p => (p.1, ren ks p.2))
  | .fdc kvs => .fdc (kvs.map fun p => (p.1, ren ks p.2))
  | .ins C fs => .ins C (fs.map fun p => (p.1, ren ks p.2))
  | .exc C fs => .exc C (fs.map fun p => (p.1, ren ks p.2))
def clM (n : Nat) (mu : Mu) : Prop := ∀ c ∈ mu, clC n c
theorem clC.mono {n m : Nat} (h : n ≤ m) {c : Cell} (q : clC n c) : clC m c := by
  cases c <;> exact clL.mono h _ q
theorem clM.mono {n m : Nat} (h : n ≤ m) {mu : Mu} (q : clM n mu) : clM m mu := fun c hc => (q c hc).mono h
theorem clM_app {n : Nat} {mu nu : Mu} : clM n (mu ++ nu) ↔ clM n mu ∧ clM n nu := by
  simp only [clM, List.mem_append]
  exact ⟨fun h => ⟨fun x hx => h x (.inl hx), fun x hx => h x (.inr hx)⟩, fun h x hx => hx.elim (h.1 x) (h.2 x)⟩
theorem clM_set {n j : Nat} {c : Cell} {mu : Mu} (h : clM n mu) (hc : clC n c) : clM n (mu.set j c) := fun x hx => by
  rcases List.mem_or_eq_of_mem_set hx with q | q
  · exact h x q
  · exact q ▸ hc
theorem map_snd_ren {k : Type} {ks : List Nat} (kvs : List (k × D)) : (kvs.map fun p => (p.1, ren ks p.2)).map (·.2) = renL ks (kvs.map (·.2)) := by
  rw [renL_map, List.map_map, List.map_map]; rfl
theorem map_fst_ren {k : Type} {ks : List Nat} (kvs : List (k × D)) : (kvs.map fun p => (p.1, ren ks p.2)).map (·.1) = kvs.map (·.1) := by
  rw [List.map_map]; rfl
theorem renC_id {n : Nat} {ks : List Nat} (h : ∀ j < n, ks.getD j 0 = j) {c : Cell} (q : clC n c) : renC ks c = c := by
  have kv : ∀ {k : Type} (kvs : List (k × D)), clL n (kvs.map (·.2)) → (kvs.map fun p => (p.1, ren ks p.2)) = kvs := fun kvs q => by
    induction kvs with
    | nil => rfl
    | cons p r ih =>
      simp only [List.map_cons, clL] at q ⊢
      rw [ih q.2, ren_id h _ q.1]
  cases c with
  | lst xs => show Cell.lst (renL ks xs) = _; rw [renL_id h xs q]
  | dct kvs => show Cell.dct _ = _; rw [kv kvs q]
  | fdc kvs => show Cell.fdc _ = _; rw [kv kvs q]
  | ins C fs => show Cell.ins C _ = _; rw [kv fs q]
  | exc C fs => show Cell.exc C _ = _; rw [kv fs q]
theorem RpA.ren {k : Type} {K : PySem.W.Frag} {al : List Addr} {ks : List Nat} {H : Hp} {kvs : List (k × D)} {vs : List (k × V)} (r : RpA K al H (kvs.map fun p => (p.1, DL.ren ks p.2)) vs) (q : clL ks.length (kvs.map (·.2))) : RpA K (pick al ks) H kvs vs := by
  obtain ⟨r1, r2⟩ := r
  rw [map_snd_ren] at r2
  rw [map_fst_ren] at r1
  exact ⟨r1, Rps.ren _ _ r2 q⟩
theorem CellOk.ren {K : PySem.W.Frag} {al : List Addr} {ks : List Nat} {H : Hp} {a : Addr} {c : Cell} (h : CellOk K al H a (renC ks c)) (q : clC ks.length c) : CellOk K (pick al ks) H a c := by
  cases c with
  | lst xs => obtain ⟨vs, e, r⟩ := h; exact ⟨vs, e, Rps.ren _ _ r q⟩
  | dct kvs => obtain ⟨vs, e, r⟩ := h; exact ⟨vs, e, r.ren q⟩
  | fdc kvs => obtain ⟨o, vs, e, r⟩ := h; exact ⟨o, vs, e, r.ren q⟩
  | ins C fs => obtain ⟨dx, vs, e, r⟩ := h; exact ⟨dx, vs, e, r.ren q⟩
  | exc C fs => obtain ⟨dd, vs, e, e2, r⟩ := h; exact ⟨dd, vs, e, e2, r.ren q⟩
theorem CellOk.cl {K : PySem.W.Frag} {al : List Addr} {H : Hp} {a : Addr} {c : Cell} (h : CellOk K al H a c) : clC al.length c := by
  cases c with
  | lst xs => obtain ⟨vs, e, r⟩ := h; exact Rps.cl _ _ r
  | dct kvs => obtain ⟨vs, e, r⟩ := h; exact Rps.cl _ _ r.2
  | fdc kvs => obtain ⟨o, vs, e, r⟩ := h; exact Rps.cl _ _ r.2
  | ins C fs => obtain ⟨dx, vs, e, r⟩ := h; exact Rps.cl _ _ r.2
  | exc C fs => obtain ⟨dd, vs, e, e2, r⟩ := h; exact Rps.cl _ _ r.2
theorem SR.cl {K : PySem.W.Frag} {T : Tb} {al : List Addr} {mu : Mu} {H : Hp} (r : SR K T al mu H) : clM mu.length mu := fun c hc => by
  obtain ⟨j, hj, e⟩ := List.mem_iff_getElem.mp hc
  obtain ⟨a, ea, ok⟩ := r.at (j := j) (c := c) (by rw [← e]; exact List.getElem?_eq_getElem hj)
  rw [← r.len]; exact ok.cl
/-- how a model tells a store: the cells of the model's are those of the numbers ks -/
structure Keeps (ks : List Nat) (n : Nat) (mu1 mu' : Mu) : Prop where
  len : ks.length = mu'.length
  nd : ks.Nodup
  old : ∀ j < n, ks[j]? = some j
  le : n ≤ mu'.length
  at' : ∀ (j : Nat) (c : Cell), mu'[j]? = some c → clC mu'.length c ∧ mu1[ks.getD j 0]? = some (renC ks c)
theorem SR.ren {K : PySem.W.Frag} {T : Tb} {al al' : List Addr} {mu mu1 mu' : Mu} {H H' : Hp} {ks : List Nat} (r0 : SR K T al mu H) (r : SR K T al' mu1 H') (g : Gr al al') (k : Keeps ks mu.length mu1 mu') : SR K T (pick al' ks) mu' H' ∧ Gr al (pick al' ks) := by
  have gr : Gr al (pick al' ks) := fun j a e => by
    have hj : j < mu.length := by rw [← r0.len]; exact (List.getElem?_eq_some_iff.mp e).1
    have hk := k.old j hj
    have hl : j < ks.length := (List.getElem?_eq_some_iff.mp hk).1
    refine pick_at hl ?_
    rw [List.getD_eq_getElem?_getD, hk]
    exact g j a e
  refine ⟨⟨by rw [pick, List.length_map, k.len], ?_, fun j c a e1 e2 => ?_, r.tabs, r0.pre.trans gr⟩, gr⟩
  · unfold pick
    rw [List.Nodup, List.pairwise_map]
    refine List.Pairwise.imp_of_mem ?_ k.nd
    intro x y hx hy hxy z
    have inb : ∀ x ∈ ks, x < al'.length := fun x hx => by
      obtain ⟨i, hi, e⟩ := List.mem_iff_getElem.mp hx
      have hi' : i < mu'.length := by rw [← k.len]; exact hi
      have := (k.at' i mu'[i] (List.getElem?_eq_getElem hi')).2
      rw [List.getD_eq_getElem?_getD, List.getElem?_eq_getElem hi, e] at this
      rw [r.len]
      exact (List.getElem?_eq_some_iff.mp this).1
    have ix := inb x hx
    have iy := inb y hy
    rw [List.getD_eq_getElem?_getD, List.getD_eq_getElem?_getD, List.getElem?_eq_getElem ix, List.getElem?_eq_getElem iy] at z
    exact hxy ((List.getElem_inj r.nd).mp z)
  · obtain ⟨h1, h2⟩ := k.at' j c e1
    have hj : j < ks.length := by rw [k.len]; exact (List.getElem?_eq_some_iff.mp e1).1
    obtain ⟨a', ea, ok⟩ := r.at h2
    have := pick_at hj ea
    rw [this] at e2
    cases e2
    exact ok.ren (by rw [k.len]; exact h1)
/-- r is what is run, p what the model says -/
def Imp (mu : Mu) (r p : Ro) : Prop := match p with
  | none => True
  | some (.ok d, mu') => ∃ ks mu1, r = some (.ok (ren ks d), mu1) ∧ cl mu'.length d ∧ Keeps ks mu.length mu1 mu'
  | some (.ex C fs, mu') => ∃ ks mu1, r = some (.ex C (fs.map fun p => (p.1, ren ks p.2)), mu1) ∧ clL mu'.length (fs.map (·.2)) ∧ Keeps ks mu.length mu1 mu'
theorem Wo.imp {K : PySem.W.Frag} {T : Tb} {al : List Addr} {H : Hp} {Q : VK} {E : XK} {mu : Mu} {r p : Ro} (r0 : SR K T al mu H) (i : Imp mu r p) (h : Wo K T al H Q E p) : Wo K T al H Q E r := by
  match p with
  | none => exact h.elim
  | some (.ok d, mu') =>
    obtain ⟨ks, mu1, rfl, q, k⟩ := i
    intro al' v H' g kp sr rp
    obtain ⟨sr', g'⟩ := r0.ren sr g k
    exact h _ v H' g' kp sr' (Rp.ren _ _ rp (by rw [k.len]; exact q))
  | some (.ex C fs, mu') =>
    obtain ⟨ks, mu1, rfl, q, k⟩ := i
    intro al' H' dd vs g kp sr e rp
    obtain ⟨sr', g'⟩ := r0.ren sr g k
    exact h _ H' dd vs g' kp sr' e (rp.ren (by rw [k.len]; exact q))
/-- F is modelled by F' -/
def Mdl (F F' : FS) : Prop := ∀ ds mu, clL mu.length ds → clM mu.length mu → Imp mu (F ds mu) (F' ds mu)
theorem spD_mdl {K : PySem.W.Frag} {T : Tb} {n : Nat} {F F' : FS} (m : Mdl F F') (vs : List V) (H : Hp) (Q : VK) (E : XK) (h : spD K T n F' vs H Q E) : spD K T n F vs H Q E := by
  obtain ⟨l, al, mu, ds, sr, r, p⟩ := h
  exact ⟨l, al, mu, ds, sr, r, Wo.imp sr (m ds mu (by rw [← sr.len]; exact Rps.cl _ _ r) sr.cl) p⟩
theorem FnG.mdl {m : Md} {P : Program} {w : World} {K : PySem.W.Frag} {mg : Str → Option Value} {base : Heap} {T : Tb} {k n : Nat} {f : Addr} {fd : FuncData} {ps : List Str} {F F' : FS} (G : FnG m P w K mg base k f fd ps (spD K T n F)) (i : Mdl F F') : FnG m P w K mg base k f fd ps (spD K T n F') := G.imp (spD_mdl i)
theorem Fx.mdl {P : Program} {w : World} {K : PySem.W.Frag} {mg : Str → Option Value} {base : Heap} {T : Tb} {x : Str} {k n : Nat} {F F' : FS} (c : Fx P w K mg base T x k n F) (i : Mdl F F') : Fx P w K mg base T x k n F' := by
  obtain ⟨f, fd, ps, G, a, b, c, d⟩ := c.ex
  exact ⟨f, fd, ps, G.mdl i, a, b, c, d⟩
/-! ### ways to show it -/
theorem range_get (n : Nat) {j : Nat} (h : j < n) : (List.range n)[j]? = some j := by simp [h]
theorem range_getD (n : Nat) {j : Nat} (h : j < n) : (List.range n).getD j 0 = j := by simp [List.getD_eq_getElem?_getD, h]
/-- what lies behind is left -/
theorem Keeps.drop {n : Nat} {mu' g : Mu} (hn : n ≤ mu'.length) (h : clM mu'.length mu') : Keeps (List.range mu'.length) n (mu' ++ g) mu' where
  len := List.length_range
  nd := List.nodup_range
  old := fun j hj => range_get _ (by omega)
  le := hn
  at' := fun j c e => by
    have hj := (List.getElem?_eq_some_iff.mp e).1
    have hc := h c (List.mem_of_getElem? e)
    refine ⟨hc, ?_⟩
    rw [range_getD _ hj, List.getElem?_append_left hj, renC_id (fun j hj => range_getD _ hj) hc]
    exact e
theorem Imp.ok {mu mu' g : Mu} {d : D} {r : Ro} (hr : r = some (.ok d, mu' ++ g)) (hd : cl mu'.length d) (hn : mu.length ≤ mu'.length) (h : clM mu'.length mu') : Imp mu r (some (.ok d, mu')) :=
  ⟨List.range mu'.length, mu' ++ g, by rw [hr, ren_id (fun j hj => range_getD _ hj) d hd], hd, Keeps.drop hn h⟩
theorem Imp.ex {mu mu' g : Mu} {C : Addr} {fs : List (Str × D)} {r : Ro} (hr : r = some (.ex C fs, mu' ++ g)) (hd : clL mu'.length (fs.map (·.2))) (hn : mu.length ≤ mu'.length) (h : clM mu'.length mu') : Imp mu r (some (.ex C fs, mu')) := by
  refine ⟨List.range mu'.length, mu' ++ g, ?_, hd, Keeps.drop hn h⟩
  have : (fs.map fun p => (p.1, ren (List.range mu'.length) p.2)) = fs := by
    clear hr
    induction fs with
    | nil => rfl
    | cons p r ih =>
      simp only [List.map_cons, clL] at hd ⊢
      rw [ih hd.2, ren_id (fun j hj => range_getD _ hj) _ hd.1]
  rw [this, hr]
theorem Imp.none {mu : Mu} {r : Ro} : Imp mu r none := trivial
/-- a new cell at k, all else behind is left -/
theorem Keeps.new {n k : Nat} {mu' g : Mu} {c : Cell} (hn : n ≤ mu'.length) (h : clM mu'.length mu') (hc : clC mu'.length c) (hk : g[k]? = some c) : Keeps (List.range mu'.length ++ [mu'.length + k]) n (mu' ++ g) (mu' ++ [c]) where
  len := by simp
  nd := by
    rw [List.nodup_append]
    refine ⟨List.nodup_range, by simp, fun x hx y hy z => ?_⟩
    rw [List.mem_range] at hx
    simp at hy; omega
  old := fun j hj => by rw [List.getElem?_append_left (by simp; omega)]; exact range_get _ (by omega)
  le := by simp; omega
  at' := fun j c' e => by
    have idx : ∀ j < mu'.length, (List.range mu'.length ++ [mu'.length + k]).getD j 0 = j := fun j hj => by
      rw [List.getD_eq_getElem?_getD, List.getElem?_append_left (by simp; exact hj), range_get _ hj]; rfl
    have hl : (mu' ++ [c]).length = mu'.length + 1 := by simp
    by_cases hj : j < mu'.length
    · rw [List.getElem?_append_left hj] at e
      have hc' := h c' (List.mem_of_getElem? e)
      refine ⟨hc'.mono (by omega), ?_⟩
      rw [idx j hj, List.getElem?_append_left hj, renC_id idx hc']
      exact e
    · have hj' : j = mu'.length := by
        have := (List.getElem?_eq_some_iff.mp e).1
        omega
      subst hj'
      simp at e
      subst e
      refine ⟨hc.mono (by omega), ?_⟩
      have : (List.range mu'.length ++ [mu'.length + k]).getD mu'.length 0 = mu'.length + k := by
        rw [List.getD_eq_getElem?_getD, List.getElem?_append_right (by simp)]; simp
      rw [this, List.getElem?_append_right (by omega), renC_id idx hc]
      rw [show mu'.length + k - mu'.length = k by omega]
      exact hk
theorem Imp.new {mu mu' g : Mu} {k : Nat} {c : Cell} {r : Ro} (hr : r = some (.ok (.cel (mu'.length + k)), mu' ++ g)) (hk : g[k]? = some c) (hn : mu.length ≤ mu'.length) (h : clM mu'.length mu') (hc : clC mu'.length c) : Imp mu r (some (.ok (.cel mu'.length), mu' ++ [c])) := by
  refine ⟨List.range mu'.length ++ [mu'.length + k], mu' ++ g, ?_, ?_, Keeps.new hn h hc hk⟩
  · rw [hr]; unfold ren
    rw [List.getD_eq_getElem?_getD, List.getElem?_append_right (by simp)]; simp
  · unfold cl; simp
end DL
set_option Elab.async false
set_option linter.all false
set_option autoImplicit false
set_option maxRecDepth 100000
set_option maxHeartbeats 4000000
/-! DL26: instances of own classes: fields, methods, making. -/
namespace DL
open PySem PySem.Spec PyProof.Rows L2

/-! ### fields -/
def putFD (f : Str) (v : D) : List (Str × D) → List (Str × D)
  | [] => [(f, v)]
  | (g, x) :: r => if g = f then (g, v) :: r else (g, x) :: putFD f v r
theorem RpA.putF {K : PySem.W.Frag} {al : List Addr} {H : Hp} {f : Str} {d : D} {v : V} (q : Rp K al H d v) : ∀ {kvs : List (Str × D)} {vs : List (Str × V)}, RpA K al H kvs vs → RpA K al H (putFD f d kvs) (L2.putF f v vs)
  | [], vs, r => by
    have : vs = [] := by have := r.length; simpa using this
    subst this
    exact RpA.cons q rpa_nil
  | (g, x) :: kvs, vs, r => by
    obtain ⟨u, us, rfl, h1, h2⟩ := rpa_cons r
    unfold putFD L2.putF
    by_cases e : g = f
    · rw [if_pos e, if_pos e]; exact RpA.cons q h2
    · rw [if_neg e, if_neg e]; exact RpA.cons h1 (RpA.putF q h2)
def insD (d : D) (mu : Mu) : Option (Nat × Addr × List (Str × D)) := match d with
  | .cel j => match mu[j]? with
    | some (.ins C fs) => some (j, C, fs)
    | _ => none
  | _ => none
def fldD (n : Str) (ok : Addr → Bool) (d : D) (mu : Mu) : Ro := match insD d mu with
  | some (_, C, fs) => if ok C = true then match fs.lookup n with
      | some x => okD x mu
      | none => none
    else none
  | none => none
def eFld (n : Str) (ok : Addr → Bool) (f : ES) : ES := fun rho mu => bnd (f rho mu) (fldD n ok)
section
variable {T : Tb} {X : Cx} {pos pos' : Pos} {o e : Expr} {n : Str} {f g : ES} {ok : Addr → Bool}
end
/-! ### methods -/
/-- m is a method of the class at C, of n parameters (self among them), that is F -/
structure Mx (P : Program) (w : World) (K : PySem.W.Frag) (mg : Str → Option Value) (base : Heap) (T : Tb) (C : Addr) (m : Str) (k n : Nat) (F : FS) : Prop where
  ex : ∃ f fd ps, FnG T.md P w K mg base k f fd ps (spD K T n F) ∧ Meth K C m f ∧ Binds K fd ps [] ∧ ps.length = n
  cls : Cls K C
theorem Mx.mdl {P : Program} {w : World} {K : PySem.W.Frag} {mg : Str → Option Value} {base : Heap} {T : Tb} {C : Addr} {m : Str} {k n : Nat} {F F' : FS} (c : Mx P w K mg base T C m k n F) (i : Mdl F F') : Mx P w K mg base T C m k n F' := by
  obtain ⟨f, fd, ps, G, a, b, d⟩ := c.ex
  exact ⟨⟨f, fd, ps, G.mdl i, a, b, d⟩, c.cls⟩
def recvOk (C : Addr) (m : Str) (d : D) (mu : Mu) : Bool := match insD d mu with
  | some (_, C', fs) => decide (C' = C) && (fs.lookup m).isNone
  | none => false
def eMeth (C : Addr) (m : Str) (F : FS) (f : ES) (fs : List ES) : ES := fun rho mu => bnd (f rho mu) fun d mu1 => if recvOk C m d mu1 = true then eArgs fs rho mu1 (fun ds mu2 => F (d :: ds) mu2) else none
section
variable {T : Tb} {X : Cx} {pos apos : Pos} {o e : Expr} {es : List Expr} {f : ES} {fs : List ES} {C : Addr} {m : Str} {k j n : Nat} {F : FS}
end
/-! ### making -/
/-- x is a class of the module at C, whose __init__ (of n parameters, self among them) is F -/
structure Kx (P : Program) (w : World) (K : PySem.W.Frag) (mg : Str → Option Value) (base : Heap) (T : Tb) (x : Str) (C : Addr) (k n : Nat) (F : FS) : Prop where
  ex : ∃ f fd ps, FnG T.md P w K mg base k f fd ps (spD K T n F) ∧ L2.Mk K C f ∧ Binds K fd ps [] ∧ ps.length = n
  mg : mg x = some (.ref C)
theorem Kx.mdl {P : Program} {w : World} {K : PySem.W.Frag} {mg : Str → Option Value} {base : Heap} {T : Tb} {x : Str} {C : Addr} {k n : Nat} {F F' : FS} (c : Kx P w K mg base T x C k n F) (i : Mdl F F') : Kx P w K mg base T x C k n F' := by
  obtain ⟨f, fd, ps, G, a, b, d⟩ := c.ex
  exact ⟨⟨f, fd, ps, G.mdl i, a, b, d⟩, c.mg⟩
section
variable {X : Cx} {W : WX} {k : Nat} {f C : Addr} {fd : FuncData} {ps : List Str} {sp : Sp}
end
section
variable {T : Tb} {X : Cx} {p pos : Pos} {e : Expr} {es : List Expr} {fs : List ES} {C : Addr} {x : Str} {k j n : Nat} {F : FS}
end
end DL
set_option Elab.async false
set_option linter.all false
set_option autoImplicit false
set_option maxRecDepth 100000
set_option maxHeartbeats 4000000
/-! DL22: chained comparisons, minus, split, list(x), repr of anything that is a tree. -/
namespace DL
open PySem PySem.Spec PyProof.Rows L2
/-- a op b op' c -/
def eChain (h h' : D2) (f g k : ES) : ES := fun rho mu => DL.bnd (f rho mu) fun x mu1 => DL.bnd (g rho mu1) fun y mu2 => DL.bnd (h x y mu2) (chB (fun mu3 => DL.bnd (k rho mu3) fun z mu4 => h' y z mu4) fun mu3 => some (.ok (.bl false), mu3))
section
variable {T : Tb} {X : Cx} {pos : Pos} {a b c : Expr} {f g k : ES} {h h' : D2} {r r' : R2}
theorem rd_chain {W : WX} (o : Op2 X.K T h r) (o' : Op2 X.K T h' r') : ∀ s H Q, rdE X.K T W (eChain h h' f g k) s H Q → tChain r r' (rdE X.K T W f) (rdE X.K T W g) (rdE X.K T W k) s H Q := fun s H Q ⟨al, rho, mu, sl, sr, p⟩ =>
  ⟨al, rho, mu, sl, sr, Wo.bnd p fun d mu1 al1 v H1 _ g1 k1 sr1 rv p1 => ⟨al1, rho, mu1, sl.mono k1 g1, sr1, Wo.bnd p1 fun e mu2 al2 u H2 _ g2 k2 sr2 ru p2 =>
    o al2 mu2 H2 d e v u _ (fun c d H' => W c d s H') sr2 (Rp.mono k2 g2 _ _ rv) ru (Wo.ch p2 fun q mu3 al3 H3 g3 k3 sr3 p3 => ⟨q, rfl, by
      have sl3 := ((sl.mono k1 g1).mono k2 g2).mono k3 g3
      cases q with
      | true =>
        rw [if_pos rfl] at p3 ⊢
        exact ⟨al3, rho, mu3, sl3, sr3, Wo.bnd p3 fun z mu4 al4 w4 H4 _ g4 k4 sr4 rz p4 => o' al4 mu4 H4 e z u w4 Q (fun c d H' => W c d s H') sr4 (Rp.mono k4 g4 _ _ (Rp.mono k3 g3 _ _ ru)) rz p4⟩
      | false =>
        rw [if_neg Bool.false_ne_true] at p3 ⊢
        exact p3.now sr3 (bl_rp _)⟩)⟩⟩
theorem se_chain {op op' : CmpOp} (ho : OpR X (compareOp op) r) (o : Op2 X.K T h r) (ho' : OpR X (compareOp op') r') (o' : Op2 X.K T h' r') (ha : SE T X a f) (hb : SE T X b g) (hc : SE T X c k) (hm : lastMarks [op, op'] [b, c] = false := by with_unfolding_all rfl) :
    SE T X (.Compare a [op, op'] [b, c] pos) (eChain h h' f g k) := fun W z => PE.weak (pe_chain ho ho' (ha W z) (hb W z) (hc W z) hm) (rd_chain o o')
theorem sc_chain {op op' : CmpOp} (ho : OpR X (compareOp op) r) (o : Op2 X.K T h r) (ho' : OpR X (compareOp op') r') (o' : Op2 X.K T h' r') (ha : SE T X a f) (hb : SE T X b g) (hc : SE T X c k) (hm : lastMarks [op, op'] [b, c] = false := by with_unfolding_all rfl) :
    SC T X (.Compare a [op, op'] [b, c] pos) (eChain h h' f g k) := fun W z => PT.weak (pt_chain ho ho' (ha W z) (hb W z) (hc W z) hm) fun s H Q q => rd_chain o o' s H _ q
theorem se_lele (ha : SE T X a f) (hb : SE T X b g) (hc : SE T X c k) (hm : lastMarks [.LtE, .LtE] [b, c] = false := by with_unfolding_all rfl) : SE T X (.Compare a [.LtE, .LtE] [b, c] pos) (eChain leD leD f g k) := se_chain (op_le.or op_le_str) o_ord (op_le.or op_le_str) o_ord ha hb hc hm
theorem sc_lele (ha : SE T X a f) (hb : SE T X b g) (hc : SE T X c k) (hm : lastMarks [.LtE, .LtE] [b, c] = false := by with_unfolding_all rfl) : SC T X (.Compare a [.LtE, .LtE] [b, c] pos) (eChain leD leD f g k) := sc_chain (op_le.or op_le_str) o_ord (op_le.or op_le_str) o_ord ha hb hc hm
/-- -i -/
def eNeg (f : ES) : ES := fun rho mu => DL.bnd (f rho mu) fun d mu1 => match d with
  | .int i => some (.ok (.int (-i)), mu1)
  | _ => none
theorem se_neg (ha : SE T X a f) : SE T X (.UnaryOp .USub a pos) (eNeg f) := fun W z => PE.weak (pe_un un_neg (ha W z)) fun s H Q ⟨al, rho, mu, sl, sr, p⟩ =>
  ⟨al, rho, mu, sl, sr, Wo.bnd p fun d mu1 al1 v H1 _ g1 k1 sr1 rv p1 => by
    split at p1
    · cases rp_int.mp rv
      exact ⟨_, rfl, Wo.now p1 sr1 (rp_int.mpr rfl)⟩
    · exact p1.elim⟩
end
/-! ### split, list(x) -/
def splitM : D → List D → Mu → Ro
  | .str a, [.str b], mu => if (b.length == 0) = false ∧ a.length + 2 ≤ 16777216 then newL ((Txt.split a b).map D.str) mu else none
  | _, _, _ => none
theorem m_split {K : PySem.W.Frag} {T : Tb} : MthD K T splitM (fun x xs H Q => ∃ a b, x = .str a ∧ xs = [.str b] ∧ (b.length == 0) = false ∧ a.length + 2 ≤ sizeLine ∧ rNewStrs (Txt.split a b) H Q) := fun al mu H d ds v vs Q E sr r rs p => by
  unfold splitM at p
  split at p
  · rename_i a b mu
    split at p
    · rename_i h
      cases rp_str.mp r
      obtain ⟨v, rr, rfl, r1, r2⟩ := rps_cons.mp rs
      cases rps_nil.mp r2
      cases rp_str.mp r1
      exact ⟨_, _, rfl, rfl, h.1, line _ h.2, fun q n => Wo.lst p sr (rps_strs _) q n⟩
    · exact p.elim
  · exact p.elim
theorem c_list {K : PySem.W.Frag} {T : Tb} : CallD K T listF (fun xs H Q => ∃ p ys, xs = [.ref p] ∧ (SqL K H p ys ∨ SqT K H p ys) ∧ ∀ l, H l = none → Q (.ref l) (upd H l (.lst ys))) := fun al mu H ds vs Q E sr r p => by
  unfold listF at p
  split at p
  · rename_i d mu
    split at p
    · rename_i xs e
      obtain ⟨v, rr, rfl, r1, r2⟩ := rps_cons.mp r
      cases rps_nil.mp r2
      obtain ⟨a, ys, rfl, q, rx⟩ := seq_rp sr r1 e
      exact ⟨a, ys, rfl, q, fun l n => Wo.lst p sr rx l n⟩
    · exact p.elim
  · exact p.elim
theorem se_listc {T : Tb} {X : Cx} {pos p : Pos} {e : Expr} {es : List Expr} {fs : List ES} (hm : X.mg "list" = none) (ha : SA T X (e :: es) fs) (hg : Gl X "list" := by rfl) (he : starEach (e :: es) X.env = (false, eval e X.env) :: starEach es X.env := by rfl) (hpl : (backTo pos (starEach es X.env)).any (·.1) = false := by rfl) :
    SE T X (.Call (.Name "list" p) (e :: es) [] pos) (eCall listF fs) := se_callTy call_list_of c_list hg hm (by decide +kernel) ha (by decide) (by decide) he hpl
/-! ### repr of any tree -/
def reprG : FS
  | [d], mu => match toP mu d with
    | some p => if p.showable = true ∧ p.shown.length ≤ sizeLine ∧ p.depth ≤ 100 then some (.ok (.str p.shown), mu) else none
    | none => none
  | _, _ => none
def rReprG (K : PySem.W.Frag) : List V → Hp → VK → Prop := fun xs H Q => ∃ (v : V) (p : PyData), xs = [v] ∧ (∀ (P : Program) (w : World) (h : Heap) (u : Value), HOk P w H h → K.In h → RelV v u → DLX.Sh h u p) ∧ p.showable = true ∧ p.shown.length ≤ sizeLine ∧ p.depth ≤ 100 ∧ Q (.str p.shown) H
theorem call_reprG {X : Cx} {k : Nat} (hr : Room k X.A) (gd : X.A.guards = some []) : CallR X (.builtin "repr") (rReprG X.K) := by
  intro pins s st H xs us Q I r h
  obtain ⟨v, p, rfl, sh, h1, h2, h3, q⟩ := h
  cases r with
  | cons rx rr =>
    cases rr
    rename_i u
    have z := sh _ _ _ u I.hok I.kIn rx
    have goRef : ∀ a, u = .ref a → wpAny (model X.prog X.w) X.A (call (.builtin "repr") [u]) (EP X pins st Q) X.xe s := fun a e => by
      subst e
      exact DLX.call_repr_sh z h1 h2 gd (by have := hr.un; omega) fun h' u tk k => ⟨.str _, H, I.kept (t' := tk) k, ⟨_, rfl⟩, q⟩
    cases z with
    | none => exact PySem.P.repr_of_none ⟨.str _, H, I.tok _, ⟨_, rfl⟩, by simpa only [PyData.shown] using q⟩
    | bool b => exact PySem.P.repr_of_bool ⟨.str _, H, I.tok _, ⟨_, rfl⟩, by simpa only [PyData.shown] using q⟩
    | int i t => exact PySem.P.repr_of_int (by simpa [PyData.showable] using h1) ⟨.str _, H, I.tok _, ⟨_, rfl⟩, by simpa only [PyData.shown] using q⟩
    | str x t => exact PySem.P.repr_of_str ⟨.str _, H, I.tok _, ⟨_, rfl⟩, by simpa only [PyData.shown] using q⟩ (by simpa only [PyData.shown] using h2)
    | list a1 a2 a3 a4 => exact goRef _ rfl
    | tuple a1 a2 a3 a4 => exact goRef _ rfl
    | dict0 a1 a2 a3 a4 => exact goRef _ rfl
theorem c_reprG {K : PySem.W.Frag} {T : Tb} : CallD K T reprG (rReprG K) := fun al mu H ds vs Q E sr r p => by
  unfold reprG at p
  split at p
  · rename_i d mu
    split at p
    · rename_i q hq
      split at p
      · rename_i hc
        obtain ⟨c2, c3, c4⟩ := hc
        obtain ⟨v, rr, rfl, r1, r2⟩ := rps_cons.mp r
        cases rps_nil.mp r2
        exact ⟨v, q, rfl, fun P w h u hok KX ru => rp_sh hok KX (cP_sh hok KX sr 12) _ _ q _ hq r1 ru, c2, c3, c4, Wo.now p sr (by unfold Rp; rfl)⟩
      · exact p.elim
    · exact p.elim
  · exact p.elim
theorem se_reprG {T : Tb} {X : Cx} {k : Nat} {e : Expr} {es : List Expr} {fs : List ES} {pos p : Pos} (hr : Room k X.A) (hm : X.mg "repr" = none) (ha : SA T X (e :: es) fs)
    (hg : Gl X "repr" := by rfl) (he : starEach (e :: es) X.env = (false, eval e X.env) :: starEach es X.env := by rfl) (hpl : (backTo pos (starEach es X.env)).any (·.1) = false := by rfl) :
    SE T X (.Call (.Name "repr" p) (e :: es) [] pos) (eCall reprG fs) := fun W z => se_callB (call_reprG hr z.gd) c_reprG hg hm (by decide +kernel) ha (by decide) (by decide) he hpl W z
end DL
set_option Elab.async false
set_option linter.all false
set_option autoImplicit false
set_option maxRecDepth 100000
set_option maxHeartbeats 4000000
/-! DL27: rules joined by data; dicts locked and walked; in and [] of dicts. -/
namespace DL
open PySem PySem.Spec PyProof.Rows L2

/-! ### one of two rules, by data -/
section
variable {T : Tb} {X : Cx} {e tg : Expr} {st : Stmt} {f f1 f2 : ES} {m m1 m2 : SS}
theorem se_alt (h1 : SE T X e f1) (h2 : SE T X e f2) (hf : ∀ rho mu, f rho mu = f1 rho mu ∨ f rho mu = f2 rho mu) : SE T X e f := fun W z => ⟨fun pins s σ H Q I ⟨al, rho, mu, sl, sr, w⟩ => by
  rcases hf rho mu with q | q
  · exact (h1 W z).run pins s σ H Q I ⟨al, rho, mu, sl, sr, by rw [← q]; exact w⟩
  · exact (h2 W z).run pins s σ H Q I ⟨al, rho, mu, sl, sr, by rw [← q]; exact w⟩⟩
theorem sc_alt (h1 : SC T X e f1) (h2 : SC T X e f2) (hf : ∀ rho mu, f rho mu = f1 rho mu ∨ f rho mu = f2 rho mu) : SC T X e f := fun W z => ⟨fun pins s σ H Q I ⟨al, rho, mu, sl, sr, w⟩ => by
  rcases hf rho mu with q | q
  · exact (h1 W z).run pins s σ H Q I ⟨al, rho, mu, sl, sr, by rw [← q]; exact w⟩
  · exact (h2 W z).run pins s σ H Q I ⟨al, rho, mu, sl, sr, by rw [← q]; exact w⟩⟩
end
theorem op_pick {h h1 h2 : D2} {c : D → D → Mu → Bool} (e : ∀ x y mu, h x y mu = if c x y mu = true then h1 x y mu else h2 x y mu) (f g : ES) (rho : Rho) (mu : Mu) : eOp h f g rho mu = eOp h1 f g rho mu ∨ eOp h f g rho mu = eOp h2 f g rho mu := by
  unfold eOp bnd
  match f rho mu with
  | none => exact .inl rfl
  | some (.ex C fs, mu1) => exact .inl rfl
  | some (.ok d, mu1) =>
    dsimp only
    match g rho mu1 with
    | none => exact .inl rfl
    | some (.ex C fs, mu1) => exact .inl rfl
    | some (.ok y, mu2) =>
      dsimp only
      rw [e]
      by_cases q : c d y mu2 = true
      · rw [if_pos q]; exact .inl rfl
      · rw [if_neg q]; exact .inr rfl
section
variable {T : Tb} {X : Cx} {k : Nat} {o i a b : Expr} {f g : ES} {pos : Pos}
end
/-! ### o[i] = v, of a dict or of a list -/
/-! ### locks -/
theorem PE.or {X : Cx} {e : Expr} {t t' : TE} (h : PE X e t) (h' : PE X e t') : PE X e (fun s H Q => t s H Q ∨ t' s H Q) := ⟨fun pins s σ H R I z => z.elim (h.run pins s σ H R I) (h'.run pins s σ H R I)⟩
theorem PS.or {X : Cx} {e : Stmt} {t t' : TS} (h : PS X e t) (h' : PS X e t') : PS X e (fun D s H => t D s H ∨ t' D s H) := ⟨fun pins s σ H R I z => z.elim (h.run pins s σ H R I) (h'.run pins s σ H R I)⟩
section
variable {K : PySem.W.Frag} {T : Tb} {al al' : List Addr} {mu mu' : Mu} {H H' : Hp} {j : Nat} {a : Addr} {kvs kvs' : List (Key × D)} {vs : List (Key × V)} {o : Obj}
end
theorem SL.monoQ {K : PySem.W.Frag} {al al' : List Addr} {H H' : Hp} {rho : Rho} {s : L2.St} (r : SL K al H rho s) (k : Kq H H') (g : Gr al al') : SL K al' H' rho s := ⟨r.len, fun i d e => by
  obtain ⟨v, e1, e2⟩ := r.ok i d e
  exact ⟨v, e1, Rp.monoQ k g d v e2⟩⟩
section
variable {T : Tb} {X : Cx} {e : Expr} {st : Stmt} {f : ES} {m : SS}
end
/-! ### walks over dicts -/
def kD : Key → D
  | .inl i => .int i
  | .inr s => .str s
theorem kD_rp {K : PySem.W.Frag} {al : List Addr} {H : Hp} (k : Key) : Rp K al H (kD k) (kV k) := by
  cases k with
  | inl i => exact rp_int.mpr rfl
  | inr s => exact rp_str.mpr rfl
section
variable {K : PySem.W.Frag} {T : Tb} {al : List Addr} {H : Hp} {a : Addr} {o : Obj} {kvs : List (Key × D)} {vs : List (Key × V)}
end
section
variable {T : Tb} {X : Cx} {tg e : Expr} {f : ES} {apos cpos tpos : Pos} {elts : List Expr} {kk : Nat}
end
end DL
set_option Elab.async false
set_option linter.all false
set_option autoImplicit false
set_option maxRecDepth 100000
set_option maxHeartbeats 4000000
/-! DL28: dict comprehensions; list comprehensions of two clauses. -/
namespace DL
open PySem PySem.Spec PyProof.Rows L2

/-! ### dict comprehensions -/
open Classical in
section
variable {T : Tb} {X : Cx}
variable {kx vx tg iter : Expr} {ifs : List Expr} {scope : Scope} {pos : Pos} {f : IS} {t : Tg} {tt tk tv : ES}
end
/-! ### two clauses -/
section
variable {T : Tb} {X : Cx}
variable {elt tg iter tg1 iter1 : Expr} {ifs ifs1 : List Expr} {scope : Scope} {pos : Pos} {f f1 : IS} {t t1 : Tg} {tt tt1 te : ES}
end
end DL
set_option Elab.async false
set_option linter.all false
set_option autoImplicit false
set_option maxRecDepth 100000
set_option maxHeartbeats 4000000
/-! DL29: extend, pop, range(a, b), texts and tuples times ints, isinstance with a tuple, try .. except X: return c, ints of the module, list(dict). -/
namespace DL
open PySem PySem.Spec PyProof.Rows L2

/-! ### methods of lists -/
section
variable {K : PySem.W.Frag} {T : Tb}
theorem Rps.dropLast {al : List Addr} {H : Hp} {ds : List D} {vs : List V} (h : Rps K al H ds vs) : Rps K al H ds.dropLast vs.dropLast := by
  rw [List.dropLast_eq_take, List.dropLast_eq_take, h.length]
  exact h.take _
end
/-! ### range(a, b) -/
section
variable {T : Tb} {X : Cx} {tg e e2 : Expr} {f g : ES} {pos p : Pos}
end
/-! ### times -/
def repS (s : Str) (n : Nat) : Str := ⟨(List.replicate n s.cps.toList).flatten.toArray⟩
theorem foldl_app (x : Array Nat) : ∀ (n : Nat) (a : Array Nat), (List.replicate n x).foldl (· ++ ·) a = a ++ (List.replicate n x.toList).flatten.toArray
  | 0, a => by simp
  | n + 1, a => by
    rw [List.replicate_succ, List.foldl_cons, foldl_app x n, List.replicate_succ, List.flatten_cons]
    apply Array.ext'
    simp
theorem repS_eq (s : Str) (n : Nat) : (⟨(List.replicate n s.cps).foldl (· ++ ·) #[]⟩ : Str) = repS s n := by
  rw [foldl_app]; unfold repS; simp
theorem repS_one (s : Str) : repS s 1 = s := by unfold repS; simp
theorem repS_emp (s : Str) (h : s.length = 0) (n : Nat) : repS s n = s := by
  obtain ⟨c⟩ := s
  have hc : c = #[] := Array.eq_empty_of_size_eq_zero h
  subst hc
  unfold repS
  congr 1
  have : (List.replicate n ([] : List Nat)).flatten = [] := by simp
  show (List.replicate n ([] : List Nat)).flatten.toArray = #[]
  rw [this]
theorem op_mul_str {X : Cx} : OpR X (binaryOp .Mult) (fun x y H Q => ∃ s k, x = .str s ∧ y = .int k ∧ -(2 ^ 62) ≤ k ∧ k ≤ 2 ^ 24 ∧ s.length * k.toNat ≤ sizeLine ∧ Q (.str (repS s k.toNat)) H) := by
  intro pins s σ H x y v u Q I rx ry h
  obtain ⟨z, k, rfl, rfl, h1, h2, h3, q⟩ := h
  obtain ⟨t, rfl⟩ := rx
  obtain ⟨t', rfl⟩ := ry
  have hz : (z.length : Int) ≤ 2 ^ 62 ∨ k < 1 := by
    by_cases hk : k < 1
    · exact .inr hk
    · left
      have : z.length ≤ z.length * k.toNat := Nat.le_mul_of_pos_right _ (by omega)
      rw [sizeLine_eq] at h3
      omega
  refine P.mul_str ?_ ?_ ?_ ?_
  · rw [decide_eq_false (by omega), decide_eq_false (by omega)]; rfl
  · intro n1 n2 gt
    have hk : 0 < k := by omega
    have h4 : (z.length : Int) * k ≤ 2 ^ 24 := by
      have e : ((z.length * k.toNat : Nat) : Int) = (z.length : Int) * k := by
        rw [Int.natCast_mul]; congr 1; omega
      rw [← e]
      rw [sizeLine_eq] at h3
      omega
    have h5 : (z.length : Int) * k > 2 ^ 63 - 1 := by
      have := Int.lt_mul_of_ediv_lt hk gt
      exact this
    omega
  · intro n1 n2
    exact decide_eq_false (Nat.not_lt.mpr h3)
  · by_cases k1 : k < 1
    · rw [if_pos k1]
      have e : k.toNat = 0 := by omega
      rw [e] at q
      exact ⟨by decide, .str Str.empty, H, I.tok _, ⟨_, rfl⟩, q⟩
    · rw [if_neg k1]
      by_cases k2 : (k == 1 || z.length == 0) = true
      · rw [if_pos k2]
        have e : repS z k.toNat = z := by
          rw [Bool.or_eq_true, beq_iff_eq, beq_iff_eq] at k2
          rcases k2 with k2 | k2
          · subst k2; exact repS_one z
          · exact repS_emp z k2 _
        rw [e] at q
        exact ⟨.str z, H, I, ⟨_, rfl⟩, q⟩
      · rw [if_neg k2, repS_eq]
        refine ⟨?_, .str _, H, I.tok _, ⟨_, rfl⟩, q⟩
        show (repS z k.toNat).cps.size ≤ sizeLine
        unfold repS
        rw [List.size_toArray, PyProof.Rows.lm_len_rep_flat, Nat.mul_comm]
        exact h3
theorem tuple_mulS (l : Addr) (items : Array Value) (n : Nat) (dd : Option Addr) (sl : Array (Option Value)) (x : Int) (u : Tok) (c0 : (decide (x < -(2 ^ 63)) || decide (x ≥ 2 ^ 63)) = false) (c1 : (items.isEmpty || x == 1) = true) :
    Meets (Builtin.«tuple.__mul__» ⟨[.ref l, .int x u], []⟩) (fun _ R s => s.heap.get? l = some { cls := .type "tuple", dict := dd, data := .seq items n, slots := sl } ∧ R (.ok (.ret (Value.ref l))) s) :=
  .of_wp fun prog w A R s h => by
    obtain ⟨hp, g, d, tk, os⟩ := s
    obtain ⟨hl, h⟩ := h
    have f1 := AutoSeq1.idx_int
    wp_walk using wpAny_loadPart' hl
    repeat (first
      | (refine wpAny_ite_false (decide_eq_false (by rw [c0]; exact Bool.false_ne_true)) ?_; wp_walk using wpAny_loadPart' hl)
      | (refine wpAny_ite_true (decide_eq_true (by rw [c1])) ?_; wp_walk using wpAny_loadPart' hl))
    exact ⟨_, rfl, h⟩
theorem tuple_mul0 (l : Addr) (items : Array Value) (n : Nat) (dd : Option Addr) (sl : Array (Option Value)) (x : Int) (u : Tok) (c0 : (decide (x < -(2 ^ 63)) || decide (x ≥ 2 ^ 63)) = false) (c1 : (items.isEmpty || x == 1) = false) (c2 : (decide (x ≤ 0) || items.isEmpty) = true) :
    Meets (Builtin.«tuple.__mul__» ⟨[.ref l, .int x u], []⟩) (fun _ R s => s.heap.get? l = some { cls := .type "tuple", dict := dd, data := .seq items n, slots := sl } ∧
      R (.ok (.ret (Value.ref s.heap.objs.size))) { s with heap := s.heap.push { cls := Value.type "tuple", data := Data.seq #[] }, toks := s.toks }) :=
  .of_wp fun prog w A R s h => by
    obtain ⟨hp, g, d, tk, os⟩ := s
    obtain ⟨hl, h⟩ := h
    have f1 := AutoSeq1.idx_int
    wp_walk using wpAny_loadPart' hl
    repeat (first
      | (refine wpAny_ite_false (decide_eq_false (by rw [c0]; exact Bool.false_ne_true)) ?_; wp_walk using wpAny_loadPart' hl)
      | (refine wpAny_ite_false (decide_eq_false (by rw [c1]; exact Bool.false_ne_true)) ?_; wp_walk using wpAny_loadPart' hl)
      | (refine wpAny_ite_true (decide_eq_true (by rw [c2])) ?_; wp_walk using wpAny_loadPart' hl))
    exact ⟨_, rfl, h⟩
def rRepTA (K : PySem.W.Frag) : R2 := fun x y H Q => ∃ l k xs, x = .ref l ∧ y = .int k ∧ SqT K H l xs ∧ -1000 ≤ k ∧ k ≤ 1000 ∧ xs.length ≤ 1000 ∧ ((xs = [] ∨ k = 1) → Q (.ref l) H) ∧ (xs ≠ [] → k ≠ 1 → ∀ p, H p = none → Q (.ref p) (upd H p (.tup (List.replicate k.toNat xs).flatten)))
theorem op_repTA {X : Cx} : OpR X (binaryOp .Mult) (rRepTA X.K) := by
  intro pins s σ H x y v u Q I rx ry h
  obtain ⟨l, k, xs, rfl, rfl, hT, h1, h2, hz, qs, q⟩ := h
  by_cases hk : 2 ≤ k ∧ xs ≠ []
  · exact op_repT pins s σ H _ _ v u Q I rx ry ⟨l, k, xs, rfl, rfl, hT, hk.2, hk.1, h2, hz, q hk.2 (by omega)⟩
  cases rx
  obtain ⟨t, rfl⟩ := ry
  obtain ⟨its, r, ⟨⟨cls, dd, data, sl⟩, ho, hc, n, hd⟩, hs⟩ := I.tuple hT
  simp only at hc hd
  subst hc hd
  have hle : its.length = xs.length := r.length.symm
  have hi : its.toArray.isEmpty = decide (xs = []) := by
    cases its with
    | nil =>
      have : xs = [] := List.eq_nil_of_length_eq_zero hle.symm
      subst this; rfl
    | cons a b =>
      have : xs ≠ [] := fun z => by rw [z] at hle; cases hle
      rw [decide_eq_false this]; rfl
  have c0 : (decide (k < -(2 ^ 63)) || decide (k ≥ 2 ^ 63)) = false := by
    rw [decide_eq_false (by omega), decide_eq_false (by omega)]; rfl
  by_cases c1 : xs = [] ∨ k = 1
  · have e1 : (its.toArray.isEmpty || k == 1) = true := by
      rw [hi, Bool.or_eq_true, decide_eq_true_eq, beq_iff_eq]; exact c1
    refine wpAny_binaryOp_repeat_ref (T := "tuple") (U := "int") (by decide) ⟨_, ho, rfl⟩ (fun s' => typeIs_int s' k t) noFill_tuple_mul F.fills_int_mul F.slot_int_rmul repeat_tuple F.slot_int_index.lookup
      (call_meets F.slot_int_rmul (typeIs_int s k t) F.entry_int_rmul (F.args_int_rmul_2 _ _) (int_rmul_tuple k t l its.toArray n dd sl)
        ⟨ho, rfl, ⟨_, ho, rfl⟩, call_meets F.slot_tuple_mul ⟨_, ho, rfl⟩ F.entry_tuple_mul (F.args_tuple_mul_2 _ _) (tuple_mulS l its.toArray n dd sl k t c0 e1) ⟨ho, ?_⟩⟩)
    exact ⟨.ref l, H, I, rfl, qs c1⟩
  · have c1' : xs ≠ [] ∧ k ≠ 1 := ⟨fun z => c1 (.inl z), fun z => c1 (.inr z)⟩
    have e1 : (its.toArray.isEmpty || k == 1) = false := by
      rw [hi, decide_eq_false c1'.1, Bool.false_or]; exact beq_eq_false_iff_ne.mpr c1'.2
    have k0 : k ≤ 0 := by
      by_cases k2 : 2 ≤ k
      · exact absurd ⟨k2, c1'.1⟩ hk
      · have := c1'.2; omega
    have e2 : (decide (k ≤ 0) || its.toArray.isEmpty) = true := by rw [decide_eq_true k0]; rfl
    refine wpAny_binaryOp_repeat_ref (T := "tuple") (U := "int") (by decide) ⟨_, ho, rfl⟩ (fun s' => typeIs_int s' k t) noFill_tuple_mul F.fills_int_mul F.slot_int_rmul repeat_tuple F.slot_int_index.lookup
      (call_meets F.slot_int_rmul (typeIs_int s k t) F.entry_int_rmul (F.args_int_rmul_2 _ _) (int_rmul_tuple k t l its.toArray n dd sl)
        ⟨ho, rfl, ⟨_, ho, rfl⟩, call_meets F.slot_tuple_mul ⟨_, ho, rfl⟩ F.entry_tuple_mul (F.args_tuple_mul_2 _ _) (tuple_mul0 l its.toArray n dd sl k t c0 e1 e2) ⟨ho, ?_⟩⟩)
    have qq := q c1'.1 c1'.2
    have e0 : k.toNat = 0 := by omega
    rw [e0] at qq
    exact ⟨.ref s.heap.objs.size, _, I.laid (t' := s.toks) (o := .tup []) (fun b ob q => Heap.get?_push_of_some _ q) (Nat.le_refl _) ⟨Nat.zero_le _, [], .nil, IsTup.new _ _⟩, rfl, qq _ (I.hok.fresh (Nat.le_refl _))⟩
def mulA : D2 := fun x y mu => match x, y with
  | .tup xs, .int k => if xs.length ≤ 1000 ∧ -1000 ≤ k ∧ k ≤ 1000 then okD (.tup (List.replicate k.toNat xs).flatten) mu else none
  | .str s, .int k => if -(2 ^ 62) ≤ k ∧ k ≤ 2 ^ 24 ∧ s.length * k.toNat ≤ 16777216 then okD (.str (repS s k.toNat)) mu else none
  | _, _ => mulD x y mu
theorem o_mulA {K : PySem.W.Frag} {T : Tb} : Op2 K T mulA (fun x y H Q => (∃ s k, x = .str s ∧ y = .int k ∧ -(2 ^ 62) ≤ k ∧ k ≤ 2 ^ 24 ∧ s.length * k.toNat ≤ sizeLine ∧ Q (.str (repS s k.toNat)) H) ∨ rRepTA K x y H Q ∨ rI CMul (fun i j => .int (i * j)) x y H Q ∨ rRep x y H Q) := fun al mu H dx dy x y Q E sr rx ry p => by
  unfold mulA at p
  split at p
  · cases rp_int.mp ry
    split at p
    · rename_i h
      obtain ⟨a, ys, rfl, q, r2⟩ := rp_tup.mp rx
      refine .inr (.inl ⟨a, _, ys, rfl, rfl, q, h.2.1, h.2.2, by rw [r2.length]; exact h.1, fun c => p.now sr (rp_tup.mpr ⟨a, ys, rfl, q, ?_⟩), fun _ _ b n => p.tup sr (r2.rep _) b n⟩)
      rcases c with c | rfl
      · rename_i xs k
        subst c
        have e : xs = [] := List.eq_nil_of_length_eq_zero (by have := r2.length; simpa using this.symm)
        subst e
        simpa using Rps.nil
      · simpa using r2
    · exact p.elim
  · cases rp_str.mp rx; cases rp_int.mp ry
    split at p
    · rename_i h
      exact .inl ⟨_, _, rfl, rfl, h.1, h.2.1, line _ h.2.2, p.now sr (rp_str.mpr rfl)⟩
    · exact p.elim
  · exact .inr (.inr (o_mul al mu H dx dy x y Q E sr rx ry p))
section
variable {T : Tb} {X : Cx} {pos : Pos} {a b : Expr} {f g : ES}
theorem se_mulA (ha : SE T X a f) (hb : SE T X b g) : SE T X (.BinOp a .Mult b pos) (eOp mulA f g) := se_op (op_mul_str.or (op_repTA.or (op_mul.or op_rep))) o_mulA ha hb
/-- an int of the module -/
theorem se_globI {x : Str} {n : Int} (hg : Gl X x) (hm : ∃ t, X.mg x = some (.int n t)) (hd : (x == ("__debug__" : Str)) = false := by decide) : SE T X (.Name x pos) (eC (.int n)) := by
  obtain ⟨t, hm⟩ := hm
  exact se_glob (v := .int n) hg hm ⟨t, rfl⟩ (fun _ _ => rp_int.mpr rfl) hd
end
/-! ### isinstance(e, (C1, C2)), e a kept exception -/
open Classical in
def rIsXT (K : PySem.W.Frag) : List V → Hp → VK → Prop := fun xs H Q => ∃ (a D dd : Addr) (fs : List (Str × V)) (tp : Addr) (cs : List Addr) (b : Bool), xs = [.ref a, .ref tp] ∧ H tp = some (.tup (cs.map V.ref)) ∧ H a = some (ExH a D dd) ∧ H dd = some (.xd fs) ∧ L2.ExcC K D ∧ PySem.W.kitAny K (.ref D) (cs.map Value.ref) = some b ∧ Q (.bl b) H
theorem vals_refs : ∀ {cs : List Addr} {us : List Value}, Vals (cs.map V.ref) us → us = cs.map Value.ref
  | [], us, r => by cases r; rfl
  | c :: cs, us, r => by
    cases r with
    | cons h t => cases h; rw [vals_refs t]; rfl
theorem call_isXT {X : Cx} : CallR X (.builtin "isinstance") (rIsXT X.K) := by
  intro pins s st H xs us Q I r h
  obtain ⟨a, D, dd, fs, tp, cs, b, rfl, et, ea, ed, C, e, q⟩ := h
  cases r with
  | cons rx rr =>
    cases rr with
    | cons rt rr =>
      cases rr
      cases rx
      cases rt
      have x1 : ObjOk X.prog X.w H s.heap a (ExH a D dd) := I.hok a _ ea
      obtain ⟨⟨oe, vs, h1, h2, h3, h4⟩, _⟩ := x1
      have x2 : ObjOk X.prog X.w H s.heap dd (.xd fs) := I.hok dd _ ed
      obtain ⟨mA, hns, hr⟩ := x2
      obtain ⟨od, ho, hl⟩ := lookIn_ns hns
      have J : PySem.W.InstAt s.heap a oe D (some od) := ⟨h1, h2, by unfold PySem.W.notCls; rw [h4] <;> rfl, by rw [h3]; exact ho⟩
      obtain ⟨_, its, rv, o, g1, g2, n, g3⟩ := (show ObjOk X.prog X.w H s.heap tp (.tup (cs.map V.ref)) from I.hok tp _ et)
      have e3 := vals_refs rv
      subst e3
      obtain ⟨oc, odd, dt, sl⟩ := o
      simp only at g2 g3
      subst g2 g3
      exact PySem.W.kia_tup (DLX.kitx_held C) I.kIn ⟨oe, od, J⟩ g1 e (fun z => nomatch z) fun tk => ⟨.bl b, H, I.kept (t' := tk) fun _ _ z => z, rfl, q⟩
/-- the tuple is new: e, (C1, C2) evaluated here -/
def eIsXT (cs : List Addr) (f : Addr → Option Bool) (g : ES) : ES := fun rho mu => bnd (g rho mu) fun d mu1 => match d with
  | .cel j => match mu1[j]? with
    | some (.exc C _) => (f C).bind fun b => some (.ok (.bl b), mu1)
    | _ => none
  | _ => none
theorem rps_adrs {K : PySem.W.Frag} {al : List Addr} {H : Hp} : ∀ {cs : List Addr} {vs : List V}, Rps K al H (cs.map D.adr) vs → vs = cs.map V.ref
  | [], vs, r => by cases rps_nil.mp r; rfl
  | c :: cs, vs, r => by
    obtain ⟨v, r', rfl, h1, h2⟩ := rps_cons.mp r
    cases rp_adr.mp h1
    rw [rps_adrs h2]; rfl
section
variable {T : Tb} {X : Cx} {pos p tp : Pos} {e e1 e2 e3 : Expr} {g : ES} {kk : Nat} {f : Addr → Option Bool}
open Classical in
theorem se_isXT {cs : List Addr} {es : List Expr} (hf : ∀ C b, f C = some b → L2.ExcC X.K C ∧ PySem.W.kitAny X.K (.ref C) (cs.map Value.ref) = some b) (hz : cs.length ≤ 16777216) (hm : X.mg "isinstance" = none) (he : SE T X e g) (hcs : SA T X es (cs.map fun c => eC (.adr c)))
    (hg : Gl X "isinstance" := by rfl) (hs : starEach [e, .Tuple es kk tp] X.env = (false, eval e X.env) :: starEach [.Tuple es kk tp] X.env := by rfl) (hs2 : starEach [.Tuple es kk tp] X.env = [(false, eval (.Tuple es kk tp) X.env)] := by rfl) :
    SE T X (.Call (.Name "isinstance" p) [e, .Tuple es kk tp] [] pos) (eIsXT cs f g) := fun W z => by
  have ht := pe_tup (x1 := kk) (pos := tp) (hcs W z)
  refine PE.weak (pe_callB call_isXT hg hm (by decide +kernel) (pa_cons (he W z) (pa_cons ht pa_nil hs2) hs) (by decide) (by decide) hs (by rw [hs2]; rfl)) fun s H Q ⟨al, rho, mu, sl, sr, w⟩ => ?_
  refine ⟨al, rho, mu, sl, sr, Wo.bnd w fun d mu1 al1 v H1 _ g1 k1 sr1 rv w1 => ?_⟩
  have run : ∀ (cs' : List Addr) (k : List D → Mu → Ro) (mu : Mu), eArgs (cs'.map fun c => eC (.adr c)) rho mu k = k (cs'.map D.adr) mu := fun cs' => by
    induction cs' with
    | nil => intro k mu; rfl
    | cons c r ih => intro k mu; show eArgs (r.map fun c => eC (.adr c)) rho mu _ = _; rw [ih]; rfl
  match d with
  | .cel j =>
    dsimp only at w1
    match q : mu1[j]? with
    | some (.exc C fs) =>
      rw [q] at w1
      dsimp only at w1
      match hb : f C with
      | none => rw [hb] at w1; exact w1.elim
      | some b =>
        rw [hb] at w1
        obtain ⟨h1, h2⟩ := hf C b hb
        refine ⟨al1, rho, mu1, fun ds mu2 => if ds = cs.map D.adr ∧ mu2 = mu1 then some (.ok .non, mu1) else none, fun _ _ => True, sl.mono k1 g1, sr1, ?_, fun ds mu2 al2 vs H2 hl g2 k2 sr2 rvs w2 => ?_⟩
        · rw [run, if_pos ⟨rfl, rfl⟩]; exact fun _ _ _ _ _ _ _ => trivial
        · dsimp only at w2
          split at w2
          · rename_i hh
            obtain ⟨rfl, rfl⟩ := hh
            have ev := rps_adrs rvs
            subst ev
            refine ⟨by rw [List.length_map]; exact line _ hz, fun tpa hn => ?_⟩
            obtain ⟨ad, ea, rfl⟩ := rp_cel.mp rv
            obtain ⟨dd, ws, e2, e3, _⟩ := sr2.ok _ _ ad q (g2 _ _ ea)
            have nad : ad ≠ tpa := fun z => by rw [z, hn] at e2; cases e2
            have ndd : dd ≠ tpa := fun z => by rw [z, hn] at e3; cases e3
            exact ⟨ad, C, dd, ws, tpa, cs, b, rfl, upd_same, by rw [upd_ne nad]; exact e2, by rw [upd_ne ndd]; exact e3, h1, h2, w1 al2 (.bl b) _ g2 (k2.trans (Kp.new hn)) (sr2.fresh hn) (bl_rp b)⟩
          · exact w2.elim
    | some (.lst _) => rw [q] at w1; exact w1.elim
    | some (.dct _) => rw [q] at w1; exact w1.elim
    | some (.fdc _) => rw [q] at w1; exact w1.elim
    | some (.ins _ _) => rw [q] at w1; exact w1.elim
    | none => rw [q] at w1; exact w1.elim
  | .non => exact w1.elim
  | .bl _ => exact w1.elim
  | .int _ => exact w1.elim
  | .str _ => exact w1.elim
  | .ty _ => exact w1.elim
  | .tup _ => exact w1.elim
  | .adr _ => exact w1.elim
  | .fl _ => exact w1.elim
end
end DL
set_option Elab.async false
set_option linter.all false
set_option autoImplicit false
set_option maxRecDepth 100000
set_option maxHeartbeats 4000000
/-! DL30: {**a, **b}. -/
namespace DLX
open PySem PySem.Spec PyProof.Rows L2
section
variable {prog : Program} {w : World} {A : Around} {E : Value → Shared → Prop} {s : Shared}
end
end DLX
namespace DL
open PySem PySem.Spec PyProof.Rows L2
end DL
set_option Elab.async false
set_option linter.all false
set_option autoImplicit false
set_option maxRecDepth 100000
set_option maxHeartbeats 4000000
/-! DL31: try .. except X: return c; defs with defaults; C().m(..); list(dict). -/
namespace DL
open PySem PySem.Spec PyProof.Rows L2
/-! ### try: .. except X: return c -/
section
variable {T : Tb} {X : Cx} {pos pos' rpos np : Pos} {e : Expr} {body : List Stmt} {m : SS} {f : Addr → Option Bool} {x : Str} {c : Value} {v : V} {d : D}
end
/-! ### the def with defaults -/
section
variable {P : Program} {w : World} {K : PySem.W.Frag} {mg : Str → Option Value} {base : Heap} {T : Tb}
/-- x is a def of the module whose last parameters may lack: dds are their defaults -/
structure FxD (P : Program) (w : World) (K : PySem.W.Frag) (mg : Str → Option Value) (base : Heap) (T : Tb) (x : Str) (k n : Nat) (F : FS) (dds : List D) : Prop where
  ex : ∃ f fd ps us vs, FnG T.md P w K mg base k f fd ps (spD K T n F) ∧ mg x = some (.ref f) ∧ PySem.W.keepIn K (.ref f) = true ∧ Binds K fd ps us ∧ ps.length = n ∧ Vals vs us ∧ ∀ al H, Rps K al H dds vs
theorem FxD.mdl {x : Str} {k n : Nat} {F F' : FS} {dds : List D} (c : FxD P w K mg base T x k n F dds) (i : Mdl F F') : FxD P w K mg base T x k n F' dds := by
  obtain ⟨f, fd, ps, us, vs, G, a, b, c, d, e, g⟩ := c.ex
  exact ⟨f, fd, ps, us, vs, G.mdl i, a, b, c, d, e, g⟩
end
section
variable {X : Cx} {W : WX} {k : Nat} {f : Addr} {fd : FuncData} {ps : List Str} {sp : Sp}
end
section
variable {T : Tb} {X : Cx} {pos : Pos} {e : Expr} {es : List Expr} {fs : List ES}
end
/-! ### C().m(..) -/
section
variable {T : Tb} {X : Cx} {pos apos mp mpos : Pos} {e : Expr} {es : List Expr} {f : ES} {fs : List ES} {C : Addr} {m x : Str} {k j n : Nat} {F : FS}
end
/-! ### list(d) -/
def listDF : FS
  | [d], mu => match dctD d mu with
    | some (_, kvs) => newL (kvs.map fun p => kD p.1) mu
    | none => none
  | _, _ => none
theorem rps_keys {K : PySem.W.Frag} {al : List Addr} {H : Hp} : ∀ {kvs : List (Key × D)} {vs : List (Key × V)}, vs.map (·.1) = kvs.map (·.1) → Rps K al H (kvs.map fun p => kD p.1) (vs.map fun kv => kV kv.1)
  | [], vs, e => by
    have : vs = [] := by simpa using e
    subst this; exact Rps.nil
  | p :: kvs, vs, e => by
    cases vs with
    | nil => simp at e
    | cons q vs =>
      simp only [List.map_cons, List.cons.injEq] at e ⊢
      rw [e.1]
      exact Rps.cons (kD_rp _) (rps_keys e.2)
theorem c_listD {K : PySem.W.Frag} {T : Tb} : CallD K T listDF rListD := fun al mu H ds vs Q E sr r p => by
  unfold listDF at p
  split at p
  · rename_i d mu
    obtain ⟨v, rfl, rv⟩ := rps_one.mp r
    split at p
    · rename_i j kvs e
      obtain ⟨a, us, rfl, ea, em, eH, ru⟩ := dct_rp sr rv e
      exact ⟨a, us, rfl, eH, fun q hq => p.lst sr (rps_keys ru.1) q hq⟩
    · exact p.elim
  · exact p.elim
def listA : FS := fun ds mu => match ds with
  | [d] => if (dctD d mu).isSome = true then listDF ds mu else listF ds mu
  | _ => none
section
variable {T : Tb} {X : Cx} {pos p : Pos} {e : Expr} {f : ES}
theorem se_listD (hm : X.mg "list" = none) (ha : SE T X e f) (hc : X.calm = true := by rfl) (hg : Gl X "list" := by rfl) (hs : starEach [e] X.env = [(false, eval e X.env)] := by rfl) : SE T X (.Call (.Name "list" p) [e] [] pos) (eCall listDF [f]) :=
  se_callTy (call_list_dK hc) c_listD hg hm (by decide +kernel) (sa_cons ha sa_nil (by rw [hs]; rfl)) (by decide) (by decide) (by rw [hs]; rfl) (by rfl)
theorem se_listA (hm : X.mg "list" = none) (ha : SE T X e f) (hc : X.calm = true := by rfl) (hg : Gl X "list" := by rfl) (hs : starEach [e] X.env = [(false, eval e X.env)] := by rfl) : SE T X (.Call (.Name "list" p) [e] [] pos) (eCall listA [f]) := by
  refine se_alt (se_listD hm ha hc hg hs) (se_listc hm (sa_cons ha sa_nil (by rw [hs]; rfl)) hg (by rw [hs]; rfl) (by rfl)) fun rho mu => ?_
  unfold eCall eArgs bnd
  match f rho mu with
  | none => exact .inl rfl
  | some (.ex C fs, mu1) => exact .inl rfl
  | some (.ok d, mu1) =>
    show listA [d] mu1 = listDF [d] mu1 ∨ listA [d] mu1 = listF [d] mu1
    unfold listA
    dsimp only
    by_cases q : (dctD d mu1).isSome = true
    · rw [if_pos q]; exact .inl rfl
    · rw [if_neg q]; exact .inr rfl
end
end DL
set_option Elab.async false
set_option linter.all false
set_option autoImplicit false
set_option maxRecDepth 100000
set_option maxHeartbeats 4000000
/-! DL32: == by lengths alone; places in a text; no def at all. -/
namespace DL
open PySem PySem.Spec PyProof.Rows L2
/-! ### x == () -/
def rEqLen (K : PySem.W.Frag) : R2 := fun x y H Q => (∃ a b xs ys, x = .ref a ∧ y = .ref b ∧ SqT K H a xs ∧ SqT K H b ys ∧ (xs = [] ∨ ys = []) ∧ Q (.bl (decide (xs = [] ∧ ys = []))) H) ∨
  ∃ a b xs ys, x = .ref a ∧ y = .ref b ∧ SqL K H a xs ∧ SqL K H b ys ∧ xs.length ≠ ys.length ∧ Q (.bl false) H
theorem op_eqLen {X : Cx} (hu : X.A.units < cLine) : OpR X (compareOp .Eq) (rEqLen X.K) := by
  intro pins s σ H x y v u Q I rx ry h
  rcases h with ⟨a, b, xs, ys, rfl, rfl, ha, hb, hz, q⟩ | ⟨a, b, xs, ys, rfl, rfl, ha, hb, hz, q⟩
  · cases rx; cases ry
    obtain ⟨its, r1, p1, _⟩ := I.tuple ha
    obtain ⟨its2, r2, p2, _⟩ := I.tuple hb
    have l1 := r1.length
    have l2 := r2.length
    refine SeqAt.eq_tupleAt (e := fun _ => true) p1 p2 hu (fun j h1 h2 => ?_) ⟨.bl _, H, I, ?_, q⟩
    · rw [List.size_toArray] at h1 h2
      rcases hz with rfl | rfl
      · rw [← l1] at h1; exact absurd h1 (Nat.not_lt_zero _)
      · rw [← l2] at h2; exact absurd h2 (Nat.not_lt_zero _)
    · rw [List.size_toArray, List.size_toArray, ← l1, ← l2]
      have : (List.range (min xs.length ys.length)).all (fun _ => true) = true := by simp
      rw [this, Bool.true_and]
      congr 1
      rcases hz with rfl | rfl
      · cases ys <;> simp
      · cases xs <;> simp
  · cases rx; cases ry
    obtain ⟨its, r1, ⟨o1, n1, e1, c1, d1, f1⟩, _⟩ := I.list ha
    obtain ⟨its2, r2, ⟨o2, n2, e2, c2, d2, f2⟩, _⟩ := I.list hb
    have l1 := r1.length
    have l2 := r2.length
    exact SeqAt.eq_list_lengthsAt (items := its.toArray) (items2 := its2.toArray) ⟨o1, e1, c1, n1, f1⟩ ⟨o2, e2, c2, n2, f2⟩ (by rw [List.size_toArray, List.size_toArray, ← l1, ← l2]; exact bne_iff_ne.mpr hz) hu ⟨.bl _, H, I, rfl, q⟩
/-- == where lengths tell, else by shape -/
def eqE (d e : D) (mu : Mu) : Option Bool := match d, e with
  | .tup xs, .tup [] => some xs.isEmpty
  | .tup [], .tup ys => some ys.isEmpty
  | _, _ => match lstD d mu, lstD e mu with
    | some xs, some ys => if xs.length = ys.length then none else some false
    | _, _ => none
def eqLD : D2 := fun d e mu => match eqE d e mu with
  | some b => okD (.bl b) mu
  | none => none
def eqA : D2 := fun d e mu => if (eqE d e mu).isSome = true then eqLD d e mu else eqD d e mu
theorem o_eqL {K : PySem.W.Frag} {T : Tb} : Op2 K T eqLD (rEqLen K) := fun al mu H dx dy x y Q E sr rx ry p => by
  unfold eqLD at p
  split at p
  · rename_i b e
    have q := p.now sr (bl_rp b)
    have tups : ∀ {xs ys : List D}, dx = .tup xs → dy = .tup ys → (xs = [] ∨ ys = []) → b = decide (xs = [] ∧ ys = []) → rEqLen K x y H Q := by
      rintro xs ys rfl rfl hz rfl
      obtain ⟨a1, us, rfl, q1, r1⟩ := rp_tup.mp rx
      obtain ⟨a2, ws, rfl, q2, r2⟩ := rp_tup.mp ry
      have e1 : us = [] ↔ xs = [] := by rw [← List.length_eq_zero_iff, ← List.length_eq_zero_iff, r1.length]
      have e2 : ws = [] ↔ ys = [] := by rw [← List.length_eq_zero_iff, ← List.length_eq_zero_iff, r2.length]
      refine .inl ⟨a1, a2, us, ws, rfl, rfl, q1, q2, by rw [e1, e2]; exact hz, ?_⟩
      simp only [e1, e2]
      exact q
    unfold eqE at e
    split at e
    · cases e
      exact tups rfl rfl (.inr rfl) (by rename_i xs; cases xs <;> simp)
    · cases e
      exact tups rfl rfl (.inl rfl) (by rename_i ys _; cases ys <;> simp)
    · split at e
      · rename_i xs ys e1 e2
        split at e
        · cases e
        · rename_i hne
          cases e
          obtain ⟨a1, us, rfl, q1, r1⟩ := lst_rp sr rx e1
          obtain ⟨a2, ws, rfl, q2, r2⟩ := lst_rp sr ry e2
          exact .inr ⟨a1, a2, us, ws, rfl, rfl, q1, q2, by rw [r1.length, r2.length]; exact hne, q⟩
      · cases e
  · exact p.elim
section
variable {T : Tb} {X : Cx} {k : Nat} {a b : Expr} {f g : ES} {pos : Pos}
theorem units_of (hr : Room k X.A) : X.A.units < cLine := by have := hr.un; omega
theorem sc_eqA (hr : Room k X.A) (ha : SE T X a f) (hb : SE T X b g) : SC T X (.Compare a [.Eq] [b] pos) (eOp eqA f g) := sc_alt (sc_cmp (op_eqLen (units_of hr)) o_eqL ha hb (nomark _)) (sc_eq hr ha hb) fun rho mu => op_pick (c := fun d e mu => (eqE d e mu).isSome) (fun x y mu => rfl) f g rho mu
end
/-! ### places in a text -/
/-! ### nothing is promised -/
def noF : FS := fun _ _ => none
theorem FnG.no {m : Md} {P : Program} {w : World} {K : PySem.W.Frag} {mg : Str → Option Value} {base : Heap} {T : Tb} {k n : Nat} {f : Addr} {fd : FuncData} {ps : List Str} (hn : ps.length = n) : FnG m P w K mg base k f fd ps (spD K T n noF) :=
  ⟨fun vs H Q E h => by rw [h.1, hn], fun A o s H args us vs Q E hr hg e0 b r h => by
    obtain ⟨_, al, mu, ds, _, _, q⟩ := h
    exact q.elim⟩
end DL
set_option Elab.async false
set_option linter.all false
set_option autoImplicit false
set_option maxRecDepth 100000
set_option maxHeartbeats 4000000
/-! DL33: != by lengths. -/
namespace DL
open PySem PySem.Spec PyProof.Rows L2
def rNeLen (K : PySem.W.Frag) : R2 := fun x y H Q => ∃ a b xs ys, x = .ref a ∧ y = .ref b ∧ SqL K H a xs ∧ SqL K H b ys ∧ xs.length ≠ ys.length ∧ Q (.bl true) H
theorem op_neLen {X : Cx} (hu : X.A.units < cLine) : OpR X (compareOp .NotEq) (rNeLen X.K) := by
  intro pins s σ H x y v u Q I rx ry h
  obtain ⟨a, b, xs, ys, rfl, rfl, ha, hb, hz, q⟩ := h
  cases rx; cases ry
  obtain ⟨its, r1, ⟨o1, n1, e1, c1, d1, f1⟩, _⟩ := I.list ha
  obtain ⟨its2, r2, ⟨o2, n2, e2, c2, d2, f2⟩, _⟩ := I.list hb
  have l1 := r1.length
  have l2 := r2.length
  exact SeqAt.RcNeAt.lists_lengths (items := its.toArray) (items2 := its2.toArray) ⟨o1, e1, c1, n1, f1⟩ ⟨o2, e2, c2, n2, f2⟩ (by rw [List.size_toArray, List.size_toArray, ← l1, ← l2]; exact bne_iff_ne.mpr hz) hu _ _ _ _ ⟨.bl _, H, I, rfl, q⟩
def neE (d e : D) (mu : Mu) : Bool := match lstD d mu, lstD e mu with
  | some xs, some ys => decide (xs.length ≠ ys.length)
  | _, _ => false
def neLD : D2 := fun d e mu => if neE d e mu = true then okD (.bl true) mu else none
/-- != where lengths tell, else by shape -/
def neA : D2 := fun d e mu => if neE d e mu = true then neLD d e mu else neD d e mu
theorem o_neL {K : PySem.W.Frag} {T : Tb} : Op2 K T neLD (rNeLen K) := fun al mu H dx dy x y Q E sr rx ry p => by
  unfold neLD at p
  split at p
  · rename_i e
    have q := p.now sr (bl_rp true)
    unfold neE at e
    split at e
    · rename_i xs ys e1 e2
      obtain ⟨a1, us, rfl, q1, r1⟩ := lst_rp sr rx e1
      obtain ⟨a2, ws, rfl, q2, r2⟩ := lst_rp sr ry e2
      exact ⟨a1, a2, us, ws, rfl, rfl, q1, q2, by rw [r1.length, r2.length]; exact of_decide_eq_true e, q⟩
    · cases e
  · exact p.elim
section
variable {T : Tb} {X : Cx} {k : Nat} {a b : Expr} {f g : ES} {pos : Pos}
theorem sc_neA (hr : Room k X.A) (ha : SE T X a f) (hb : SE T X b g) : SC T X (.Compare a [.NotEq] [b] pos) (eOp neA f g) := sc_alt (sc_cmp (op_neLen (units_of hr)) o_neL ha hb (nomark _)) (sc_ne hr ha hb) fun rho mu => op_pick (c := fun d e mu => neE d e mu) (fun x y mu => rfl) f g rho mu
end
end DL
set_option Elab.async false
set_option linter.all false
set_option autoImplicit false
set_option maxRecDepth 100000
set_option maxHeartbeats 4000000
/-! DL34: a, b, c = x, y, z. -/
namespace DL
open PySem PySem.Spec PyProof.Rows L2
section
variable {T : Tb} {X : Cx} {pos : Pos} {a b c : Expr} {f g h : ES}
end
end DL
set_option Elab.async false
set_option linter.all false
set_option autoImplicit false
set_option maxRecDepth 100000
set_option maxHeartbeats 4000000
/-! DL35: own exceptions over KeyError (made by LookupError's maker) and over RuntimeError. -/
namespace DL
open PySem PySem.Spec PyProof.Rows L2
/-- what is known of the built-in class under an own exception: its start by bi, its making by bn -/
structure EB where
  bi : String
  iId : String
  bn : String
  nId : String
  iN : String
  mroN : List Value
  tail : List Value
  F : PySem.ExcBaseFacts bn nId iN mroN
  init : PySem.Slot bi "__init__" iId
  initEntry : PySem.entryFor PySem.table iId = some Builtin.«BaseException.__init__»
  initSplit : PySem.splitId iId = some (bi, "__init__")
  initKind : PySem.builtinKind iId = some .slot
  initRow : Manifest.signature? iId = some ⟨.positional, "*", bi, .self, [⟨"args", .varPos, false⟩]⟩
  noStar : (bi != "*") = true
  hasN : tail.contains (.type bn) = true
  hasI : tail.contains (.type bi) = true
  hasO : tail.contains (.type "object") = true
  noA : tail.contains (.type "AttributeError") = false
  noN : tail.contains (.type "NameError") = false
  noR : ∀ (c : Addr) (r : List Value), tail ≠ .ref c :: r
  ne : tail.isEmpty = false
  passes : ∀ self : Value, refuseLoop self "__setattr__" tail = pure ()
/-- own classes, then the tail -/
def refsT (tail : List Value) : List Value → Bool
  | .ref _ :: r => refsT tail r
  | l => l == tail
section
variable {M : Model} {A : Around} {E : Value → Shared → Prop} {h : Heap} {g : Array GenState} {d : Drawn} {t : Nat} {os : OsState}
variable {nm q : Str} {C N : Addr} {bs bm : List Value} {hdct : Bool} {sn : List Str} {sub : List Value} {ab : Bool} {col : Option Bool} {dd : Option Addr} {k0 k1 k2 k3 k5 : Option Value}
end
section
variable {prog : Program} {w : World} {A : Around} {E : Value → Shared → Prop} {R : Result → Shared → Prop} {h : Heap} {g : Array GenState} {d : Drawn} {t : Nat} {os : OsState}
variable {nm q : Str} {C N : Addr} {bs bm : List Value} {hdct : Bool} {sn : List Str} {sub : List Value} {ab : Bool} {col : Option Bool} {dd : Option Addr} {k0 k1 k2 k3 k5 : Option Value}
end
end DL
set_option Elab.async false
set_option linter.all false
set_option autoImplicit false
set_option maxRecDepth 100000
set_option maxHeartbeats 4000000
/-! DL36: raise C(..), C an own exception over KeyError or RuntimeError. -/
namespace DL
open PySem PySem.Spec PyProof.Rows L2
section
variable {prog : Program} {w : World} {A : Around} {E : Value → Shared → Prop} {R : Result → Shared → Prop} {hp : Heap} {g : Array GenState} {d : Drawn} {t : Nat} {os : OsState}
open Builtin Builtin.ObjectAttr
end
/-- what the written part says of the class -/
structure OexT (b : EB) (K : PySem.W.Frag) (C : Addr) : Prop where
  cls : ∃ nm q N bs bm sn sub ab col dd k0 k1 k2 k3 k5, K.lookup C = some (excClassObj nm q C N bs bm true sn sub ab col dd k0 k1 k2 k3 k5 b.nId) ∧ refsT b.tail bm = true
  sa : PySem.W.findIn K (.ref C) "__setattr__" = some (some (.builtin "object.__setattr__"))
  exC : PySem.W.subIn K (.ref C) (.type "BaseException") = some true
  tyC : PySem.W.typeIn K (.ref C) = some (.type "type")
  kC : PySem.W.keepIn K (.ref C) = true
section
variable {b : EB} {X : Cx} {pins : List (Addr × Obj)} {st : L2.St} {H : Hp} {s : Shared} {a C dx : Addr} {f : Str} {y : V} {u : Value} {fs : List (Str × V)} {Q : Unit → Shared → Prop} {E : Value → Shared → Prop} {A : Around}
end
section
variable {b : EB} {X : Cx} {o e : Expr} {es : List Expr} {to te : TE} {ta : TA} {f : Str} {p p' p1 p2 pos : Pos}
end
/-- what __init__(self, x) with the field g does -/
def spIT (b : EB) (K : PySem.W.Frag) (C : Addr) (g : Str) : Sp := fun vs H Q _ => ∃ a v, vs = [.ref a, v] ∧ OexT b K C ∧ PySem.W.findIn K (.ref C) g = some none ∧ H a = some (exo a C none) ∧
  ∀ (dx : Addr) (H2 : Hp), H dx = none → dx ≠ a → H2 a = some (exo a C (some dx)) → H2 dx = some (exd dx [(g, v)]) → (∀ b, b ≠ a → b ≠ dx → H2 b = H b) → Q .non H2
/-- the class x, made with the value of its field g -/
structure MkT (b : EB) (P : Program) (w : World) (K : PySem.W.Frag) (mg : Str → Option Value) (base : Heap) (x : Str) (k : Nat) (C : Addr) (g : Str) : Prop where
  ex : ∃ fI fd ps, FnOk P w K mg base (L2.CX P w) k fI fd ps (spIT b K C g) ∧ PySem.W.findIn K (.ref C) "__init__" = some (some (.ref fI)) ∧ PySem.W.typeIn K (.ref fI) = some (.type "function") ∧ Binds K fd ps []
  oc : OexT b K C
  gs : PySem.W.findIn K (.ref C) g = some none
  mg : mg x = some (.ref C)
section
variable {T : Tb} {X : Cx} {pos pos' p : Pos} {e : Expr} {f : ES}
end
/-! ### KeyError, RuntimeError -/
section
variable {X : Cx} {e : Expr} {es : List Expr} {ta : TA} {p1 p2 pos : Pos}
end
end DL
set_option Elab.async false
set_option linter.all false
set_option autoImplicit false
set_option maxRecDepth 100000
set_option maxHeartbeats 4000000
/-! DL37: sorted(x) of ints, of pairs with unlike ints ahead, of a dict with ints as keys. -/
namespace DL
open PySem PySem.Spec PyProof.Rows L2
/-! ### at the machine's level -/
/-- a tuple of two, an int ahead -/
def IsFst (h : Heap) (v : Value) (x : Int) (y : Value) : Prop := ∃ a o t n, v = .ref a ∧ h.get? a = some o ∧ o.cls = .type "tuple" ∧ o.data = .seq #[.int x t, y] n
theorem IsFst.keeps {h h' : Heap} {v y : Value} {x : Int} (p : IsFst h v x y) (k : ∀ b o, h.get? b = some o → o.cls = .type "tuple" → h'.get? b = some o) : IsFst h' v x y := by
  obtain ⟨a, o, t, n, e, ho, hc, hd⟩ := p
  exact ⟨a, o, t, n, e, k a o ho hc, hc, hd⟩
section
variable {prog : Program} {w : World} {A : Around} {s : Shared} {E : Value → Shared → Prop}
end
/-! ### over the layer -/
section
variable {X : Cx}
end
section
variable {X : Cx}
end
/-! ### data -/
section
variable {α β : Type}
end
section
variable {K : PySem.W.Frag} {T : Tb}
end
section
variable {T : Tb} {X : Cx} {pos p : Pos} {e : Expr} {f : ES}
end
end DL
set_option Elab.async false
set_option linter.all false
set_option autoImplicit false
set_option maxRecDepth 100000
set_option maxHeartbeats 4000000
/-! DL38: dict(x), x a list of pairs. -/
namespace DL
open PySem PySem.Spec PyProof.Rows L2
def newD (kvs : List (Key × D)) (mu : Mu) : Ro := some (.ok (.cel mu.length), mu ++ [.dct kvs])
section
variable {K : PySem.W.Frag} {T : Tb} {al : List Addr} {mu : Mu} {H : Hp} {Q : VK} {E : XK}
theorem Wo.dct {kvs : List (Key × D)} {vs : List (Key × V)} (h : Wo K T al H Q E (newD kvs mu)) (sr : SR K T al mu H) (r : RpA K al H kvs vs) (p : Addr) (n : H p = none) : Q (.ref p) (upd H p (.dK vs)) := by
  have ok : CellOk K (al ++ [p]) (upd H p (.dK vs)) p (.dct kvs) := ⟨vs, upd_same, r.mono (Kp.new n) (Gr.app _ _)⟩
  exact h (al ++ [p]) (.ref p) _ (Gr.app _ _) (Kp.new n) (sr.alloc n ok) (by unfold Rp; exact ⟨p, by rw [← sr.len]; simp, rfl⟩)
end
section
variable {T : Tb} {X : Cx} {pos p : Pos} {e : Expr} {f : ES}
end
end DL
set_option Elab.async false
set_option linter.all false
set_option autoImplicit false
set_option maxRecDepth 100000
set_option maxHeartbeats 4000000
/-! DL39: a dict that comes out of an expression is locked from there on. -/
namespace DL
open PySem PySem.Spec PyProof.Rows L2
end DL
set_option Elab.async false
set_option linter.all false
set_option autoImplicit false
set_option maxRecDepth 100000
set_option maxHeartbeats 4000000
/-! DL18: running the data functions. -/
namespace DL
open PySem PySem.Spec L2
section
variable {f g : SS} {e e1 e2 : ES} {rho rho1 rho2 : Rho} {mu mu1 mu2 mu3 : Mu} {d x y : D} {C : Addr} {fs : List (Str × D)} {r : So}
def fin : So → Ro
  | some (.nx, _, mu1) => some (.ok .non, mu1)
  | some (.rt d, _, mu1) => some (.ok d, mu1)
  | some (.ex C fs, _, mu1) => some (.ex C fs, mu1)
  | _ => none
theorem fnS_fin {n : Nat} {m : SS} {ds : List D} : fnS n m ds mu = fin (m (ds.map some ++ List.replicate (n - ds.length) none) mu) := rfl
theorem seq_nx (h : f rho mu = some (.nx, rho1, mu1)) : sSeq f g rho mu = g rho1 mu1 := by unfold sSeq; rw [h]
theorem seq_rt {rho1 : Rho} (h : f rho mu = some (.rt d, rho1, mu1)) : sSeq f g rho mu = some (.rt d, rho1, mu1) := by unfold sSeq; rw [h]
theorem set_ev {i : Nat} (h : e rho mu = some (.ok d, mu1)) : sSet i e rho mu = some (.nx, rho.set i (some d), mu1) := by unfold sSet bnS; rw [h]
theorem ret_ev (h : e rho mu = some (.ok d, mu1)) : sRet e rho mu = some (.rt d, rho, mu1) := by unfold sRet bnS; rw [h]
theorem expr_ev (h : e rho mu = some (.ok d, mu1)) : sExpr e rho mu = some (.nx, rho, mu1) := by unfold sExpr bnS; rw [h]
theorem if_t (h : e rho mu = some (.ok (.bl true), mu1)) : sIf e f g rho mu = f rho mu1 := by unfold sIf bnS; rw [h]; rfl
theorem if_f (h : e rho mu = some (.ok (.bl false), mu1)) : sIf e f g rho mu = g rho mu1 := by unfold sIf bnS; rw [h]; rfl
theorem put_ev {F : D → D → D → Mu → Option Mu} {fo fi fv : ES} {mu4 : Mu} (h1 : fv rho mu = some (.ok x, mu1)) (h2 : fo rho mu1 = some (.ok d, mu2)) (h3 : fi rho mu2 = some (.ok y, mu3)) (h4 : F d y x mu3 = some mu4) : sPut F fo fi fv rho mu = some (.nx, rho, mu4) := by
  unfold sPut bnS; rw [h1]; dsimp only; rw [h2]; dsimp only; rw [h3]; dsimp only; rw [h4]
theorem op_ev {h : D2} (h1 : e1 rho mu = some (.ok x, mu1)) (h2 : e2 rho mu1 = some (.ok y, mu2)) : eOp h e1 e2 rho mu = h x y mu2 := by unfold eOp bnd; rw [h1]; dsimp only; rw [h2]
theorem call_1 {F : FS} (h1 : e1 rho mu = some (.ok x, mu1)) : eCall F [e1] rho mu = F [x] mu1 := by unfold eCall eArgs bnd; rw [h1]; rfl
theorem and_t (h1 : e1 rho mu = some (.ok (.bl true), mu1)) : eAnd e1 e2 rho mu = e2 rho mu1 := by unfold eAnd bnd; rw [h1]; rfl
theorem and_f (h1 : e1 rho mu = some (.ok (.bl false), mu1)) : eAnd e1 e2 rho mu = some (.ok (.bl false), mu1) := by unfold eAnd bnd; rw [h1]; rfl
end
/-! ### while -/
theorem whl_more {c : ES} {b : SS} : ∀ {n : Nat} {rho : Rho} {mu : Mu} {r}, whl c b n rho mu = some r → whl c b (n + 1) rho mu = some r
  | 0, rho, mu, r, h => by unfold whl at h; cases h
  | n + 1, rho, mu, r, h => by
    unfold whl at h
    unfold whl
    cases hc : c rho mu with
    | none => rw [hc] at h; cases h
    | some o =>
      obtain ⟨o, mu1⟩ := o
      rw [hc] at h
      cases o with
      | ex C fs => exact h
      | ok d =>
        cases d with
        | bl k =>
          cases k with
          | true =>
            simp only [bnS, chS] at h ⊢
            cases hb : b rho mu1 with
            | none => rw [hb] at h; cases h
            | some o2 =>
              obtain ⟨fl, rho2, mu2⟩ := o2
              rw [hb] at h
              cases fl with
              | nx => exact whl_more h
              | ct => exact whl_more h
              | bk => exact h
              | rt d => exact h
              | ex C fs => exact h
          | false => exact h
        | _ => exact h
theorem whl_le {c : ES} {b : SS} {n m : Nat} {rho : Rho} {mu : Mu} {r} (h : whl c b n rho mu = some r) (hm : n ≤ m) : whl c b m rho mu = some r := by
  induction hm with
  | refl => exact h
  | step _ ih => exact whl_more ih
theorem sWhl_of {c : ES} {b : SS} {n : Nat} {rho : Rho} {mu : Mu} {r} (h : whl c b n rho mu = some r) : sWhl c b rho mu = some r := by
  unfold sWhl
  have hx : ∃ n, (whl c b n rho mu).isSome = true := ⟨n, by rw [h]; rfl⟩
  rw [dif_pos hx]
  obtain ⟨r', e'⟩ := Option.isSome_iff_exists.mp (Classical.choose_spec hx)
  rw [e']
  have z1 := whl_le h (Nat.le_max_left n (Classical.choose hx))
  have z2 := whl_le e' (Nat.le_max_right n (Classical.choose hx))
  rw [z1] at z2
  exact z2.symm
theorem sWhl_n {c : ES} {b : SS} {rho : Rho} {mu : Mu} {r} (h : sWhl c b rho mu = some r) : ∃ n, whl c b n rho mu = some r := by
  unfold sWhl at h
  split at h
  · rename_i hx
    exact ⟨_, h⟩
  · cases h
theorem whl_f {c : ES} {b : SS} {rho : Rho} {mu mu1 : Mu} (h : c rho mu = some (.ok (.bl false), mu1)) : sWhl c b rho mu = some (.nx, rho, mu1) := sWhl_of (n := 1) (by unfold whl; rw [h]; rfl)
theorem whl_t {c : ES} {b : SS} {rho rho2 : Rho} {mu mu1 mu2 : Mu} {r} (h : c rho mu = some (.ok (.bl true), mu1)) (hb : b rho mu1 = some (.nx, rho2, mu2)) (hr : sWhl c b rho2 mu2 = some r) : sWhl c b rho mu = some r := by
  obtain ⟨n, e⟩ := sWhl_n hr
  refine sWhl_of (n := n + 1) ?_
  unfold whl
  rw [h]
  simp only [bnS, chS]
  rw [hb]
  exact e
/-! ### for -/
theorem forL_inv {g : Option (Nat × List D)} {t : Tg} {b : SS} (I : Rho → Mu → Prop) (hg : ∀ rho mu, I rho mu → grdOk g mu) : ∀ {xs : List D} {rho : Rho} {mu : Mu},
    (∀ x ∈ xs, ∀ rho mu, I rho mu → ∃ rho1, asgD t x rho = some rho1 ∧ ∃ rho2 mu2, b rho1 mu = some (.nx, rho2, mu2) ∧ I rho2 mu2) → I rho mu → ∃ rho' mu', forL g t b xs rho mu = some (.nx, rho', mu') ∧ I rho' mu'
  | [], rho, mu, _, i => ⟨rho, mu, by unfold forL; rw [if_pos (hg _ _ i)], i⟩
  | x :: xs, rho, mu, h, i => by
    obtain ⟨rho1, e1, rho2, mu2, e2, i2⟩ := h x (List.mem_cons_self ..) rho mu i
    obtain ⟨rho3, mu3, e3, i3⟩ := forL_inv I hg (xs := xs) (fun y hy => h y (List.mem_cons_of_mem _ hy)) i2
    refine ⟨rho3, mu3, ?_, i3⟩
    unfold forL
    rw [if_pos (hg _ _ i), e1]
    dsimp only
    rw [e2]
    exact e3
/-! ### comprehensions -/
theorem compL_ix {n : Nat} {g : Option (Nat × List D)} {t : Tg} {tt te : ES} (I : Nat → Mu → Prop) {rho : Rho} (hg : ∀ i mu, I i mu → grdOk g mu) : ∀ {xs : List D} {i : Nat} {mu : Mu},
    (∀ (k : Nat) (x : D), xs[k]? = some x → ∀ mu, I (i + k) mu → ∃ rho1, asgD t x rho = some rho1 ∧
      ((∃ mu1, tt rho1 mu = some (.ok (.bl false), mu1) ∧ I (i + k + 1) mu1) ∨ ∃ mu1 mu2 y acc, tt rho1 mu = some (.ok (.bl true), mu1) ∧ te rho1 mu1 = some (.ok y, mu2) ∧ mu2[n]? = some (.lst acc) ∧ acc.length < 16777216 ∧ I (i + k + 1) (mu2.set n (.lst (acc ++ [y]))))) →
    I i mu → ∃ mu', compL n g t tt te xs rho mu = some mu' ∧ I (i + xs.length) mu'
  | [], i, mu, _, z => ⟨mu, by unfold compL; rw [if_pos (hg _ _ z)], z⟩
  | x :: xs, i, mu, h, z => by
    obtain ⟨rho1, e1, q⟩ := h 0 x rfl mu z
    have rest : ∀ mu2, I (i + 1) mu2 → ∃ mu', compL n g t tt te xs rho mu2 = some mu' ∧ I (i + (x :: xs).length) mu' := fun mu2 i2 => by
      obtain ⟨mu3, e3, i3⟩ := compL_ix I hg (xs := xs) (i := i + 1) (fun k y hy mu z => by
        have := h (k + 1) y (by simpa using hy) mu (by rw [show i + (k + 1) = i + 1 + k by omega]; exact z)
        rw [show i + (k + 1) + 1 = i + 1 + k + 1 by omega] at this
        exact this) i2
      exact ⟨mu3, e3, by rw [List.length_cons, show i + (xs.length + 1) = i + 1 + xs.length by omega]; exact i3⟩
    rcases q with ⟨mu1, e2, i2⟩ | ⟨mu1, mu2, y, acc, e2, e3, e4, hz, i2⟩
    · obtain ⟨mu3, e5, i3⟩ := rest _ i2
      refine ⟨mu3, ?_, i3⟩
      unfold compL
      rw [if_pos (hg _ _ z), e1]
      dsimp only
      rw [e2]
      exact e5
    · obtain ⟨mu3, e5, i3⟩ := rest _ i2
      refine ⟨mu3, ?_, i3⟩
      unfold compL
      rw [if_pos (hg _ _ z), e1]
      dsimp only
      rw [e2]
      dsimp only
      rw [e3]
      dsimp only
      rw [e4]
      dsimp only
      rw [if_pos hz]
      exact e5
end DL
set_option Elab.async false
set_option linter.all false
set_option autoImplicit false
set_option maxRecDepth 100000
set_option maxHeartbeats 4000000
/-! MB: what the models of defs stand on: the classes' addresses, the constants, how data functions are run. -/
namespace DL
open PySem PySem.Spec L2
structure Ad where
  cSnippetError : Addr
  cBadSnippet : Addr
  cBadPress : Addr
  cBadRow : Addr
  cBadState : Addr
  cBadCase : Addr
  cBadShape : Addr
  cBadSpot : Addr
  cBadWord : Addr
  cBadText : Addr
  cBadPaper : Addr
  cTooMany : Addr
  cMissing : Addr
  cHidden : Addr
  cLooking : Addr
  cChart : Addr
  cView : Addr
  cPlaces : Addr
  cWord : Addr
  cSearch : Addr
  cCouple : Addr
  cOpened : Addr
  cReader : Addr
  cTrial : Addr
  cSession : Addr
  cDesk : Addr
def subsS (q : Ad) : List Addr := [q.cBadSnippet, q.cBadPress, q.cBadRow, q.cBadState, q.cBadCase, q.cBadShape, q.cBadSpot, q.cBadWord, q.cBadText, q.cBadPaper, q.cTooMany]
def excs (q : Ad) : List Addr := subsS q ++ [q.cMissing, q.cHidden]
/-- is C one of cs -/
def lkL (cs others : List Addr) (C : Addr) : Option Bool := if C ∈ cs then some true else if C ∈ others then some false else none
def isL (cs : List Addr) (q : Ad) (C : Addr) : Option Bool := lkL cs (excs q) C
def t_SnippetError (q : Ad) (C : Addr) : Option Bool := lkL (subsS q) [q.cMissing, q.cHidden] C
def t_BadPress (q : Ad) (C : Addr) : Option Bool := isL [q.cBadPress] q C
def is_BadRow (q : Ad) (C : Addr) : Option Bool := isL [q.cBadRow] q C
def is_BadText (q : Ad) (C : Addr) : Option Bool := isL [q.cBadText] q C
def ox_place (q : Ad) (C : Addr) : Bool := decide (C ∈ [q.cBadSnippet, q.cBadRow, q.cBadWord, q.cBadText])
def gs_BadRow : List Str := ["place"]
def gs_BadText : List Str := ["place"]
def gs_BadPress : List Str := ["given"]
def of_many (q : Ad) (C : Addr) : Bool := decide (C ∈ [q.cLooking])
def of_fields (q : Ad) (C : Addr) : Bool := decide (C ∈ [q.cLooking])
/-! ### models -/
/-- a model that leaves the store as it is -/
theorem Imp.pure {mu g : Mu} {d : D} {r : Ro} (hr : r = some (.ok d, mu ++ g)) (hd : cl mu.length d) (h : clM mu.length mu) : Imp mu r (some (.ok d, mu)) := Imp.ok hr hd (Nat.le_refl _) h
theorem Imp.same {mu : Mu} {d : D} {r : Ro} (hr : r = some (.ok d, mu)) (hd : cl mu.length d) (h : clM mu.length mu) : Imp mu r (some (.ok d, mu)) := Imp.ok (g := []) (by rw [hr, List.append_nil]) hd (Nat.le_refl _) h
/-! ### running -/
theorem isi_eval {d : D} {n t : String} {mu : Mu} (h : tyN d mu = some t) (k : kitB t n = some (isTyB t n)) : isiF [d, .ty n] mu = some (.ok (.bl (isTyB t n)), mu) := by
  show (match tyN d mu with | some t => if kitB t n = some (isTyB t n) then okD (.bl (isTyB t n)) mu else none | none => none) = _
  rw [h]; dsimp only; rw [if_pos k]
/-- the built-in types that data have -/
def tys : List String := ["NoneType", "bool", "int", "str", "tuple", "list", "dict"]
theorem kit_all : ∀ t ∈ tys, ∀ n ∈ ["str", "tuple", "int", "bool", "list", "dict"], kitB t n = some (isTyB t n) := by decide +kernel
theorem tyN_mem {d : D} {mu : Mu} {t : String} (h : tyN d mu = some t) : t ∈ tys := by
  unfold tyN at h
  split at h <;> first | (cases h; decide) | (cases h; done) | (split at h <;> first | (cases h; decide) | (cases h; done))
theorem isTy_all : ∀ t ∈ tys, isTyB t "str" = (t == "str") ∧ isTyB t "tuple" = (t == "tuple") ∧ isTyB t "bool" = (t == "bool") ∧ isTyB t "int" = (t == "int" || t == "bool") ∧ isTyB t "list" = (t == "list") ∧ isTyB t "dict" = (t == "dict") := by decide +kernel
theorem isi_str {d : D} {mu : Mu} {t : String} (h : tyN d mu = some t) : isiF [d, .ty "str"] mu = some (.ok (.bl (t == "str")), mu) := by
  rw [isi_eval h (kit_all t (tyN_mem h) _ (by decide)), (isTy_all t (tyN_mem h)).1]
theorem isi_tuple {d : D} {mu : Mu} {t : String} (h : tyN d mu = some t) : isiF [d, .ty "tuple"] mu = some (.ok (.bl (t == "tuple")), mu) := by
  rw [isi_eval h (kit_all t (tyN_mem h) _ (by decide)), (isTy_all t (tyN_mem h)).2.1]
theorem isi_bool {d : D} {mu : Mu} {t : String} (h : tyN d mu = some t) : isiF [d, .ty "bool"] mu = some (.ok (.bl (t == "bool")), mu) := by
  rw [isi_eval h (kit_all t (tyN_mem h) _ (by decide)), (isTy_all t (tyN_mem h)).2.2.1]
theorem isi_int {d : D} {mu : Mu} {t : String} (h : tyN d mu = some t) : isiF [d, .ty "int"] mu = some (.ok (.bl (t == "int" || t == "bool")), mu) := by
  rw [isi_eval h (kit_all t (tyN_mem h) _ (by decide)), (isTy_all t (tyN_mem h)).2.2.2.1]
/-! ### the run, as rewriting -/
section
variable {d : D} {mu mu1 : Mu} {C : Addr} {fs : List (Str × D)} {k : D → Mu → Ro} {ks : D → Mu → So} {rho rho1 : Rho} {A B : Mu → Ro} {As Bs : Mu → So} {b c : Bool} {x y : Ro} {xs ys : So}
@[simp] theorem bnd_ok : bnd (some (.ok d, mu)) k = k d mu := rfl
@[simp] theorem bnd_ex : bnd (some (.ex C fs, mu)) k = some (.ex C fs, mu) := rfl
@[simp] theorem bnd_none : bnd none k = none := rfl
@[simp] theorem bnd_ite {p : Prop} [Decidable p] : bnd (if p then x else y) k = if p then bnd x k else bnd y k := by split <;> rfl
@[simp] theorem bnS_ok : bnS (some (.ok d, mu)) rho ks = ks d mu := rfl
@[simp] theorem bnS_ex : bnS (some (.ex C fs, mu)) rho ks = some (.ex C fs, rho, mu) := rfl
@[simp] theorem bnS_none : bnS none rho ks = none := rfl
@[simp] theorem bnS_ite {p : Prop} [Decidable p] : bnS (if p then x else y) rho ks = if p then bnS x rho ks else bnS y rho ks := by split <;> rfl
@[simp] theorem chB_bl : chB A B (.bl b) mu = if b = true then A mu else B mu := by cases b <;> rfl
@[simp] theorem chS_bl : chS As Bs (.bl b) mu = if b = true then As mu else Bs mu := by cases b <;> rfl
@[simp] theorem eC_ev : eC d rho mu = some (.ok d, mu) := rfl
theorem eVar_ev {i : Nat} (h : rho[i]? = some (some d)) : eVar i rho mu = some (.ok d, mu) := by unfold eVar; rw [h]
@[simp] theorem eVar0 : eVar 0 (some d :: rho) mu = some (.ok d, mu) := rfl
@[simp] theorem eVarS {a : Option D} {i : Nat} : eVar (i + 1) (a :: rho) mu = eVar i rho mu := rfl
@[simp] theorem eOp_ev {h : D2} {f g : ES} : eOp h f g rho mu = bnd (f rho mu) fun x mu1 => bnd (g rho mu1) fun y mu2 => h x y mu2 := rfl
@[simp] theorem eAnd_ev {f g : ES} : eAnd f g rho mu = bnd (f rho mu) (chB (fun mu1 => g rho mu1) fun mu1 => some (.ok (.bl false), mu1)) := rfl
@[simp] theorem eOr_ev {f g : ES} : eOr f g rho mu = bnd (f rho mu) (chB (fun mu1 => some (.ok (.bl true), mu1)) fun mu1 => g rho mu1) := rfl
@[simp] theorem eNot_ev {f : ES} : eNot f rho mu = bnd (f rho mu) (chB (fun mu1 => some (.ok (.bl false), mu1)) fun mu1 => some (.ok (.bl true), mu1)) := rfl
@[simp] theorem eIf_ev {c f g : ES} : eIf c f g rho mu = bnd (c rho mu) (chB (fun mu1 => f rho mu1) fun mu1 => g rho mu1) := rfl
@[simp] theorem eCall_ev {F : FS} {es : List ES} : eCall F es rho mu = eArgs es rho mu F := rfl
@[simp] theorem eArgs_nil {K : List D → Mu → Ro} : eArgs [] rho mu K = K [] mu := rfl
@[simp] theorem eArgs_cons {K : List D → Mu → Ro} {f : ES} {es : List ES} : eArgs (f :: es) rho mu K = bnd (f rho mu) fun d mu1 => eArgs es rho mu1 fun ds mu2 => K (d :: ds) mu2 := rfl
@[simp] theorem eChain_ev {h h' : D2} {f g e : ES} : eChain h h' f g e rho mu = bnd (f rho mu) fun x mu1 => bnd (g rho mu1) fun y mu2 => bnd (h x y mu2) (chB (fun mu3 => bnd (e rho mu3) fun z mu4 => h' y z mu4) fun mu3 => some (.ok (.bl false), mu3)) := rfl
@[simp] theorem eIsN_ev {f : ES} : eIsN f rho mu = bnd (f rho mu) fun d mu1 => some (.ok (.bl (isN d)), mu1) := rfl
@[simp] theorem eNotN_ev {f : ES} : eNotN f rho mu = bnd (f rho mu) fun d mu1 => some (.ok (.bl (!isN d)), mu1) := rfl
@[simp] theorem eSl_ev {f : ES} {lo hi : Option ES} : eSl f lo hi rho mu = bnd (f rho mu) fun d mu1 => ePart lo rho mu1 fun l mu2 => ePart hi rho mu2 fun u mu3 => slD d l u mu3 := rfl
@[simp] theorem ePart_n {K : Option Int → Mu → Ro} : ePart none rho mu K = K none mu := rfl
theorem ePart_s {K : Option Int → Mu → Ro} {f : ES} {i : Int} (h : f rho mu = some (.ok (.int i), mu1)) : ePart (some f) rho mu K = K (some i) mu1 := by unfold ePart; simp [h]
@[simp] theorem ePart_c {K : Option Int → Mu → Ro} {i : Int} : ePart (some (eC (.int i))) rho mu K = K (some i) mu := rfl
@[simp] theorem eMth_ev {chk : D → Mu → Bool} {M : D → List D → Mu → Ro} {f : ES} {es : List ES} : eMth chk M f es rho mu = bnd (f rho mu) fun d mu1 => if chk d mu1 = true then eArgs es rho mu1 (M d) else none := rfl
@[simp] theorem eMeth_ev {m : Str} {F : FS} {f : ES} {es : List ES} : eMeth C m F f es rho mu = bnd (f rho mu) fun d mu1 => if recvOk C m d mu1 = true then eArgs es rho mu1 (fun ds mu2 => F (d :: ds) mu2) else none := rfl
@[simp] theorem eFld_ev {n : Str} {ok : Addr → Bool} {f : ES} : eFld n ok f rho mu = bnd (f rho mu) (fldD n ok) := rfl
@[simp] theorem eTuple_ev {f : ES} : eTuple f rho mu = bnd (f rho mu) tup1 := rfl
@[simp] theorem eNeg_ev {f : ES} : eNeg f rho mu = bnd (f rho mu) fun d mu1 => match d with
  | .int i => okD (.int (-i)) mu1
  | _ => none := rfl
/-- go on behind a statement -/
def thnS (o : So) (g : SS) : So := match o with
  | some (.nx, rho1, mu1) => g rho1 mu1
  | o => o
@[simp] theorem sSeq_ev {f g : SS} : sSeq f g rho mu = thnS (f rho mu) g := rfl
@[simp] theorem thnS_nx {g : SS} : thnS (some (.nx, rho, mu)) g = g rho mu := rfl
@[simp] theorem thnS_rt {g : SS} : thnS (some (.rt d, rho, mu)) g = some (.rt d, rho, mu) := rfl
@[simp] theorem thnS_ex {g : SS} : thnS (some (.ex C fs, rho, mu)) g = some (.ex C fs, rho, mu) := rfl
@[simp] theorem thnS_bk {g : SS} : thnS (some (.bk, rho, mu)) g = some (.bk, rho, mu) := rfl
@[simp] theorem thnS_ct {g : SS} : thnS (some (.ct, rho, mu)) g = some (.ct, rho, mu) := rfl
@[simp] theorem thnS_none {g : SS} : thnS none g = none := rfl
@[simp] theorem thnS_ite {p : Prop} [Decidable p] {g : SS} : thnS (if p then xs else ys) g = if p then thnS xs g else thnS ys g := by split <;> rfl
@[simp] theorem sNil_ev : sNil rho mu = some (.nx, rho, mu) := rfl
@[simp] theorem sSet_ev {i : Nat} {f : ES} : sSet i f rho mu = bnS (f rho mu) rho fun d mu1 => some (.nx, rho.set i (some d), mu1) := rfl
@[simp] theorem sExpr_ev {f : ES} : sExpr f rho mu = bnS (f rho mu) rho fun _ mu1 => some (.nx, rho, mu1) := rfl
@[simp] theorem sRet_ev {f : ES} : sRet f rho mu = bnS (f rho mu) rho fun d mu1 => some (.rt d, rho, mu1) := rfl
@[simp] theorem sIf_ev {c : ES} {f g : SS} : sIf c f g rho mu = bnS (c rho mu) rho (chS (fun mu1 => f rho mu1) fun mu1 => g rho mu1) := rfl
@[simp] theorem sPar_ev {i j : Nat} {f g : ES} : sPar i j f g rho mu = bnS (f rho mu) rho fun a mu1 => bnS (g rho mu1) rho fun b mu2 => some (.nx, (rho.set i (some a)).set j (some b), mu2) := rfl
@[simp] theorem sRaise_ev {gs : List Str} {es : List ES} : sRaise C gs es rho mu = bnS (eArgs es rho mu (raiseF C gs)) rho fun _ _ => none := rfl
theorem fnS_ev {n : Nat} {m : SS} {ds : List D} : fnS n m ds mu = fin (m (ds.map some ++ List.replicate (n - ds.length) none) mu) := rfl
@[simp] theorem fin_nx : fin (some (.nx, rho, mu)) = some (.ok .non, mu) := rfl
@[simp] theorem fin_rt : fin (some (.rt d, rho, mu)) = some (.ok d, mu) := rfl
@[simp] theorem fin_ex : fin (some (.ex C fs, rho, mu)) = some (.ex C fs, mu) := rfl
@[simp] theorem fin_none : fin none = none := rfl
@[simp] theorem fin_ite {p : Prop} [Decidable p] : fin (if p then xs else ys) = if p then fin xs else fin ys := by split <;> rfl
@[simp] theorem ite_andP {p : Prop} [Decidable p] : (if p then some (Rs.ok (.bl c), mu) else some (Rs.ok (.bl false), mu)) = some (Rs.ok (.bl (decide p && c)), mu) := by by_cases h : p <;> simp [h]
@[simp] theorem ite_orP {p : Prop} [Decidable p] : (if p then some (Rs.ok (.bl true), mu) else some (Rs.ok (.bl c), mu)) = some (Rs.ok (.bl (decide p || c)), mu) := by by_cases h : p <;> simp [h]
@[simp] theorem tupF_ev {ds : List D} (h : ds.length ≤ 16777216) : tupF ds mu = some (.ok (.tup ds), mu) := if_pos h
@[simp] theorem tup0 : tupF [] mu = some (.ok (.tup []), mu) := rfl
theorem tup1' {a : D} : tupF [a] mu = some (.ok (.tup [a]), mu) := rfl
end
/-! ### types of data -/
section
variable {mu : Mu} {b : Bool} {i : Int} {z : Str} {xs : List D} {j : Nat}
@[simp] theorem isi_non_str : isiF [.non, .ty "str"] mu = some (.ok (.bl false), mu) := isi_str (d := .non) rfl
@[simp] theorem isi_non_tuple : isiF [.non, .ty "tuple"] mu = some (.ok (.bl false), mu) := isi_tuple (d := .non) rfl
@[simp] theorem isi_non_int : isiF [.non, .ty "int"] mu = some (.ok (.bl false), mu) := isi_int (d := .non) rfl
@[simp] theorem isi_non_bool : isiF [.non, .ty "bool"] mu = some (.ok (.bl false), mu) := isi_bool (d := .non) rfl
@[simp] theorem isi_bl_str : isiF [.bl b, .ty "str"] mu = some (.ok (.bl false), mu) := isi_str (d := .bl b) rfl
@[simp] theorem isi_bl_tuple : isiF [.bl b, .ty "tuple"] mu = some (.ok (.bl false), mu) := isi_tuple (d := .bl b) rfl
@[simp] theorem isi_bl_int : isiF [.bl b, .ty "int"] mu = some (.ok (.bl true), mu) := isi_int (d := .bl b) rfl
@[simp] theorem isi_bl_bool : isiF [.bl b, .ty "bool"] mu = some (.ok (.bl true), mu) := isi_bool (d := .bl b) rfl
@[simp] theorem isi_int_str : isiF [.int i, .ty "str"] mu = some (.ok (.bl false), mu) := isi_str (d := .int i) rfl
@[simp] theorem isi_int_tuple : isiF [.int i, .ty "tuple"] mu = some (.ok (.bl false), mu) := isi_tuple (d := .int i) rfl
@[simp] theorem isi_int_int : isiF [.int i, .ty "int"] mu = some (.ok (.bl true), mu) := isi_int (d := .int i) rfl
@[simp] theorem isi_int_bool : isiF [.int i, .ty "bool"] mu = some (.ok (.bl false), mu) := isi_bool (d := .int i) rfl
@[simp] theorem isi_str_str : isiF [.str z, .ty "str"] mu = some (.ok (.bl true), mu) := isi_str (d := .str z) rfl
@[simp] theorem isi_str_tuple : isiF [.str z, .ty "tuple"] mu = some (.ok (.bl false), mu) := isi_tuple (d := .str z) rfl
@[simp] theorem isi_str_int : isiF [.str z, .ty "int"] mu = some (.ok (.bl false), mu) := isi_int (d := .str z) rfl
@[simp] theorem isi_str_bool : isiF [.str z, .ty "bool"] mu = some (.ok (.bl false), mu) := isi_bool (d := .str z) rfl
@[simp] theorem isi_tup_str : isiF [.tup xs, .ty "str"] mu = some (.ok (.bl false), mu) := isi_str (d := .tup xs) rfl
@[simp] theorem isi_tup_tuple : isiF [.tup xs, .ty "tuple"] mu = some (.ok (.bl true), mu) := isi_tuple (d := .tup xs) rfl
@[simp] theorem isi_tup_int : isiF [.tup xs, .ty "int"] mu = some (.ok (.bl false), mu) := isi_int (d := .tup xs) rfl
@[simp] theorem isi_tup_bool : isiF [.tup xs, .ty "bool"] mu = some (.ok (.bl false), mu) := isi_bool (d := .tup xs) rfl
end
/-- a list or a dict, by its cell -/
def Oth (d : D) (mu : Mu) : Prop := ∃ j, d = .cel j ∧ (tyN d mu = some "list" ∨ tyN d mu = some "dict")
section
variable {d : D} {mu : Mu}
theorem Oth.isi_str (h : Oth d mu) : isiF [d, .ty "str"] mu = some (.ok (.bl false), mu) := by
  obtain ⟨j, rfl, h | h⟩ := h
  · exact DL.isi_str h
  · exact DL.isi_str h
theorem Oth.isi_tuple (h : Oth d mu) : isiF [d, .ty "tuple"] mu = some (.ok (.bl false), mu) := by
  obtain ⟨j, rfl, h | h⟩ := h
  · exact DL.isi_tuple h
  · exact DL.isi_tuple h
theorem Oth.isi_int (h : Oth d mu) : isiF [d, .ty "int"] mu = some (.ok (.bl false), mu) := by
  obtain ⟨j, rfl, h | h⟩ := h
  · exact DL.isi_int h
  · exact DL.isi_int h
theorem Oth.isi_bool (h : Oth d mu) : isiF [d, .ty "bool"] mu = some (.ok (.bl false), mu) := by
  obtain ⟨j, rfl, h | h⟩ := h
  · exact DL.isi_bool h
  · exact DL.isi_bool h
end
/-- a datum of a kind that laws speak of -/
inductive Knd (mu : Mu) : D → Prop
  | non : Knd mu .non
  | bl (b : Bool) : Knd mu (.bl b)
  | int (i : Int) : Knd mu (.int i)
  | str (z : Str) : Knd mu (.str z)
  | tup (xs : List D) : Knd mu (.tup xs)
  | oth (d : D) (h : Oth d mu) : Knd mu d
theorem knd_of {d : D} {mu : Mu} (h : (tyN d mu).isSome = true) : Knd mu d := by
  obtain ⟨t, h⟩ := Option.isSome_iff_exists.mp h
  cases d with
  | non => exact .non
  | bl b => exact .bl b
  | int i => exact .int i
  | str z => exact .str z
  | tup xs => exact .tup xs
  | cel j =>
    refine .oth _ ⟨j, rfl, ?_⟩
    have h' := h
    unfold tyN at h'
    dsimp only at h'
    split at h'
    · cases h'; exact .inl h
    · cases h'; exact .inr h
    · cases h'
  | ty n => cases h
  | adr a => cases h
  | fl xs => cases h
theorem Oth.cases {d : D} {mu : Mu} (h : Oth d mu) : ∃ j, d = .cel j := let ⟨j, e, _⟩ := h; ⟨j, e⟩
end DL
set_option Elab.async false
set_option linter.all false
set_option autoImplicit false
set_option maxRecDepth 100000
set_option maxHeartbeats 4000000
/-! M0: loops and comprehensions at data. -/
namespace DL
open PySem PySem.Spec L2
/-! ### for -/
theorem forL_wp {g : Option (Nat × List D)} {t : Tg} {b : SS} {xs : List D} (I : List D → Rho → Mu → Prop) (Q : So → Prop) (hg : ∀ done rho mu, I done rho mu → grdOk g mu)
    (step : ∀ done x rest, xs = done ++ x :: rest → ∀ rho mu, I done rho mu → ∃ rho1, asgD t x rho = some rho1 ∧
      ((∃ rho2 mu2, b rho1 mu = some (.nx, rho2, mu2) ∧ I (done ++ [x]) rho2 mu2) ∨ (∃ d rho2 mu2, b rho1 mu = some (.rt d, rho2, mu2) ∧ Q (some (.rt d, rho2, mu2))) ∨ ∃ C fs rho2 mu2, b rho1 mu = some (.ex C fs, rho2, mu2) ∧ Q (some (.ex C fs, rho2, mu2))))
    (fin : ∀ rho mu, I xs rho mu → Q (some (.nx, rho, mu))) {rho : Rho} {mu : Mu} (h0 : I [] rho mu) : Q (forL g t b xs rho mu) := by
  have gen : ∀ (rest done : List D) (rho : Rho) (mu : Mu), xs = done ++ rest → I done rho mu → Q (forL g t b rest rho mu) := by
    intro rest
    induction rest with
    | nil =>
      intro done rho mu e i
      unfold forL
      rw [if_pos (hg _ _ _ i)]
      rw [List.append_nil] at e
      subst e
      exact fin _ _ i
    | cons x r ih =>
      intro done rho mu e i
      unfold forL
      rw [if_pos (hg _ _ _ i)]
      obtain ⟨rho1, e1, h⟩ := step done x r e rho mu i
      rw [e1]
      dsimp only
      rcases h with ⟨rho2, mu2, e2, i2⟩ | ⟨d, rho2, mu2, e2, q⟩ | ⟨C, fs, rho2, mu2, e2, q⟩
      · rw [e2]
        exact ih (done ++ [x]) rho2 mu2 (by rw [e]; simp) i2
      · rw [e2]; exact q
      · rw [e2]; exact q
  exact gen xs [] rho mu rfl h0
/-- .. by the index -/
theorem forI_wp {g : Option (Nat × List D)} {t : Tg} {b : SS} {xs : List D} (I : Nat → Rho → Mu → Prop) (Q : So → Prop) (hg : ∀ k rho mu, I k rho mu → grdOk g mu)
    (step : ∀ k x, xs[k]? = some x → ∀ rho mu, I k rho mu → ∃ rho1, asgD t x rho = some rho1 ∧
      ((∃ rho2 mu2, b rho1 mu = some (.nx, rho2, mu2) ∧ I (k + 1) rho2 mu2) ∨ (∃ d rho2 mu2, b rho1 mu = some (.rt d, rho2, mu2) ∧ Q (some (.rt d, rho2, mu2))) ∨ ∃ C fs rho2 mu2, b rho1 mu = some (.ex C fs, rho2, mu2) ∧ Q (some (.ex C fs, rho2, mu2))))
    (fin : ∀ rho mu, I xs.length rho mu → Q (some (.nx, rho, mu))) {rho : Rho} {mu : Mu} (h0 : I 0 rho mu) : Q (forL g t b xs rho mu) := by
  refine forL_wp (fun done => I done.length) Q (fun done => hg _) (fun done x rest e rho mu i => ?_) fin h0
  have := step done.length x (by rw [e]; simp) rho mu i
  simpa using this
theorem forE_wp {g : Option (Nat × List D)} {t : Tg} {b : SS} {xs : List D} (I : Nat → Rho → Mu → Prop) (Q : So → Prop) (hg : ∀ k rho mu, I k rho mu → grdOk g mu)
    (step : ∀ k x, xs[k]? = some x → ∀ rho mu, I k rho mu → ∃ rho1, asgD t (.tup [.int (k : Nat), x]) rho = some rho1 ∧
      ((∃ rho2 mu2, b rho1 mu = some (.nx, rho2, mu2) ∧ I (k + 1) rho2 mu2) ∨ (∃ d rho2 mu2, b rho1 mu = some (.rt d, rho2, mu2) ∧ Q (some (.rt d, rho2, mu2))) ∨ ∃ C fs rho2 mu2, b rho1 mu = some (.ex C fs, rho2, mu2) ∧ Q (some (.ex C fs, rho2, mu2))))
    (fin : ∀ rho mu, I xs.length rho mu → Q (some (.nx, rho, mu))) {rho : Rho} {mu : Mu} (h0 : I 0 rho mu) : Q (forL g t b (enumD xs) rho mu) := by
  refine forI_wp I Q hg (fun k x e rho mu i => ?_) (fun rho mu i => fin rho mu (by rw [enumD_length] at i; exact i)) h0
  rw [enumD_get] at e
  obtain ⟨y, e1, rfl⟩ := Option.map_eq_some_iff.mp e
  exact step k y e1 rho mu i
/-! ### comprehensions that leave the store -/
theorem grd_app {g : Option (Nat × List D)} {mu : Mu} {c : Cell} (h : grdOk g mu) : grdOk g (mu ++ [c]) := by
  unfold grdOk at h ⊢
  match g with
  | none => trivial
  | some (j, xs) =>
    show (mu ++ [c])[j]? = some (.lst xs)
    have h : mu[j]? = some (.lst xs) := h
    rw [List.getElem?_append_left (List.getElem?_eq_some_iff.mp h).1]
    exact h
theorem compL_pure {g : Option (Nat × List D)} {t : Tg} {tt te : ES} {rho : Rho} {mu : Mu} (p : D → Bool) (f : D → D) (hg : grdOk g mu) : ∀ (xs acc : List D),
    (∀ x ∈ xs, ∀ acc, ∃ rho1, asgD t x rho = some rho1 ∧ tt rho1 (mu ++ [.lst acc]) = some (.ok (.bl (p x)), mu ++ [.lst acc]) ∧ (p x = true → te rho1 (mu ++ [.lst acc]) = some (.ok (f x), mu ++ [.lst acc]))) →
    acc.length + xs.length ≤ 16777216 → compL mu.length g t tt te xs rho (mu ++ [.lst acc]) = some (mu ++ [.lst (acc ++ (xs.filter p).map f)])
  | [], acc, _, _ => by
    unfold compL
    rw [if_pos (grd_app hg)]
    simp
  | x :: xs, acc, h, hl => by
    unfold compL
    rw [if_pos (grd_app hg)]
    obtain ⟨rho1, e1, e2, e3⟩ := h x List.mem_cons_self acc
    rw [e1]
    dsimp only
    rw [e2]
    cases hp : p x with
    | false =>
      dsimp only
      rw [compL_pure p f hg xs acc (fun y hy => h y (List.mem_cons_of_mem _ hy)) (by simp at hl; omega)]
      simp [hp]
    | true =>
      dsimp only
      rw [e3 hp]
      dsimp only
      have e4 : (mu ++ [Cell.lst acc])[mu.length]? = some (.lst acc) := by simp
      rw [e4]
      dsimp only
      rw [if_pos (by simp at hl; omega)]
      have e5 : (mu ++ [Cell.lst acc]).set mu.length (.lst (acc ++ [f x])) = mu ++ [.lst (acc ++ [f x])] := by simp
      rw [e5, compL_pure p f hg xs (acc ++ [f x]) (fun y hy => h y (List.mem_cons_of_mem _ hy)) (by simp at hl ⊢; omega)]
      simp [hp]
theorem comp_pure {fi : IS} {t : Tg} {vs : List Nat} {tt te : ES} {rho : Rho} {mu0 mu : Mu} {g : Option (Nat × List D)} {xs : List D} (p : D → Bool) (f : D → D) (hi : fi rho mu0 = some (.ok xs g, mu)) (hg : grdOk g mu)
    (h : ∀ x ∈ xs, ∀ acc, ∃ rho1, asgD t x (wipeR rho vs) = some rho1 ∧ tt rho1 (mu ++ [.lst acc]) = some (.ok (.bl (p x)), mu ++ [.lst acc]) ∧ (p x = true → te rho1 (mu ++ [.lst acc]) = some (.ok (f x), mu ++ [.lst acc])))
    (hl : xs.length ≤ 16777216) : eComp fi t vs tt te rho mu0 = some (.ok (.cel mu.length), mu ++ [.lst ((xs.filter p).map f)]) := by
  unfold eComp
  rw [hi]
  dsimp only
  rw [compL_pure p f hg xs [] h (by simpa using hl)]
  simp
/-! ### well kinded data -/
mutual
def wk (mu : Mu) : D → Bool
  | .tup xs => wkL mu xs
  | .str z => decide (z.length ≤ 16777216)
  | d => (tyN d mu).isSome
def wkL (mu : Mu) : List D → Bool
  | [] => true
  | x :: xs => wk mu x && wkL mu xs
end
theorem wk_knd {mu : Mu} {d : D} (h : wk mu d = true) : (tyN d mu).isSome = true := by
  cases d <;> first | rfl | (unfold wk at h; exact h)
@[simp] theorem wk_str {mu : Mu} {z : Str} : wk mu (.str z) = decide (z.length ≤ 16777216) := by rw [wk]
@[simp] theorem wk_tup {mu : Mu} {xs : List D} : wk mu (.tup xs) = wkL mu xs := by rw [wk]
@[simp] theorem wkL_nil {mu : Mu} : wkL mu [] = true := by rw [wkL]
@[simp] theorem wkL_cons {mu : Mu} {x : D} {xs : List D} : wkL mu (x :: xs) = (wk mu x && wkL mu xs) := by rw [wkL]
theorem wkL_iff {mu : Mu} : ∀ {xs : List D}, wkL mu xs = true ↔ ∀ x ∈ xs, wk mu x = true
  | [] => by simp
  | x :: xs => by simp [wkL_iff (xs := xs)]
theorem atI_nat' {α : Type} {xs : List α} {n : Nat} {x : α} (h : xs[n]? = some x) : atI xs (n : Int) = some x := by
  rw [show ((n : Nat) : Int) = Int.ofNat n from rfl]
  exact atI_nat h
theorem ix_tup {mu : Mu} {x : D} {xs : List D} {n : Nat} (h : xs[n]? = some x) : ixD (.tup xs) (.int (n : Int)) mu = some (.ok x, mu) := by
  show (match atI xs (n : Int) with | some y => okD y mu | none => none) = _
  rw [atI_nat' h]
@[simp] theorem ix_tup0 {mu : Mu} {x : D} {xs : List D} : ixD (.tup (x :: xs)) (.int 0) mu = some (.ok x, mu) := ix_tup (n := 0) rfl
@[simp] theorem ix_tup1 {mu : Mu} {x y : D} {xs : List D} : ixD (.tup (x :: y :: xs)) (.int 1) mu = some (.ok y, mu) := ix_tup (n := 1) rfl
@[simp] theorem ix_tup2 {mu : Mu} {x y z : D} {xs : List D} : ixD (.tup (x :: y :: z :: xs)) (.int 2) mu = some (.ok z, mu) := ix_tup (n := 2) rfl
@[simp] theorem ix_tup3 {mu : Mu} {x y z w : D} {xs : List D} : ixD (.tup (x :: y :: z :: w :: xs)) (.int 3) mu = some (.ok w, mu) := ix_tup (n := 3) rfl
@[simp] theorem len_tup {mu : Mu} {xs : List D} : lenF [.tup xs] mu = some (.ok (.int xs.length), mu) := rfl
@[simp] theorem eq_str {mu : Mu} {a b : Str} : eqD (.str a) (.str b) mu = some (.ok (.bl (decide (a = b))), mu) := by
  unfold eqD eqB scV
  simp [scal]
@[simp] theorem ne_str {mu : Mu} {a b : Str} : neD (.str a) (.str b) mu = some (.ok (.bl (!decide (a = b))), mu) := by
  unfold neD eqB scV
  simp [scal]
@[simp] theorem eqi_int {mu : Mu} {a b : Int} : eqD (.int a) (.int b) mu = some (.ok (.bl (decide (a = b))), mu) := by
  unfold eqD eqB scV
  simp [scal]
@[simp] theorem nei_int {mu : Mu} {a b : Int} : neD (.int a) (.int b) mu = some (.ok (.bl (!decide (a = b))), mu) := by
  unfold neD eqB scV
  simp [scal]
@[simp] theorem le_int {mu : Mu} {a b : Int} : leD (.int a) (.int b) mu = some (.ok (.bl (decide (a ≤ b))), mu) := rfl
@[simp] theorem lt_int {mu : Mu} {a b : Int} : ltD (.int a) (.int b) mu = some (.ok (.bl (decide (a < b))), mu) := rfl
@[simp] theorem gt_int {mu : Mu} {a b : Int} : gtD (.int a) (.int b) mu = some (.ok (.bl (decide (b < a))), mu) := rfl
@[simp] theorem ge_int {mu : Mu} {a b : Int} : geD (.int a) (.int b) mu = some (.ok (.bl (decide (b ≤ a))), mu) := rfl
@[simp] theorem add_int {mu : Mu} {a b : Int} : addD (.int a) (.int b) mu = some (.ok (.int (a + b)), mu) := rfl
@[simp] theorem sub_int {mu : Mu} {a b : Int} : subD (.int a) (.int b) mu = some (.ok (.int (a - b)), mu) := rfl
/-- the same kinds -/
def SameK (mu mu' : Mu) : Prop := ∀ j : Nat, tyN (.cel j) mu' = tyN (.cel j) mu
theorem SameK.ty {mu mu' : Mu} (h : SameK mu mu') (d : D) : tyN d mu' = tyN d mu := by
  cases d <;> first | rfl | exact h _
mutual
theorem wk_congr {mu mu' : Mu} (h : SameK mu mu') : ∀ d : D, wk mu' d = wk mu d
  | .tup xs => by rw [wk_tup, wk_tup, wkL_congr h xs]
  | .str z => by rw [wk_str, wk_str]
  | .cel j => by unfold wk; rw [h j]
  | .non => by unfold wk; rfl
  | .bl _ => by unfold wk; rfl
  | .int _ => by unfold wk; rfl
  | .ty _ => by unfold wk; rfl
  | .adr _ => by unfold wk; rfl
  | .fl _ => by unfold wk; rfl
theorem wkL_congr {mu mu' : Mu} (h : SameK mu mu') : ∀ xs : List D, wkL mu' xs = wkL mu xs
  | [] => by simp
  | x :: xs => by rw [wkL_cons, wkL_cons, wk_congr h x, wkL_congr h xs]
end
theorem SameK.app {mu g : Mu} (d : D) (h : wk mu d = true) : True := trivial
@[simp] theorem len_lst {mu : Mu} {j : Nat} {xs : List D} (h : mu[j]? = some (.lst xs)) : lenF [.cel j] mu = some (.ok (.int xs.length), mu) := by
  show (match seqD (.cel j) mu with | some xs => okD (.int xs.length) mu | none => none) = _
  simp [seqD, lstD, h]
theorem add_tup {mu : Mu} {a b : List D} (h : a.length + b.length ≤ 16777216) : addD (.tup a) (.tup b) mu = some (.ok (.tup (a ++ b)), mu) := if_pos h
end DL
set_option Elab.async false
set_option linter.all false
set_option autoImplicit false
set_option maxRecDepth 100000
set_option maxHeartbeats 4000000
/-! M1: pieces by their own form. -/
namespace DL
open PySem PySem.Spec L2
/-! is_integer (slots: 0 thing, 1 least, 2 most) -/
def isIntB (a b : Int) : D → Bool
  | .int i => decide (a ≤ i) && decide (i ≤ b)
  | _ => false
/-! is_plain (slots: 0 thing, 1 sign) -/
def okSign (c : Nat) : Bool := decide (32 ≤ c) && decide (c ≤ 125)
def isPlainB : D → Bool
  | .str z => decide (1 ≤ z.length) && decide (z.length ≤ 20) && z.cps.toList.all okSign
  | _ => false
/-! are_pieces (slots: 0 thing) -/
def fewB : D → Bool
  | .tup xs => decide (xs.length ≤ 8)
  | _ => false
/-! has_form (slots: 0 thing) -/
def isShapeB : D → Bool
  | .str z => decide (z = "") || decide (z = "upper") || decide (z = "lower") || decide (z = "first") || decide (z = "title")
  | _ => false
def hasFormB : D → Bool
  | .str z => isPlainB (.str z)
  | .tup [.str w, n, a] => isIntB 1 99 n && ((decide (w = "field") && fewB a) || (decide (w = "copy") && isShapeB a))
  | .tup [.str w, n, a, b] => isIntB 1 99 n && decide (w = "when") && fewB a && fewB b
  | _ => false
end DL
set_option Elab.async false
set_option linter.all false
set_option autoImplicit false
set_option maxRecDepth 100000
set_option maxHeartbeats 4000000
/-! M2: the look at pieces, one behind the other. -/
namespace DL
open PySem PySem.Spec L2
/-! insides (slots: 0 piece) -/
def insB : D → List D
  | .tup (.str w :: _ :: r) => if w = "copy" then [] else r
  | _ => []
/-! spot_inside (slots: 0 spot, 1 piece, 2 side) -/
def spotB (s : List D) (p : D) (k : Int) : List D := match p with
  | .tup (.str w :: _) => if w = "field" then s else s ++ [.int k]
  | _ => s
/-! Looking.__init__ (slots: 0 self) -/
/-! the state of a look: how many pieces, the numbers of the fields -/
structure LS where
  many : Int
  fields : List Int
def intsD : List D → Option (List Int)
  | [] => some []
  | .int i :: r => (intsD r).map (i :: ·)
  | _ => none
@[simp] theorem intsD_map : ∀ ns : List Int, intsD (ns.map D.int) = some ns
  | [] => rfl
  | n :: ns => by simp [intsD, intsD_map ns]
abbrev lkF (s : LS) (f : Nat) : List (Str × D) := [("many", .int s.many), ("fields", .cel f)]
structure LkAt (q : Ad) (mu : Mu) (j f : Nat) (s : LS) : Prop where
  obj : mu[j]? = some (.ins q.cLooking [("many", .int s.many), ("fields", .cel f)])
  lst : mu[f]? = some (.lst (s.fields.map D.int))
def lkPut (q : Ad) (mu : Mu) (j f : Nat) (s : LS) : Mu := (mu.set j (.ins q.cLooking [("many", .int s.many), ("fields", .cel f)])).set f (.lst (s.fields.map D.int))
open Classical in
noncomputable def lkSt (q : Ad) (mu : Mu) (j : Nat) : Option (Nat × LS) := if h : ∃ p : Nat × LS, LkAt q mu j p.1 p.2 then some (choose h) else none
section
variable {q : Ad} {mu : Mu} {j f : Nat} {s s' : LS}
theorem LkAt.ne (h : LkAt q mu j f s) : j ≠ f := fun z => by
  have a := h.obj
  rw [z, h.lst] at a
  cases a
theorem LkAt.lt (h : LkAt q mu j f s) : j < mu.length ∧ f < mu.length := ⟨(List.getElem?_eq_some_iff.mp h.obj).1, (List.getElem?_eq_some_iff.mp h.lst).1⟩
theorem LkAt.uniq {f' : Nat} (h : LkAt q mu j f s) (h' : LkAt q mu j f' s') : f = f' ∧ s = s' := by
  have e := h.obj.symm.trans h'.obj
  injection e with e
  injection e with _ e
  simp at e
  obtain ⟨e1, e2⟩ := e
  subst e2
  have e3 := h.lst.symm.trans h'.lst
  injection e3 with e3
  injection e3 with e3
  have : s.fields = s'.fields := by
    have := congrArg intsD e3
    simpa using this
  refine ⟨rfl, ?_⟩
  cases s; cases s'
  simp_all
theorem LkAt.st (h : LkAt q mu j f s) : lkSt q mu j = some (f, s) := by
  unfold lkSt
  have hx : ∃ p : Nat × LS, LkAt q mu j p.1 p.2 := ⟨(f, s), h⟩
  rw [dif_pos hx]
  have := Classical.choose_spec hx
  obtain ⟨e1, e2⟩ := h.uniq this
  rw [show Classical.choose hx = (f, s) from Prod.ext e1.symm e2.symm]
theorem LkAt.put (h : LkAt q mu j f s) (s' : LS) : LkAt q (lkPut q mu j f s') j f s' := by
  have ne := h.ne
  obtain ⟨l1, l2⟩ := h.lt
  constructor
  · unfold lkPut
    rw [List.getElem?_set_ne (Ne.symm ne), List.getElem?_set_self l1]
  · unfold lkPut
    rw [List.getElem?_set_self (by simpa using l2)]
theorem set_same {l : Mu} {i : Nat} {x : Cell} (h : l[i]? = some x) : l.set i x = l := by
  apply List.ext_getElem?
  intro k
  by_cases e : i = k
  · subst e
    rw [List.getElem?_set_self (List.getElem?_eq_some_iff.mp h).1, h]
  · rw [List.getElem?_set_ne e]
theorem LkAt.put_self (h : LkAt q mu j f s) : lkPut q mu j f s = mu := by
  unfold lkPut
  rw [set_same h.obj, set_same h.lst]
theorem LkAt.put_put (h : LkAt q mu j f s) (a b : LS) : lkPut q (lkPut q mu j f a) j f b = lkPut q mu j f b := by
  have ne := h.ne
  unfold lkPut
  rw [List.set_comm _ _ (Ne.symm ne), List.set_set, List.set_set]
theorem lkPut_len : (lkPut q mu j f s).length = mu.length := by simp [lkPut]
theorem LkAt.same (h : LkAt q mu j f s) (s' : LS) : SameK mu (lkPut q mu j f s') := fun i => by
  unfold tyN lkPut
  dsimp only
  obtain ⟨l1, l2⟩ := h.lt
  by_cases e1 : f = i
  · subst e1
    rw [List.getElem?_set_self (by simpa using l2), h.lst]
  · rw [List.getElem?_set_ne e1]
    by_cases e2 : j = i
    · subst e2
      rw [List.getElem?_set_self l1, h.obj]
    · rw [List.getElem?_set_ne e2]
theorem clL_ints {n : Nat} (ns : List Int) : clL n (ns.map D.int) := clL_iff.mpr fun x hx => by
  obtain ⟨i, _, rfl⟩ := List.mem_map.mp hx
  unfold cl; trivial
theorem LkAt.clp (h : LkAt q mu j f s) (hm : clM mu.length mu) (s' : LS) : clM (lkPut q mu j f s').length (lkPut q mu j f s') := by
  rw [lkPut_len]
  unfold lkPut
  exact clM_set (clM_set hm ⟨trivial, h.lt.2, trivial⟩) (clL_ints _)
end
section
variable {q : Ad} {mu : Mu} {j f : Nat} {s : LS} {rho : Rho}
theorem LkAt.ins (h : LkAt q mu j f s) : insD (.cel j) mu = some (j, q.cLooking, lkF s f) := by
  simp [insD, h.obj]
theorem LkAt.many (h : LkAt q mu j f s) : fldD "many" (of_many q) (.cel j) mu = some (.ok (.int s.many), mu) := by
  unfold fldD; rw [h.ins]; simp [of_many, List.lookup]
theorem LkAt.flds (h : LkAt q mu j f s) : fldD "fields" (of_fields q) (.cel j) mu = some (.ok (.cel f), mu) := by
  have e2 : (lkF s f).lookup ("fields" : Str) = some (D.cel f) := by rfl
  unfold fldD; rw [h.ins]; simp only [e2]; simp [of_fields]
theorem LkAt.app (h : LkAt q mu j f s) (n : Int) (hl : s.fields.length ≤ 6) : appM (.cel f) [.int n] mu = some (.ok .non, lkPut q mu j f { s with fields := s.fields ++ [n] }) := by
  have hl' : s.fields.length < 16777216 := by omega
  simp only [appM, h.lst, List.length_map, hl', if_true]
  congr 2
  unfold lkPut
  rw [set_same h.obj]
  simp
theorem LkAt.isl (h : LkAt q mu j f s) : isLB (.cel f) mu = true := by
  simp [isLB, lstD, h.lst]
end
def isStrB : D → Bool
  | .str _ => true
  | _ => false
def wrongB (s : LS) (ps : List D) (k : Nat) (lv : Int) : Bool × LS := match ps[k]? with
  | none => (true, s)
  | some p => if s.many + 1 > 30 ∨ lv > 5 ∨ hasFormB p = false then (true, { s with many := s.many + 1 }) else match p with
    | .str _ => (decide (k > 0) && (match ps[k - 1]? with | some x => isStrB x | none => false), { s with many := s.many + 1 })
    | .tup (.str w :: .int n :: _) => if w ≠ "field" then (false, { s with many := s.many + 1 }) else if n ∈ s.fields ∨ s.fields.length = 6 then (true, { s with many := s.many + 1 }) else (false, ⟨s.many + 1, s.fields ++ [n]⟩)
    | _ => (true, { s with many := s.many + 1 })
/-! Looking.is_wrong (slots: 0 self, 1 pieces, 2 at, 3 level, 4 piece) -/
theorem form_cases {d : D} (h : hasFormB d = true) : (∃ z, d = .str z) ∨ ∃ w n a r, d = .tup (.str w :: .int n :: a :: r) ∧ 1 ≤ n ∧ n ≤ 99 := by
  unfold hasFormB at h
  split at h
  · exact .inl ⟨_, rfl⟩
  · rename_i w n a
    simp only [Bool.and_eq_true] at h
    have := h.1
    unfold isIntB at this
    split at this
    · simp at this
      exact .inr ⟨w, _, a, [], rfl, this.1, this.2⟩
    · cases this
  · rename_i w n a b
    simp only [Bool.and_eq_true] at h
    have := h.1.1.1
    unfold isIntB at this
    split at this
    · simp at this
      exact .inr ⟨w, _, a, [b], rfl, this.1, this.2⟩
    · cases this
  · cases h
end DL
set_option Elab.async false
set_option linter.all false
set_option autoImplicit false
set_option maxRecDepth 100000
set_option maxHeartbeats 4000000
/-! M3: the first wrong piece. -/
namespace DL
open PySem PySem.Spec L2
abbrev FW := LS → List D → List D → Int → Option (List D) × LS
def sidesW (rec : FW) (spot : List D) (p : D) (lv : Int) : Nat → List D → LS → Option (List D) × LS
  | _, [], s => (none, s)
  | k, x :: r, s => match x with
    | .tup inner => match rec s inner (spotB spot p k) (lv + 1) with
      | (some f, s1) => (some f, s1)
      | (none, s1) => sidesW rec spot p lv (k + 1) r s1
    | _ => (none, s)
def pcsW (rec : FW) (ps above : List D) (lv : Int) : Nat → List D → LS → Option (List D) × LS
  | _, [], s => (none, s)
  | k, p :: r, s => match wrongB s ps k lv with
    | (true, s1) => (some (above ++ [.int (k : Nat)]), s1)
    | (false, s1) => match sidesW rec (above ++ [.int (k : Nat)]) p lv 0 (insB p) s1 with
      | (some f, s2) => (some f, s2)
      | (none, s2) => pcsW rec ps above lv (k + 1) r s2
def fw : Nat → FW
  | 0 => fun s _ _ _ => (none, s)
  | n + 1 => fun s ps above lv => pcsW (fw n) ps above lv 0 ps s
/-! Looking.first_wrong (slots: 0 self, 1 pieces, 2 above, 3 level, 4 at, 5 piece, 6 spot, 7 side, 8 inner, 9 found) -/
end DL
set_option Elab.async false
set_option linter.all false
set_option autoImplicit false
set_option maxRecDepth 100000
set_option maxHeartbeats 4000000
/-! M4: all pieces in order, the numbers that stand in pieces. -/
namespace DL
open PySem PySem.Spec L2
/-- pieces of the right form, at most n - 1 levels -/
def fm : Nat → List D → Bool
  | 0, _ => false
  | n + 1, ps => ps.all fun p => hasFormB p && (insB p).all fun x => match x with
    | .tup inner => fm n inner
    | _ => false
def rowD (spot : List D) (p : D) : D := .tup [.tup spot, p]
def sidesP (rec : List D → List D → List D) (spot : List D) (p : D) : Nat → List D → List D
  | _, [] => []
  | k, x :: r => (match x with
    | .tup inner => rec inner (spotB spot p k)
    | _ => []) ++ sidesP rec spot p (k + 1) r
def pcsP (rec : List D → List D → List D) (above : List D) : Nat → List D → List D
  | _, [] => []
  | k, p :: r => rowD (above ++ [.int (k : Nat)]) p :: (sidesP rec (above ++ [.int (k : Nat)]) p 0 (insB p) ++ pcsP rec above (k + 1) r)
def allP : Nat → List D → List D → List D
  | 0, _, _ => []
  | n + 1, ps, above => pcsP (allP n) above 0 ps
/-! all_pieces (slots: 0 pieces, 1 above, 2 found, 3 at, 4 piece, 5 spot, 6 side, 7 inner) -/
noncomputable def Pr_all_pieces (q : Ad) : Nat → FS
  | 0 => noF
  | n + 1 => fun ds mu => match ds with
    | [.tup ps, .tup above] => if fm (n + 1) ps = true ∧ above.length + 2 * n ≤ 500 ∧ (allP (n + 1) ps above).length ≤ 16777216 then some (.ok (.cel mu.length), mu ++ [.lst (allP (n + 1) ps above)]) else none
    | _ => none
theorem fm_at {n : Nat} {ps : List D} {p : D} (h : fm (n + 1) ps = true) (hp : p ∈ ps) : hasFormB p = true ∧ ∀ x ∈ insB p, ∃ inner, x = .tup inner ∧ fm n inner = true := by
  unfold fm at h
  have := List.all_eq_true.mp h p hp
  rw [Bool.and_eq_true] at this
  refine ⟨this.1, fun x hx => ?_⟩
  have q := List.all_eq_true.mp this.2 x hx
  split at q
  · exact ⟨_, rfl, q⟩
  · cases q
theorem app_ev {mu : Mu} {i : Nat} {xs : List D} {x : D} (h1 : mu[i]? = some (.lst xs)) (hl : xs.length < 16777216) : appM (.cel i) [x] mu = some (.ok .non, mu.set i (.lst (xs ++ [x]))) := by
  simp only [appM, h1, hl, if_true]
theorem at_n (mu : Mu) (c : Cell) (g : Mu) : (mu ++ c :: g)[mu.length]? = some c := by simp
theorem set_n (mu : Mu) (c c' : Cell) (g : Mu) : (mu ++ c :: g).set mu.length c' = mu ++ c' :: g := by simp
end DL
set_option Elab.async false
set_option linter.all false
set_option autoImplicit false
set_option maxRecDepth 100000
set_option maxHeartbeats 4000000
/-! M5: the numbers that stand in pieces; locks at data; what fields need. -/
namespace DL
open PySem PySem.Spec L2
noncomputable def P_all_pieces (q : Ad) : FS := Pr_all_pieces q 8
def numOf : D → Option Int
  | .tup [_, .tup (.str _ :: .int n :: _)] => some n
  | _ => none
/-- the numbers that stand in pieces -/
def nums (ps : List D) : List Int := (allP 8 ps []).filterMap numOf
theorem sidesP_row {rec : List D → List D → List D} {spot : List D} {p : D} {P : D → Prop} : ∀ (r : List D) (k : Nat), (∀ x ∈ r, ∀ inner, x = .tup inner → ∀ ab, ∀ row ∈ rec inner ab, P row) → ∀ row ∈ sidesP rec spot p k r, P row
  | [], k, _, row, h => by simp [sidesP] at h
  | x :: r, k, hr, row, h => by
    unfold sidesP at h
    rw [List.mem_append] at h
    rcases h with h | h
    · split at h
      · rename_i inner
        exact hr _ List.mem_cons_self inner rfl _ row h
      · cases h
    · exact sidesP_row r (k + 1) (fun y hy => hr y (List.mem_cons_of_mem _ hy)) row h
theorem pcsP_row {rec : List D → List D → List D} {above : List D} {P : D → Prop} : ∀ (r : List D) (k : Nat), (∀ p ∈ r, (∀ spot, P (rowD spot p)) ∧ ∀ x ∈ insB p, ∀ inner, x = .tup inner → ∀ ab, ∀ row ∈ rec inner ab, P row) → ∀ row ∈ pcsP rec above k r, P row
  | [], k, _, row, h => by simp [pcsP] at h
  | x :: r, k, hr, row, h => by
    unfold pcsP at h
    obtain ⟨h1, h2⟩ := hr x List.mem_cons_self
    rw [List.mem_cons, List.mem_append] at h
    rcases h with rfl | h | h
    · exact h1 _
    · exact sidesP_row _ 0 h2 row h
    · exact pcsP_row r (k + 1) (fun y hy => hr y (List.mem_cons_of_mem _ hy)) row h
/-- each row is a spot and a piece of the right form -/
theorem allP_row : ∀ (n : Nat) (ps ab : List D), fm n ps = true → ∀ row ∈ allP n ps ab, ∃ spot p, row = rowD spot p ∧ hasFormB p = true
  | 0, ps, ab, h, row, hr => by simp [fm] at h
  | n + 1, ps, ab, h, row, hr => by
    unfold allP at hr
    refine pcsP_row (P := fun row => ∃ spot p, row = rowD spot p ∧ hasFormB p = true) ps 0 (fun p hp => ?_) row hr
    obtain ⟨h1, h2⟩ := fm_at h hp
    refine ⟨fun spot => ⟨spot, p, rfl, h1⟩, fun x hx inner e ab2 row2 hr2 => ?_⟩
    obtain ⟨inner', e', hf⟩ := h2 x hx
    rw [e] at e'
    cases e'
    exact allP_row n inner ab2 hf row2 hr2
/-! named_in (slots: 0 pieces, 1 spot, 2 piece) -/
def pieceOf : D → D
  | .tup [_, p] => p
  | d => d
theorem ev_all_pieces {q : Ad} {ps : List D} {mu : Mu} (h1 : fm 8 ps = true) (h2 : (allP 8 ps []).length ≤ 16777216) : P_all_pieces q [.tup ps, .tup []] mu = some (.ok (.cel mu.length), mu ++ [.lst (allP 8 ps [])]) := by
  show Pr_all_pieces q (7 + 1) _ _ = _
  rw [Pr_all_pieces]
  dsimp only
  rw [if_pos ⟨h1, by simp, h2⟩]
/-! ### locks -/
/-- some dicts are locked -/
structure LV (mu mu' : Mu) : Prop where
  len : mu'.length = mu.length
  at' : ∀ i : Nat, mu'[i]? = mu[i]? ∨ ∃ kvs, mu[i]? = some (.dct kvs) ∧ mu'[i]? = some (.fdc kvs)
theorem LV.refl (mu : Mu) : LV mu mu := ⟨rfl, fun _ => .inl rfl⟩
theorem LV.set {mu mu' : Mu} {j : Nat} {kvs : List (Key × D)} (h : LV mu mu') (e : mu'[j]? = some (.dct kvs)) : LV mu (mu'.set j (.fdc kvs)) := by
  refine ⟨by simp [h.len], fun i => ?_⟩
  by_cases hi : j = i
  · subst hi
    rw [List.getElem?_set_self (List.getElem?_eq_some_iff.mp e).1]
    right
    rcases h.at' j with q | ⟨k, q1, q2⟩
    · exact ⟨kvs, by rw [← q]; exact e, rfl⟩
    · rw [e] at q2; cases q2
  · rw [List.getElem?_set_ne hi]; exact h.at' i
def noDct (mu : Mu) (j : Nat) : Prop := ∀ kvs, mu[j]? ≠ some (.dct kvs)
/-- a dict that is told locked is -/
theorem LV.fdc {mu mu' : Mu} {j : Nat} {kvs : List (Key × D)} (h : LV mu mu') (e : mu[j]? = some (.dct kvs) ∨ mu[j]? = some (.fdc kvs)) (n : noDct mu' j) : mu'[j]? = some (.fdc kvs) := by
  rcases h.at' j with q | ⟨k, q1, q2⟩
  · rcases e with e | e
    · rw [e] at q; exact absurd q (n kvs)
    · rw [q]; exact e
  · rcases e with e | e
    · rw [e] at q1; cases q1; exact q2
    · rw [e] at q1; cases q1
theorem LV.dctR {mu mu' : Mu} (h : LV mu mu') (d : D) : DL.dctR d mu' = DL.dctR d mu := by
  cases d <;> first | rfl | skip
  rename_i j
  unfold DL.dctR
  dsimp only
  rcases h.at' j with q | ⟨k, q1, q2⟩
  · rw [q]
  · rw [q1, q2]
end DL
set_option Elab.async false
set_option linter.all false
set_option autoImplicit false
set_option maxRecDepth 100000
set_option maxHeartbeats 4000000
/-! M6: what fields need. -/
namespace DL
open PySem PySem.Spec L2
/-! ### sets of ints as dicts -/
def insK (l : List Int) (b : Int) : List Int := if b ∈ l then l else l ++ [b]
def addAll (l bs : List Int) : List Int := bs.foldl insK l
def mkD (l : List Int) : List (Key × D) := l.map fun b => (Sum.inl b, D.bl true)
theorem mem_insK {l : List Int} {b x : Int} : x ∈ insK l b ↔ x ∈ l ∨ x = b := by
  unfold insK; split
  · rename_i h
    exact ⟨.inl, fun z => z.elim id fun e => e ▸ h⟩
  · simp
theorem nd_insK {l : List Int} {b : Int} (h : l.Nodup) : (insK l b).Nodup := by
  unfold insK; split
  · exact h
  · rename_i hb
    rw [List.nodup_append]
    refine ⟨h, by simp, fun x hx y hy e => ?_⟩
    rw [List.mem_singleton.mp hy] at e
    exact hb (e ▸ hx)
theorem mem_addAll {x : Int} : ∀ {bs l : List Int}, x ∈ addAll l bs ↔ x ∈ l ∨ x ∈ bs
  | [], l => by simp [addAll]
  | b :: bs, l => by
    show x ∈ addAll (insK l b) bs ↔ _
    rw [mem_addAll, mem_insK]
    simp [or_assoc]
theorem nd_addAll : ∀ {bs l : List Int}, l.Nodup → (addAll l bs).Nodup
  | [], l, h => h
  | b :: bs, l, h => nd_addAll (bs := bs) (nd_insK h)
/-- the entry of a key in a table of fields -/
def tabD (as : List Int) (ix : Int → Nat) : List (Key × D) := as.map fun a => (Sum.inl a, .cel (ix a))
/-! ### the closure, plainly -/
abbrev Nd := Int → List Int
def stepN (S : Nd) (a : Int) : Nd := fun b => if b = a then addAll (addAll [] (S a)) (addAll [] ((S a).flatMap S)) else S b
def roundN (as : List Int) (S : Nd) : Nd := as.foldl stepN S
def needN (as : List Int) (S : Nd) : Nd := as.foldl (fun S _ => roundN as S) S
/-- sets within as, each once -/
structure NdOk (as : List Int) (S : Nd) : Prop where
  sub : ∀ a ∈ as, ∀ b ∈ S a, b ∈ as
  nd : ∀ a ∈ as, (S a).Nodup
theorem NdOk.step {as : List Int} {S : Nd} (h : NdOk as S) {a : Int} (ha : a ∈ as) : NdOk as (stepN S a) := by
  constructor
  · intro b hb x hx
    unfold stepN at hx
    split at hx
    · rw [mem_addAll, mem_addAll, mem_addAll] at hx
      rcases hx with (hx | hx) | (hx | hx)
      · cases hx
      · exact h.sub a ha x hx
      · cases hx
      · obtain ⟨m, h1, h2⟩ := List.mem_flatMap.mp hx
        exact h.sub m (h.sub a ha m h1) x h2
    · exact h.sub b hb x hx
  · intro b hb
    unfold stepN
    split
    · exact nd_addAll (nd_addAll List.nodup_nil)
    · exact h.nd b hb
theorem NdOk.len {as : List Int} {S : Nd} (h : NdOk as S) {a : Int} (ha : a ∈ as) : (S a).length ≤ as.length := (h.nd a ha).length_le_of_subset fun b hb => h.sub a ha b hb
theorem NdOk.far {as : List Int} {S : Nd} (h : NdOk as S) {a : Int} (ha : a ∈ as) : ((S a).flatMap S).length ≤ as.length * as.length := by
  have gen : ∀ l : List Int, (∀ x ∈ l, x ∈ as) → (l.flatMap S).length ≤ l.length * as.length := fun l => by
    induction l with
    | nil => simp
    | cons x l ih =>
      intro hl
      rw [List.flatMap_cons, List.length_append, List.length_cons, Nat.succ_mul]
      have := ih fun y hy => hl y (List.mem_cons_of_mem _ hy)
      have := h.len (hl x List.mem_cons_self)
      omega
  exact Nat.le_trans (gen _ (h.sub a ha)) (Nat.mul_le_mul_right _ (h.len ha))
/-! ### the store while it runs -/
structure NSt (m0 : Mu) (as : List Int) (S : Nd) (mu : Mu) : Prop where
  ex : ∃ ix g, mu = m0 ++ (.dct (tabD as ix) :: g) ∧ ∀ a ∈ as, m0.length < ix a ∧ mu[ix a]? = some (.dct (mkD (S a)))
section
variable {q : Ad} {m0 mu : Mu} {as : List Int} {S : Nd} {a : Int} {j : Nat} {b2 b4 b5 b6 b7 : Option D}
theorem NSt.tab (h : NSt m0 as S mu) : ∃ ix, mu[m0.length]? = some (.dct (tabD as ix)) ∧ ∀ a ∈ as, m0.length < ix a ∧ mu[ix a]? = some (.dct (mkD (S a))) := by
  obtain ⟨ix, g, rfl, h⟩ := h.ex
  exact ⟨ix, by simp, h⟩
end
end DL
set_option Elab.async false
set_option linter.all false
set_option autoImplicit false
set_option maxRecDepth 100000
set_option maxHeartbeats 4000000
/-! M7: needed. -/
namespace DL
open PySem PySem.Spec L2
/-! needed (slots: 0 fields, 1 found, 2 turn, 3 number, 4 far, 5 name, 6 pieces, 7 middle) -/
/-- fields: numbers and their pieces -/
abbrev Fl2 := List (Int × List D)
structure FlOk (fl : Fl2) : Prop where
  fm : ∀ x ∈ fl, fm 8 x.2 = true ∧ (allP 8 x.2 []).length ≤ 16777216
  nd : (fl.map (·.1)).Nodup
  few : fl.length ≤ 1000
def S0 (fl : Fl2) : Nd := fun a => match fl.find? fun x => decide (x.1 = a) with
  | some x => addAll [] (nums x.2)
  | none => []
theorem S0_at {fl : Fl2} (nd : (fl.map (·.1)).Nodup) {x : Int × List D} (h : x ∈ fl) : S0 fl x.1 = addAll [] (nums x.2) := by
  unfold S0
  induction fl with
  | nil => cases h
  | cons y fl ih =>
    rw [List.map_cons, List.nodup_cons] at nd
    rw [List.find?_cons]
    by_cases e : y.1 = x.1
    · rw [decide_eq_true e]
      have : y = x := by
        rcases List.mem_cons.mp h with z | z
        · exact z.symm
        · exact absurd (e ▸ List.mem_map.mpr ⟨x, z, rfl⟩) nd.1
      rw [this]
    · rw [decide_eq_false e]
      refine ih nd.2 ((List.mem_cons.mp h).resolve_left fun z => e (by rw [z]))
theorem sFor_ok {f : IS} {t : Tg} {b : SS} {rho : Rho} {mu mu1 : Mu} {xs : List D} {g : Option (Nat × List D)} (h : f rho mu = some (.ok xs g, mu1)) : sFor f t b rho mu = forL g t b xs rho mu1 := by unfold sFor; rw [h]
end DL
set_option Elab.async false
set_option linter.all false
set_option autoImplicit false
set_option maxRecDepth 100000
set_option maxHeartbeats 4000000
/-! M8: what the look finds where nothing is wrong. -/
namespace DL
open PySem PySem.Spec L2
def fldOf : D → Option (Int × List D)
  | .tup [_, .tup [.str w, .int n, .tup ps]] => if w = "field" then some (n, ps) else none
  | _ => none
def flOf (rows : List D) : Fl2 := rows.filterMap fldOf
theorem flOf_app (a b : List D) : flOf (a ++ b) = flOf a ++ flOf b := List.filterMap_append ..
/-- what a look without a wrong piece has seen -/
structure Seen (s s' : LS) (rows : List D) : Prop where
  many : s'.many = s.many + rows.length
  fields : s'.fields = s.fields ++ (flOf rows).map (·.1)
  nd : s.fields.Nodup → s'.fields.Nodup
  few : rows ≠ [] → s'.many ≤ 30
theorem Seen.nil (s : LS) : Seen s s [] := ⟨by simp, by simp [flOf], id, fun h => absurd rfl h⟩
theorem Seen.app {s s1 s2 : LS} {a b : List D} (h : Seen s s1 a) (h' : Seen s1 s2 b) : Seen s s2 (a ++ b) := by
  refine ⟨by rw [h'.many, h.many]; simp; omega, by rw [h'.fields, h.fields, flOf_app]; simp, fun z => h'.nd (h.nd z), fun z => ?_⟩
  by_cases hb : b = []
  · subst hb
    have e := h'.many
    simp at e
    rw [e]
    exact h.few (by simpa using z)
  · exact h'.few hb
theorem form_field {p : D} (h : hasFormB p = true) (spot : List D) : (∃ z, p = .str z ∧ fldOf (rowD spot p) = none) ∨ (∃ n ps, p = .tup [.str "field", .int n, .tup ps] ∧ fldOf (rowD spot p) = some (n, ps)) ∨ ∃ w n a r, p = .tup (.str w :: .int n :: a :: r) ∧ w ≠ "field" ∧ fldOf (rowD spot p) = none := by
  rcases form_cases h with ⟨z, rfl⟩ | ⟨w, n, a, r, rfl, _, _⟩
  · exact .inl ⟨z, rfl, rfl⟩
  · by_cases hw : w = "field"
    · subst hw
      have hr : r = [] := by
        cases r with
        | nil => rfl
        | cons b r =>
          cases r with
          | nil =>
            simp (decide := true) [hasFormB] at h
          | cons c r => simp [hasFormB] at h
      subst hr
      have hfa : fewB a = true := by
        simp (decide := true) [hasFormB] at h
        exact h.2
      obtain ⟨ps, rfl⟩ : ∃ ps, a = .tup ps := by
        unfold fewB at hfa
        split at hfa
        · exact ⟨_, rfl⟩
        · cases hfa
      exact .inr (.inl ⟨n, ps, rfl, by simp [fldOf, rowD]⟩)
    · refine .inr (.inr ⟨w, n, a, r, rfl, hw, ?_⟩)
      unfold fldOf rowD
      split
      · rename_i e
        simp at e
        rw [if_neg (by rw [← e.2.1]; exact hw)]
      · rfl
theorem fm_mk {n : Nat} {ps : List D} (h : ∀ p ∈ ps, hasFormB p = true ∧ ∀ x ∈ insB p, ∃ inner, x = .tup inner ∧ fm n inner = true) : fm (n + 1) ps = true := by
  unfold fm
  refine List.all_eq_true.mpr fun p hp => ?_
  obtain ⟨h1, h2⟩ := h p hp
  rw [h1, Bool.true_and]
  refine List.all_eq_true.mpr fun x hx => ?_
  obtain ⟨inner, rfl, h3⟩ := h2 x hx
  exact h3
theorem fm_mono : ∀ (n : Nat) (ps : List D), fm n ps = true → fm (n + 1) ps = true
  | 0, ps, h => by simp [fm] at h
  | n + 1, ps, h => fm_mk fun p hp => by
    obtain ⟨h1, h2⟩ := fm_at h hp
    refine ⟨h1, fun x hx => ?_⟩
    obtain ⟨inner, e, h3⟩ := h2 x hx
    exact ⟨inner, e, fm_mono n inner h3⟩
theorem sidesP_congr {r1 r2 : List D → List D → List D} {spot : List D} {p : D} : ∀ (r : List D) (k : Nat), (∀ inner ab, D.tup inner ∈ r → r1 inner ab = r2 inner ab) → sidesP r1 spot p k r = sidesP r2 spot p k r
  | [], k, _ => rfl
  | x :: r, k, h => by
    unfold sidesP
    rw [sidesP_congr r (k + 1) fun i a hm => h i a (List.mem_cons_of_mem _ hm)]
    congr 1
    split
    · rename_i inner
      exact h inner _ List.mem_cons_self
    · rfl
theorem pcsP_congr {r1 r2 : List D → List D → List D} {above : List D} : ∀ (r : List D) (k : Nat), (∀ p ∈ r, ∀ inner ab, D.tup inner ∈ insB p → r1 inner ab = r2 inner ab) → pcsP r1 above k r = pcsP r2 above k r
  | [], k, _ => rfl
  | x :: r, k, h => by
    unfold pcsP
    rw [pcsP_congr r (k + 1) fun p hp => h p (List.mem_cons_of_mem _ hp), sidesP_congr (insB x) 0 (h x List.mem_cons_self)]
/-- more fuel tells the same rows -/
theorem allP_mono : ∀ (n : Nat) (ps ab : List D), fm n ps = true → allP (n + 1) ps ab = allP n ps ab
  | 0, ps, ab, h => by simp [fm] at h
  | n + 1, ps, ab, h => by
    show pcsP (allP (n + 1)) ab 0 ps = pcsP (allP n) ab 0 ps
    refine pcsP_congr ps 0 fun p hp inner ab2 hm => ?_
    obtain ⟨inner', e, h3⟩ := (fm_at h hp).2 _ hm
    cases e
    exact allP_mono n inner ab2 h3
end DL
set_option Elab.async false
set_option linter.all false
set_option autoImplicit false
set_option maxRecDepth 100000
set_option maxHeartbeats 4000000
/-! M9: pieces without their spots; need_snippet. -/
namespace DL
open PySem PySem.Spec L2
def inner? : D → List D
  | .tup inner => inner
  | _ => []
def flat : Nat → List D → List D
  | 0, _ => []
  | n + 1, ps => ps.flatMap fun p => p :: (insB p).flatMap fun x => flat n (inner? x)
theorem sidesP_flat {rec : List D → List D → List D} {fl : List D → List D} {spot : List D} {p : D} : ∀ (r : List D) (k : Nat), (∀ inner ab, (rec inner ab).map pieceOf = fl inner) → fl [] = [] → (sidesP rec spot p k r).map pieceOf = r.flatMap fun x => fl (inner? x)
  | [], k, _, _ => rfl
  | x :: r, k, h, h0 => by
    unfold sidesP
    rw [List.map_append, sidesP_flat r (k + 1) h h0, List.flatMap_cons]
    congr 1
    cases x <;> first | exact h0.symm | skip
    exact h _ _
theorem flat_nil : ∀ n, flat n [] = []
  | 0 => rfl
  | n + 1 => rfl
theorem pcsP_flat {rec : List D → List D → List D} {fl : List D → List D} {above : List D} (h : ∀ inner ab, (rec inner ab).map pieceOf = fl inner) (h0 : fl [] = []) : ∀ (r : List D) (k : Nat), (pcsP rec above k r).map pieceOf = r.flatMap fun p => p :: (insB p).flatMap fun x => fl (inner? x)
  | [], k => rfl
  | x :: r, k => by
    unfold pcsP
    rw [List.map_cons, List.map_append, sidesP_flat _ 0 h h0, pcsP_flat h h0 r (k + 1), List.flatMap_cons]
    rfl
theorem allP_flat : ∀ (n : Nat) (ps ab : List D), (allP n ps ab).map pieceOf = flat n ps
  | 0, _, _ => rfl
  | n + 1, ps, ab => pcsP_flat (allP_flat n) (flat_nil n) ps 0
theorem flat_mono : ∀ (n : Nat) (ps : List D), fm n ps = true → flat (n + 1) ps = flat n ps := fun n ps h => by
  rw [← allP_flat (n + 1) ps [], ← allP_flat n ps [], allP_mono n ps [] h]
theorem flat_ge {n m : Nat} (h : n ≤ m) {ps : List D} (hf : fm n ps = true) : flat m ps = flat n ps ∧ fm m ps = true := by
  induction h with
  | refl => exact ⟨rfl, hf⟩
  | step _ ih => exact ⟨(flat_mono _ _ ih.2).trans ih.1, fm_mono _ _ ih.2⟩
def nOf : D → Option Int
  | .tup (.str _ :: .int n :: _) => some n
  | _ => none
/-! ### a loop that looks for something and raises -/
def spotOf : D → List D
  | .tup [.tup s, _] => s
  | _ => []
def lostB (as : List Int) (row : D) : Bool := match numOf row with
  | some n => decide (n ∉ as)
  | none => false
def ringB (N : Nd) (row : D) : Bool := match fldOf row with
  | some (n, _) => decide (n ∈ N n)
  | none => false
/-- where a thing is no snippet -/
def dueOf (d : D) : Option (List D) := match d with
  | .tup ps => if ps.length ≤ 8 then match (fw 7 ⟨0, []⟩ ps [] 1).1 with
      | some s => some s
      | none => match (allP 8 ps []).find? (lostB ((flOf (allP 8 ps [])).map (·.1))) with
        | some r => some (spotOf r)
        | none => match (allP 8 ps []).find? (ringB (needN ((flOf (allP 8 ps [])).map (·.1)) (S0 (flOf (allP 8 ps []))))) with
          | some r => some (spotOf r)
          | none => none
    else some []
  | _ => some []
/-! need_snippet (slots: 0 thing, 1 wrong, 2 rows, 3 fields, 4 needs_by, 5 spot, 6 piece) -/
def P_need_snippet (q : Ad) : FS := fun ds mu => match ds with
  | [d] => if wk mu d = true then match dueOf d with
      | none => some (.ok d, mu)
      | some s => some (.ex q.cBadSnippet [("place", .tup s)], mu)
    else none
  | _ => none
end DL
set_option Elab.async false
set_option linter.all false
set_option autoImplicit false
set_option maxRecDepth 100000
set_option maxHeartbeats 4000000
/-! M10: need_snippet, is_snippet. -/
namespace DL
open PySem PySem.Spec L2
theorem ty_app {mu g : Mu} {d : D} {t : String} (h : tyN d mu = some t) : tyN d (mu ++ g) = some t := by
  cases d <;> first | exact h | skip
  rename_i j
  unfold tyN at h ⊢
  dsimp only at h ⊢
  cases e : mu[j]? with
  | none => rw [e] at h; cases h
  | some c =>
    rw [List.getElem?_append_left (List.getElem?_eq_some_iff.mp e).1, e]
    rw [e] at h
    exact h
theorem tys_app {mu g : Mu} {d : D} (h : (tyN d mu).isSome = true) : (tyN d (mu ++ g)).isSome = true := by
  obtain ⟨t, e⟩ := Option.isSome_iff_exists.mp h
  rw [ty_app e]; rfl
mutual
theorem wk_app {mu g : Mu} : ∀ (d : D), wk mu d = true → wk (mu ++ g) d = true
  | .tup xs, h => by rw [wk_tup] at h ⊢; exact wkL_app xs h
  | .str z, h => by rw [wk_str] at h ⊢; exact h
  | .cel j, h => by unfold wk at h ⊢; exact tys_app h
  | .non, h => by unfold wk; rfl
  | .bl _, h => by unfold wk; rfl
  | .int _, h => by unfold wk; rfl
  | .ty _, h => by unfold wk at h; exact h
  | .adr _, h => by unfold wk at h; exact h
  | .fl _, h => by unfold wk at h; exact h
theorem wkL_app {mu g : Mu} : ∀ (xs : List D), wkL mu xs = true → wkL (mu ++ g) xs = true
  | [], h => by simp
  | x :: xs, h => by
    rw [wkL_cons, Bool.and_eq_true] at h ⊢
    exact ⟨wk_app x h.1, wkL_app xs h.2⟩
end
end DL
set_option Elab.async false
set_option linter.all false
set_option autoImplicit false
set_option maxRecDepth 100000
set_option maxHeartbeats 4000000
/-! DL19: the drawing of numbers. -/
namespace DL
open PySem PySem.Spec L2
/-- cells outside S stay -/
def Fz (S : List Nat) (mu mu' : Mu) : Prop := mu.length ≤ mu'.length ∧ ∀ (i : Nat) (c : Cell), i ∉ S → mu[i]? = some c → mu'[i]? = some c
theorem Fz.refl (S : List Nat) (mu : Mu) : Fz S mu mu := ⟨Nat.le_refl _, fun _ _ _ h => h⟩
theorem Fz.trans {S : List Nat} {a b c : Mu} (h : Fz S a b) (g : Fz S b c) : Fz S a c := ⟨Nat.le_trans h.1 g.1, fun i x n e => g.2 i x n (h.2 i x n e)⟩
theorem Fz.app (S : List Nat) (mu : Mu) (l : List Cell) : Fz S mu (mu ++ l) := ⟨by simp, fun i c _ e => by rw [List.getElem?_append_left (List.getElem?_eq_some_iff.mp e).1]; exact e⟩
theorem Fz.set {S : List Nat} {j : Nat} (hj : j ∈ S) (mu : Mu) (c : Cell) : Fz S mu (mu.set j c) := ⟨by simp, fun i x n e => by rw [List.getElem?_set_ne (fun z => n (by rw [← z]; exact hj))]; exact e⟩
theorem Fz.mono {S S' : List Nat} {a b : Mu} (h : Fz S a b) (hs : ∀ i ∈ S, i ∈ S') : Fz S' a b := ⟨h.1, fun i c n e => h.2 i c (fun z => n (hs i z)) e⟩
/-- the numbers that are left, the seed, the count -/
structure Dr (j jr : Nat) (mu : Mu) : Prop where
  ne : j ≠ jr
  dct : ∃ s c : Int, mu[j]? = some (.dct [(.inr "rest", .cel jr), (.inr "seed", .int s), (.inr "count", .int c)])
  lst : ∃ ns : List Int, mu[jr]? = some (.lst (ns.map D.int))
theorem Dr.fz {j jr : Nat} {mu mu' : Mu} {S : List Nat} (h : Dr j jr mu) (f : Fz S mu mu') (h1 : j ∉ S) (h2 : jr ∉ S) : Dr j jr mu' := by
  obtain ⟨s, c, e⟩ := h.dct
  obtain ⟨ns, e2⟩ := h.lst
  exact ⟨h.ne, ⟨s, c, f.2 _ _ h1 e⟩, ⟨ns, f.2 _ _ h2 e2⟩⟩
noncomputable def mPick : SS := sSeq (sSet 2 (eOp getD (eVar 0) (eC (.str "rest")))) (sSeq (sWhl (eAnd (eOp neD (eVar 2) (eCall lstF [])) (eOp eqD (eOp ixD (eVar 2) (eC (.int 0))) (eC (.int 0)))) (sExpr (eMth isLB popAtM (eVar 2) [eC (.int 0)]))) (sSeq (sIf (eOp neD (eVar 2) (eCall lstF [])) (sSeq (sSet 4 (eOp modD (eCall intF [eOp ixD (eVar 2) (eC (.int 0))]) (eVar 1))) (sSeq (sPut setF (eVar 2) (eC (.int 0)) (eOp fdivD (eOp ixD (eVar 2) (eC (.int 0))) (eVar 1))) (sRet (eVar 4)))) (sNil)) (sSeq (sPut putF (eVar 0) (eC (.str "count")) (eOp addD (eOp getD (eVar 0) (eC (.str "count"))) (eC (.int 1)))) (sSeq (sSet 3 (eOp addD (eOp mulD (eOp getD (eVar 0) (eC (.str "seed"))) (eC (.int 3935559000370003845))) (eC (.int 77317)))) (sSeq (sSet 3 (eOp addD (eVar 3) (eOp mulD (eC (.int 2691343689449507681)) (eOp getD (eVar 0) (eC (.str "count")))))) (sSeq (sPut putF (eVar 0) (eC (.str "seed")) (eOp modD (eCall intF [eVar 3]) (eC (.int 2305843009213693951)))) (sRet (eOp modD (eCall intF [eOp fdivD (eOp getD (eVar 0) (eC (.str "seed"))) (eC (.int 8388593))]) (eVar 1)))))))))
theorem dPs_ints (rc : Nat → Option PyData) : ∀ ns : List Int, dPs rc (ns.map D.int) = some (ns.map PyData.int)
  | [] => by simp [dPs]
  | n :: ns => by
    simp only [List.map_cons, dPs, dP]
    rw [dPs_ints rc ns]
theorem canAll_ints : ∀ ns : List Int, PyData.canLayAll0 (ns.map PyData.int) = true
  | [] => by simp [PyData.canLayAll0]
  | n :: ns => by
    simp only [List.map_cons, PyData.canLayAll0, PyData.canLay0]
    rw [canAll_ints ns]; rfl
theorem depthAll_ints : ∀ ns : List Int, PyData.depthAll (ns.map PyData.int) = 0
  | [] => by simp [PyData.depthAll]
  | n :: ns => by
    simp only [List.map_cons, PyData.depthAll, PyData.depth]
    rw [depthAll_ints ns]; rfl
theorem shaped_ints (ns : List Int) : SeqAt.shaped (.list (ns.map PyData.int)) = true := by
  unfold SeqAt.shaped
  simp only [PyData.canLay0, PyData.depth, canAll_ints, depthAll_ints]
  decide
theorem toP_ints {mu : Mu} {j : Nat} {ns : List Int} (h : mu[j]? = some (.lst (ns.map D.int))) : toP mu (.cel j) = some (.list (ns.map PyData.int)) := by
  unfold toP
  simp only [dP]
  unfold cP
  rw [h]
  dsimp only
  rw [dPs_ints]
  rfl
theorem ne_nil {mu : Mu} {j n : Nat} {ns : List Int} (h : mu[j]? = some (.lst (ns.map D.int))) (h2 : mu[n]? = some (.lst [])) : neD (.cel j) (.cel n) mu = some (.ok (.bl (!ns.isEmpty)), mu) := by
  have e2 : toP mu (.cel n) = some (.list []) := toP_ints (ns := []) h2
  have e : eqB (.cel j) (.cel n) mu = some ns.isEmpty := by
    unfold eqB
    simp only [scV]
    unfold eqP
    rw [toP_ints h, e2]
    dsimp only
    rw [if_pos ⟨shaped_ints ns, shaped_ints []⟩]
    cases ns with
    | nil => simp [PyData.eqv, PyData.eqvAll]
    | cons x r => simp [PyData.eqv, PyData.eqvAll]
  unfold neD; simp only [e, okD]
theorem eq_int (i k : Int) (mu : Mu) : eqD (.int i) (.int k) mu = some (.ok (.bl (decide (i = k))), mu) := by
  have e : eqB (.int i) (.int k) mu = some (decide (i = k)) := by
    unfold eqB
    simp only [scV]
    rw [if_pos (by rfl)]
    simp
  unfold eqD; simp only [e, okD]
theorem lst0_ev {rho : Rho} {mu : Mu} : eCall lstF [] rho mu = some (.ok (.cel mu.length), mu ++ [.lst []]) := rfl
theorem ix0 {mu : Mu} {j : Nat} {x : D} {xs : List D} (h : mu[j]? = some (.lst (x :: xs))) : ixD (.cel j) (.int 0) mu = some (.ok x, mu) := by
  unfold ixD
  simp only [seqD, lstD]
  rw [h]
  simp [atI, ixN, okD]
theorem app_at {mu : Mu} {l : List Cell} {j : Nat} {c : Cell} (h : mu[j]? = some c) : (mu ++ l)[j]? = some c := (Fz.app [] mu l).2 j c (by simp) h
theorem app_new {mu : Mu} {c : Cell} : (mu ++ [c])[mu.length]? = some c := by simp
section
variable {j jr : Nat} {mu : Mu} {many : Int}
abbrev cWhl : ES := eAnd (eOp neD (eVar 2) (eCall lstF [])) (eOp eqD (eOp ixD (eVar 2) (eC (.int 0))) (eC (.int 0)))
abbrev bWhl : SS := sExpr (eMth isLB popAtM (eVar 2) [eC (.int 0)])
abbrev r2 (j jr : Nat) (many : Int) : Rho := [some (.cel j), some (.int many), some (.cel jr), none, none]
theorem whl_ok : ∀ (ns : List Int) (mu : Mu), mu[jr]? = some (.lst (ns.map D.int)) → ∃ mu' ns', sWhl cWhl bWhl (r2 j jr many) mu = some (.nx, r2 j jr many, mu') ∧ mu'[jr]? = some (.lst (List.map D.int ns')) ∧ Fz [jr] mu mu'
  | [], mu, h => by
    refine ⟨mu ++ [.lst []], [], whl_f ?_, app_at h, Fz.app _ _ _⟩
    exact and_f ((op_ev rfl lst0_ev).trans (ne_nil (ns := []) (app_at h) app_new))
  | n :: ns, mu, h => by
    have h1 : (mu ++ [Cell.lst []])[jr]? = some (.lst ((n :: ns).map D.int)) := app_at h
    have c1 : eOp neD (eVar 2) (eCall lstF []) (r2 j jr many) mu = some (.ok (.bl true), mu ++ [.lst []]) := (op_ev rfl lst0_ev).trans (ne_nil (ns := n :: ns) h1 app_new)
    have c2 : eOp eqD (eOp ixD (eVar 2) (eC (.int 0))) (eC (.int 0)) (r2 j jr many) (mu ++ [.lst []]) = some (.ok (.bl (decide (n = 0))), mu ++ [.lst []]) := (op_ev ((op_ev rfl rfl).trans (ix0 h1)) rfl).trans (eq_int n 0 _)
    have c3 := (and_t (e2 := eOp eqD (eOp ixD (eVar 2) (eC (.int 0))) (eC (.int 0))) c1).trans c2
    by_cases hn : n = 0
    · have hb : bWhl (r2 j jr many) (mu ++ [.lst []]) = some (.nx, r2 j jr many, (mu ++ [Cell.lst []]).set jr (.lst (ns.map D.int))) := by
        refine expr_ev (d := .int n) ?_
        have e1 : isLB (.cel jr) (mu ++ [.lst []]) = true := by unfold isLB; simp only [lstD]; rw [h1]; rfl
        unfold eMth
        show (if isLB (.cel jr) (mu ++ [.lst []]) = true then popAtM (.cel jr) [.int 0] (mu ++ [.lst []]) else none) = _
        rw [if_pos e1]
        simp only [popAtM, h1]
        simp [ixN]
      have h2 : ((mu ++ [Cell.lst []]).set jr (.lst (ns.map D.int)))[jr]? = some (.lst (ns.map D.int)) := List.getElem?_set_self (List.getElem?_eq_some_iff.mp h1).1
      obtain ⟨mu', ns', e1, e2, e3⟩ := whl_ok ns _ h2
      exact ⟨mu', ns', whl_t (c3.trans (by rw [decide_eq_true hn])) hb e1, e2, ((Fz.app _ _ _).trans (Fz.set (by simp) _ _)).trans e3⟩
    · exact ⟨mu ++ [.lst []], n :: ns, whl_f (c3.trans (by rw [decide_eq_false hn])), h1, Fz.app _ _ _⟩
theorem val_rest {jr : Nat} {s c : Int} : valD [(.inr "rest", .cel jr), (.inr "seed", .int s), (.inr "count", .int c)] (.inr "rest") = some (.cel jr) := by
  unfold valD; simp
theorem val_seed {jr : Nat} {s c : Int} : valD [(.inr "rest", .cel jr), (.inr "seed", .int s), (.inr "count", .int c)] (.inr "seed") = some (.int s) := by
  have h1 : ((.inr "rest" : Key) = .inr "seed") = False := eq_false (by decide)
  unfold valD
  simp [h1]
theorem val_count {jr : Nat} {s c : Int} : valD [(.inr "rest", .cel jr), (.inr "seed", .int s), (.inr "count", .int c)] (.inr "count") = some (.int c) := by
  have h1 : ((.inr "rest" : Key) = .inr "count") = False := eq_false (by decide)
  have h2 : ((.inr "seed" : Key) = .inr "count") = False := eq_false (by decide)
  unfold valD
  simp [h1, h2]
theorem put_count {jr : Nat} {s c d : Int} : putD [(.inr "rest", .cel jr), (.inr "seed", .int s), (.inr "count", .int c)] (.inr "count") (.int d) = [(.inr "rest", .cel jr), (.inr "seed", .int s), (.inr "count", .int d)] := by
  unfold putD
  have h1 : ((.inr "rest" : Key) = .inr "count") = False := eq_false (by decide)
  have h2 : ((.inr "seed" : Key) = .inr "count") = False := eq_false (by decide)
  simp [h1, h2]
theorem put_seed {jr : Nat} {s c d : Int} : putD [(.inr "rest", .cel jr), (.inr "seed", .int s), (.inr "count", .int c)] (.inr "seed") (.int d) = [(.inr "rest", .cel jr), (.inr "seed", .int d), (.inr "count", .int c)] := by
  unfold putD
  have h1 : ((.inr "rest" : Key) = .inr "seed") = False := eq_false (by decide)
  have h2 : ((.inr "count" : Key) = .inr "seed") = False := eq_false (by decide)
  simp [h1, h2]
theorem get_ev {e : ES} {rho : Rho} {mu : Mu} {j : Nat} {kvs : List (Key × D)} {k : Str} {x : D} (h1 : e rho mu = some (.ok (.cel j), mu)) (h2 : mu[j]? = some (.dct kvs)) (h3 : valD kvs (.inr k) = some x) : eOp getD e (eC (.str k)) rho mu = some (.ok x, mu) := by
  refine (op_ev h1 rfl).trans ?_
  simp only [getD, dctR, keyD, h2, h3, okD]
theorem put_evD {e : ES} {v : ES} {rho : Rho} {mu : Mu} {j : Nat} {kvs : List (Key × D)} {k : Str} {x : D} (h0 : v rho mu = some (.ok x, mu)) (h1 : e rho mu = some (.ok (.cel j), mu)) (h2 : mu[j]? = some (.dct kvs)) (hz : kvs.length < 16777216) : sPut putF e (eC (.str k)) v rho mu = some (.nx, rho, mu.set j (.dct (putD kvs (.inr k) x))) := by
  refine put_ev h0 h1 rfl ?_
  simp only [putF, dctD, keyD, h2, if_pos hz]
theorem pick_ok (h : Dr j jr mu) (hm : 0 < many) (hm2 : many < 1073741824) : ∃ (r : Int) (mu' : Mu), fnS 5 mPick [.cel j, .int many] mu = some (.ok (.int r), mu') ∧ 0 ≤ r ∧ r < many ∧ Dr j jr mu' ∧ Fz [j, jr] mu mu' := by
  obtain ⟨hne, ⟨s, c, ed⟩, ns, el⟩ := h
  rw [fnS_fin]
  show ∃ r mu', fin (mPick [some (.cel j), some (.int many), none, none, none] mu) = _ ∧ _
  unfold mPick
  rw [seq_nx (rho1 := r2 j jr many) (mu1 := mu) (set_ev (get_ev rfl ed val_rest))]
  obtain ⟨mu1, ns1, e1, el1, f1⟩ := whl_ok (j := j) (jr := jr) (many := many) ns mu el
  rw [seq_nx e1]
  have ed1 := f1.2 j _ (by simpa using hne) ed
  have c1 : eOp neD (eVar 2) (eCall lstF []) (r2 j jr many) mu1 = some (.ok (.bl (!ns1.isEmpty)), mu1 ++ [.lst []]) := (op_ev rfl lst0_ev).trans (ne_nil (app_at el1) app_new)
  have el2 : (mu1 ++ [Cell.lst []])[jr]? = some (.lst (ns1.map D.int)) := app_at el1
  have ed2 : (mu1 ++ [Cell.lst []])[j]? = _ := app_at ed1
  have f2 : Fz [j, jr] mu (mu1 ++ [.lst []]) := (f1.mono (by simp)).trans (Fz.app _ _ _)
  cases ns1 with
  | cons n ns1 =>
    have ixe : eOp ixD (eVar 2) (eC (.int 0)) (r2 j jr many) (mu1 ++ [.lst []]) = some (.ok (.int n), mu1 ++ [.lst []]) := (op_ev rfl rfl).trans (ix0 el2)
    have ixe2 : eOp ixD (eVar 2) (eC (.int 0)) [some (.cel j), some (.int many), some (.cel jr), none, some (.int (n % many))] (mu1 ++ [.lst []]) = some (.ok (.int n), mu1 ++ [.lst []]) := (op_ev rfl rfl).trans (ix0 el2)
    have s1 : sSet 4 (eOp modD (eCall intF [eOp ixD (eVar 2) (eC (.int 0))]) (eVar 1)) (r2 j jr many) (mu1 ++ [.lst []]) = some (.nx, [some (.cel j), some (.int many), some (.cel jr), none, some (.int (n % many))], mu1 ++ [.lst []]) := by
      refine set_ev (d := .int (n % many)) ((op_ev (x := .int n) (mu1 := mu1 ++ [.lst []]) ?_ rfl).trans ?_)
      · exact (call_1 ixe).trans rfl
      · simp only [modD, if_pos hm, okD]
    have s2 : sPut setF (eVar 2) (eC (.int 0)) (eOp fdivD (eOp ixD (eVar 2) (eC (.int 0))) (eVar 1)) [some (.cel j), some (.int many), some (.cel jr), none, some (.int (n % many))] (mu1 ++ [.lst []]) =
        some (.nx, [some (.cel j), some (.int many), some (.cel jr), none, some (.int (n % many))], (mu1 ++ [Cell.lst []]).set jr (.lst (((n / many) :: ns1).map D.int))) := by
      refine put_ev (x := .int (n / many)) (mu1 := mu1 ++ [.lst []]) ?_ rfl rfl ?_
      · refine (op_ev ixe2 rfl).trans ?_
        simp only [fdivD, if_pos (And.intro hm hm2), okD]
      · simp only [setF, el2]
        simp [ixN]
    rw [seq_rt (d := .int (n % many)) (by rw [if_t c1, seq_nx s1, seq_nx s2]; exact ret_ev rfl)]
    refine ⟨n % many, _, rfl, Int.emod_nonneg _ (by omega), Int.emod_lt_of_pos _ hm, ⟨hne, ⟨s, c, ?_⟩, ⟨_, List.getElem?_set_self (List.getElem?_eq_some_iff.mp el2).1⟩⟩, f2.trans (Fz.set (by simp) _ _)⟩
    rw [List.getElem?_set_ne (Ne.symm hne)]; exact ed2
  | nil =>
    rw [seq_nx (by rw [if_f c1]; rfl)]
    have p1 := put_evD (e := eVar 0) (v := eOp addD (eOp getD (eVar 0) (eC (.str "count"))) (eC (.int 1))) (rho := r2 j jr many) (k := "count") (x := .int (c + 1)) ((op_ev (get_ev rfl ed2 val_count) rfl).trans rfl) rfl ed2 (by simp)
    rw [put_count] at p1
    rw [seq_nx p1]
    have ed3 : ((mu1 ++ [Cell.lst []]).set j (.dct [(.inr "rest", .cel jr), (.inr "seed", .int s), (.inr "count", .int (c + 1))]))[j]? = _ := List.getElem?_set_self (List.getElem?_eq_some_iff.mp ed2).1
    have f3 := f2.trans (Fz.set (S := [j, jr]) (j := j) (by simp) (mu1 ++ [Cell.lst []]) (.dct [(.inr "rest", .cel jr), (.inr "seed", .int s), (.inr "count", .int (c + 1))]))
    have el3 : ((mu1 ++ [Cell.lst []]).set j (.dct [(.inr "rest", .cel jr), (.inr "seed", .int s), (.inr "count", .int (c + 1))]))[jr]? = some (.lst (List.map D.int [])) := by rw [List.getElem?_set_ne hne]; exact el2
    revert ed3 el3 f3
    generalize (mu1 ++ [Cell.lst []]).set j (.dct [(.inr "rest", .cel jr), (.inr "seed", .int s), (.inr "count", .int (c + 1))]) = mu3
    intro ed3 f3 el3
    rw [seq_nx (rho1 := [some (.cel j), some (.int many), some (.cel jr), some (.int (s * 3935559000370003845 + 77317)), none]) (mu1 := mu3) (set_ev (d := .int (s * 3935559000370003845 + 77317)) ((op_ev (x := .int (s * 3935559000370003845)) (mu1 := mu3) ((op_ev (get_ev rfl ed3 val_seed) rfl).trans (by simp only [mulD, if_pos (show CMul s 3935559000370003845 from Or.inr ⟨by decide, by decide⟩), okD])) rfl).trans rfl))]
    rw [seq_nx (rho1 := [some (.cel j), some (.int many), some (.cel jr), some (.int (s * 3935559000370003845 + 77317 + 2691343689449507681 * (c + 1))), none]) (mu1 := mu3) (set_ev (d := .int (s * 3935559000370003845 + 77317 + 2691343689449507681 * (c + 1))) ((op_ev (x := .int (s * 3935559000370003845 + 77317)) (mu1 := mu3) (y := .int (2691343689449507681 * (c + 1))) (mu2 := mu3) rfl ((op_ev rfl (get_ev rfl ed3 val_count)).trans (by simp only [mulD, if_pos (show CMul 2691343689449507681 (c + 1) from Or.inl ⟨by decide, by decide⟩), okD]))).trans rfl))]
    have p2 := put_evD (e := eVar 0) (v := eOp modD (eCall intF [eVar 3]) (eC (.int 2305843009213693951))) (rho := [some (.cel j), some (.int many), some (.cel jr), some (.int (s * 3935559000370003845 + 77317 + 2691343689449507681 * (c + 1))), none]) (k := "seed") (x := .int ((s * 3935559000370003845 + 77317 + 2691343689449507681 * (c + 1)) % 2305843009213693951))
      ((op_ev (x := .int (s * 3935559000370003845 + 77317 + 2691343689449507681 * (c + 1))) (mu1 := mu3) rfl rfl).trans (by simp only [modD, okD]; rfl)) rfl ed3 (by simp)
    rw [put_seed] at p2
    rw [seq_nx p2]
    generalize (s * 3935559000370003845 + 77317 + 2691343689449507681 * (c + 1)) % 2305843009213693951 = s4 at p2 ⊢
    have ed4 : (mu3.set j (.dct [(.inr "rest", .cel jr), (.inr "seed", .int s4), (.inr "count", .int (c + 1))]))[j]? = _ := List.getElem?_set_self (List.getElem?_eq_some_iff.mp ed3).1
    rw [ret_ev (d := .int (s4 / 8388593 % many)) (mu1 := mu3.set j (.dct [(.inr "rest", .cel jr), (.inr "seed", .int s4), (.inr "count", .int (c + 1))])) ((op_ev (x := .int (s4 / 8388593)) ((call_1 (x := .int (s4 / 8388593)) (mu1 := mu3.set j (.dct [(.inr "rest", .cel jr), (.inr "seed", .int s4), (.inr "count", .int (c + 1))])) ((op_ev (get_ev rfl ed4 val_seed) rfl).trans (by simp only [fdivD, okD]; rfl))).trans rfl) rfl).trans (by simp only [modD, if_pos hm, okD]))]
    exact ⟨s4 / 8388593 % many, _, rfl, Int.emod_nonneg _ (by omega), Int.emod_lt_of_pos _ hm, ⟨hne, ⟨s4, c + 1, ed4⟩, ⟨[], by rw [List.getElem?_set_ne hne]; exact el3⟩⟩, f3.trans (Fz.set (by simp) _ _)⟩
end
end DL
set_option Elab.async false
set_option linter.all false
set_option autoImplicit false
set_option maxRecDepth 100000
set_option maxHeartbeats 4000000
/-! DL20: the draws from a script, one of some. -/
namespace DL
open PySem PySem.Spec L2
theorem for_ev {f : IS} {t : Tg} {b : SS} {xs : List D} {g : Option (Nat × List D)} {rho : Rho} {mu mu1 : Mu} (h : f rho mu = some (.ok xs g, mu1)) : sFor f t b rho mu = forL g t b xs rho mu1 := by unfold sFor; rw [h]
noncomputable def mDraws : SS := sSeq (sSet 1 (eOp addD (eC (.int 7368787)) (eOp mulD (eC (.int 1009)) (eCall lenF [eVar 0])))) (sSeq (sFor (iEn (eVar 0)) (.tp [2, 3]) (sSet 1 (eOp modD (eCall intF [eOp addD (eOp addD (eOp mulD (eVar 1) (eC (.int 6700417))) (eVar 3)) (eOp mulD (eC (.int 15485863)) (eVar 2))]) (eC (.int 2305843009213693951))))) (sRet (eDisp [(eC (.str "rest"), eComp (iV (eVar 0)) (.nm 3) ([(("_law_cell" : Str), 3)].map (·.2)) (eOp geD (eVar 3) (eOp powD (eC (.int 10)) (eC (.int 18)))) (eVar 3)), (eC (.str "seed"), eVar 1), (eC (.str "count"), eC (.int 0))])))
theorem set_last {mu : Mu} {a b : Cell} : (mu ++ [a]).set mu.length b = mu ++ [b] := by simp
theorem draws_ok (ns : List Int) (hn : ns.length ≤ 63) (mu : Mu) : ∃ mu' : Mu, fnS 4 mDraws [.fl (ns.map D.int)] mu = some (.ok (.cel mu.length), mu') ∧ Dr mu.length (mu.length + 1) mu' ∧ Fz [] mu mu' := by
  rw [fnS_fin]
  show ∃ mu', fin (mDraws [some (.fl (ns.map D.int)), none, none, none] mu) = _ ∧ _
  unfold mDraws
  rw [seq_nx (rho1 := [some (.fl (ns.map D.int)), some (.int (7368787 + 1009 * (ns.map D.int).length)), none, none]) (mu1 := mu) (set_ev (d := .int (7368787 + 1009 * (ns.map D.int).length)) ((op_ev (x := .int 7368787) (y := .int (1009 * (ns.map D.int).length)) (mu1 := mu) (mu2 := mu) rfl ((op_ev (x := .int 1009) (y := .int (ns.map D.int).length) (mu1 := mu) (mu2 := mu) rfl rfl).trans (by simp only [mulD, if_pos (show CMul 1009 ((ns.map D.int).length : Int) from Or.inl ⟨by decide, by decide⟩), okD]))).trans rfl))]
  have hfor : ∃ rho' mu', forL none (.tp [2, 3]) (sSet 1 (eOp modD (eCall intF [eOp addD (eOp addD (eOp mulD (eVar 1) (eC (.int 6700417))) (eVar 3)) (eOp mulD (eC (.int 15485863)) (eVar 2))]) (eC (.int 2305843009213693951)))) (enumD (ns.map D.int)) [some (.fl (ns.map D.int)), some (.int (7368787 + 1009 * (ns.map D.int).length)), none, none] mu = some (.nx, rho', mu') ∧ (mu' = mu ∧ ∃ (s : Int) (a b : Option D), rho' = [some (.fl (ns.map D.int)), some (.int s), a, b]) := by
    refine forL_inv (g := none) (fun rho m => m = mu ∧ ∃ (s : Int) (a b : Option D), rho = [some (.fl (ns.map D.int)), some (.int s), a, b]) (fun _ _ _ => trivial) (fun x hx rho m i => ?_) ⟨rfl, _, _, _, rfl⟩
    obtain ⟨rfl, s, a, b, rfl⟩ := i
    obtain ⟨k, hk⟩ := List.mem_iff_getElem?.mp hx
    rw [enumD_get, List.getElem?_map] at hk
    cases hz : ns[k]? with
    | none => rw [hz] at hk; cases hk
    | some z =>
      rw [hz] at hk
      cases hk
      refine ⟨[some (.fl (ns.map D.int)), some (.int s), some (.int (k : Nat)), some (.int z)], rfl, [some (.fl (ns.map D.int)), some (.int ((s * 6700417 + z + 15485863 * (k : Nat)) % 2305843009213693951)), some (.int (k : Nat)), some (.int z)], m, ?_, rfl, _, _, _, rfl⟩
      refine set_ev (d := .int ((s * 6700417 + z + 15485863 * (k : Nat)) % 2305843009213693951)) ((op_ev (x := .int (s * 6700417 + z + 15485863 * (k : Nat))) (mu1 := m) ((call_1 (x := .int (s * 6700417 + z + 15485863 * (k : Nat))) (mu1 := m) ?_).trans rfl) rfl).trans (by simp only [modD, okD]; rfl))
      refine (op_ev (x := .int (s * 6700417 + z)) (y := .int (15485863 * (k : Nat))) (mu1 := m) (mu2 := m) ((op_ev (x := .int (s * 6700417)) (y := .int z) (mu1 := m) (mu2 := m) ((op_ev rfl rfl).trans ?_) rfl).trans rfl) ((op_ev rfl rfl).trans ?_)).trans rfl
      · simp only [mulD, if_pos (show CMul s 6700417 from Or.inr ⟨by decide, by decide⟩), okD]
      · simp only [mulD, if_pos (show CMul 15485863 ((k : Nat) : Int) from Or.inl ⟨by decide, by decide⟩), okD]
  obtain ⟨rho1, mu1, e1, rfl, s, a, b, rfl⟩ := hfor
  rw [seq_nx ((for_ev (xs := enumD (ns.map D.int)) (g := none) (mu1 := mu1) rfl).trans e1)]
  have hcomp : ∃ m, compL (mu1 ++ [Cell.dct []]).length none (.nm 3) (eOp geD (eVar 3) (eOp powD (eC (.int 10)) (eC (.int 18)))) (eVar 3) (ns.map D.int) [some (.fl (ns.map D.int)), some (.int s), a, none] (mu1 ++ [.dct []] ++ [.lst []]) = some m ∧ ∃ l : List Int, l.length ≤ 0 + (ns.map D.int).length ∧ m = mu1 ++ [.dct []] ++ [.lst (l.map D.int)] := by
    refine compL_ix (g := none) (fun i m => ∃ l : List Int, l.length ≤ i ∧ m = mu1 ++ [.dct []] ++ [.lst (l.map D.int)]) (fun _ _ _ => trivial) (fun k x hk m i => ?_) ⟨[], by simp, rfl⟩
    rw [List.getElem?_map] at hk
    cases hz : ns[k]? with
    | none => rw [hz] at hk; cases hk
    | some z =>
      rw [hz] at hk
      cases hk
      obtain ⟨l, hl, rfl⟩ := i
      have kl : k < ns.length := (List.getElem?_eq_some_iff.mp hz).1
      refine ⟨[some (.fl (ns.map D.int)), some (.int s), a, some (.int z)], rfl, ?_⟩
      have t1 : eOp geD (eVar 3) (eOp powD (eC (.int 10)) (eC (.int 18))) [some (.fl (ns.map D.int)), some (.int s), a, some (.int z)] (mu1 ++ [.dct []] ++ [.lst (l.map D.int)]) = some (.ok (.bl (decide (10 ^ 18 ≤ z))), mu1 ++ [.dct []] ++ [.lst (l.map D.int)]) := by
        refine (op_ev (x := .int z) (y := .int (10 ^ 18)) (mu1 := mu1 ++ [.dct []] ++ [.lst (l.map D.int)]) (mu2 := mu1 ++ [.dct []] ++ [.lst (l.map D.int)]) rfl ((op_ev rfl rfl).trans ?_)).trans rfl
        simp only [powD, okD]
        rfl
      by_cases hb : (10 : Int) ^ 18 ≤ z
      · refine .inr ⟨_, mu1 ++ [.dct []] ++ [.lst (l.map D.int)], .int z, l.map D.int, t1.trans (by rw [decide_eq_true hb]), rfl, app_new, by rw [List.length_map]; omega, l ++ [z], by simp; omega, ?_⟩
        rw [set_last]; simp
      · exact .inl ⟨_, t1.trans (by rw [decide_eq_false hb]), l, by omega, rfl⟩
  obtain ⟨m, e2, l, hl, rfl⟩ := hcomp
  have e3 : eComp (iV (eVar 0)) (.nm 3) ([(("_law_cell" : Str), 3)].map (·.2)) (eOp geD (eVar 3) (eOp powD (eC (.int 10)) (eC (.int 18)))) (eVar 3) [some (.fl (ns.map D.int)), some (.int s), a, b] (mu1 ++ [.dct []]) = some (.ok (.cel (mu1 ++ [Cell.dct []]).length), mu1 ++ [.dct []] ++ [.lst (l.map D.int)]) := by
    unfold eComp
    show (match compL (mu1 ++ [Cell.dct []]).length none (.nm 3) (eOp geD (eVar 3) (eOp powD (eC (.int 10)) (eC (.int 18)))) (eVar 3) (ns.map D.int) [some (.fl (ns.map D.int)), some (.int s), a, none] (mu1 ++ [.dct []] ++ [.lst []]) with
      | some mu2 => some (Rs.ok (D.cel (mu1 ++ [Cell.dct []]).length), mu2)
      | none => none) = _
    rw [e2]
  have hlen : (mu1 ++ [Cell.dct []]).length = mu1.length + 1 := by simp
  refine ⟨mu1 ++ [.dct [(.inr "rest", .cel (mu1.length + 1)), (.inr "seed", .int s), (.inr "count", .int 0)]] ++ [.lst (l.map D.int)], ?_, ⟨by omega, ⟨s, 0, by simp⟩, ⟨l, by rw [← hlen]; simp⟩⟩, by
    rw [List.append_assoc]; exact Fz.app _ _ _⟩
  rw [ret_ev (d := .cel mu1.length) (mu1 := mu1 ++ [.dct [(.inr "rest", .cel (mu1.length + 1)), (.inr "seed", .int s), (.inr "count", .int 0)]] ++ [.lst (l.map D.int)])]
  · rfl
  · unfold eDisp
    unfold prs
    simp only [eC, bnd]
    rw [e3]
    simp only []
    unfold prs
    simp only [eC, bnd]
    have ev1 : eVar 1 [some (.fl (ns.map D.int)), some (.int s), a, b] (mu1 ++ [Cell.dct []] ++ [.lst (l.map D.int)]) = some (.ok (.int s), mu1 ++ [.dct []] ++ [.lst (l.map D.int)]) := rfl
    rw [ev1]
    simp only []
    unfold prs
    simp only [eC, bnd]
    unfold prs
    simp only [keyD]
    have h1 : ((.inr "rest" : Key) = .inr "count") = False := eq_false (by decide)
    have h2 : ((.inr "seed" : Key) = .inr "count") = False := eq_false (by decide)
    have h3 : ((.inr "rest" : Key) = .inr "seed") = False := eq_false (by decide)
    have hat : (mu1 ++ [Cell.dct []] ++ [.lst (l.map D.int)])[mu1.length]? = some (.dct []) := by simp
    rw [hat]
    simp [mergeD, putD, h1, h2, h3, hlen]
end DL
set_option Elab.async false
set_option linter.all false
set_option autoImplicit false
set_option maxRecDepth 100000
set_option maxHeartbeats 4000000
/-! DL21: texts as lists of numbers. -/
namespace DL
open PySem PySem.Spec L2
abbrev tx (l : List Nat) : Str := ⟨l.toArray⟩
theorem tx_of (z : Str) : z = tx z.cps.toList := by cases z; simp
theorem tx_len (l : List Nat) : (tx l).length = l.length := by show l.toArray.size = _; simp
theorem tx_app (a b : List Nat) : tx a ++ tx b = tx (a ++ b) := by
  show Str.mk (a.toArray ++ b.toArray) = _
  simp
def up1 (c : Nat) : Nat := if 97 ≤ c ∧ c ≤ 122 then c - 32 else c
def lo1 (c : Nat) : Nat := if 65 ≤ c ∧ c ≤ 90 then c + 32 else c
end DL
set_option Elab.async false
set_option linter.all false
set_option autoImplicit false
set_option maxRecDepth 100000
set_option maxHeartbeats 4000000
/-! M11: is_snippet; models by what is promised; the draws. -/
namespace DL
open PySem PySem.Spec L2
/-! is_snippet (slots: 0 thing) -/
/-! ### a model that keeps a promise -/
open Classical in
noncomputable def Rel (F : FS) (Post : List D → Mu → Ro → Prop) : FS := fun ds mu => if h : ∃ p, Post ds mu p ∧ (clL mu.length ds → clM mu.length mu → Imp mu (F ds mu) p) then choose h else none
theorem Rel.mdl (F : FS) (Post : List D → Mu → Ro → Prop) : Mdl F (Rel F Post) := fun ds mu hd hm => by
  unfold Rel
  split
  · rename_i h
    exact (Classical.choose_spec h).2 hd hm
  · exact Imp.none
theorem Rel.post {F : FS} {Post : List D → Mu → Ro → Prop} {ds : List D} {mu : Mu} {p : Ro} (h : Post ds mu p) (i : clL mu.length ds → clM mu.length mu → Imp mu (F ds mu) p) : Post ds mu (Rel F Post ds mu) := by
  unfold Rel
  have hx : ∃ p, Post ds mu p ∧ (clL mu.length ds → clM mu.length mu → Imp mu (F ds mu) p) := ⟨p, h, i⟩
  rw [dif_pos hx]
  exact (Classical.choose_spec hx).1
/-! ### the draws: the cells 0 and 1 -/
structure DS where
  rest : List Int
  seed : Int
  count : Int
def drw (s : DS) : Mu := [.dct [(.inr "rest", .cel 1), (.inr "seed", .int s.seed), (.inr "count", .int s.count)], .lst (s.rest.map D.int)]
theorem drw_len (s : DS) (r : Mu) : (drw s ++ r).length = 2 + r.length := by simp [drw]; omega
theorem drw_cl {s s' : DS} {r : Mu} (h : clM (drw s ++ r).length (drw s ++ r)) : clM (drw s' ++ r).length (drw s' ++ r) := by
  rw [drw_len] at h ⊢
  rw [clM_app] at h ⊢
  refine ⟨fun c hc => ?_, h.2⟩
  simp only [drw, List.mem_cons, List.not_mem_nil, or_false] at hc
  rcases hc with rfl | rfl
  · simp [clC, clL, cl]; omega
  · exact clL_ints _
/-- a store behind some draws, what else stands being as it was -/
theorem drw_of {s : DS} {r mu' : Mu} (h : Dr 0 1 mu') (f : Fz [0, 1] (drw s ++ r) mu') : ∃ s' g, mu' = drw s' ++ r ++ g := by
  obtain ⟨sd, c, e0⟩ := h.dct
  obtain ⟨ns, e1⟩ := h.lst
  have hl := f.1
  rw [drw_len] at hl
  refine ⟨⟨ns, sd, c⟩, mu'.drop (2 + r.length), ?_⟩
  apply List.ext_getElem?
  intro i
  by_cases hi : i < 2 + r.length
  · rw [List.getElem?_append_left (by rw [drw_len]; exact hi)]
    match i with
    | 0 => rw [e0]; rfl
    | 1 => rw [e1]; rfl
    | i + 2 =>
      have hi' : i < r.length := by omega
      have := f.2 (i + 2) r[i] (by simp) (by
        show (drw s ++ r)[i + 2]? = _
        simp [drw, hi'])
      rw [this]
      simp [drw, hi']
  · rw [List.getElem?_append_right (by rw [drw_len]; omega), drw_len, List.getElem?_drop]
    congr 1
    omega
theorem dr_of (s : DS) (r : Mu) : Dr 0 1 (drw s ++ r) := ⟨by decide, ⟨s.seed, s.count, rfl⟩, ⟨s.rest, rfl⟩⟩
/-! _law_pick (slots: 0 _law_draws_here, 1 _law_many, 2 _law_rest, 3 _law_seed, 4 _law_found) -/
noncomputable def m__law_pick (q : Ad) : SS := sSeq (sSet 2 (eOp getD (eVar 0) (eC (.str "rest")))) (sSeq (sWhl (eAnd (eOp neD (eVar 2) (eCall lstF [])) (eOp eqD (eOp ixD (eVar 2) (eC (.int 0))) (eC (.int 0)))) (sExpr (eMth isLB popAtM (eVar 2) [eC (.int 0)]))) (sSeq (sIf (eOp neD (eVar 2) (eCall lstF [])) (sSeq (sSet 4 (eOp modD (eCall intF [eOp ixD (eVar 2) (eC (.int 0))]) (eVar 1))) (sSeq (sPut setF (eVar 2) (eC (.int 0)) (eOp fdivD (eOp ixD (eVar 2) (eC (.int 0))) (eVar 1))) (sRet (eVar 4)))) (sNil)) (sSeq (sPut putF (eVar 0) (eC (.str "count")) (eOp addD (eOp getD (eVar 0) (eC (.str "count"))) (eC (.int 1)))) (sSeq (sSet 3 (eOp addD (eOp mulD (eOp getD (eVar 0) (eC (.str "seed"))) (eC (.int 3935559000370003845))) (eC (.int 77317)))) (sSeq (sSet 3 (eOp addD (eVar 3) (eOp mulD (eC (.int 2691343689449507681)) (eOp getD (eVar 0) (eC (.str "count")))))) (sSeq (sPut putF (eVar 0) (eC (.str "seed")) (eOp modD (eCall intF [eVar 3]) (eC (.int 2305843009213693951)))) (sRet (eOp modD (eCall intF [eOp fdivD (eOp getD (eVar 0) (eC (.str "seed"))) (eC (.int 8388593))]) (eVar 1)))))))))
def PickPost (ds : List D) (mu : Mu) (p : Ro) : Prop := ∀ s r many, mu = drw s ++ r → ds = [.cel 0, .int many] → ∃ v s', p = some (.ok (.int v), drw s' ++ r) ∧ 0 ≤ v ∧ v < many
noncomputable def P__law_pick (q : Ad) : FS := Rel (fnS 5 (m__law_pick q)) PickPost
theorem md__law_pick (q : Ad) : Mdl (fnS 5 (m__law_pick q)) (P__law_pick q) := Rel.mdl _ _
theorem ev__law_pick {q : Ad} {s : DS} {r : Mu} {many : Int} (h1 : 0 < many) (h2 : many < 1073741824) : ∃ v s', P__law_pick q [.cel 0, .int many] (drw s ++ r) = some (.ok (.int v), drw s' ++ r) ∧ 0 ≤ v ∧ v < many := by
  obtain ⟨v, mu', e, h3, h4, hd, hf⟩ := pick_ok (j := 0) (jr := 1) (mu := drw s ++ r) (dr_of s r) h1 h2
  obtain ⟨s', g, rfl⟩ := drw_of hd hf
  have : PickPost [.cel 0, .int many] (drw s ++ r) (P__law_pick q [.cel 0, .int many] (drw s ++ r)) := by
    refine Rel.post (p := some (.ok (.int v), drw s' ++ r)) (fun s2 r2 m2 e1 e2 => ?_) ?_
    · cases e2
      have hr : r = r2 := by
        have := congrArg (List.drop 2) e1
        simpa [drw] using this
      subst hr
      exact ⟨v, s', rfl, h3, h4⟩
    · exact fun _ hm => Imp.ok (g := g) e (by simp [cl]) (by rw [drw_len, drw_len]; exact Nat.le_refl _) (drw_cl hm)
  exact this s r many rfl rfl
/-! _law_draws (slots: 0 _law_script, 1 _law_seed, 2 _law_k, 3 _law_cell) -/
noncomputable def m__law_draws (q : Ad) : SS := sSeq (sSet 1 (eOp addD (eC (.int 7368787)) (eOp mulD (eC (.int 1009)) (eCall lenF [eVar 0])))) (sSeq (sFor (iEn (eVar 0)) (.tp [2, 3]) (sSet 1 (eOp modD (eCall intF [eOp addD (eOp addD (eOp mulD (eVar 1) (eC (.int 6700417))) (eVar 3)) (eOp mulD (eC (.int 15485863)) (eVar 2))]) (eC (.int 2305843009213693951))))) (sRet (eDisp [(eC (.str "rest"), eComp (iV (eVar 0)) (.nm 3) [3] (eOp geD (eVar 3) (eOp powD (eC (.int 10)) (eC (.int 18)))) (eVar 3)), (eC (.str "seed"), eVar 1), (eC (.str "count"), eC (.int 0))])))
def DrawsPost (ds : List D) (mu : Mu) (p : Ro) : Prop := ∀ ns : List Int, ns.length ≤ 63 → mu = [] → ds = [.fl (ns.map D.int)] → ∃ s, p = some (.ok (.cel 0), drw s)
noncomputable def P__law_draws (q : Ad) : FS := Rel (fnS 4 (m__law_draws q)) DrawsPost
theorem md__law_draws (q : Ad) : Mdl (fnS 4 (m__law_draws q)) (P__law_draws q) := Rel.mdl _ _
theorem ev__law_draws {q : Ad} (ns : List Int) (h : ns.length ≤ 63) : ∃ s, P__law_draws q [.fl (ns.map D.int)] [] = some (.ok (.cel 0), drw s) := by
  obtain ⟨mu', e, hd, hf⟩ := draws_ok ns h []
  have hd : Dr 0 1 mu' := hd
  obtain ⟨sd, c, e0⟩ := hd.dct
  obtain ⟨ns', e1⟩ := hd.lst
  have em : ∃ g, mu' = drw ⟨ns', sd, c⟩ ++ g := by
    refine ⟨mu'.drop 2, ?_⟩
    apply List.ext_getElem?
    intro i
    match i with
    | 0 => rw [e0]; rfl
    | 1 => rw [e1]; rfl
    | i + 2 => simp [drw, Nat.add_comm]
  obtain ⟨g, rfl⟩ := em
  have : DrawsPost [.fl (ns.map D.int)] [] (P__law_draws q [.fl (ns.map D.int)] []) := by
    refine Rel.post (p := some (.ok (.cel 0), drw ⟨ns', sd, c⟩)) (fun _ _ _ _ => ⟨_, rfl⟩) fun _ _ => ?_
    refine Imp.ok (g := g) e (by simp [cl, drw]) (Nat.zero_le _) ?_
    intro x hx
    simp only [drw, List.mem_cons, List.not_mem_nil, or_false] at hx
    rcases hx with rfl | rfl
    · simp [clC, clL, cl, drw]
    · exact clL_ints _
  exact this ns h rfl rfl
end DL
set_option Elab.async false
set_option linter.all false
set_option autoImplicit false
set_option maxRecDepth 100000
set_option maxHeartbeats 4000000
/-! M12: draws that leave all else: one of some, plain strings. -/
namespace DL
open PySem PySem.Spec L2
/-- a draw that leaves all else as it is -/
def Keep (R : List D → Mu → D → Prop) : List D → Mu → Ro → Prop := fun ds mu p => ∀ s r, mu = drw s ++ r → ∃ x s', p = some (.ok x, drw s' ++ r) ∧ R ds mu x
theorem drw_inj {s s2 : DS} {r r2 : Mu} (h : drw s ++ r = drw s2 ++ r2) : r = r2 := by
  have := congrArg (List.drop 2) h
  simpa [drw] using this
theorem Keep.ev {F : FS} {R : List D → Mu → D → Prop} {ds : List D} {s s' : DS} {r g : Mu} {x : D} (e : F ds (drw s ++ r) = some (.ok x, drw s' ++ r ++ g)) (hR : R ds (drw s ++ r) x) (hc : clL (2 + r.length) ds → clM (2 + r.length) (drw s ++ r) → cl (2 + r.length) x) : ∃ x s', Rel F (Keep R) ds (drw s ++ r) = some (.ok x, drw s' ++ r) ∧ R ds (drw s ++ r) x := by
  have : Keep R ds (drw s ++ r) (Rel F (Keep R) ds (drw s ++ r)) := by
    refine Rel.post (p := some (.ok x, drw s' ++ r)) (fun s2 r2 e1 => ?_) fun hd hm => ?_
    · have hr := drw_inj e1
      subst hr
      exact ⟨x, s', rfl, hR⟩
    · refine Imp.ok (g := g) e ?_ (by rw [drw_len, drw_len]; exact Nat.le_refl _) (drw_cl hm)
      rw [drw_len]
      rw [drw_len] at hd hm
      exact hc hd hm
  exact this s r rfl
/-- the items of a list, a tuple, a string -/
def itm : D → Mu → Option (List D)
  | .tup xs, _ => some xs
  | .str z, _ => some (z.cps.toList.map fun c => D.str ⟨#[c]⟩)
  | .cel j, mu => match mu[j]? with
    | some (.lst xs) => some xs
    | _ => none
  | _, _ => none
theorem itm_cel {j : Nat} {mu : Mu} {xs : List D} (h : itm (.cel j) mu = some xs) : mu[j]? = some (.lst xs) := by
  have h : (match mu[j]? with | some (Cell.lst xs) => some xs | _ => none) = some xs := h
  split at h
  · rename_i e; cases h; exact e
  · cases h
theorem itm_drw {o : D} {s s' : DS} {r : Mu} {xs : List D} (h1 : o ≠ .cel 1) (h : itm o (drw s ++ r) = some xs) : itm o (drw s' ++ r) = some xs := by
  cases o with
  | cel j =>
    match j, h1, h with
    | 0, _, h => exact h
    | 1, h1, _ => exact absurd rfl h1
    | j + 2, _, h => exact h
  | _ => exact h
theorem itm_len {o : D} {mu : Mu} {xs : List D} (h : itm o mu = some xs) (hl : xs.length ≤ 16777216) : lenF [o] mu = some (.ok (.int xs.length), mu) := by
  cases o with
  | tup ys => cases h; rfl
  | str z =>
    cases h
    rw [List.length_map] at hl
    have e : z.length = z.cps.toList.length := by show z.cps.size = _; simp
    show (if z.length ≤ 16777216 then okD (.int z.length) mu else none) = _
    rw [if_pos (by omega), e, List.length_map]
  | cel j =>
    exact len_lst (itm_cel h)
  | _ => cases h
theorem itm_ix {o : D} {mu : Mu} {xs : List D} {n : Nat} {x : D} (h : itm o mu = some xs) (hl : xs.length ≤ 16777216) (hx : xs[n]? = some x) : ixD o (.int (n : Int)) mu = some (.ok x, mu) := by
  cases o with
  | tup ys => cases h; exact ix_tup hx
  | str z =>
    cases h
    rw [List.length_map] at hl
    have e : z.length = z.cps.toList.length := by show z.cps.size = _; simp
    rw [List.getElem?_map] at hx
    obtain ⟨c, e1, rfl⟩ := Option.map_eq_some_iff.mp hx
    show (if z.length ≤ 16777216 then match atI z.cps.toList (n : Int) with | some c => okD (.str ⟨#[c]⟩) mu | none => none else none) = _
    rw [if_pos (by omega), atI_nat' e1]
  | cel j =>
    have e1 := itm_cel h
    have hs : seqD (.cel j) mu = some xs := by simp [seqD, lstD, e1]
    show (match seqD (.cel j) mu with | some xs => (match atI xs (n : Int) with | some x => okD x mu | none => none) | none => none) = _
    rw [hs]
    dsimp only
    rw [atI_nat' hx]
  | _ => cases h
theorem itm_cl {o : D} {mu : Mu} {n : Nat} {xs : List D} (h : itm o mu = some xs) (hm : clM n mu) (ho : cl n o) : clL n xs := by
  cases o with
  | tup ys => cases h; simpa [cl] using ho
  | str z =>
    cases h
    exact clL_iff.mpr fun x hx => by
      obtain ⟨c, _, rfl⟩ := List.mem_map.mp hx
      simp [cl]
  | cel j =>
    have e1 := itm_cel h
    exact hm _ (List.mem_of_getElem? e1)
  | _ => cases h
/-! _law_one (slots: 0 _law_draws_here, 1 _law_some) -/
noncomputable def m__law_one (q : Ad) : SS := sRet (eOp ixD (eVar 1) (eCall (P__law_pick q) [eVar 0, eCall lenF [eVar 1]]))
def R__law_one (ds : List D) (mu : Mu) (x : D) : Prop := ∀ o xs, ds = [.cel 0, o] → itm o mu = some xs → x ∈ xs
noncomputable def P__law_one (q : Ad) : FS := Rel (fnS 2 (m__law_one q)) (Keep R__law_one)
theorem md__law_one (q : Ad) : Mdl (fnS 2 (m__law_one q)) (P__law_one q) := Rel.mdl _ _
theorem ev__law_one {q : Ad} {s : DS} {r : Mu} {o : D} {xs : List D} (h1 : o ≠ .cel 1) (h : itm o (drw s ++ r) = some xs) (h0 : xs ≠ []) (hl : xs.length ≤ 16777216) : ∃ x s', P__law_one q [.cel 0, o] (drw s ++ r) = some (.ok x, drw s' ++ r) ∧ x ∈ xs := by
  have hp : 0 < xs.length := List.length_pos_iff.mpr h0
  obtain ⟨v, s1, e1, h3, h4⟩ := ev__law_pick (q := q) (s := s) (r := r) (many := xs.length) (by omega) (by omega)
  obtain ⟨n, rfl⟩ : ∃ n : Nat, v = n := ⟨v.toNat, by omega⟩
  have hn : n < xs.length := by omega
  have e2 := itm_ix (n := n) (itm_drw (s' := s1) h1 h) hl (List.getElem?_eq_getElem hn)
  have ef : fnS 2 (m__law_one q) [.cel 0, o] (drw s ++ r) = some (.ok xs[n], drw s1 ++ r ++ []) := by
    simp [fnS_ev, m__law_one, itm_len h hl, e1, e2]
  obtain ⟨x, s', e, hR⟩ := Keep.ev (R := R__law_one) ef (fun o' xs' e' h' => by
    cases e'
    rw [h] at h'
    cases h'
    exact List.getElem_mem hn) (fun hd hm => by
    have ho : cl (2 + r.length) o := by
      simp only [clL] at hd
      exact hd.2.1
    exact clL_iff.mp (itm_cl h hm ho) _ (List.getElem_mem hn))
  exact ⟨x, s', e, hR o xs rfl h⟩
/-! _law_signs (slots: 0 _law_great, 1 _law_low, 2 _law_small) -/
/-! _law_plain (slots: 0 _law_draws_here, 1 _law_many, 2 _law_signs_here, 3 _law_k) -/
theorem sum_ones : ∀ l : List Nat, ((l.map fun c => tx [c]).map (·.length)).sum = l.length
  | [] => rfl
  | c :: l => by
    show (tx [c]).length + ((l.map fun c => tx [c]).map (·.length)).sum = _
    rw [sum_ones l, tx_len]; simp; omega
/-- a row of draws: each leaves all else -/
theorem comp_keep {t : Tg} {vs : List Nat} {te : ES} {rho : Rho} {fi : IS} {s : DS} {r : Mu} {mu0 : Mu} {xs : List D} (Q : D → Prop) (hi : fi rho mu0 = some (.ok xs none, drw s ++ r))
    (h : ∀ x ∈ xs, ∀ s r', ∃ rho1, asgD t x (wipeR rho vs) = some rho1 ∧ ∃ y s', te rho1 (drw s ++ (r ++ r')) = some (.ok y, drw s' ++ (r ++ r')) ∧ Q y) (hl : xs.length ≤ 16777216) :
    ∃ ys s', eComp fi t vs (eC (.bl true)) te rho mu0 = some (.ok (.cel (2 + r.length)), drw s' ++ (r ++ [.lst ys])) ∧ ys.length = xs.length ∧ ∀ y ∈ ys, Q y := by
  have key : ∀ (rest : List D) (acc : List D) (s : DS), (∀ x ∈ rest, x ∈ xs) → acc.length + rest.length ≤ 16777216 → (∀ y ∈ acc, Q y) → ∃ ys s', compL (2 + r.length) none t (eC (.bl true)) te rest (wipeR rho vs) (drw s ++ (r ++ [.lst acc])) = some (drw s' ++ (r ++ [.lst ys])) ∧ ys.length = acc.length + rest.length ∧ ∀ y ∈ ys, Q y := by
    intro rest
    induction rest with
    | nil =>
      intro acc s _ _ ha
      refine ⟨acc, s, ?_, by simp, ha⟩
      unfold compL
      rw [if_pos (show grdOk none _ from trivial)]
    | cons x rest ih =>
      intro acc s hs hz ha
      obtain ⟨rho1, e1, y, s1, e2, hy⟩ := h x (hs x List.mem_cons_self) s [.lst acc]
      have ea : (drw s1 ++ (r ++ [Cell.lst acc]))[2 + r.length]? = some (.lst acc) := by
        rw [List.getElem?_append_right (by simp [drw])]
        simp [drw]
      have eb : (drw s1 ++ (r ++ [Cell.lst acc])).set (2 + r.length) (.lst (acc ++ [y])) = drw s1 ++ (r ++ [.lst (acc ++ [y])]) := by
        rw [List.set_append_right _ _ (by simp [drw])]
        simp [drw]
      simp only [List.length_cons] at hz
      obtain ⟨ys, s', e3, h3, h4⟩ := ih (acc ++ [y]) s1 (fun z hz => hs z (List.mem_cons_of_mem _ hz)) (by simp; omega) (fun z hz => by
        rcases List.mem_append.mp hz with hz | hz
        · exact ha z hz
        · rw [List.mem_singleton.mp hz]; exact hy)
      refine ⟨ys, s', ?_, by rw [h3]; simp; omega, h4⟩
      unfold compL
      rw [if_pos (show grdOk none _ from trivial), e1]
      dsimp only
      rw [eC_ev]
      dsimp only
      rw [e2]
      dsimp only
      rw [ea]
      dsimp only
      rw [if_pos (by omega), eb]
      exact e3
  obtain ⟨ys, s', e, h1, h2⟩ := key xs [] s (fun _ h => h) (by simpa using hl) (fun _ h => nomatch h)
  refine ⟨ys, s', ?_, by simpa using h1, h2⟩
  unfold eComp
  rw [hi]
  dsimp only
  have el : (drw s ++ r).length = 2 + r.length := drw_len s r
  rw [el, List.append_assoc, e]
@[simp] theorem drw_l (s : DS) : (drw s).length = 2 := rfl
theorem at_e {s : DS} {r t : Mu} {c : Cell} : (drw s ++ (r ++ c :: t))[2 + r.length]? = some c := by
  rw [List.getElem?_append_right (by simp)]
  simp
theorem itm_e {s : DS} {r t : Mu} {xs : List D} : itm (.cel (2 + r.length)) (drw s ++ (r ++ .lst xs :: t)) = some xs := by
  show (match (drw s ++ (r ++ .lst xs :: t))[2 + r.length]? with | some (Cell.lst xs) => some xs | _ => none) = _
  rw [at_e]
/-- one of a list displayed, by a draw -/
theorem oneof {q : Ad} {s : DS} {r t : Mu} {xs : List D} {P : D → Prop} (n : Int) (hn : n = xs.length) (h0 : 0 < xs.length) (hl : xs.length ≤ 16777216) (h : ∀ x ∈ xs, P x) : ∃ v s' x, P__law_pick q [.cel 0, .int n] (drw s ++ (r ++ .lst xs :: t)) = some (.ok (.int v), drw s' ++ (r ++ .lst xs :: t)) ∧ ixD (.cel (2 + r.length)) (.int v) (drw s' ++ (r ++ .lst xs :: t)) = some (.ok x, drw s' ++ (r ++ .lst xs :: t)) ∧ P x := by
  obtain ⟨v, s1, e1, h3, h4⟩ := ev__law_pick (q := q) (s := s) (r := r ++ .lst xs :: t) (many := n) (by omega) (by omega)
  obtain ⟨k, rfl⟩ : ∃ n : Nat, v = n := ⟨v.toNat, by omega⟩
  have hk : k < xs.length := by omega
  exact ⟨k, s1, xs[k], e1, itm_ix (n := k) itm_e hl (List.getElem?_eq_getElem hk), h _ (List.getElem_mem hk)⟩
theorem lstF_ev {ds : List D} {s : DS} {r : Mu} (h : ds.length ≤ 16777216) : lstF ds (drw s ++ r) = some (.ok (.cel (2 + r.length)), drw s ++ (r ++ [.lst ds])) := by
  unfold lstF newL
  rw [if_pos h]
  simp
end DL
set_option Elab.async false
set_option linter.all false
set_option autoImplicit false
set_option maxRecDepth 100000
set_option maxHeartbeats 4000000
/-! M13: pieces that draws make; their height; strings apart. -/
namespace DL
open PySem PySem.Spec L2
def noAdj : List D → Bool
  | x :: y :: r => !(isStrB x && isStrB y) && noAdj (y :: r)
  | _ => true
/-- a piece of at most n levels -/
def ok1 : Nat → D → Bool
  | 0, _ => false
  | n + 1, p => hasFormB p && (insB p).all fun x => match x with
    | .tup inner => noAdj inner && inner.all (ok1 n)
    | _ => false
def okN (n : Nat) (ps : List D) : Bool := noAdj ps && ps.all (ok1 n)
theorem ok1_at {n : Nat} {p : D} (h : ok1 (n + 1) p = true) : hasFormB p = true ∧ ∀ x ∈ insB p, ∃ inner, x = .tup inner ∧ noAdj inner = true ∧ ∀ y ∈ inner, ok1 n y = true := by
  unfold ok1 at h
  simp only [Bool.and_eq_true, List.all_eq_true] at h
  refine ⟨h.1, fun x hx => ?_⟩
  have := h.2 x hx
  split at this
  · rename_i inner
    simp only [Bool.and_eq_true, List.all_eq_true] at this
    exact ⟨inner, rfl, this.1, this.2⟩
  · cases this
theorem ok1_mk {n : Nat} {p : D} (h1 : hasFormB p = true) (h2 : ∀ x ∈ insB p, ∃ inner, x = .tup inner ∧ noAdj inner = true ∧ ∀ y ∈ inner, ok1 n y = true) : ok1 (n + 1) p = true := by
  unfold ok1
  simp only [Bool.and_eq_true, List.all_eq_true]
  refine ⟨h1, fun x hx => ?_⟩
  obtain ⟨inner, rfl, a, b⟩ := h2 x hx
  simp only [Bool.and_eq_true, List.all_eq_true]
  exact ⟨a, b⟩
theorem ok1_mono : ∀ {n : Nat} {p : D}, ok1 n p = true → ok1 (n + 1) p = true
  | 0, p, h => by unfold ok1 at h; cases h
  | n + 1, p, h => by
    obtain ⟨h1, h2⟩ := ok1_at h
    exact ok1_mk h1 fun x hx => by
      obtain ⟨inner, e, a, b⟩ := h2 x hx
      exact ⟨inner, e, a, fun y hy => ok1_mono (b y hy)⟩
theorem ok1_le {n m : Nat} {p : D} (h : n ≤ m) (hp : ok1 n p = true) : ok1 m p = true := by
  induction h with
  | refl => exact hp
  | step _ ih => exact ok1_mono ih
theorem okN_iff {n : Nat} {ps : List D} : okN n ps = true ↔ noAdj ps = true ∧ ∀ p ∈ ps, ok1 n p = true := by
  unfold okN
  simp only [Bool.and_eq_true, List.all_eq_true]
theorem ok1_fm : ∀ {n : Nat} {ps : List D}, (∀ p ∈ ps, ok1 n p = true) → fm (n + 1) ps = true
  | 0, ps, h => by
    cases ps with
    | nil => rfl
    | cons p ps => have := h p List.mem_cons_self; unfold ok1 at this; cases this
  | n + 1, ps, h => fm_mk fun p hp => by
    obtain ⟨h1, h2⟩ := ok1_at (h p hp)
    refine ⟨h1, fun x hx => ?_⟩
    obtain ⟨inner, e, _, b⟩ := h2 x hx
    exact ⟨inner, e, ok1_fm b⟩
theorem ok1_cl : ∀ {n : Nat} {p : D}, ok1 n p = true → cl 0 p
  | 0, p, h => by unfold ok1 at h; cases h
  | n + 1, p, h => by
    obtain ⟨h1, h2⟩ := ok1_at h
    have hin : ∀ x ∈ insB p, cl 0 x := fun x hx => by
      obtain ⟨inner, rfl, _, b⟩ := h2 x hx
      unfold cl
      exact clL_iff.mpr fun y hy => ok1_cl (b y hy)
    rcases form_cases h1 with ⟨z, rfl⟩ | ⟨w, k, a, r, rfl, _, _⟩
    · simp [cl]
    · simp only [cl, clL, true_and]
      by_cases hw : w = "copy"
      · subst hw
        match r, h1 with
        | [], h1 =>
          have h1 : isShapeB a = true := by
            simp [hasFormB] at h1
            exact h1.2.resolve_left fun z => absurd z.1 (by decide)
          refine ⟨?_, trivial⟩
          cases a <;> first | (simp [isShapeB] at h1; done) | simp [cl]
        | [b], h1 =>
          simp [hasFormB] at h1
          exact absurd h1.1.1.2 (by decide)
        | b :: c :: r, h1 => simp [hasFormB] at h1
      · have hi : insB (.tup (.str w :: .int k :: a :: r)) = a :: r := by simp [insB, hw]
        rw [hi] at hin
        exact ⟨hin a List.mem_cons_self, clL_iff.mpr fun x hx => hin x (List.mem_cons_of_mem _ hx)⟩
/-! ### the height -/
/-! _law_height (slots: 0 _law_piece, 1 _law_most, 2 _law_side_here, 3 _law_one_here) -/
end DL
set_option Elab.async false
set_option linter.all false
set_option autoImplicit false
set_option maxRecDepth 100000
set_option maxHeartbeats 4000000
/-! M14: strings apart. -/
namespace DL
open PySem PySem.Spec L2
theorem eqB_nil {mu : Mu} {j n : Nat} (h : mu[j]? = some (.lst [])) (h2 : mu[n]? = some (.lst [])) : eqB (.cel j) (.cel n) mu = some true := by
  have e1 : toP mu (.cel j) = some (.list []) := toP_ints (ns := []) h
  have e2 : toP mu (.cel n) = some (.list []) := toP_ints (ns := []) h2
  unfold eqB
  simp only [scV]
  unfold eqP
  rw [e1, e2]
  dsimp only
  rw [if_pos ⟨shaped_ints [], shaped_ints []⟩]
  simp [PyData.eqv, PyData.eqvAll]
theorem neA_nil {mu : Mu} {j n : Nat} {xs : List D} (h : mu[j]? = some (.lst xs)) (h2 : mu[n]? = some (.lst [])) : neA (.cel j) (.cel n) mu = some (.ok (.bl (!xs.isEmpty)), mu) := by
  have e1 : lstD (.cel j) mu = some xs := by simp [lstD, h]
  have e2 : lstD (.cel n) mu = some [] := by simp [lstD, h2]
  cases xs with
  | nil =>
    have : neE (.cel j) (.cel n) mu = false := by simp [neE, e1, e2]
    unfold neA
    rw [this]
    simp [neD, eqB_nil h h2, okD]
  | cons x xs =>
    have : neE (.cel j) (.cel n) mu = true := by simp [neE, e1, e2]
    unfold neA
    rw [this]
    simp [neLD, this, okD]
def lastS (acc : List D) : Bool := match acc.getLast? with
  | some y => isStrB y
  | none => false
def apL : List D → List D → List D
  | acc, [] => acc
  | acc, x :: r => if (isStrB x && lastS acc) = true then apL acc r else apL (acc ++ [x]) r
theorem apL_sub : ∀ {r acc : List D}, (apL acc r).Sublist (acc ++ r)
  | [], acc => by simp [apL]
  | x :: r, acc => by
    unfold apL
    split
    · exact (apL_sub (r := r) (acc := acc)).trans (List.Sublist.append_left (List.sublist_cons_self _ _) _)
    · have := apL_sub (r := r) (acc := acc ++ [x])
      simpa using this
theorem apL_keep : ∀ {r acc : List D}, (apL acc r).filter (fun p => !isStrB p) = (acc ++ r).filter fun p => !isStrB p
  | [], acc => by simp [apL]
  | x :: r, acc => by
    unfold apL
    split
    · rename_i hx
      rw [Bool.and_eq_true] at hx
      rw [apL_keep, List.filter_append, List.filter_append, List.filter_cons, hx.1]
      simp
    · rw [apL_keep]
      simp
/-! _law_apart (slots: 0 _law_pieces, 1 _law_found, 2 _law_piece) -/
end DL
set_option Elab.async false
set_option linter.all false
set_option autoImplicit false
set_option maxRecDepth 100000
set_option maxHeartbeats 4000000
/-! M15: what draws of pieces keep; the room; simple pieces. -/
namespace DL
open PySem PySem.Spec L2
def fldQ : D → Option (Int × List D)
  | .tup [.str w, .int n, .tup ps] => if w = "field" then some (n, ps) else none
  | _ => none
def FD (ps : List D) : List (Int × List D) := (flat 8 ps).filterMap fldQ
def NM (ps : List D) : List Int := (flat 8 ps).filterMap nOf
theorem flat_app (n : Nat) (a b : List D) : flat n (a ++ b) = flat n a ++ flat n b := by
  cases n with
  | zero => rfl
  | succ n => simp [flat]
theorem FD_app (a b : List D) : FD (a ++ b) = FD a ++ FD b := by simp [FD, flat_app]
theorem NM_app (a b : List D) : NM (a ++ b) = NM a ++ NM b := by simp [NM, flat_app]
theorem flat_sublist {n : Nat} {a b : List D} (h : a.Sublist b) : (flat n a).Sublist (flat n b) := by
  cases n with
  | zero => exact List.Sublist.refl _
  | succ n =>
    unfold flat
    induction h with
    | slnil => exact List.Sublist.refl _
    | cons x h ih => rw [List.flatMap_cons]; exact ih.trans (List.sublist_append_right _ _)
    | cons_cons x h ih => rw [List.flatMap_cons, List.flatMap_cons]; exact List.Sublist.append_left ih _
theorem flat_mem {n : Nat} {a b : List D} (h : ∀ p ∈ a, p ∈ b) {x : D} (hx : x ∈ flat n a) : x ∈ flat n b := by
  cases n with
  | zero => exact hx
  | succ n =>
    unfold flat at hx ⊢
    obtain ⟨p, hp, hx⟩ := List.mem_flatMap.mp hx
    exact List.mem_flatMap.mpr ⟨p, h p hp, hx⟩
theorem NM_sub {a b : List D} (h : ∀ p ∈ a, p ∈ b) {x : Int} (hx : x ∈ NM a) : x ∈ NM b := by
  obtain ⟨p, hp, e⟩ := List.mem_filterMap.mp hx
  exact List.mem_filterMap.mpr ⟨p, flat_mem h hp, e⟩
theorem FD_str {p : D} (h : isStrB p = true) : FD [p] = [] ∧ NM [p] = [] := by
  cases p <;> first | (simp [isStrB] at h; done) | (constructor <;> simp [FD, NM, flat, insB, fldQ, nOf])
theorem FD_filter : ∀ ps : List D, FD (ps.filter fun p => !isStrB p) = FD ps
  | [] => rfl
  | p :: ps => by
    rw [show p :: ps = [p] ++ ps from rfl, FD_app, List.filter_append, FD_app, FD_filter ps]
    congr 1
    cases h : isStrB p with
    | true => rw [(FD_str h).1]; simp [h, FD, flat]
    | false => simp [h]
/-- what is drawn comes from what is left, and from what lay free -/
structure Mv (kn : List Int) (l : Int) (fr : List D) (l' : Int) (fr' ps : List D) : Prop where
  w : l' + (flat 8 fr').length + (flat 8 ps).length ≤ l + (flat 8 fr).length
  z : 0 ≤ l → 0 ≤ l'
  fd : (FD fr' ++ FD ps).Perm (FD fr)
  nm : (∀ b ∈ NM fr, b ∈ kn) → ∀ b ∈ NM ps, b ∈ kn
  sub : fr'.Sublist fr
theorem Mv.refl (kn : List Int) (l : Int) (fr : List D) : Mv kn l fr l fr [] := ⟨by simp [flat], id, by simp [FD, flat], fun _ b hb => by simp [NM, flat] at hb, List.Sublist.refl _⟩
theorem Mv.trans {kn : List Int} {l l1 l2 : Int} {fr fr1 fr2 a b : List D} (h : Mv kn l fr l1 fr1 a) (h' : Mv kn l1 fr1 l2 fr2 b) : Mv kn l fr l2 fr2 (a ++ b) := by
  refine ⟨?_, fun z => h'.z (h.z z), ?_, fun hn x hx => ?_, h'.sub.trans h.sub⟩
  · have := h.w
    have := h'.w
    rw [flat_app, List.length_append]
    omega
  · rw [FD_app]
    have p1 : (FD fr2 ++ (FD a ++ FD b)).Perm (FD fr2 ++ FD b ++ FD a) := by
      rw [List.append_assoc]
      exact List.Perm.append_left _ List.perm_append_comm
    exact p1.trans ((h'.fd.append_right _).trans h.fd)
  · rw [NM_app] at hx
    rcases List.mem_append.mp hx with hx | hx
    · exact h.nm hn x hx
    · exact h'.nm (fun b hb => hn b (NM_sub (fun p hp => h.sub.subset hp) hb)) x hx
theorem Mv.apart {kn : List Int} {l l' : Int} {fr fr' ps : List D} (h : Mv kn l fr l' fr' ps) : Mv kn l fr l' fr' (apL [] ps) := by
  have hs : (apL [] ps).Sublist ps := by simpa using apL_sub (r := ps) (acc := [])
  have hf : FD (apL [] ps) = FD ps := by
    rw [← FD_filter, apL_keep, List.nil_append, FD_filter]
  refine ⟨?_, h.z, by rw [hf]; exact h.fd, fun hn x hx => h.nm hn x (NM_sub (fun p hp => hs.subset hp) hx), h.sub⟩
  have := h.w
  have := (flat_sublist (n := 8) hs).length_le
  omega
theorem flat_up {n m : Nat} (h : n + 1 ≤ m) {ps : List D} (hk : ∀ p ∈ ps, ok1 n p = true) : flat m ps = flat (n + 1) ps := (flat_ge h (ok1_fm hk)).1
/-- a leaf, its name among the known -/
def Leaf (kn : List Int) (p : D) : Prop := (∃ z, p = .str z ∧ isPlainB p = true) ∨ ∃ k z, p = .tup [.str "copy", .int k, .str z] ∧ k ∈ kn ∧ isShapeB (.str z) = true
theorem Leaf.ok {kn : List Int} {p : D} (h : Leaf kn p) (hk : ∀ k ∈ kn, 1 ≤ k ∧ k ≤ 99) : ok1 1 p = true := by
  rcases h with ⟨z, rfl, h⟩ | ⟨k, z, rfl, h1, h2⟩
  · exact ok1_mk h fun x hx => by simp [insB] at hx
  · refine ok1_mk ?_ fun x hx => by simp [insB] at hx
    have := hk k h1
    simp [hasFormB, isIntB, h2, this.1, this.2]
theorem Leaf.flat {kn : List Int} {p : D} (h : Leaf kn p) : DL.flat 8 [p] = [p] ∧ FD [p] = [] ∧ ∀ b ∈ NM [p], b ∈ kn := by
  rcases h with ⟨z, rfl, h⟩ | ⟨k, z, rfl, h1, h2⟩
  · simp [DL.flat, insB, FD, fldQ, NM, nOf]
  · simp [DL.flat, insB, FD, fldQ, NM, nOf]
    exact h1
theorem Mv.leaf {kn : List Int} {l : Int} {fr : List D} {p : D} (h : Leaf kn p) (hl : 1 ≤ l) : Mv kn l fr (l - 1) fr [p] := by
  obtain ⟨h1, h2, h3⟩ := h.flat
  refine ⟨by rw [h1]; simp; omega, fun _ => by omega, by rw [h2]; simp, fun _ => h3, List.Sublist.refl _⟩
theorem ne_wc : (("when" : Str) = "copy") = False := eq_false (by decide)
theorem ne_fc : (("field" : Str) = "copy") = False := eq_false (by decide)
theorem ins_when {k : Int} {x y : D} : insB (.tup [.str "when", .int k, x, y]) = [x, y] := by simp [insB, ne_wc]
theorem ins_field {k : Int} {x : D} : insB (.tup [.str "field", .int k, x]) = [x] := by simp [insB, ne_fc]
theorem flat8 (ps : List D) : flat 8 ps = ps.flatMap fun p => p :: (insB p).flatMap fun x => flat 7 (inner? x) := rfl
theorem flat_when {k : Int} {a b : List D} (ha : ∀ p ∈ a, ok1 6 p = true) (hb : ∀ p ∈ b, ok1 6 p = true) : flat 8 [.tup [.str "when", .int k, .tup a, .tup b]] = .tup [.str "when", .int k, .tup a, .tup b] :: (flat 8 a ++ flat 8 b) := by
  rw [flat_up (m := 8) (by omega) ha, flat_up (m := 8) (by omega) hb]
  simp only [flat8, List.flatMap_cons, List.flatMap_nil, ins_when, inner?, List.append_nil]
theorem flat_field {k : Int} {a : List D} (ha : ∀ p ∈ a, ok1 6 p = true) : flat 8 [.tup [.str "field", .int k, .tup a]] = .tup [.str "field", .int k, .tup a] :: flat 8 a := by
  rw [flat_up (m := 8) (by omega) ha]
  simp only [flat8, List.flatMap_cons, List.flatMap_nil, ins_field, inner?, List.append_nil]
theorem Mv.when {kn : List Int} {l l' : Int} {fr fr' a b : List D} {k : Int} (h : Mv kn (l - 1) fr l' fr' (a ++ b)) (hk : k ∈ kn) (ha : ∀ p ∈ a, ok1 6 p = true) (hb : ∀ p ∈ b, ok1 6 p = true) (hl : 1 ≤ l) : Mv kn l fr l' fr' [.tup [.str "when", .int k, .tup a, .tup b]] := by
  have e := flat_when (k := k) ha hb
  rw [← flat_app] at e
  refine ⟨?_, fun _ => h.z (by omega), ?_, fun hn x hx => ?_, h.sub⟩
  · have := h.w
    rw [e, List.length_cons]
    omega
  · have : FD [.tup [.str "when", .int k, .tup a, .tup b]] = FD (a ++ b) := by
      unfold FD
      rw [e, List.filterMap_cons]
      rfl
    rw [this]
    exact h.fd
  · have : NM [.tup [.str "when", .int k, .tup a, .tup b]] = k :: NM (a ++ b) := by
      unfold NM
      rw [e, List.filterMap_cons]
      rfl
    rw [this] at hx
    rcases List.mem_cons.mp hx with rfl | hx
    · exact hk
    · exact h.nm hn x hx
theorem ok1_field {n : Nat} {a : List D} {k : Int} (h0 : 1 ≤ k ∧ k ≤ 99) (ha : okN n a = true) (la : a.length ≤ 8) : ok1 (n + 1) (.tup [.str "field", .int k, .tup a]) = true := by
  rw [okN_iff] at ha
  refine ok1_mk (by simp [hasFormB, isIntB, fewB, h0.1, h0.2, la]) fun x hx => ?_
  rw [ins_field] at hx
  simp only [List.mem_cons, List.not_mem_nil, or_false] at hx
  subst hx
  exact ⟨a, rfl, ha.1, ha.2⟩
/-! ### the room -/
def rmC (jf : Nat) (left : Int) : Cell := .dct [(.inr "left", .int left), (.inr "free", .cel (2 + jf))]
structure Rom (r : Mu) (jr jf : Nat) (left : Int) (free : List D) : Prop where
  dct : r[jr]? = some (rmC jf left)
  lst : r[jf]? = some (.lst free)
def rmP (r : Mu) (jr jf : Nat) (left : Int) (free : List D) : Mu := (r.set jr (rmC jf left)).set jf (.lst free)
section
variable {r t : Mu} {jr jf : Nat} {l l' : Int} {fr fr' : List D} {s : DS}
theorem dr_at (j : Nat) : (drw s ++ r)[2 + j]? = r[j]? := by
  rw [List.getElem?_append_right (by simp)]
  simp
theorem Rom.ne (h : Rom r jr jf l fr) : jr ≠ jf := fun z => by
  have h1 := h.dct
  rw [z, h.lst] at h1
  cases h1
theorem Rom.lt (h : Rom r jr jf l fr) : jr < r.length ∧ jf < r.length := ⟨(List.getElem?_eq_some_iff.mp h.dct).1, (List.getElem?_eq_some_iff.mp h.lst).1⟩
theorem Rom.uniq {jf2 : Nat} (h : Rom r jr jf l fr) (h' : Rom r jr jf2 l' fr') : jf2 = jf ∧ l' = l ∧ fr' = fr := by
  have e := h.dct.symm.trans h'.dct
  simp only [rmC, Option.some.injEq, Cell.dct.injEq, List.cons.injEq, Prod.mk.injEq, true_and, and_true, D.int.injEq, D.cel.injEq] at e
  have hj : jf2 = jf := by omega
  subst hj
  have e2 := h.lst.symm.trans h'.lst
  cases e2
  exact ⟨rfl, e.1.symm, rfl⟩
theorem rmP_len : (rmP r jr jf l fr).length = r.length := by simp [rmP]
theorem Rom.put (h : Rom r jr jf l fr) (l' : Int) (fr' : List D) : Rom (rmP r jr jf l' fr') jr jf l' fr' := by
  have h1 := h.lt
  have h2 := h.ne
  unfold rmP
  constructor
  · rw [List.getElem?_set_ne (Ne.symm h2), List.getElem?_set_self h1.1]
  · rw [List.getElem?_set_self (by simpa using h1.2)]
theorem Rom.put_self (h : Rom r jr jf l fr) : rmP r jr jf l fr = r := by
  unfold rmP
  rw [set_same h.dct, set_same h.lst]
theorem Rom.put_put (h : Rom r jr jf l fr) (l1 l2 : Int) (f1 f2 : List D) : rmP (rmP r jr jf l1 f1) jr jf l2 f2 = rmP r jr jf l2 f2 := by
  unfold rmP
  rw [List.set_comm _ _ (Ne.symm h.ne), List.set_set, List.set_set]
theorem Rom.app (h : Rom r jr jf l fr) (t : Mu) : Rom (r ++ t) jr jf l fr := ⟨app_at h.dct, app_at h.lst⟩
theorem rmP_at {k : Nat} (h1 : k ≠ jr) (h2 : k ≠ jf) : (rmP r jr jf l fr)[k]? = r[k]? := by
  unfold rmP
  rw [List.getElem?_set_ne (Ne.symm h2), List.getElem?_set_ne (Ne.symm h1)]
theorem Rom.left (h : Rom r jr jf l fr) : getD (.cel (2 + jr)) (.str "left") (drw s ++ r) = some (.ok (.int l), drw s ++ r) := by
  unfold getD
  have : dctR (.cel (2 + jr)) (drw s ++ r) = some [(.inr "left", .int l), (.inr "free", .cel (2 + jf))] := by
    unfold dctR
    dsimp only
    rw [dr_at, h.dct]
    rfl
  rw [this]
  rfl
theorem Rom.free (h : Rom r jr jf l fr) : getD (.cel (2 + jr)) (.str "free") (drw s ++ r) = some (.ok (.cel (2 + jf)), drw s ++ r) := by
  unfold getD
  have : dctR (.cel (2 + jr)) (drw s ++ r) = some [(.inr "left", .int l), (.inr "free", .cel (2 + jf))] := by
    unfold dctR
    dsimp only
    rw [dr_at, h.dct]
    rfl
  rw [this]
  rfl
end
/-- known names: a list of numbers -/
def Kn (r : Mu) (jk : Nat) (kn : List Int) : Prop := r[jk]? = some (.lst (kn.map D.int))
theorem Kn.uniq {r : Mu} {jk : Nat} {kn kn' : List Int} (h : Kn r jk kn) (h' : Kn r jk kn') : kn' = kn := by
  have := h.symm.trans h'
  simp only [Option.some.injEq, Cell.lst.injEq] at this
  exact (List.map_inj_right (fun a b e => by cases e; rfl)).mp this.symm
theorem Kn.app {r t : Mu} {jk : Nat} {kn : List Int} (h : Kn r jk kn) : Kn (r ++ t) jk kn := app_at h
theorem Kn.put {r : Mu} {jk jr jf : Nat} {kn : List Int} {l l' : Int} {fr fr' : List D} (h : Kn r jk kn) (hr : Rom r jr jf l fr) (hk : jk ≠ jf) : Kn (rmP r jr jf l' fr') jk kn := by
  unfold Kn
  rw [rmP_at (fun z => ?_) hk]
  · exact h
  · have h1 := hr.dct
    rw [← z, h] at h1
    cases h1
end DL
set_option Elab.async false
set_option linter.all false
set_option autoImplicit false
set_option maxRecDepth 100000
set_option maxHeartbeats 4000000
/-! M16: simple pieces, and pieces taken. -/
namespace DL
open PySem PySem.Spec L2
def FrOk (fr : List D) : Prop := fr.length ≤ 6 ∧ ∀ p ∈ fr, ok1 4 p = true
abbrev PreT := List D → Mu → Nat → Int → List D → Prop
abbrev RT := List D → Mu → Int → List D → Int → List D → List D → Prop
/-- a draw in the room that tells a new list -/
def RmL (Pre : PreT) (R : RT) : List D → Mu → Ro → Prop := fun ds mu p => ∀ s r jr jf l fr rest, mu = drw s ++ r → ds = .cel 0 :: .cel (2 + jr) :: rest → Rom r jr jf l fr → Pre rest r jf l fr → ∃ s' l' fr' ps, p = some (.ok (.cel (2 + r.length)), drw s' ++ (rmP r jr jf l' fr' ++ [.lst ps])) ∧ R rest r l fr l' fr' ps
/-- .. a tuple -/
def RmT (Pre : PreT) (R : RT) : List D → Mu → Ro → Prop := fun ds mu p => ∀ s r jr jf l fr rest, mu = drw s ++ r → ds = .cel 0 :: .cel (2 + jr) :: rest → Rom r jr jf l fr → Pre rest r jf l fr → ∃ s' l' fr' ps, p = some (.ok (.tup ps), drw s' ++ rmP r jr jf l' fr') ∧ R rest r l fr l' fr' ps
section
variable {F : FS} {Pre : PreT} {R : RT} {s s' : DS} {r g : Mu} {jr jf k : Nat} {l l' : Int} {fr fr' ps rest : List D}
theorem rmP_cl (hr : Rom r jr jf l fr) (hm : clM (2 + r.length) (drw s ++ r)) (hc : clL 0 fr') : clM (2 + r.length) (drw s' ++ rmP r jr jf l' fr') := by
  have hm' : clM (drw s' ++ r).length (drw s' ++ r) := drw_cl (s := s) (by rw [drw_len]; exact hm)
  rw [drw_len, clM_app] at hm'
  rw [clM_app]
  refine ⟨hm'.1, clM_set (clM_set hm'.2 ?_) (clL.mono (Nat.zero_le _) _ hc)⟩
  have := hr.lt.2
  show clL _ [_, _]
  simp [clL, cl]
  omega
theorem RmL.ev (hr : Rom r jr jf l fr) (hp : Pre rest r jf l fr) (e : F (.cel 0 :: .cel (2 + jr) :: rest) (drw s ++ r) = some (.ok (.cel (2 + (r.length + k))), drw s' ++ (rmP r jr jf l' fr' ++ g))) (hk : g[k]? = some (.lst ps)) (hR : R rest r l fr l' fr' ps) (hc : clL 0 fr') (hc2 : clL 0 ps) :
    ∃ s' l' fr' ps, Rel F (RmL Pre R) (.cel 0 :: .cel (2 + jr) :: rest) (drw s ++ r) = some (.ok (.cel (2 + r.length)), drw s' ++ (rmP r jr jf l' fr' ++ [.lst ps])) ∧ R rest r l fr l' fr' ps := by
  have : RmL Pre R (.cel 0 :: .cel (2 + jr) :: rest) (drw s ++ r) (Rel F (RmL Pre R) (.cel 0 :: .cel (2 + jr) :: rest) (drw s ++ r)) := by
    refine Rel.post (p := some (.ok (.cel (2 + r.length)), drw s' ++ (rmP r jr jf l' fr' ++ [.lst ps]))) (fun s2 r2 jr2 jf2 l2 fr2 rest2 e1 e2 h2 _ => ?_) fun hd hm => ?_
    · have := drw_inj e1
      subst this
      simp only [List.cons.injEq, D.cel.injEq, true_and] at e2
      obtain ⟨e3, rfl⟩ := e2
      have e3 : jr2 = jr := by omega
      subst e3
      obtain ⟨rfl, rfl, rfl⟩ := hr.uniq h2
      exact ⟨s', l', fr', ps, rfl, hR⟩
    · rw [drw_len] at hm
      have e2 : (drw s' ++ rmP r jr jf l' fr').length = 2 + r.length := by rw [drw_len, rmP_len]
      have := Imp.new (mu := drw s ++ r) (mu' := drw s' ++ rmP r jr jf l' fr') (g := g) (k := k) (c := .lst ps) (r := F (.cel 0 :: .cel (2 + jr) :: rest) (drw s ++ r)) (by rw [e, e2, List.append_assoc, Nat.add_assoc]) hk (by rw [e2, drw_len]; exact Nat.le_refl _) (by rw [e2]; exact rmP_cl hr hm hc) (clL.mono (Nat.zero_le _) _ hc2)
      rw [e2, List.append_assoc] at this
      exact this
  exact this s r jr jf l fr rest rfl rfl hr hp
theorem RmT.ev (hr : Rom r jr jf l fr) (hp : Pre rest r jf l fr) (e : F (.cel 0 :: .cel (2 + jr) :: rest) (drw s ++ r) = some (.ok (.tup ps), drw s' ++ (rmP r jr jf l' fr' ++ g))) (hR : R rest r l fr l' fr' ps) (hc : clL 0 fr') (hc2 : clL 0 ps) :
    ∃ s' l' fr' ps, Rel F (RmT Pre R) (.cel 0 :: .cel (2 + jr) :: rest) (drw s ++ r) = some (.ok (.tup ps), drw s' ++ rmP r jr jf l' fr') ∧ R rest r l fr l' fr' ps := by
  have : RmT Pre R (.cel 0 :: .cel (2 + jr) :: rest) (drw s ++ r) (Rel F (RmT Pre R) (.cel 0 :: .cel (2 + jr) :: rest) (drw s ++ r)) := by
    refine Rel.post (p := some (.ok (.tup ps), drw s' ++ rmP r jr jf l' fr')) (fun s2 r2 jr2 jf2 l2 fr2 rest2 e1 e2 h2 _ => ?_) fun hd hm => ?_
    · have := drw_inj e1
      subst this
      simp only [List.cons.injEq, D.cel.injEq, true_and] at e2
      obtain ⟨e3, rfl⟩ := e2
      have e3 : jr2 = jr := by omega
      subst e3
      obtain ⟨rfl, rfl, rfl⟩ := hr.uniq h2
      exact ⟨s', l', fr', ps, rfl, hR⟩
    · rw [drw_len] at hm
      have e2 : (drw s' ++ rmP r jr jf l' fr').length = 2 + r.length := by rw [drw_len, rmP_len]
      refine Imp.ok (g := g) (by rw [e, List.append_assoc]) ?_ (by rw [e2, drw_len]; exact Nat.le_refl _) (by rw [e2]; exact rmP_cl hr hm hc)
      unfold cl
      exact clL.mono (Nat.zero_le _) _ hc2
  exact this s r jr jf l fr rest rfl rfl hr hp
theorem FrOk.cl (h : FrOk fr) : clL 0 fr := clL_iff.mpr fun p hp => ok1_cl (h.2 p hp)
end
theorem Leaf.cl {kn : List Int} {p : D} (h : Leaf kn p) : cl 0 p := by
  rcases h with ⟨z, rfl, _⟩ | ⟨k, z, rfl, _, _⟩ <;> simp [DL.cl, clL]
/-! _law_simple (slots: 0 _law_draws_here, 1 _law_room, 2 _law_known) -/
end DL
set_option Elab.async false
set_option linter.all false
set_option autoImplicit false
set_option maxRecDepth 100000
set_option maxHeartbeats 4000000
/-! M17: pieces taken; a side. -/
namespace DL
open PySem PySem.Spec L2
theorem Mv.take {kn : List Int} {l : Int} {fr : List D} {i : Nat} {p : D} (h : fr[i]? = some p) : Mv kn l fr l (fr.eraseIdx i) [p] := by
  obtain ⟨hi, rfl⟩ := List.getElem?_eq_some_iff.mp h
  have e1 : fr.eraseIdx i = fr.take i ++ fr.drop (i + 1) := List.eraseIdx_eq_take_drop_succ ..
  have e2 : fr = fr.take i ++ ([fr[i]] ++ fr.drop (i + 1)) := by simp
  refine ⟨?_, id, ?_, fun hn b hb => hn b ?_, List.eraseIdx_sublist ..⟩
  · rw [e1]
    conv => rhs; rw [e2]
    simp only [flat_app, List.length_append]
    omega
  · rw [e1]
    conv => rhs; rw [e2]
    simp only [FD_app, List.append_assoc]
    exact List.Perm.append_left _ List.perm_append_comm
  · exact NM_sub (fun p hp => by rw [List.mem_singleton.mp hp]; exact List.getElem_mem hi) hb
/-! _law_taken (slots: 0 _law_draws_here, 1 _law_room, 2 _law_most, 3 _law_some, 4 _law_at, 5 _law_free, 6 _law_k, 7 _law_piece) -/
theorem FrOk.sub {fr fr' : List D} (h : FrOk fr) (hs : fr'.Sublist fr) : FrOk fr' := ⟨Nat.le_trans hs.length_le h.1, fun p hp => h.2 p (hs.subset hp)⟩
end DL
set_option Elab.async false
set_option linter.all false
set_option autoImplicit false
set_option maxRecDepth 100000
set_option maxHeartbeats 4000000
/-! M18: a side. -/
namespace DL
open PySem PySem.Spec L2
/-- the forms of pieces -/
theorem form4 {p : D} (h : hasFormB p = true) : (∃ z, p = .str z ∧ isPlainB (.str z) = true) ∨ (∃ n z, p = .tup [.str "copy", .int n, .str z] ∧ (1 ≤ n ∧ n ≤ 99) ∧ isShapeB (.str z) = true) ∨ (∃ n ps, p = .tup [.str "field", .int n, .tup ps] ∧ (1 ≤ n ∧ n ≤ 99) ∧ ps.length ≤ 8) ∨ ∃ n a b, p = .tup [.str "when", .int n, .tup a, .tup b] ∧ (1 ≤ n ∧ n ≤ 99) ∧ a.length ≤ 8 ∧ b.length ≤ 8 := by
  rcases form_cases h with ⟨z, rfl⟩ | ⟨w, k, a, r, rfl, h1, h2⟩
  · exact .inl ⟨z, rfl, h⟩
  · match r, h with
    | [], h =>
      simp only [hasFormB, Bool.and_eq_true, Bool.or_eq_true, decide_eq_true_eq] at h
      rcases h.2 with ⟨rfl, h3⟩ | ⟨rfl, h3⟩
      · cases a <;> first | (simp [fewB] at h3; done) | skip
        simp only [fewB, decide_eq_true_eq] at h3
        exact .inr (.inr (.inl ⟨k, _, rfl, ⟨h1, h2⟩, h3⟩))
      · cases a <;> first | (simp [isShapeB] at h3; done) | skip
        exact .inr (.inl ⟨k, _, rfl, ⟨h1, h2⟩, h3⟩)
    | [b], h =>
      simp only [hasFormB, Bool.and_eq_true, decide_eq_true_eq] at h
      obtain ⟨⟨⟨_, rfl⟩, h3⟩, h4⟩ := h
      cases a <;> first | (simp [fewB] at h3; done) | skip
      cases b <;> first | (simp [fewB] at h4; done) | skip
      simp only [fewB, decide_eq_true_eq] at h3 h4
      exact .inr (.inr (.inr ⟨k, _, _, rfl, ⟨h1, h2⟩, h3, h4⟩))
    | b :: c :: r, h => simp [hasFormB] at h
/-! ### calls in a room with other cells behind -/
section
variable {q : Ad} {s : DS} {r g : Mu} {jr jf jk : Nat} {l0 l : Int} {fr0 fr : List D} {kn : List Int}
end
/-! _law_side (slots: 0 _law_draws_here, 1 _law_room, 2 _law_known, 3 _law_most, 4 _law_found, 5 _law_turn) -/
end DL
set_option Elab.async false
set_option linter.all false
set_option autoImplicit false
set_option maxRecDepth 100000
set_option maxHeartbeats 4000000
/-! M19: what stands inside a field. -/
namespace DL
open PySem PySem.Spec L2
section
variable {q : Ad} {s : DS} {r g : Mu} {jr jf jk : Nat} {l0 l : Int} {fr0 fr : List D} {kn : List Int}
end
/-! _law_inner (slots: 0 _law_draws_here, 1 _law_room, 2 _law_known, 3 _law_found, 4 _law_turn, 5 _law_way, 6 _law_name, 7 _law_yes) -/
end DL
set_option Elab.async false
set_option linter.all false
set_option autoImplicit false
set_option maxRecDepth 100000
set_option maxHeartbeats 4000000
/-! M20: what stands on top: all that lies free. -/
namespace DL
open PySem PySem.Spec L2
theorem flat_perm {n : Nat} {a b : List D} (h : a.Perm b) : (flat n a).Perm (flat n b) := by
  cases n with
  | zero => exact List.Perm.refl _
  | succ n => exact h.flatMap_right _
theorem Mv.perm {kn : List Int} {l l' : Int} {fr fr' ps ps' : List D} (h : Mv kn l fr l' fr' ps) (p : ps'.Perm ps) : Mv kn l fr l' fr' ps' := by
  refine ⟨?_, h.z, ?_, fun hn x hx => h.nm hn x (NM_sub (fun y hy => p.subset hy) hx), h.sub⟩
  · rw [(flat_perm (n := 8) p).length_eq]
    exact h.w
  · exact (List.Perm.append_left _ ((flat_perm (n := 8) p).filterMap _)).trans h.fd
theorem Mv.drop {kn : List Int} {l l' : Int} {fr fr' ps : List D} (h : Mv kn l fr l' fr' ps) (hl : ∀ p ∈ ps, Leaf kn p) : Mv kn l fr l' fr' [] := by
  have hf : ∀ ps : List D, (∀ p ∈ ps, Leaf kn p) → FD ps = [] := fun ps => by
    induction ps with
    | nil => intro _; rfl
    | cons p ps ih =>
      intro h
      rw [show p :: ps = [p] ++ ps from rfl, FD_app, (h p List.mem_cons_self).flat.2.1, ih fun x hx => h x (List.mem_cons_of_mem _ hx)]
      rfl
  refine ⟨?_, h.z, ?_, fun _ b hb => by simp [NM, flat] at hb, h.sub⟩
  · have := h.w
    rw [flat_nil, List.length_nil]
    omega
  · have := h.fd
    rw [hf ps hl] at this
    exact this
section
variable {q : Ad} {s : DS} {r g : Mu} {jr jf jk : Nat} {l0 l : Int} {fr0 fr : List D} {kn : List Int}
end
end DL
set_option Elab.async false
set_option linter.all false
set_option autoImplicit false
set_option maxRecDepth 100000
set_option maxHeartbeats 4000000
/-! M21: the top. -/
namespace DL
open PySem PySem.Spec L2
theorem cut_from {xs : List D} {i : Nat} (h : i ≤ xs.length) : cutD xs (some (i : Int)) none = xs.drop i := by
  unfold cutD
  rw [HT.sIx_nat, HT.sIx_none, Nat.min_eq_left h]
  exact List.take_of_length_le (by simp)
section
variable {q : Ad} {s : DS} {r g R : Mu} {k k2 : Nat} {ps ps2 : List D}
end
/-! ### the second loop -/
end DL
set_option Elab.async false
set_option linter.all false
set_option autoImplicit false
set_option maxRecDepth 100000
set_option maxHeartbeats 4000000
/-! M22: the top, whole. -/
namespace DL
open PySem PySem.Spec L2
/-! _law_top (slots: 0 _law_draws_here, 1 _law_room, 2 _law_names_here, 3 _law_turn, 4 _law_found, 5 _law_rows_here, 6 _law_piece, 7 _law_more, 8 _law_at, 9 _law_other, 10 _law_sides, 11 _law_yes) -/
end DL
set_option Elab.async false
set_option linter.all false
set_option autoImplicit false
set_option maxRecDepth 100000
set_option maxHeartbeats 4000000
/-! M23: snippets drawn: the names. -/
namespace DL
open PySem PySem.Spec L2
/-- names drawn: they rise -/
structure NsOk (ns : List Int) (i : Nat) (at_ : Int) : Prop where
  len : ns.length = i
  up : ns.Pairwise (· < ·)
  lo : ∀ n ∈ ns, 1 ≤ n ∧ n ≤ at_
  hi : 0 ≤ at_ ∧ at_ ≤ 19 + 13 * i
/-! ### the cells of a snippet's making -/
section
variable {r g : Mu} {names kn lf : List Int} {l : Int} {fr : List D} {s : DS}
end
end DL
set_option Elab.async false
set_option linter.all false
set_option autoImplicit false
set_option maxRecDepth 100000
set_option maxHeartbeats 4000000
/-! M24: snippets drawn: the fields. -/
namespace DL
open PySem PySem.Spec L2
structure Mkg (names : List Int) (l : Int) (fr : List D) (kn lf : List Int) : Prop where
  pm : (kn ++ lf).Perm names
  fo : ∀ p ∈ fr, ok1 4 p = true
  fl : fr.length ≤ kn.length
  z : 0 ≤ l
  w : l + (flat 8 fr).length + lf.length ≤ 30
  fd : ((FD fr).map (·.1)).Perm kn
  nm : ∀ b ∈ NM fr, b ∈ kn
  rk : ∀ x ∈ FD fr, ∀ b ∈ NM x.2, kn.idxOf b < kn.idxOf x.1
structure NmOk (names : List Int) : Prop where
  len : names.length ≤ 6
  nd : names.Nodup
  lo : ∀ n ∈ names, 1 ≤ n ∧ n ≤ 99
section
variable {names kn lf : List Int} {l : Int} {fr : List D}
theorem Mkg.step (h : Mkg names l fr kn lf) (hn : NmOk names) {i : Nat} {n : Int} (hi : lf[i]? = some n) {l' : Int} {fr' ps : List D} (hm : Mv kn l fr l' fr' ps) (ha : noAdj ps = true) (hl : ps.length ≤ 3) (ho : ∀ p ∈ ps, ok1 3 p = true) : Mkg names l' (fr' ++ [.tup [.str "field", .int n, .tup ps]]) (kn ++ [n]) (lf.eraseIdx i) := by
  obtain ⟨hi', rfl⟩ := List.getElem?_eq_some_iff.mp hi
  have e1 : lf.eraseIdx i = lf.take i ++ lf.drop (i + 1) := List.eraseIdx_eq_take_drop_succ ..
  have e2 : lf = lf.take i ++ (lf[i] :: lf.drop (i + 1)) := by simp
  have pl : ([lf[i]] ++ lf.eraseIdx i).Perm lf := by
    rw [e1]
    conv => rhs; rw [e2]
    simp only [List.singleton_append]
    exact List.perm_middle.symm
  have pm' : (kn ++ [lf[i]] ++ lf.eraseIdx i).Perm names := by
    rw [List.append_assoc]
    exact (pl.append_left _).trans h.pm
  have hn1 : lf[i] ∈ names := h.pm.subset (List.mem_append_right _ (List.getElem_mem hi'))
  have hnd : lf[i] ∉ kn := fun z => by
    have hd := pm'.nodup_iff.mpr hn.nd
    rw [List.nodup_append] at hd
    have hd := hd.1
    rw [List.nodup_append] at hd
    exact hd.2.2 _ z _ List.mem_cons_self rfl
  have ef := flat_field (k := lf[i]) (a := ps) fun p hp => ok1_le (by decide) (ho p hp)
  have eFD : FD [.tup [.str "field", .int lf[i], .tup ps]] = (lf[i], ps) :: FD ps := by
    unfold FD
    rw [ef, List.filterMap_cons]
    rfl
  have eNM : NM [.tup [.str "field", .int lf[i], .tup ps]] = lf[i] :: NM ps := by
    unfold NM
    rw [ef, List.filterMap_cons]
    rfl
  have ix : ∀ b ∈ kn, (kn ++ [lf[i]]).idxOf b = kn.idxOf b := fun b hb => by rw [List.idxOf_append, if_pos hb]
  refine ⟨pm', fun p hp => ?_, ?_, hm.z h.z, ?_, ?_, fun b hb => ?_, fun x hx b hb => ?_⟩
  · rcases List.mem_append.mp hp with hp | hp
    · exact h.fo p (hm.sub.subset hp)
    · rw [List.mem_singleton.mp hp]
      exact ok1_field (hn.lo _ hn1) (okN_iff.mpr ⟨ha, ho⟩) (by omega)
  · have := hm.sub.length_le
    have := h.fl
    simp
    omega
  · have h1 := hm.w
    have h2 := h.w
    rw [flat_app, ef, List.length_append, List.length_cons, List.length_eraseIdx_of_lt hi']
    omega
  · rw [FD_app, eFD, List.map_append, List.map_cons]
    have h1 : ((FD fr').map (·.1) ++ (lf[i] :: (FD ps).map (·.1))).Perm (lf[i] :: ((FD fr' ++ FD ps).map (·.1))) := by
      rw [List.map_append]
      exact List.perm_middle
    have h2 : ((FD fr' ++ FD ps).map (·.1)).Perm kn := (hm.fd.map _).trans h.fd
    exact h1.trans ((h2.cons _).trans (List.perm_append_comm (l₁ := [lf[i]]) (l₂ := kn)))
  · rw [NM_app, eNM] at hb
    rcases List.mem_append.mp hb with hb | hb
    · exact List.mem_append_left _ (h.nm b (NM_sub (fun p hp => hm.sub.subset hp) hb))
    · rcases List.mem_cons.mp hb with rfl | hb
      · simp
      · exact List.mem_append_left _ (hm.nm h.nm b hb)
  · rw [FD_app, eFD] at hx
    have old : x ∈ FD fr → (kn ++ [lf[i]]).idxOf b < (kn ++ [lf[i]]).idxOf x.1 := fun hx => by
      have h1 := h.rk x hx b hb
      have hx1 : x.1 ∈ kn := h.fd.subset (List.mem_map_of_mem hx)
      have hlt : kn.idxOf x.1 < kn.length := List.idxOf_lt_length_iff.mpr hx1
      have hb1 : b ∈ kn := List.idxOf_lt_length_iff.mp (by omega)
      rw [ix b hb1, ix x.1 hx1]
      exact h1
    rcases List.mem_append.mp hx with hx | hx
    · exact old (hm.fd.subset (List.mem_append_left _ hx))
    · rcases List.mem_cons.mp hx with rfl | hx
      · have hb1 : b ∈ kn := hm.nm h.nm b hb
        rw [ix b hb1, List.idxOf_append, if_neg hnd]
        have := List.idxOf_lt_length_iff.mpr hb1
        omega
      · exact old (hm.fd.subset (List.mem_append_right _ hx))
end
/-! ### the loop -/
end DL
set_option Elab.async false
set_option linter.all false
set_option autoImplicit false
set_option maxRecDepth 100000
set_option maxHeartbeats 4000000
/-! M25: snippets drawn. -/
namespace DL
open PySem PySem.Spec L2
structure SnOk (most : Nat) (ps : List D) : Prop where
  len : ps.length ≤ 8
  adj : noAdj ps = true
  ok : ∀ p ∈ ps, ok1 5 p = true
  w : (flat 8 ps).length ≤ 30
  nd : ((FD ps).map (·.1)).Nodup
  few : (FD ps).length ≤ most
  nm : ∀ b ∈ NM ps, b ∈ (FD ps).map (·.1)
  rk : ∃ rk : Int → Nat, ∀ x ∈ FD ps, ∀ b ∈ NM x.2, rk b < rk x.1
/-! _law_snippet (slots: 0 _law_draws_here, 1 _law_most, 2 _law_turn, 3 _law_names_here, 4 _law_at, 5 _law_room, 6 _law_known, 7 _law_left, 8 _law_name, 9 _law_piece, 10 _law_free) -/
end DL
set_option Elab.async false
set_option linter.all false
set_option autoImplicit false
set_option maxRecDepth 100000
set_option maxHeartbeats 4000000
/-! M26: what is drawn is a snippet. -/
namespace DL
open PySem PySem.Spec L2
def fnum (p : D) : Option Int := (fldQ p).map (·.1)
def adv (s : LS) (L : List D) : LS := ⟨s.many + L.length, s.fields ++ L.filterMap fnum⟩
structure Bud (s : LS) (L : List D) : Prop where
  many : s.many + L.length ≤ 30
  nd : (s.fields ++ L.filterMap fnum).Nodup
  few : (s.fields ++ L.filterMap fnum).length ≤ 6
theorem Bud.app {s : LS} {a b : List D} (h : Bud s (a ++ b)) : Bud s a ∧ Bud (adv s a) b := by
  obtain ⟨h1, h2, h3⟩ := h
  simp only [List.filterMap_append, List.length_append, ← List.append_assoc] at h1 h2 h3
  refine ⟨⟨by omega, (List.nodup_append.mp h2).1, by simp only [List.length_append]; omega⟩, ⟨?_, h2, ?_⟩⟩
  · show s.many + (a.length : Int) + b.length ≤ 30
    omega
  · show (s.fields ++ a.filterMap fnum ++ b.filterMap fnum).length ≤ 6
    simp only [List.length_append]
    omega
/-! ### names and rings -/
theorem fldOf_row (spot : List D) (p : D) : fldOf (rowD spot p) = fldQ p := by
  unfold fldOf rowD fldQ
  split
  · rename_i heq
    cases heq
    rfl
  · rename_i h1
    split
    · rename_i w n ps
      exact absurd rfl (h1 (.tup spot) w n ps)
    · rfl
theorem fl_FD {ps : List D} (hf : fm 8 ps = true) : flOf (allP 8 ps []) = FD ps := by
  unfold flOf FD
  rw [← allP_flat 8 ps [], List.filterMap_map]
  have key : ∀ rows : List D, (∀ r ∈ rows, ∃ spot p, r = rowD spot p ∧ hasFormB p = true) → rows.filterMap fldOf = rows.filterMap (fldQ ∘ pieceOf) := fun rows => by
    induction rows with
    | nil => intro _; rfl
    | cons row rows ih =>
      intro h
      obtain ⟨spot, p, rfl, _⟩ := h _ List.mem_cons_self
      rw [List.filterMap_cons, List.filterMap_cons, ih fun r hr => h r (List.mem_cons_of_mem _ hr), fldOf_row]
      rfl
  exact key _ (allP_row 8 ps [] hf)
def RkN (as : List Int) (rk : Int → Nat) (S : Nd) : Prop := ∀ a ∈ as, ∀ b ∈ S a, b ∈ as ∧ rk b < rk a
theorem RkN.step {as : List Int} {rk : Int → Nat} {S : Nd} (h : RkN as rk S) (a : Int) (ha : a ∈ as) : RkN as rk (stepN S a) := by
  intro c hc b hb
  unfold stepN at hb
  split at hb
  · rename_i e
    subst e
    rw [mem_addAll, mem_addAll, mem_addAll] at hb
    have hb : b ∈ S c ∨ b ∈ (S c).flatMap S := by simpa using hb
    rcases hb with hb | hb
    · exact h c hc b hb
    · obtain ⟨d, hd, hb⟩ := List.mem_flatMap.mp hb
      have h1 := h c hc d hd
      have h2 := h d h1.1 b hb
      exact ⟨h2.1, by omega⟩
  · exact h c hc b hb
theorem RkN.round {as : List Int} {rk : Int → Nat} : ∀ (l : List Int) (S : Nd), (∀ a ∈ l, a ∈ as) → RkN as rk S → RkN as rk (l.foldl stepN S)
  | [], S, _, h => h
  | a :: l, S, hl, h => RkN.round l _ (fun b hb => hl b (List.mem_cons_of_mem _ hb)) (h.step a (hl a List.mem_cons_self))
theorem RkN.need {as : List Int} {rk : Int → Nat} {S : Nd} (h : RkN as rk S) : RkN as rk (needN as S) := by
  unfold needN
  have : ∀ (l : List Int) (S : Nd), RkN as rk S → RkN as rk (l.foldl (fun S _ => roundN as S) S) := by
    intro l
    induction l with
    | nil => intro S h; exact h
    | cons a l ih => intro S h; exact ih _ (RkN.round as S (fun _ h => h) h)
  exact this as S h
end DL
set_option Elab.async false
set_option linter.all false
set_option autoImplicit false
set_option maxRecDepth 100000
set_option maxHeartbeats 4000000
/-! M27: the look of the law itself: pieces. -/
namespace DL
open PySem PySem.Spec L2
/-! _law_is_integer (slots: 0 _law_thing) -/
/-! _law_are_few (slots: 0 _law_thing) -/
/-! _law_is_piece (slots: 0 _law_thing, 1 _law_shapes, 2 _law_side_here, 3 _law_sign) -/
end DL
set_option Elab.async false
set_option linter.all false
set_option autoImplicit false
set_option maxRecDepth 100000
set_option maxHeartbeats 4000000
/-! M28: the law's own look, by form. -/
namespace DL
open PySem PySem.Spec L2
structure SeAt (mu : Mu) (j f : Nat) (s : LS) : Prop where
  obj : mu[j]? = some (.dct [(.inr "many", .int s.many), (.inr "fields", .cel f)])
  lst : mu[f]? = some (.lst (s.fields.map D.int))
def sePut (mu : Mu) (j f : Nat) (s : LS) : Mu := (mu.set j (.dct [(.inr "many", .int s.many), (.inr "fields", .cel f)])).set f (.lst (s.fields.map D.int))
section
variable {mu : Mu} {j f : Nat} {s s' : LS}
theorem SeAt.ne (h : SeAt mu j f s) : j ≠ f := fun z => by
  have a := h.obj
  rw [z, h.lst] at a
  cases a
theorem SeAt.lt (h : SeAt mu j f s) : j < mu.length ∧ f < mu.length := ⟨(List.getElem?_eq_some_iff.mp h.obj).1, (List.getElem?_eq_some_iff.mp h.lst).1⟩
theorem SeAt.uniq {f' : Nat} (h : SeAt mu j f s) (h' : SeAt mu j f' s') : f = f' ∧ s = s' := by
  have e := h.obj.symm.trans h'.obj
  simp only [Option.some.injEq, Cell.dct.injEq, List.cons.injEq, Prod.mk.injEq, true_and, and_true, D.int.injEq, D.cel.injEq] at e
  obtain ⟨e1, e2⟩ := e
  subst e2
  have e3 := h.lst.symm.trans h'.lst
  simp only [Option.some.injEq, Cell.lst.injEq] at e3
  have : s.fields = s'.fields := (List.map_inj_right (fun a b e => by cases e; rfl)).mp e3
  refine ⟨rfl, ?_⟩
  cases s; cases s'
  simp_all
theorem SeAt.put (h : SeAt mu j f s) (s' : LS) : SeAt (sePut mu j f s') j f s' := by
  have ne := h.ne
  obtain ⟨l1, l2⟩ := h.lt
  constructor
  · unfold sePut
    rw [List.getElem?_set_ne (Ne.symm ne), List.getElem?_set_self l1]
  · unfold sePut
    rw [List.getElem?_set_self (by simpa using l2)]
theorem SeAt.put_self (h : SeAt mu j f s) : sePut mu j f s = mu := by
  unfold sePut
  rw [set_same h.obj, set_same h.lst]
theorem SeAt.put_put (h : SeAt mu j f s) (a b : LS) : sePut (sePut mu j f a) j f b = sePut mu j f b := by
  have ne := h.ne
  unfold sePut
  rw [List.set_comm _ _ (Ne.symm ne), List.set_set, List.set_set]
theorem sePut_len : (sePut mu j f s).length = mu.length := by simp [sePut]
theorem SeAt.same (h : SeAt mu j f s) (s' : LS) : SameK mu (sePut mu j f s') := fun i => by
  unfold tyN sePut
  dsimp only
  obtain ⟨l1, l2⟩ := h.lt
  by_cases e1 : f = i
  · subst e1
    rw [List.getElem?_set_self (by simpa using l2), h.lst]
  · rw [List.getElem?_set_ne e1]
    by_cases e2 : j = i
    · subst e2
      rw [List.getElem?_set_self l1, h.obj]
    · rw [List.getElem?_set_ne e2]
theorem SeAt.clp (h : SeAt mu j f s) (hm : clM mu.length mu) (s' : LS) : clM (sePut mu j f s').length (sePut mu j f s') := by
  rw [sePut_len]
  unfold sePut
  exact clM_set (clM_set hm ⟨trivial, h.lt.2, trivial⟩) (clL_ints _)
theorem SeAt.many (h : SeAt mu j f s) : getD (.cel j) (.str "many") mu = some (.ok (.int s.many), mu) := by
  have e : dctR (.cel j) mu = some [(.inr "many", .int s.many), (.inr "fields", .cel f)] := by
    unfold dctR
    dsimp only
    rw [h.obj]
  unfold getD
  rw [e]
  rfl
theorem SeAt.flds (h : SeAt mu j f s) : getD (.cel j) (.str "fields") mu = some (.ok (.cel f), mu) := by
  have e : dctR (.cel j) mu = some [(.inr "many", .int s.many), (.inr "fields", .cel f)] := by
    unfold dctR
    dsimp only
    rw [h.obj]
  unfold getD
  rw [e]
  rfl
theorem SeAt.app (h : SeAt mu j f s) (n : Int) (hl : s.fields.length ≤ 6) : appM (.cel f) [.int n] mu = some (.ok .non, sePut mu j f { s with fields := s.fields ++ [n] }) := by
  have hl' : s.fields.length < 16777216 := by omega
  simp only [appM, h.lst, List.length_map, hl', if_true]
  congr 2
  unfold sePut
  rw [set_same h.obj]
  simp
theorem SeAt.isl (h : SeAt mu j f s) : isLB (.cel f) mu = true := by
  simp [isLB, lstD, h.lst]
end
/-! _law_wrong (slots: 0 _law_pieces, 1 _law_above, 2 _law_level, 3 _law_seen, 4 _law_at, 5 _law_piece, 6 _law_spot, 7 _law_many, 8 _law_side_here, 9 _law_rows_here, 10 _law_inner_here, 11 _law_found) -/
end DL
set_option Elab.async false
set_option linter.all false
set_option autoImplicit false
set_option maxRecDepth 100000
set_option maxHeartbeats 4000000
/-! M29: the law's own look, whole. -/
namespace DL
open PySem PySem.Spec L2
end DL
set_option Elab.async false
set_option linter.all false
set_option autoImplicit false
set_option maxRecDepth 100000
set_option maxHeartbeats 4000000
/-! M30: the law's own rows. -/
namespace DL
open PySem PySem.Spec L2
/-! _law_rows (slots: 0 _law_pieces, 1 _law_above, 2 _law_found, 3 _law_at, 4 _law_piece, 5 _law_spot, 6 _law_side_here, 7 _law_inner_here) -/
end DL
set_option Elab.async false
set_option linter.all false
set_option autoImplicit false
set_option maxRecDepth 100000
set_option maxHeartbeats 4000000
/-! M31: the law's own names, and what stands inside. -/
namespace DL
open PySem PySem.Spec L2
/-! _law_names (slots: 0 _law_pieces, 1 _law_spot, 2 _law_piece) -/
/-! _law_inside (slots: 0 _law_pieces, 1 _law_found, 2 _law_piece, 3 _law_side_here) -/
end DL
set_option Elab.async false
set_option linter.all false
set_option autoImplicit false
set_option maxRecDepth 100000
set_option maxHeartbeats 4000000
/-! M32: what stands inside: the walk. -/
namespace DL
open PySem PySem.Spec L2
section
variable {F : FS} {mu : Mu} {j n : Nat} {a0 : D}
end
end DL
set_option Elab.async false
set_option linter.all false
set_option autoImplicit false
set_option maxRecDepth 100000
set_option maxHeartbeats 4000000
/-! M33: what is needed, as steps. -/
namespace DL
open PySem PySem.Spec L2
def Rw (S : Nd) : Nat → Int → Int → Prop
  | 0, a, b => b ∈ S a
  | k + 1, a, b => Rw S k a b ∨ ∃ c, Rw S k a c ∧ b ∈ S c
theorem Rw.mono {S : Nd} {a b : Int} {k m : Nat} (h : k ≤ m) (r : Rw S k a b) : Rw S m a b := by
  induction h with
  | refl => exact r
  | step _ ih => exact .inl ih
theorem Rw.trans {S : Nd} {a c : Int} {k : Nat} (r : Rw S k a c) : ∀ {m : Nat} {b : Int}, Rw S m c b → Rw S (k + m + 1) a b
  | 0, b, h => .inr ⟨c, r, h⟩
  | m + 1, b, h => by
    rcases h with h | ⟨d, h, hb⟩
    · exact .inl (Rw.trans r h)
    · exact .inr ⟨d, Rw.trans r h, hb⟩
theorem filter_lt {α : Type} {p q : α → Bool} (hpq : ∀ x, p x = true → q x = true) : ∀ {l : List α} {x : α}, x ∈ l → q x = true → p x = false → (l.filter p).length + 1 ≤ (l.filter q).length
  | y :: l, x, hx, hq, hp => by
    have le : ∀ l : List α, (l.filter p).length ≤ (l.filter q).length := fun l => by
      induction l with
      | nil => simp
      | cons z l ih =>
        rw [List.filter_cons, List.filter_cons]
        cases hz : p z with
        | true => simp [hpq z hz]; exact ih
        | false =>
          simp
          split
          · simp; omega
          · exact ih
    rcases List.mem_cons.mp hx with rfl | hx
    · rw [List.filter_cons, List.filter_cons, hp, hq]
      have := le l
      simp
      exact this
    · have ih := filter_lt hpq hx hq hp
      rw [List.filter_cons, List.filter_cons]
      cases hz : p y with
      | true => simp [hpq y hz]; exact ih
      | false =>
        simp
        split
        · simp; omega
        · exact ih
open Classical in
theorem Rw.stop {S : Nd} {as : List Int} (hc : ∀ a ∈ as, ∀ b ∈ S a, b ∈ as) {a : Int} (ha : a ∈ as) {k : Nat} {b : Int} (r : Rw S k a b) : Rw S as.length a b := by
  have sub : ∀ k b, Rw S k a b → b ∈ as := by
    intro k
    induction k with
    | zero => intro b h; exact hc a ha b h
    | succ k ih =>
      intro b h
      rcases h with h | ⟨c, h, hb⟩
      · exact ih b h
      · exact hc c (ih c h) b hb
  let f : Nat → Nat := fun k => (as.filter fun b => decide (Rw S k a b)).length
  have grow : ∀ k, (∀ b, Rw S (k + 1) a b → Rw S k a b) ∨ f k + 1 ≤ f (k + 1) := by
    intro k
    by_cases h : ∀ b, Rw S (k + 1) a b → Rw S k a b
    · exact .inl h
    · obtain ⟨x, hx⟩ := Classical.not_forall.mp h
      have hx : Rw S (k + 1) a x ∧ ¬ Rw S k a x := by
        by_cases h1 : Rw S (k + 1) a x
        · exact ⟨h1, fun z => hx fun _ => z⟩
        · exact absurd (fun z => absurd z h1) hx
      exact .inr (filter_lt (fun y hy => decide_eq_true (.inl (of_decide_eq_true hy))) (sub _ _ hx.1) (decide_eq_true hx.1) (decide_eq_false hx.2))
  have bound : ∀ k, f k ≤ as.length := fun k => List.length_filter_le _ _
  have stab : ∃ k ≤ as.length, ∀ b, Rw S (k + 1) a b → Rw S k a b := by
    refine Classical.byContradiction fun hno => ?_
    have all : ∀ k, k ≤ as.length + 1 → k ≤ f k := by
      intro k
      induction k with
      | zero => intro _; exact Nat.zero_le _
      | succ k ih =>
        intro hk
        rcases grow k with h | h
        · exact absurd ⟨k, by omega, h⟩ hno
        · have := ih (by omega)
          omega
    have := all (as.length + 1) (Nat.le_refl _)
    have := bound (as.length + 1)
    omega
  obtain ⟨k0, hk0, hs⟩ := stab
  have fin : ∀ m b, Rw S m a b → Rw S k0 a b := by
    intro m
    induction m with
    | zero => intro b h; exact Rw.mono (Nat.zero_le _) h
    | succ m ih =>
      intro b h
      rcases h with h | ⟨c, h, hb⟩
      · exact ih b h
      · exact hs b (.inr ⟨c, ih c h, hb⟩)
  exact Rw.mono hk0 (fin k b r)
/-! ### rounds -/
end DL
set_option Elab.async false
set_option linter.all false
set_option autoImplicit false
set_option maxRecDepth 100000
set_option maxHeartbeats 4000000
/-! M34: does a field need itself: the law's own search. -/
namespace DL
open PySem PySem.Spec L2
structure FlG (fl : Fl2) : Prop where
  fm : ∀ x ∈ fl, fm 8 x.2 = true ∧ (allP 8 x.2 []).length ≤ 100
  nd : (fl.map (·.1)).Nodup
  few : fl.length ≤ 100
  sub : ∀ x ∈ fl, ∀ b ∈ nums x.2, b ∈ fl.map (·.1)
structure Ni (S : Nd) (keys : List Int) (n : Int) (seen left : List Int) : Prop where
  nd : seen.Nodup
  sk : ∀ x ∈ seen, x ∈ keys
  lk : ∀ x ∈ left, x ∈ keys
  ra : ∀ x, x ∈ seen ∨ x ∈ left → ∃ k, Rw S k n x
  c0 : ∀ x ∈ S n, x ∈ seen ∨ x ∈ left
  c1 : ∀ y ∈ seen, ∀ x ∈ S y, x ∈ seen ∨ x ∈ left
theorem Ni.done {S : Nd} {keys : List Int} {n : Int} {seen : List Int} (h : Ni S keys n seen []) (x : Int) : x ∈ seen ↔ ∃ k, Rw S k n x := by
  constructor
  · exact fun hx => h.ra x (.inl hx)
  · rintro ⟨k, r⟩
    have key : ∀ k x, Rw S k n x → x ∈ seen := by
      intro k
      induction k with
      | zero => intro x r; exact (h.c0 x r).resolve_right (by simp)
      | succ k ih =>
        intro x r
        rcases r with r | ⟨c, r, hx⟩
        · exact ih x r
        · exact (h.c1 c (ih c r) x hx).resolve_right (by simp)
    exact key k x r
theorem Ni.old {S : Nd} {keys : List Int} {n x : Int} {seen left : List Int} (h : Ni S keys n seen (left ++ [x])) (hx : x ∈ seen) : Ni S keys n seen left := by
  have mv : ∀ y, y ∈ seen ∨ y ∈ left ++ [x] → y ∈ seen ∨ y ∈ left := fun y hy => by
    rcases hy with hy | hy
    · exact .inl hy
    · rcases List.mem_append.mp hy with hy | hy
      · exact .inr hy
      · rw [List.mem_singleton.mp hy]; exact .inl hx
  exact ⟨h.nd, h.sk, fun y hy => h.lk y (List.mem_append_left _ hy), fun y hy => h.ra y (hy.imp_right (List.mem_append_left _)), fun y hy => mv y (h.c0 y hy), fun z hz y hy => mv y (h.c1 z hz y hy)⟩
theorem Ni.new {S : Nd} {keys : List Int} {n x : Int} {seen left more : List Int} (h : Ni S keys n seen (left ++ [x])) (hx : x ∉ seen) (hm : ∀ y, y ∈ more ↔ y ∈ S x) (hc : ∀ y ∈ more, y ∈ keys) : Ni S keys n (seen ++ [x]) (left ++ more) := by
  have mv : ∀ y, y ∈ seen ∨ y ∈ left ++ [x] → y ∈ seen ++ [x] ∨ y ∈ left ++ more := fun y hy => by
    rcases hy with hy | hy
    · exact .inl (List.mem_append_left _ hy)
    · rcases List.mem_append.mp hy with hy | hy
      · exact .inr (List.mem_append_left _ hy)
      · exact .inl (List.mem_append_right _ hy)
  obtain ⟨kx, rx⟩ := h.ra x (.inr (by simp))
  refine ⟨?_, fun y hy => ?_, fun y hy => ?_, fun y hy => ?_, fun y hy => mv y (h.c0 y hy), fun z hz y hy => ?_⟩
  · rw [List.nodup_append]
    exact ⟨h.nd, by simp, fun a ha b hb => by rw [List.mem_singleton.mp hb]; exact fun z => hx (z ▸ ha)⟩
  · rcases List.mem_append.mp hy with hy | hy
    · exact h.sk y hy
    · rw [List.mem_singleton.mp hy]; exact h.lk x (by simp)
  · rcases List.mem_append.mp hy with hy | hy
    · exact h.lk y (List.mem_append_left _ hy)
    · exact hc y hy
  · rcases hy with hy | hy
    · rcases List.mem_append.mp hy with hy | hy
      · exact h.ra y (.inl hy)
      · rw [List.mem_singleton.mp hy]; exact ⟨kx, rx⟩
    · rcases List.mem_append.mp hy with hy | hy
      · exact h.ra y (.inr (List.mem_append_left _ hy))
      · exact ⟨kx + 1, .inr ⟨x, rx, (hm y).mp hy⟩⟩
  · rcases List.mem_append.mp hz with hz | hz
    · exact mv y (h.c1 z hz y hy)
    · rw [List.mem_singleton.mp hz] at hy
      exact .inr (List.mem_append_right _ ((hm y).mpr hy))
end DL
set_option Elab.async false
set_option linter.all false
set_option autoImplicit false
set_option maxRecDepth 100000
set_option maxHeartbeats 4000000
/-! M35: does a field need itself: the walk. -/
namespace DL
open PySem PySem.Spec L2
/-! _law_needs_itself (slots: 0 _law_fields, 1 _law_number, 2 _law_seen, 3 _law_left, 4 _law_one_here) -/
end DL
set_option Elab.async false
set_option linter.all false
set_option autoImplicit false
set_option maxRecDepth 100000
set_option maxHeartbeats 4000000
/-! M36: facts behind a look that finds nothing wrong. -/
namespace DL
open PySem PySem.Spec L2
end DL
set_option Elab.async false
set_option linter.all false
set_option autoImplicit false
set_option maxRecDepth 100000
set_option maxHeartbeats 4000000
/-! M37: what the law says is due. -/
namespace DL
open PySem PySem.Spec L2
/-! _law_due (slots: 0 _law_thing, 1 _law_wrong_here, 2 _law_lost, 3 _law_some, 4 _law_rings, 5 _law_rows_here, 6 _law_fields, 7 _law_spot, 8 _law_piece, 9 _law_number) -/
theorem dict0_ev {rho : Rho} {mu : Mu} : eDict0 rho mu = some (.ok (.cel mu.length), mu ++ [.dct []]) := rfl
end DL
set_option Elab.async false
set_option linter.all false
set_option autoImplicit false
set_option maxRecDepth 100000
set_option maxHeartbeats 4000000
/-! M38: what is due, the walk. -/
namespace DL
open PySem PySem.Spec L2
/-- a row of a field: its spot and number -/
def sn (r : D) : D := match fldOf r with
  | some x => .tup [.tup (spotOf r), .int x.1]
  | none => .non
end DL
set_option Elab.async false
set_option linter.all false
set_option autoImplicit false
set_option maxRecDepth 100000
set_option maxHeartbeats 4000000
/-! M39: data that repr takes. -/
namespace DL
open PySem PySem.Spec L2
theorem cP_app {mu g : Mu} : ∀ (n j : Nat) (p : PyData), cP mu n j = some p → cP (mu ++ g) n j = some p := by
  have key : ∀ (rc rc' : Nat → Option PyData), (∀ j p, rc j = some p → rc' j = some p) → ∀ d : D, ∀ p, dP rc d = some p → dP rc' d = some p := by
    intro rc rc' h d
    refine D.rec (motive_1 := fun d => ∀ p, dP rc d = some p → dP rc' d = some p) (motive_2 := fun ds => ∀ ps, dPs rc ds = some ps → dPs rc' ds = some ps) ?_ ?_ ?_ ?_ ?_ ?_ ?_ ?_ ?_ ?_ ?_ d
    · intro p e; unfold dP at e ⊢; exact e
    · intro b p e; unfold dP at e ⊢; exact e
    · intro b p e; unfold dP at e ⊢; exact e
    · intro b p e; unfold dP at e ⊢; exact e
    · intro b p e; unfold dP at e; cases e
    · intro xs ih p e
      unfold dP at e ⊢
      obtain ⟨ps, e1, e2⟩ := Option.map_eq_some_iff.mp e
      rw [ih ps e1]
      exact Option.map_eq_some_iff.mpr ⟨ps, rfl, e2⟩
    · intro j p e; unfold dP at e ⊢; exact h j p e
    · intro b p e; unfold dP at e; cases e
    · intro xs ih p e
      unfold dP at e ⊢
      obtain ⟨ps, e1, e2⟩ := Option.map_eq_some_iff.mp e
      rw [ih ps e1]
      exact Option.map_eq_some_iff.mpr ⟨ps, rfl, e2⟩
    · intro ps e; unfold dPs at e ⊢; exact e
    · intro x xs h1 h2 ps e
      unfold dPs at e ⊢
      split at e
      · rename_i a b e1 e2
        rw [h1 a e1, h2 b e2]
        exact e
      · cases e
  have keys : ∀ (rc rc' : Nat → Option PyData), (∀ j p, rc j = some p → rc' j = some p) → ∀ ds : List D, ∀ ps, dPs rc ds = some ps → dPs rc' ds = some ps := by
    intro rc rc' h ds
    induction ds with
    | nil => intro ps e; unfold dPs at e ⊢; exact e
    | cons x xs ih =>
      intro ps e
      unfold dPs at e ⊢
      split at e
      · rename_i a b e1 e2
        rw [key rc rc' h x a e1, ih b e2]
        exact e
      · cases e
  intro n
  induction n with
  | zero => intro j p e; unfold cP at e; cases e
  | succ n ih =>
    intro j p e
    unfold cP at e ⊢
    cases hj : mu[j]? with
    | none => rw [hj] at e; cases e
    | some c =>
      rw [List.getElem?_append_left (List.getElem?_eq_some_iff.mp hj).1, hj]
      rw [hj] at e
      split at e
      · rename_i xs ex
        cases ex
        obtain ⟨ps, e1, e2⟩ := Option.map_eq_some_iff.mp e
        rw [keys _ _ ih xs ps e1]
        exact Option.map_eq_some_iff.mpr ⟨ps, rfl, e2⟩
      · rename_i ex
        cases ex
        exact e
      · cases e
mutual
theorem dP_mono {rc rc' : Nat → Option PyData} (h : ∀ j p, rc j = some p → rc' j = some p) : ∀ (d : D) (p : PyData), dP rc d = some p → dP rc' d = some p
  | .non, p, e => by unfold dP at e ⊢; exact e
  | .bl _, p, e => by unfold dP at e ⊢; exact e
  | .int _, p, e => by unfold dP at e ⊢; exact e
  | .str _, p, e => by unfold dP at e ⊢; exact e
  | .ty _, p, e => by unfold dP at e; cases e
  | .adr _, p, e => by unfold dP at e; cases e
  | .cel j, p, e => by unfold dP at e ⊢; exact h j p e
  | .tup xs, p, e => by
    unfold dP at e ⊢
    obtain ⟨ps, e1, e2⟩ := Option.map_eq_some_iff.mp e
    rw [dPs_mono h xs ps e1]
    exact Option.map_eq_some_iff.mpr ⟨ps, rfl, e2⟩
  | .fl xs, p, e => by
    unfold dP at e ⊢
    obtain ⟨ps, e1, e2⟩ := Option.map_eq_some_iff.mp e
    rw [dPs_mono h xs ps e1]
    exact Option.map_eq_some_iff.mpr ⟨ps, rfl, e2⟩
theorem dPs_mono {rc rc' : Nat → Option PyData} (h : ∀ j p, rc j = some p → rc' j = some p) : ∀ (ds : List D) (ps : List PyData), dPs rc ds = some ps → dPs rc' ds = some ps
  | [], ps, e => by unfold dPs at e ⊢; exact e
  | x :: xs, ps, e => by
    unfold dPs at e ⊢
    split at e
    · rename_i a b e1 e2
      rw [dP_mono h x a e1, dPs_mono h xs b e2]
      exact e
    · cases e
end
/-- repr takes it, with bounds -/
structure Fine (w dp : Nat) (p : PyData) : Prop where
  s : p.showable = true
  l : p.leavesShort 40 = true
  w : p.weight ≤ w
  d : p.depth ≤ dp
structure FineL (w dp : Nat) (ps : List PyData) : Prop where
  s : PyData.showableAll ps = true
  l : PyData.leavesShortAll 40 ps = true
  w : PyData.weightAll ps ≤ w
  d : PyData.depthAll ps ≤ dp
def Sees (mu : Mu) (d : D) (p : PyData) : Prop := ∀ n, 2 ≤ n → dP (cP mu n) d = some p
def SeesL (mu : Mu) (ds : List D) (ps : List PyData) : Prop := ∀ n, 2 ≤ n → dPs (cP mu n) ds = some ps
def Fit (mu : Mu) (w dp : Nat) (d : D) : Prop := wk mu d = true ∧ ∃ p, Sees mu d p ∧ Fine w dp p
def FitL (mu : Mu) (w dp : Nat) (ds : List D) : Prop := wkL mu ds = true ∧ ∃ ps, SeesL mu ds ps ∧ FineL w dp ps
section
variable {mu g : Mu} {w w1 w2 dp dp1 dp2 : Nat} {d : D} {ds es : List D}
theorem Sees.app {p : PyData} (h : Sees mu d p) : Sees (mu ++ g) d p := fun n hn => dP_mono (fun j p e => cP_app n j p e) d p (h n hn)
theorem Fit.app (h : Fit mu w dp d) : Fit (mu ++ g) w dp d := by
  obtain ⟨h1, p, h2, h3⟩ := h
  exact ⟨wk_app d h1, p, h2.app, h3⟩
theorem Fit.mono (h : Fit mu w dp d) (hw : w ≤ w1) (hd : dp ≤ dp1) : Fit mu w1 dp1 d := by
  obtain ⟨h1, p, h2, h3⟩ := h
  exact ⟨h1, p, h2, h3.s, h3.l, Nat.le_trans h3.w hw, Nat.le_trans h3.d hd⟩
theorem FitL.mono (h : FitL mu w dp ds) (hw : w ≤ w1) (hd : dp ≤ dp1) : FitL mu w1 dp1 ds := by
  obtain ⟨h1, p, h2, h3⟩ := h
  exact ⟨h1, p, h2, h3.s, h3.l, Nat.le_trans h3.w hw, Nat.le_trans h3.d hd⟩
theorem FitL.nil : FitL mu w dp [] := ⟨wkL_nil, [], fun n _ => by unfold dPs; rfl, by simp [PyData.showableAll], by simp [PyData.leavesShortAll], by simp [PyData.weightAll], by simp [PyData.depthAll]⟩
theorem FitL.cons (h : Fit mu w1 dp d) (h2 : FitL mu w2 dp ds) : FitL mu (w1 + 1 + w2) dp (d :: ds) := by
  obtain ⟨a1, p, a2, a3⟩ := h
  obtain ⟨b1, ps, b2, b3⟩ := h2
  refine ⟨by rw [wkL_cons, a1, b1]; rfl, p :: ps, fun n hn => ?_, ?_, ?_, ?_, ?_⟩
  · unfold dPs; rw [a2 n hn, b2 n hn]
  · simp [PyData.showableAll, a3.s, b3.s]
  · simp [PyData.leavesShortAll, a3.l, b3.l]
  · simp only [PyData.weightAll]; have := a3.w; have := b3.w; omega
  · simp only [PyData.depthAll]; have := a3.d; have := b3.d; omega
theorem FitL.inv (h : FitL mu w dp (d :: ds)) : ∃ w1 w2, w1 + 1 + w2 ≤ w ∧ Fit mu w1 dp d ∧ FitL mu w2 dp ds := by
  obtain ⟨h1, qs, h2, h3⟩ := h
  rw [wkL_cons, Bool.and_eq_true] at h1
  have e2 := h2 2 (Nat.le_refl _)
  unfold dPs at e2
  split at e2
  · rename_i p ps ea eb
    cases e2
    obtain ⟨hs, hl, hw, hd⟩ := h3
    simp only [PyData.showableAll, PyData.leavesShortAll, PyData.weightAll, PyData.depthAll, Bool.and_eq_true] at hs hl hw hd
    refine ⟨p.weight, PyData.weightAll ps, hw, ⟨h1.1, p, fun n hn => ?_, hs.1, hl.1, Nat.le_refl _, by omega⟩, h1.2, ps, fun n hn => ?_, hs.2, hl.2, Nat.le_refl _, by omega⟩
    · have := h2 n hn
      unfold dPs at this
      split at this
      · rename_i e1 e2
        cases this
        exact e1
      · cases this
    · have := h2 n hn
      unfold dPs at this
      split at this
      · rename_i e1 e2
        cases this
        exact e2
      · cases this
  · cases e2
theorem FitL.app2 (h : FitL mu w1 dp ds) (h2 : FitL mu w2 dp es) : FitL mu (w1 + w2) dp (ds ++ es) := by
  induction ds generalizing w1 with
  | nil => exact h2.mono (by omega) (Nat.le_refl _)
  | cons d ds ih =>
    obtain ⟨a, b, hab, ha, hb⟩ := h.inv
    exact (FitL.cons ha (ih hb)).mono (by omega) (Nat.le_refl _)
theorem FitL.split (h : FitL mu w dp (ds ++ es)) : ∃ w1 w2, w1 + w2 ≤ w ∧ FitL mu w1 dp ds ∧ FitL mu w2 dp es := by
  induction ds generalizing w with
  | nil => exact ⟨0, w, by omega, FitL.nil, h⟩
  | cons d ds ih =>
    obtain ⟨a, b, hab, ha, hb⟩ := FitL.inv (ds := ds ++ es) h
    obtain ⟨w1, w2, h12, h1, h2⟩ := ih hb
    exact ⟨a + 1 + w1, w2, by omega, FitL.cons ha h1, h2⟩
theorem Fit.tup (h : FitL mu w dp ds) : Fit mu w (dp + 1) (.tup ds) := by
  obtain ⟨h1, ps, h2, h3⟩ := h
  refine ⟨by rw [wk_tup]; exact h1, .tuple ps, fun n hn => ?_, ?_, ?_, ?_, ?_⟩
  · unfold dP; rw [h2 n hn]; rfl
  · simp only [PyData.showable]; exact h3.s
  · simp only [PyData.leavesShort]; exact h3.l
  · simp only [PyData.weight]; exact h3.w
  · simp only [PyData.depth]; have := h3.d; omega
theorem Fit.untup (h : Fit mu w dp (.tup ds)) : ∃ dp', dp = dp' + 1 ∧ FitL mu w dp' ds := by
  obtain ⟨h1, p, h2, h3⟩ := h
  rw [wk_tup] at h1
  have e := h2 2 (Nat.le_refl _)
  unfold dP at e
  obtain ⟨ps, e1, rfl⟩ := Option.map_eq_some_iff.mp e
  obtain ⟨hs, hl, hw, hd⟩ := h3
  simp only [PyData.showable, PyData.leavesShort, PyData.weight, PyData.depth] at hs hl hw hd
  refine ⟨dp - 1, by omega, h1, ps, fun n hn => ?_, hs, hl, hw, by omega⟩
  have := h2 n hn
  unfold dP at this
  obtain ⟨qs, e2, e3⟩ := Option.map_eq_some_iff.mp this
  cases e3
  exact e2
theorem Fit.non : Fit mu w dp .non := ⟨by unfold wk; rfl, .none, fun n _ => by unfold dP; rfl, by simp [PyData.showable], by simp [PyData.leavesShort], by simp [PyData.weight], by simp [PyData.depth]⟩
theorem Fit.bl {b : Bool} : Fit mu w dp (.bl b) := ⟨by unfold wk; rfl, .bool b, fun n _ => by unfold dP; rfl, by simp [PyData.showable], by simp [PyData.leavesShort], by simp [PyData.weight], by simp [PyData.depth]⟩
theorem Fit.int {i : Int} (h : (decide (i.natAbs.log2 < 1920) && decide ((PyData.shown (.int i)).length ≤ 40)) = true) (hw : (if i == 0 then 0 else i.natAbs.log2 + 1) ≤ w) : Fit mu w dp (.int i) := by
  rw [Bool.and_eq_true] at h
  exact ⟨by unfold wk; rfl, .int i, fun n _ => by unfold dP; rfl, by simpa [PyData.showable] using h.1, by simpa only [PyData.leavesShort] using h.2, by simpa [PyData.weight] using hw, by simp [PyData.depth]⟩
theorem Fit.str {z : Str} (h : z.cps.toList.all (fun c => decide (c < 16 ^ 8)) = true) (hw : z.cps.size ≤ w) (hw2 : w ≤ 16777216) : Fit mu w dp (.str z) := by
  refine ⟨by rw [wk_str]; exact decide_eq_true (Nat.le_trans hw hw2), .str z, fun n _ => by unfold dP; rfl, by simp [PyData.showable], by simpa only [PyData.leavesShort] using h, by simpa [PyData.weight] using hw, by simp [PyData.depth]⟩
/-- a list of plain things -/
theorem Fit.cel {j : Nat} {xs : List D} {ps : List PyData} (hj : mu[j]? = some (.lst xs)) (h : ∀ rc, dPs rc xs = some ps) (hf : FineL w dp ps) : Fit mu w (dp + 1) (.cel j) := by
  refine ⟨?_, .list ps, fun n hn => ?_, ?_, ?_, ?_, ?_⟩
  · unfold wk tyN; simp [hj]
  · obtain ⟨m, rfl⟩ : ∃ m, n = m + 1 := ⟨n - 1, by omega⟩
    unfold dP cP
    rw [hj]
    dsimp only
    rw [h]
    rfl
  · simp only [PyData.showable]; exact hf.s
  · simp only [PyData.leavesShort]; exact hf.l
  · simp only [PyData.weight]; exact hf.w
  · simp only [PyData.depth]; have := hf.d; omega
theorem Fit.dct {j : Nat} (hj : mu[j]? = some (.dct [])) : Fit mu w (dp + 1) (.cel j) := by
  refine ⟨?_, .dict [], fun n hn => ?_, ?_, ?_, ?_, ?_⟩
  · unfold wk tyN; simp [hj]
  · obtain ⟨m, rfl⟩ : ∃ m, n = m + 1 := ⟨n - 1, by omega⟩
    unfold dP cP
    rw [hj]
  · simp [PyData.showable, PyData.showableKv]
  · simp [PyData.leavesShort, PyData.leavesShortKv]
  · simp [PyData.weight, PyData.weightKv]
  · simp [PyData.depth, PyData.depthKv]
theorem Fine.len {p : PyData} (h : Fine w dp p) (hw : w ≤ 300000) : p.shown.length ≤ sizeLine := by
  have := PyData.shown_le 40 (by decide) p h.l
  have := h.w
  have e : sizeLine = 16777216 := by decide
  omega
/-- repr of what fits -/
theorem repr_fit {p : PyData} (h : Sees mu d p) (hf : Fine w dp p) (hw : w ≤ 300000) (hd : dp ≤ 100) : reprG [d] mu = some (.ok (.str p.shown), mu) := by
  show (match toP mu d with | some p => if p.showable = true ∧ p.shown.length ≤ sizeLine ∧ p.depth ≤ 100 then some (Rs.ok (.str p.shown), mu) else none | none => none) = _
  have e : toP mu d = some p := h 12 (by decide)
  rw [e]
  dsimp only
  rw [if_pos ⟨hf.s, hf.len hw, Nat.le_trans hf.d hd⟩]
/-- .. of a list of such -/
theorem repr_lst {j : Nat} {ps : List PyData} (hj : mu[j]? = some (.lst ds)) (h : SeesL mu ds ps) (hf : FineL w dp ps) (hw : w ≤ 300000) (hd : dp ≤ 99) : reprG [.cel j] mu = some (.ok (.str (PyData.list ps).shown), mu) := by
  show (match toP mu (.cel j) with | some p => if p.showable = true ∧ p.shown.length ≤ sizeLine ∧ p.depth ≤ 100 then some (Rs.ok (.str p.shown), mu) else none | none => none) = _
  have e : toP mu (.cel j) = some (.list ps) := by
    show dP (cP mu 12) (.cel j) = _
    unfold dP cP
    rw [hj]
    dsimp only
    rw [h 11 (by decide)]
    rfl
  rw [e]
  dsimp only
  have f : Fine w (dp + 1) (.list ps) := ⟨by simp only [PyData.showable]; exact hf.s, by simp only [PyData.leavesShort]; exact hf.l, by simp only [PyData.weight]; exact hf.w, by simp only [PyData.depth]; have := hf.d; omega⟩
  rw [if_pos ⟨f.s, f.len hw, Nat.le_trans f.d (by omega)⟩]
end
end DL
set_option Elab.async false
set_option linter.all false
set_option autoImplicit false
set_option maxRecDepth 100000
set_option maxHeartbeats 4000000
/-! M40: spots are small; what need_snippet does; _law_right. -/
namespace DL
open PySem PySem.Spec L2
def Spt (c : Nat) (s : List D) : Prop := s.length ≤ c ∧ ∀ x ∈ s, ∃ n : Nat, n ≤ 8 ∧ x = .int n
theorem Spt.mono {c c' : Nat} {s : List D} (h : Spt c s) (hc : c ≤ c') : Spt c' s := ⟨Nat.le_trans h.1 hc, h.2⟩
theorem Spt.snoc {c k : Nat} {s : List D} (h : Spt c s) (hk : k ≤ 8) : Spt (c + 1) (s ++ [.int (k : Nat)]) := by
  refine ⟨by simp; exact h.1, fun x hx => ?_⟩
  rcases List.mem_append.mp hx with hx | hx
  · exact h.2 x hx
  · exact ⟨k, hk, List.mem_singleton.mp hx⟩
theorem Spt.nil : Spt 0 [] := ⟨by simp, fun _ h => nomatch h⟩
theorem Spt.inB {c k : Nat} {s : List D} {p : D} (h : Spt c s) (hk : k ≤ 8) : Spt (c + 1) (spotB s p (k : Nat)) := by
  unfold spotB
  repeat' split
  · exact h.mono (by omega)
  · exact h.snoc hk
  · exact h.mono (by omega)
theorem ins_few {p : D} (h : hasFormB p = true) : (insB p).length ≤ 2 ∧ ∀ x ∈ insB p, ∀ inner, x = .tup inner → inner.length ≤ 8 := by
  rcases form4 h with ⟨z, rfl, _⟩ | ⟨n, z, rfl, _, _⟩ | ⟨n, a, rfl, _, h1⟩ | ⟨n, a, b, rfl, _, h1, h2⟩
  · exact ⟨by simp [insB], fun x hx => by simp [insB] at hx⟩
  · exact ⟨by simp [insB], fun x hx => by simp [insB] at hx⟩
  · rw [ins_field]
    exact ⟨by simp, fun x hx inner e => by rw [List.mem_singleton.mp hx] at e; cases e; exact h1⟩
  · rw [ins_when]
    refine ⟨by simp, fun x hx inner e => ?_⟩
    simp only [List.mem_cons, List.not_mem_nil, or_false] at hx
    rcases hx with rfl | rfl
    · cases e; exact h1
    · cases e; exact h2
theorem pcsP_sp {c m : Nat} {rec : List D → List D → List D} {G : List D → Prop} (hr : ∀ ps ab c, G ps → ps.length ≤ 8 → Spt c ab → ∀ row ∈ rec ps ab, Spt (c + m) (spotOf row)) {above : List D} (hs : Spt c above) : ∀ (r : List D) (k : Nat), k + r.length ≤ 8 → (∀ p ∈ r, hasFormB p = true ∧ ∀ x ∈ insB p, ∃ inner, x = .tup inner ∧ G inner) → ∀ row ∈ pcsP rec above k r, Spt (c + 2 + m) (spotOf row)
  | [], k, _, _, row, h => by simp [pcsP] at h
  | x :: r, k, hk, hx, row, h => by
    simp only [List.length_cons] at hk
    have hs' := hs.snoc (k := k) (by omega)
    unfold pcsP at h
    rw [List.mem_cons, List.mem_append] at h
    obtain ⟨hf, hg⟩ := hx x List.mem_cons_self
    rcases h with rfl | h | h
    · exact hs'.mono (by omega)
    · have hi := ins_few hf
      have key : ∀ (r : List D) (k : Nat), k + r.length ≤ 8 → (∀ y ∈ r, y ∈ insB x) → ∀ row ∈ sidesP rec (above ++ [.int (k : Nat)]) x k r, True := fun _ _ _ _ _ _ => trivial
      have go : ∀ (l : List D) (j : Nat), j + l.length ≤ 8 → (∀ y ∈ l, y ∈ insB x) → ∀ row ∈ sidesP rec (above ++ [.int (k : Nat)]) x j l, Spt (c + 2 + m) (spotOf row) := by
        intro l
        induction l with
        | nil => intro j _ _ row h; simp [sidesP] at h
        | cons y l ih =>
          intro j hj hy row h
          simp only [List.length_cons] at hj
          unfold sidesP at h
          rw [List.mem_append] at h
          rcases h with h | h
          · obtain ⟨inner, rfl, hG⟩ := hg y (hy y List.mem_cons_self)
            exact (hr inner _ _ hG (hi.2 _ (hy _ List.mem_cons_self) inner rfl) (hs'.inB (by omega)) row h).mono (by omega)
          · exact ih (j + 1) (by omega) (fun z hz => hy z (List.mem_cons_of_mem _ hz)) row h
      exact go (insB x) 0 (by omega) (fun _ h => h) row h
    · exact pcsP_sp hr hs r (k + 1) (by omega) (fun y hy => hx y (List.mem_cons_of_mem _ hy)) row h
theorem allP_sp : ∀ (n : Nat) (ps ab : List D) (c : Nat), fm n ps = true → ps.length ≤ 8 → Spt c ab → ∀ row ∈ allP n ps ab, Spt (c + 2 * n) (spotOf row)
  | 0, ps, ab, c, hf, _, _, row, h => by simp [allP] at h
  | n + 1, ps, ab, c, hf, hl, hs, row, h => by
    refine (pcsP_sp (m := 2 * n) (G := fun ps => fm n ps = true) (fun ps ab c hf hl hs => allP_sp n ps ab c hf hl hs) hs ps 0 (by simpa using hl) (fun p hp => ?_) row h).mono (by omega)
    exact fm_at hf hp
theorem small8 : ∀ n : Nat, n ≤ 8 → ((decide ((n : Int).natAbs.log2 < 1920) && decide ((PyData.shown (.int (n : Int))).length ≤ 40)) = true) ∧ (if (n : Int) == 0 then 0 else (n : Int).natAbs.log2 + 1) ≤ 4 := by
  intro n h
  match n, h with
  | 0, _ => decide +kernel
  | 1, _ => decide +kernel
  | 2, _ => decide +kernel
  | 3, _ => decide +kernel
  | 4, _ => decide +kernel
  | 5, _ => decide +kernel
  | 6, _ => decide +kernel
  | 7, _ => decide +kernel
  | 8, _ => decide +kernel
theorem Spt.fit {mu : Mu} {dp : Nat} : ∀ {c : Nat} {s : List D}, Spt c s → FitL mu (5 * c) dp s
  | c, [], _ => FitL.nil
  | 0, x :: s, h => by have := h.1; simp at this
  | c + 1, x :: s, h => by
    obtain ⟨n, hn, rfl⟩ := h.2 x List.mem_cons_self
    have := small8 n hn
    have h1 : Fit mu 4 dp (.int n) := Fit.int this.1 this.2
    have h2 : FitL mu (5 * c) dp s := Spt.fit ⟨by have := h.1; simp at this; omega, fun y hy => h.2 y (List.mem_cons_of_mem _ hy)⟩
    exact (FitL.cons h1 h2).mono (by omega) (Nat.le_refl _)
/-! _law_told (slots: 0 _law_thing, 1 e, 2 _law_found, 3 _law_caught) -/
open Classical in
/-! _law_right (slots: 0 _law_thing, 1 _law_want, 2 _law_turn, 3 _law_due_here, 4 _law_kept, 5 _law_told_here, 6 _law_found) -/
open Classical in
theorem strF {mu : Mu} {w dp : Nat} (z : Str) (h : (z.cps.toList.all (fun c => decide (c < 16 ^ 8)) && decide (z.cps.size ≤ 10)) = true) (hw : 10 ≤ w) (hw2 : w ≤ 16777216) : Fit mu w dp (.str z) := by
  rw [Bool.and_eq_true] at h
  exact Fit.str h.1 (Nat.le_trans (of_decide_eq_true h.2) hw) hw2
end DL
set_option Elab.async false
set_option linter.all false
set_option autoImplicit false
set_option maxRecDepth 100000
set_option maxHeartbeats 4000000
/-! M41: things bent. -/
namespace DL
open PySem PySem.Spec L2
/-- a thing with something put otherwise -/
inductive Bent (os : List D) : D → D → Prop
  | odd {d o : D} : o ∈ os → Bent os d o
  | cut {a b : List D} {x : D} : Bent os (.tup (a ++ x :: b)) (.tup (a ++ b))
  | dbl {a b : List D} {x : D} : Bent os (.tup (a ++ x :: b)) (.tup (a ++ x :: x :: b))
  | put {a b : List D} {x o : D} : o ∈ os → Bent os (.tup (a ++ x :: b)) (.tup (a ++ o :: x :: b))
  | inn {a b : List D} {x y : D} : Bent os x y → Bent os (.tup (a ++ x :: b)) (.tup (a ++ y :: b))
theorem Bent.cl {os : List D} {d d' : D} {n : Nat} (h : Bent os d d') (ho : clL n os) (hd : DL.cl n d) : DL.cl n d' := by
  induction h with
  | odd h => exact clL_iff.mp ho _ h
  | cut =>
    simp only [DL.cl, clL_app, clL] at hd ⊢
    exact ⟨hd.1, hd.2.2⟩
  | dbl =>
    simp only [DL.cl, clL_app, clL] at hd ⊢
    exact ⟨hd.1, hd.2.1, hd.2.1, hd.2.2⟩
  | put h =>
    simp only [DL.cl, clL_app, clL] at hd ⊢
    exact ⟨hd.1, clL_iff.mp ho _ h, hd.2.1, hd.2.2⟩
  | inn h ih =>
    simp only [DL.cl, clL_app, clL] at hd ⊢
    exact ⟨hd.1, ih hd.2.1, hd.2.2⟩
theorem Bent.fit {os : List D} {d d' : D} {mu : Mu} {c : Nat} (h : Bent os d d') (ho : ∀ o ∈ os, Fit mu c 3 o) : ∀ {w dp : Nat}, Fit mu w dp d → Fit mu (2 * w + c + 1) (dp + 3) d' := by
  induction h with
  | odd h => exact fun _ => (ho _ h).mono (by omega) (by omega)
  | cut =>
    intro w dp hf
    obtain ⟨dp', rfl, h1⟩ := hf.untup
    obtain ⟨w1, w2, h12, ha, hxb⟩ := h1.split
    obtain ⟨w3, w4, h34, hx, hb⟩ := hxb.inv
    exact (Fit.tup (ha.app2 hb)).mono (by omega) (by omega)
  | dbl =>
    intro w dp hf
    obtain ⟨dp', rfl, h1⟩ := hf.untup
    obtain ⟨w1, w2, h12, ha, hxb⟩ := h1.split
    obtain ⟨w3, w4, h34, hx, hb⟩ := hxb.inv
    exact (Fit.tup (ha.app2 (FitL.cons hx (FitL.cons hx hb)))).mono (by omega) (by omega)
  | put h =>
    intro w dp hf
    obtain ⟨dp', rfl, h1⟩ := hf.untup
    obtain ⟨w1, w2, h12, ha, hxb⟩ := h1.split
    exact (Fit.tup ((ha.mono (Nat.le_refl _) (by omega : dp' ≤ dp' + 3)).app2 (FitL.cons ((ho _ h).mono (Nat.le_refl _) (by omega : 3 ≤ dp' + 3)) (hxb.mono (Nat.le_refl _) (by omega))))).mono (by omega) (by omega)
  | inn h ih =>
    intro w dp hf
    obtain ⟨dp', rfl, h1⟩ := hf.untup
    obtain ⟨w1, w2, h12, ha, hxb⟩ := h1.split
    obtain ⟨w3, w4, h34, hx, hb⟩ := hxb.inv
    exact (Fit.tup ((ha.mono (Nat.le_refl _) (by omega : dp' ≤ dp' + 3)).app2 (FitL.cons (ih hx) (hb.mono (Nat.le_refl _) (by omega))))).mono (by omega) (by omega)
theorem FitL.len {mu : Mu} {dp : Nat} : ∀ {ds : List D} {w : Nat}, FitL mu w dp ds → ds.length ≤ w
  | [], w, _ => Nat.zero_le _
  | d :: ds, w, h => by
    obtain ⟨w1, w2, h12, h1, h2⟩ := h.inv
    have := h2.len
    simp only [List.length_cons]
    omega
theorem eqA_tup0 {mu : Mu} {xs : List D} : eqA (.tup xs) (.tup []) mu = some (.ok (.bl xs.isEmpty), mu) := by
  unfold eqA eqLD
  simp [eqE, okD]
theorem sl_from {mu : Mu} {xs : List D} {i : Nat} (h : i ≤ xs.length) : slD (.tup xs) (some (i : Int)) none mu = some (.ok (.tup (xs.drop i)), mu) := by
  show okD (.tup (cutD xs (some (i : Int)) none)) mu = _
  rw [cut_from h]
/-! _law_bent (slots: 0 _law_draws_here, 1 _law_thing, 2 _law_odds_here, 3 _law_at, 4 _law_way) -/
theorem FitL.mem {mu : Mu} {w dp : Nat} {ds : List D} {x : D} (h : FitL mu w dp ds) (hx : x ∈ ds) : Fit mu w dp x := by
  obtain ⟨a, b, rfl⟩ := List.append_of_mem hx
  obtain ⟨w1, w2, h12, ha, hxb⟩ := h.split
  obtain ⟨w3, w4, h34, h, hb⟩ := hxb.inv
  exact h.mono (by omega) (Nat.le_refl _)
end DL
set_option Elab.async false
set_option linter.all false
set_option autoImplicit false
set_option maxRecDepth 100000
set_option maxHeartbeats 4000000
/-! M42: snippets fit; odd things. -/
namespace DL
open PySem PySem.Spec L2
mutual
theorem wk_clsd {mu : Mu} : ∀ (d : D), wk [] d = true → wk mu d = true
  | .tup xs, h => by rw [wk_tup] at h ⊢; exact wkL_clsd xs h
  | .str z, h => by rw [wk_str] at h ⊢; exact h
  | .cel j, h => by unfold wk tyN at h; simp at h
  | .non, h => by unfold wk; rfl
  | .bl _, h => by unfold wk; rfl
  | .int _, h => by unfold wk; rfl
  | .ty _, h => by unfold wk at h; exact h
  | .adr _, h => by unfold wk at h; exact h
  | .fl _, h => by unfold wk at h; exact h
theorem wkL_clsd {mu : Mu} : ∀ (xs : List D), wkL [] xs = true → wkL mu xs = true
  | [], h => by simp
  | x :: xs, h => by
    rw [wkL_cons, Bool.and_eq_true] at h ⊢
    exact ⟨wk_clsd x h.1, wkL_clsd xs h.2⟩
end
def fineB (w dp : Nat) (p : PyData) : Bool := p.showable && p.leavesShort 40 && decide (p.weight ≤ w) && decide (p.depth ≤ dp)
def fitB (w dp : Nat) (d : D) : Bool := wk [] d && match dP (fun _ => none) d with
  | some p => fineB w dp p
  | none => false
/-- a thing without cells -/
theorem Fit.closed {mu : Mu} {w dp : Nat} {d : D} (h : fitB w dp d = true) : Fit mu w dp d := by
  unfold fitB at h
  rw [Bool.and_eq_true] at h
  obtain ⟨h1, h2⟩ := h
  split at h2
  · rename_i p e
    simp only [fineB, Bool.and_eq_true, decide_eq_true_eq] at h2
    exact ⟨wk_clsd d h1, p, fun n _ => dP_mono (fun j p e => by cases e) d p e, h2.1.1.1, h2.1.1.2, h2.1.2, h2.2⟩
  · cases h2
theorem int99 : ∀ n : Nat, n < 100 → ((decide ((n : Int).natAbs.log2 < 1920) && decide ((PyData.shown (.int (n : Int))).length ≤ 40)) && decide ((if (n : Int) == 0 then 0 else (n : Int).natAbs.log2 + 1) ≤ 7)) = true := by decide +kernel
theorem Fit.num {mu : Mu} {w dp : Nat} {n : Int} (h : 1 ≤ n ∧ n ≤ 99) (hw : 7 ≤ w) : Fit mu w dp (.int n) := by
  obtain ⟨k, rfl⟩ : ∃ k : Nat, n = k := ⟨n.toNat, by omega⟩
  have := int99 k (by omega)
  rw [Bool.and_eq_true] at this
  exact Fit.int this.1 (Nat.le_trans (of_decide_eq_true this.2) hw)
theorem Fit.plain {mu : Mu} {dp : Nat} {z : Str} (h : isPlainB (.str z) = true) : Fit mu 20 dp (.str z) := by
  unfold isPlainB at h
  simp only [Bool.and_eq_true, decide_eq_true_eq] at h
  refine Fit.str ?_ h.1.2 (by decide)
  rw [List.all_eq_true] at h ⊢
  intro c hc
  have := h.2 c hc
  unfold okSign at this
  simp at this ⊢
  omega
theorem Fit.shape {mu : Mu} {dp : Nat} {z : Str} (h : isShapeB (.str z) = true) : Fit mu 10 dp (.str z) := by
  unfold isShapeB at h
  simp only [Bool.or_eq_true, decide_eq_true_eq] at h
  rcases h with (((rfl | rfl) | rfl) | rfl) | rfl <;> exact strF _ (by decide +kernel) (Nat.le_refl _) (by decide)
/-- an odd thing: what lies behind L cells tells it -/
def OkO (L : Nat) (g : Mu) (x : D) : Prop := ∀ mu' : Mu, mu'.length = L → Fit (mu' ++ g) 120 3 x
theorem OkO.app {L : Nat} {g g' : Mu} {x : D} (h : OkO L g x) : OkO L (g ++ g') x := fun mu' hl => by rw [← List.append_assoc]; exact (h mu' hl).app
theorem OkO.closed {L : Nat} {g : Mu} {x : D} (h : fitB 120 3 x = true) : OkO L g x := fun mu' _ => Fit.closed h
def oA (L : Nat) : List D := [.non, .bl true, .int 0, .int 1, .int 2, .int 99, .int 100, .int (-1), .int 999999999999999999999999999999, .str "", .str "a", .str "~", .str "a\n", .str "xxxxxxxxxxxxxxxxxxxx", .str "xxxxxxxxxxxxxxxxxxxxx", .tup [], .cel L, .cel (L + 1)]
def oB (L : Nat) : List D := [.tup [.str "a"], .str "field", .str "copy", .str "when", .str "upper", .str "Upper", .tup [.str "field", .int 1, .tup []], .tup [.str "copy", .int 7, .str ""], .cel (L + 3)]
def oE (L : Nat) : List D := [.tup [.str "when", .int 1, .tup []], .tup [.str "field", .int 98, .cel (L + 8), .tup []], .tup [.str "field", .int 97, .str "a"], .tup [.str "", .int 1, .tup []], .tup [.int 1, .int 1, .tup []]]
end DL
set_option Elab.async false
set_option linter.all false
set_option autoImplicit false
set_option maxRecDepth 100000
set_option maxHeartbeats 4000000
/-! M43: odd things, the run. -/
namespace DL
open PySem PySem.Spec L2
/-! _law_odds (slots: 0 _law_draws_here, 1 _law_snippet_here, 2 _law_some, 3 _law_names_here, 4 _law_number) -/
theorem FD_num {ps : List D} (hf : fm 8 ps = true) : ∀ x ∈ FD ps, 1 ≤ x.1 ∧ x.1 ≤ 99 := by
  intro x hx
  rw [← fl_FD hf] at hx
  obtain ⟨row, hr, e⟩ := List.mem_filterMap.mp hx
  obtain ⟨spot, p, rfl, hp⟩ := allP_row 8 ps [] hf row hr
  rcases form4 hp with ⟨z, rfl, _⟩ | ⟨n, z, rfl, _, _⟩ | ⟨n, a, rfl, h1, _⟩ | ⟨n, a, b, rfl, _, _, _⟩
  · simp [fldOf, rowD] at e
  · simp [fldOf, rowD] at e
  · simp [fldOf, rowD] at e
    subst e
    exact h1
  · simp [fldOf, rowD] at e
theorem o1 {rho : Rho} {mu : Mu} : (eCall lstF [eC .non, eC (.bl true), eC (.int 0), eC (.int 1), eC (.int 2), eC (.int 99), eC (.int 100), eOp subD (eC (.int 0)) (eC (.int 1)), eOp subD (eOp powD (eC (.int 10)) (eC (.int 30))) (eC (.int 1)), eC (.str ""), eC (.str "a"), eC (.str "~"), eC (.str "a\n"), eOp mulA (eC (.str "x")) (eC (.int 20)), eOp mulA (eC (.str "x")) (eC (.int 21)), eCall tupF [], eCall lstF [], eDict0]) rho mu = some (.ok (.cel (mu.length + 2)), mu ++ [.lst [], .dct [], .lst (oA mu.length)]) := by
  have e1 : ∀ mu, powD (.int 10) (.int 30) mu = some (.ok (.int 1000000000000000000000000000000), mu) := fun mu => rfl
  have e2 : ∀ a b mu, subD (.int a) (.int b) mu = some (.ok (.int (a - b)), mu) := fun a b mu => rfl
  have e3 : ∀ mu, mulA (.str "x") (.int 20) mu = some (.ok (.str "xxxxxxxxxxxxxxxxxxxx"), mu) := fun mu => rfl
  have e4 : ∀ mu, mulA (.str "x") (.int 21) mu = some (.ok (.str "xxxxxxxxxxxxxxxxxxxxx"), mu) := fun mu => rfl
  simp [e1, e2, e3, e4, dict0_ev, lstF, newL, oA]
theorem o2 {rho : Rho} {mu : Mu} : (eCall lstF [eCall tupF [eC (.str "a")], eC (.str "field"), eC (.str "copy"), eC (.str "when"), eC (.str "upper"), eC (.str "Upper"), eCall tupF [eC (.str "field"), eC (.int 1), eCall tupF []], eCall tupF [eC (.str "copy"), eC (.int 7), eC (.str "")], eCall lstF [eC (.str "a")]]) rho (mu ++ [.lst [], .dct [], .lst (oA mu.length)]) = some (.ok (.cel (mu.length + 4)), mu ++ [.lst [], .dct [], .lst (oA mu.length), .lst [.str "a"], .lst (oB mu.length)]) := by
  simp [lstF, newL, oB]
theorem o4 {rho : Rho} {mu : Mu} {L : Nat} (h : mu.length = L + 8) : (eCall lstF [eCall tupF [eC (.str "when"), eC (.int 1), eCall tupF []], eCall tupF [eC (.str "field"), eC (.int 98), eCall lstF [], eCall tupF []], eCall tupF [eC (.str "field"), eC (.int 97), eC (.str "a")], eCall tupF [eC (.str ""), eC (.int 1), eCall tupF []], eCall tupF [eC (.int 1), eC (.int 1), eCall tupF []]]) rho mu = some (.ok (.cel (mu.length + 1)), mu ++ [.lst [], .lst (oE L)]) := by
  simp [lstF, newL, oE, h]
end DL
set_option Elab.async false
set_option linter.all false
set_option autoImplicit false
set_option maxRecDepth 100000
set_option maxHeartbeats 4000000
/-! M44: things by hand. -/
namespace DL
open PySem PySem.Spec L2
/-! _law_hand (slots: 0 _law_plain_here, 1 _law_deep, 2 _law_k, 3 _law_wide, 4 _law_many, 5 _law_fields, 6 _law_ring, 7 _law_some, 8 _law_one_here) -/
def hP : D := .tup [.str "copy", .int 1, .str ""]
def hR (k : Nat) : List D := (List.replicate k [hP]).flatten
def hF (n : Int) (ps : List D) : D := .tup [.str "field", .int n, .tup ps]
end DL
set_option Elab.async false
set_option linter.all false
set_option autoImplicit false
set_option maxRecDepth 100000
set_option maxHeartbeats 4000000
/-! M45: the law k02, at data. -/
namespace DL
open PySem PySem.Spec L2
/-! law (slots: 0 _law_script, 1 _law_draws_here, 2 _law_turn, 3 _law_thing, 4 _law_snippet_here, 5 _law_odds_here, 6 _law_again, 7 _law_more) -/
theorem iRg_ev {f : ES} {rho : Rho} {mu mu1 : Mu} {n : Int} (h : f rho mu = some (.ok (.int n), mu1)) (h1 : -(2 ^ 62) ≤ n) (h2 : n < 2 ^ 62) : iRg f rho mu = some (.ok ((List.range n.toNat).map fun k => D.int (k : Nat)) none, mu1) := by
  unfold iRg
  rw [h]
  dsimp only
  rw [if_pos ⟨h1, h2⟩]
end DL
set_option Elab.async false
set_option linter.all false
set_option autoImplicit false
set_option maxRecDepth 100000
set_option maxHeartbeats 4000000
/-! M46: snippets as such; fields_of, piece_at. -/
namespace DL
open PySem PySem.Spec L2
/-- what is known of a snippet -/
structure Sn (ps : List D) : Prop where
  due : dueOf (.tup ps) = none
  fm : fm 8 ps = true
  len : (allP 8 ps []).length ≤ 30
  few : ps.length ≤ 8
  nd : ((FD ps).map (·.1)).Nodup
  G : FlG (FD ps)
  fit : ∀ mu, Fit mu 1800 17 (.tup ps)
theorem Sn.wk {ps : List D} (h : Sn ps) (mu : Mu) : wk mu (.tup ps) = true := (h.fit mu).1
theorem Sn.row {ps : List D} (h : Sn ps) {r : D} (hr : r ∈ allP 8 ps []) : ∃ spot p, r = rowD spot p ∧ hasFormB p = true := allP_row 8 ps [] h.fm r hr
theorem Sn.sp {ps : List D} (h : Sn ps) {r : D} (hr : r ∈ allP 8 ps []) : Spt 16 (spotOf r) := by
  simpa using allP_sp 8 ps [] 0 h.fm h.few Spt.nil r hr
theorem Sn.need {ps : List D} {q : Ad} (h : Sn ps) (mu : Mu) : P_need_snippet q [.tup ps] mu = some (.ok (.tup ps), mu) := by
  show (if DL.wk mu (.tup ps) = true then (match dueOf (.tup ps) with | none => some (Rs.ok (.tup ps), mu) | some s => some (Rs.ex q.cBadSnippet [("place", .tup s)], mu)) else none) = _
  rw [if_pos (h.wk mu), h.due]
theorem Sn.all {ps : List D} {q : Ad} (h : Sn ps) (mu : Mu) : P_all_pieces q [.tup ps, .tup []] mu = some (.ok (.cel mu.length), mu ++ [.lst (allP 8 ps [])]) := ev_all_pieces h.fm (by have := h.len; omega)
/-! fields_of (slots: 0 snippet, 1 rows, 2 spot, 3 piece) -/
theorem Spt.cl {c n : Nat} {s : List D} (h : Spt c s) : clL n s := clL_iff.mpr fun x hx => by
  obtain ⟨k, _, rfl⟩ := h.2 x hx
  simp [DL.cl]
end DL
set_option Elab.async false
set_option linter.all false
set_option autoImplicit false
set_option maxRecDepth 100000
set_option maxHeartbeats 4000000
/-! M47: piece_at, need_number, field_spot. -/
namespace DL
open PySem PySem.Spec L2
def toInts : List D → List Int
  | [] => []
  | .int n :: r => n :: toInts r
  | _ :: r => toInts r
theorem Spt.ints {c : Nat} {s : List D} (h : Spt c s) : s = (toInts s).map D.int := by
  replace h := h.2
  induction s with
  | nil => rfl
  | cons x s ih =>
    obtain ⟨n, _, rfl⟩ := h x List.mem_cons_self
    rw [toInts, List.map_cons, ← ih fun y hy => h y (List.mem_cons_of_mem _ hy)]
/-! piece_at (slots: 0 snippet, 1 spot, 2 other, 3 found, 4 step) -/
/-! need_number (slots: 0 snippet, 1 number) -/
theorem Sn.num {ps : List D} (h : Sn ps) {n : Int} (hn : n ∈ (FD ps).map (·.1)) : 1 ≤ n ∧ n ≤ 99 := by
  obtain ⟨x, hx, rfl⟩ := List.mem_map.mp hn
  exact FD_num h.fm x hx
/-! field_spot (slots: 0 snippet, 1 number) -/
end DL
set_option Elab.async false
set_option linter.all false
set_option autoImplicit false
set_option maxRecDepth 100000
set_option maxHeartbeats 4000000
/-! M48: each spot tells one piece; the fields by their spots. -/
namespace DL
open PySem PySem.Spec L2
/-- a spot behind another one, from an index on -/
def Beh (ab : List D) (k : Nat) (s : List D) : Prop := ∃ (j : Nat) (rest : List D), s = ab ++ .int (j : Nat) :: rest ∧ k ≤ j
theorem Beh.ne {ab : List D} {k : Nat} {s : List D} (h : Beh ab k s) : s ≠ ab := fun e => by
  obtain ⟨j, rest, rfl, _⟩ := h
  have := congrArg List.length e
  simp at this
theorem int_cell {j k : Nat} {a b ab : List D} (h : ab ++ D.int (j : Nat) :: a = ab ++ D.int (k : Nat) :: b) : j = k := by
  have := List.append_cancel_left h
  simp only [List.cons.injEq, D.int.injEq] at this
  exact Int.ofNat.inj this.1
theorem nd_app {α : Type} {a b : List α} (h1 : a.Nodup) (h2 : b.Nodup) (h : ∀ x ∈ a, ∀ y ∈ b, x ≠ y) : (a ++ b).Nodup := List.nodup_append.mpr ⟨h1, h2, h⟩
theorem spot_sides {rec : List D → List D → List D} {spot : List D} {p : D} : ∀ (r : List D) (k : Nat), (∀ x ∈ r, ∀ inner, x = .tup inner → ∀ ab, (∀ row ∈ rec inner ab, Beh ab 0 (spotOf row)) ∧ ((rec inner ab).map spotOf).Nodup) →
    (∀ row ∈ sidesP rec spot p k r, Beh spot 0 (spotOf row)) ∧ ((∀ s k, spotB s p k = s ++ [.int k]) → (∀ row ∈ sidesP rec spot p k r, Beh spot k (spotOf row)) ∧ ((sidesP rec spot p k r).map spotOf).Nodup) ∧ ((∀ s k, spotB s p k = s) → r.length ≤ 1 → ((sidesP rec spot p k r).map spotOf).Nodup)
  | [], k, _ => ⟨fun _ h => by simp [sidesP] at h, fun _ => ⟨fun _ h => by simp [sidesP] at h, by simp [sidesP]⟩, fun _ _ => by simp [sidesP]⟩
  | x :: r, k, h => by
    obtain ⟨i1, i2, i3⟩ := spot_sides (rec := rec) (spot := spot) (p := p) r (k + 1) fun y hy => h y (List.mem_cons_of_mem _ hy)
    have hx := h x List.mem_cons_self
    have hb : ∀ (j : Nat) (s : List D), Beh (spotB spot p (j : Nat)) 0 s → Beh spot 0 s := fun j s hs => by
      obtain ⟨i, rest, rfl, _⟩ := hs
      have : spotB spot p (j : Nat) = spot ∨ spotB spot p (j : Nat) = spot ++ [.int (j : Nat)] := by
        unfold spotB
        split <;> (try split) <;> simp
      rcases this with e | e
      · rw [e]; exact ⟨i, rest, rfl, Nat.zero_le _⟩
      · rw [e]; exact ⟨j, .int (i : Nat) :: rest, by simp, Nat.zero_le _⟩
    unfold sidesP
    refine ⟨fun row hr => ?_, fun hw => ⟨fun row hr => ?_, ?_⟩, fun hf hl => ?_⟩
    · rw [List.mem_append] at hr
      rcases hr with hr | hr
      · split at hr
        · rename_i inner
          exact hb k _ ((hx inner rfl _).1 row hr)
        · cases hr
      · exact i1 row hr
    · rw [List.mem_append] at hr
      rcases hr with hr | hr
      · split at hr
        · rename_i inner
          obtain ⟨i, rest, e, _⟩ := (hx inner rfl _).1 row hr
          rw [hw] at e
          exact ⟨k, .int (i : Nat) :: rest, by rw [e]; simp, Nat.le_refl _⟩
        · cases hr
      · obtain ⟨i, rest, e, hle⟩ := (i2 hw).1 row hr
        exact ⟨i, rest, e, by omega⟩
    · rw [List.map_append]
      refine nd_app ?_ (i2 hw).2 fun a ha b hb e => ?_
      · split
        · rename_i inner
          exact (hx inner rfl _).2
        · simp
      · obtain ⟨ra, hra, rfl⟩ := List.mem_map.mp ha
        obtain ⟨rb, hrb, rfl⟩ := List.mem_map.mp hb
        obtain ⟨ib, restb, eb, hle⟩ := (i2 hw).1 rb hrb
        split at hra
        · rename_i inner
          obtain ⟨i, rest, ea, _⟩ := (hx inner rfl _).1 ra hra
          rw [hw] at ea
          rw [ea, eb, List.append_assoc] at e
          have := int_cell (j := k) e
          omega
        · cases hra
    · match r, hl with
      | [], _ =>
        simp only [sidesP, List.append_nil]
        cases x with
        | tup inner => exact (hx inner rfl _).2
        | _ => simp
theorem spot_pcs {rec : List D → List D → List D} {above : List D} : ∀ (ps : List D) (k : Nat), (∀ p ∈ ps, hasFormB p = true ∧ ∀ x ∈ insB p, ∀ inner, x = .tup inner → ∀ ab, (∀ row ∈ rec inner ab, Beh ab 0 (spotOf row)) ∧ ((rec inner ab).map spotOf).Nodup) →
    (∀ row ∈ pcsP rec above k ps, Beh above k (spotOf row)) ∧ ((pcsP rec above k ps).map spotOf).Nodup
  | [], k, _ => ⟨fun _ h => by simp [pcsP] at h, by simp [pcsP]⟩
  | p :: ps, k, h => by
    obtain ⟨i1, i2⟩ := spot_pcs (rec := rec) (above := above) ps (k + 1) fun y hy => h y (List.mem_cons_of_mem _ hy)
    obtain ⟨hf, hx⟩ := h p List.mem_cons_self
    obtain ⟨s1, s2, s3⟩ := spot_sides (rec := rec) (spot := above ++ [.int (k : Nat)]) (p := p) (insB p) 0 hx
    have snd : ((sidesP rec (above ++ [.int (k : Nat)]) p 0 (insB p)).map spotOf).Nodup := by
      rcases form_field hf [] with ⟨z, rfl, _⟩ | ⟨n, xs, rfl, _⟩ | ⟨w, n, a, rr, rfl, hw, _⟩
      · simp [insB, sidesP]
      · exact s3 (fun s k => by simp [spotB]) (by show (if ("field" : Str) = "copy" then [] else [D.tup xs]).length ≤ 1; split <;> simp)
      · exact (s2 fun s k => by simp [spotB, hw]).2
    have sb : ∀ row ∈ sidesP rec (above ++ [.int (k : Nat)]) p 0 (insB p), ∃ rest, rest ≠ [] ∧ spotOf row = above ++ .int (k : Nat) :: rest := fun row hr => by
      obtain ⟨i, rest, e, _⟩ := s1 row hr
      exact ⟨.int (i : Nat) :: rest, by simp, by rw [e]; simp⟩
    unfold pcsP
    refine ⟨fun row hr => ?_, ?_⟩
    · rcases List.mem_cons.mp hr with rfl | hr
      · exact ⟨k, [], rfl, Nat.le_refl _⟩
      · rcases List.mem_append.mp hr with hr | hr
        · obtain ⟨rest, _, e⟩ := sb row hr
          exact ⟨k, rest, e, Nat.le_refl _⟩
        · obtain ⟨j, rest, e, hle⟩ := i1 row hr
          exact ⟨j, rest, e, by omega⟩
    · rw [List.map_cons, List.map_append, List.nodup_cons]
      refine ⟨fun hm => ?_, nd_app snd i2 fun a ha b hb e => ?_⟩
      · rcases List.mem_append.mp hm with hm | hm
        · obtain ⟨r, hr, e⟩ := List.mem_map.mp hm
          obtain ⟨rest, hne, e2⟩ := sb r hr
          rw [e2] at e
          have : rest = [] := by
            have := List.append_cancel_left (show above ++ D.int (k : Nat) :: rest = above ++ [.int (k : Nat)] from e)
            simpa using this
          exact hne this
        · obtain ⟨r, hr, e⟩ := List.mem_map.mp hm
          obtain ⟨j, rest, e2, hle⟩ := i1 r hr
          rw [e2] at e
          have := int_cell (j := j) (k := k) (b := []) e
          omega
      · obtain ⟨ra, hra, rfl⟩ := List.mem_map.mp ha
        obtain ⟨rb, hrb, rfl⟩ := List.mem_map.mp hb
        obtain ⟨rest, _, e2⟩ := sb ra hra
        obtain ⟨j, rest2, e3, hle⟩ := i1 rb hrb
        rw [e2, e3] at e
        have := int_cell e
        omega
theorem spot_all : ∀ (n : Nat) (ps ab : List D), fm n ps = true → (∀ row ∈ allP n ps ab, Beh ab 0 (spotOf row)) ∧ ((allP n ps ab).map spotOf).Nodup
  | 0, ps, ab, h => by simp [fm] at h
  | n + 1, ps, ab, h => by
    unfold allP
    refine spot_pcs ps 0 fun p hp => ?_
    obtain ⟨hf, hx⟩ := fm_at h hp
    refine ⟨hf, fun x hxm inner e ab => ?_⟩
    obtain ⟨inner', e', hfm⟩ := hx x hxm
    rw [e] at e'
    cases e'
    exact spot_all n inner ab hfm
theorem Sn.spots {ps : List D} (h : Sn ps) : ((allP 8 ps []).map spotOf).Nodup := (spot_all 8 ps [] h.fm).2
end DL
set_option Elab.async false
set_option linter.all false
set_option autoImplicit false
set_option maxRecDepth 100000
set_option maxHeartbeats 4000000
/-! M49: needs. -/
namespace DL
open PySem PySem.Spec L2
/-! needs (slots: 0 snippet, 1 number, 2 spot, 3 fields, 4 name, 5 where) -/
theorem FlG.perm {l m : Fl2} (p : l.Perm m) (G : FlG m) : FlG l :=
  ⟨fun x hx => G.fm x (p.mem_iff.mp hx), ((p.map (·.1)).nodup_iff).mpr G.nd, by rw [p.length_eq]; exact G.few, fun x hx b hb => (p.map (·.1)).mem_iff.mpr (G.sub x (p.mem_iff.mp hx) b hb)⟩
theorem FlG.closed {fl : Fl2} (G : FlG fl) : ∀ a ∈ fl.map (·.1), ∀ b ∈ S0 fl a, b ∈ fl.map (·.1) := fun a ha b hb => by
  obtain ⟨y, hy, rfl⟩ := List.mem_map.mp ha
  rw [S0_at G.nd hy, mem_addAll] at hb
  exact G.sub y hy b (hb.resolve_left (by simp))
theorem lst_of {mu : Mu} {j : Nat} {xs : List D} (h : mu[j]? = some (.lst xs)) : lstD (.cel j) mu = some xs := by simp [lstD, h]
end DL
set_option Elab.async false
set_option linter.all false
set_option autoImplicit false
set_option maxRecDepth 100000
set_option maxHeartbeats 4000000
/-! M50: the law's own names and needs. -/
namespace DL
open PySem PySem.Spec L2
/-! _law_names (slots: 0 _law_pieces, 1 _law_found, 2 _law_one_here, 3 _law_side_here) -/
section
variable {n : Nat} {F : FS} {mu : Mu} {ps : List D}
end
end DL
set_option Elab.async false
set_option linter.all false
set_option autoImplicit false
set_option maxRecDepth 100000
set_option maxHeartbeats 4000000
/-! M51: the law's own needs; what is missing. -/
namespace DL
open PySem PySem.Spec L2
/-! _law_needed (slots: 0 _law_fields, 1 _law_number, 2 _law_reach, 3 _law_left, 4 _law_one_here) -/
/-! ### what is caught -/
/-! _law_missing (slots: 0 _law_snippet_here, 1 _law_odd, 2 _law_caught, 3 e) -/
end DL
set_option Elab.async false
set_option linter.all false
set_option autoImplicit false
set_option maxRecDepth 100000
set_option maxHeartbeats 4000000
/-! M52: the law k04 at data. -/
namespace DL
open PySem PySem.Spec L2
/-! ### small things -/
theorem ne_self {mu : Mu} {z : Str} : neD (.str z) (.str z) mu = some (.ok (.bl false), mu) := by
  unfold neD eqB
  simp [scV, scal]
end DL
set_option Elab.async false
set_option linter.all false
set_option autoImplicit false
set_option maxRecDepth 100000
set_option maxHeartbeats 4000000
/-! DL40: a property that reads a field. -/
namespace DL
open PySem PySem.Spec PyProof.Rows L2
/-- the class at C has the property f, whose getter returns the field n -/
structure Px (P : Program) (w : World) (K : PySem.W.Frag) (mg : Str → Option Value) (base : Heap) (C : Addr) (f n : Str) : Prop where
  ex : ∃ p g fd ps, PropOf K C f p g ∧ FnOk P w K mg base CX0 1 g fd ps (getSp C n) ∧ Binds K fd ps []
  cls : Cls K C
end DL
set_option Elab.async false
set_option linter.all false
set_option autoImplicit false
set_option maxRecDepth 100000
set_option maxHeartbeats 4000000
/-! DL41: == of two instances by their own __eq__. -/
namespace DL
open PySem PySem.Spec PyProof.Rows L2
end DL
set_option Elab.async false
set_option linter.all false
set_option autoImplicit false
set_option maxRecDepth 100000
set_option maxHeartbeats 4000000
/-! DL42: t[::-1] of a tuple. -/
namespace DL
open PySem PySem.Spec PyProof.Rows L2 HT
section
variable {prog : Program} {w : World} {A : Around} {E : Value → Shared → Prop} {s : Shared}
end
section
variable {X : Cx}
end
end DL
set_option Elab.async false
set_option linter.all false
set_option autoImplicit false
set_option maxRecDepth 100000
set_option maxHeartbeats 4000000
/-! DL43: isinstance(x, C) of an instance of C. -/
namespace DL
open PySem PySem.Spec PyProof.Rows L2
structure IsC (K : PySem.W.Frag) (C : Addr) : Prop where
  cl : Cls K C
  ha : PySem.W.findIn K (.ref C) "__class__" = some (some (.builtin "object.__class__"))
  hn : PySem.W.specialIn K (.builtin "object.__class__") "__get__" = some (some (.builtin "getset_descriptor.__get__"))
  htk : PySem.W.takesIn K (.builtin "object.__class__") = some true
  hm : PySem.W.mroIn K C (.type "object") = some true
section
variable {T : Tb} {X : Cx} {pos p : Pos} {e : Expr} {es : List Expr} {fs : List ES} {C : Addr}
end
end DL
set_option Elab.async false
set_option linter.all false
set_option autoImplicit false
set_option maxRecDepth 100000
set_option maxHeartbeats 4000000
/-! DL44: x[i] by an own __getitem__; methods and makings in a lambda. -/
namespace DL
open PySem PySem.Spec PyProof.Rows L2
section
variable {X : Cx} {W : WX} {k : Nat} {f : Addr} {fd : FuncData} {ps : List Str} {sp : Sp}
end
theorem FnG.fixT {P : Program} {w : World} {K : PySem.W.Frag} {mg : Str → Option Value} {base : Heap} {tb : List (Addr × Str)} {T2 : Tb} {md : Md} {k n : Nat} {f : Addr} {fd : FuncData} {ps : List Str} {F : FS} (G : FnG md P w K mg base k f fd ps (spD K ⟨tb, [], md⟩ n F)) (ht : T2.tb = tb) (hm : T2.md = md) : FnG T2.md P w K mg base k f fd ps (spD K T2 n F) := by
  obtain ⟨t2, pre, m2⟩ := T2
  cases ht
  cases hm
  refine G.imp fun vs H Q E ⟨l, al, mu, ds, sr, r, w⟩ => ⟨l, al, mu, ds, ⟨sr.len, sr.nd, sr.ok, sr.tabs, fun j a e => nomatch e⟩, r, ?_⟩
  match hr : F ds mu with
  | none => rw [hr] at w; exact w
  | some (.ok d, mu') => rw [hr] at w; exact fun a v H2 g k sr2 q => w a v H2 g k ⟨sr2.len, sr2.nd, sr2.ok, sr2.tabs, sr.pre.trans g⟩ q
  | some (.ex C fs, mu') => rw [hr] at w; exact fun a H2 dd vs g k sr2 e q => w a H2 dd vs g k ⟨sr2.len, sr2.nd, sr2.ok, sr2.tabs, sr.pre.trans g⟩ e q
theorem Mx.fixT {P : Program} {w : World} {K : PySem.W.Frag} {mg : Str → Option Value} {base : Heap} {tb : List (Addr × Str)} {T2 : Tb} {C : Addr} {x : Str} {k n : Nat} {F : FS} {md : Md} (h : Mx P w K mg base ⟨tb, [], md⟩ C x k n F) (ht : T2.tb = tb) (hm : T2.md = md) : Mx P w K mg base T2 C x k n F := by
  obtain ⟨f, fd, ps, G, a, b, d⟩ := h.ex
  exact ⟨⟨f, fd, ps, FnG.fixT G ht hm, a, b, d⟩, h.cls⟩
theorem Kx.fixT {P : Program} {w : World} {K : PySem.W.Frag} {mg : Str → Option Value} {base : Heap} {tb : List (Addr × Str)} {T2 : Tb} {C : Addr} {x : Str} {k n : Nat} {F : FS} {md : Md} (h : Kx P w K mg base ⟨tb, [], md⟩ x C k n F) (ht : T2.tb = tb) (hm : T2.md = md) : Kx P w K mg base T2 x C k n F := by
  obtain ⟨f, fd, ps, G, a, b, d⟩ := h.ex
  exact ⟨⟨f, fd, ps, FnG.fixT G ht hm, a, b, d⟩, h.mg⟩
end DL
set_option Elab.async false
set_option linter.all false
set_option autoImplicit false
set_option maxRecDepth 100000
set_option maxHeartbeats 4000000
/-! DL23: raise Y(..) from e within an except suite. -/
namespace DLX
open PySem PySem.Spec PyProof.Rows L2 HotX
/-- the heap behind «from e»: field 3 is e, field 4 is True -/
def fromE (h : Heap) (a x1 : Addr) : Heap := (h.update a (Obj.mapFields (·.setIfInBounds 3 (.ref x1)))).update a (Obj.mapFields (·.setIfInBounds 4 (.bool true)))
abbrev fromO (oe : Obj) (x1 : Addr) : Obj := (oe.mapFields (·.setIfInBounds 3 (.ref x1))).mapFields (·.setIfInBounds 4 (.bool true))
abbrev fromV (vs : Array Value) (x1 : Addr) : Array Value := (vs.setIfInBounds 3 (.ref x1)).setIfInBounds 4 (.bool true)
theorem fromE_at {h : Heap} {a x1 : Addr} {oe : Obj} {vs : Array Value} (ha : h.get? a = some oe) (hd : oe.data = .fields vs) : (fromE h a x1).get? a = some (fromO oe x1) ∧ (fromO oe x1).data = .fields (fromV vs x1) := by
  have d3 := Obj.data_mapFields hd (·.setIfInBounds 3 (.ref x1))
  have a3 := Heap.get?_update_self (Obj.mapFields (·.setIfInBounds 3 (.ref x1))) ha (Obj.isFreed_of_fields d3)
  have d4 := Obj.data_mapFields d3 (·.setIfInBounds 4 (.bool true))
  exact ⟨Heap.get?_update_self (Obj.mapFields (·.setIfInBounds 4 (.bool true))) a3 (Obj.isFreed_of_fields d4), d4⟩
theorem fromE_ne {h : Heap} {a b x1 : Addr} (n : a ≠ b) : (fromE h a x1).get? b = h.get? b := by
  unfold fromE
  rw [Heap.get?_update_other _ _ n, Heap.get?_update_other _ _ n]
theorem raise_from {prog : Program} {w : World} {A : Around} {E : Value → Shared → Prop} {env : Env} {s : Shared} {x c : Sem Value} {Q : Flow → Shared → Prop} {x1 : Addr}
    (h : wpAny (model prog w) A x (fun v s1 => ∃ a oe vs cls o1 cls1, v = .ref a ∧ s1.heap.get? a = some oe ∧ oe.cls = cls ∧ oe.data = .fields vs ∧ vs[1]? = some .none ∧ 4 < vs.size ∧ x1 ≠ a ∧ HotAt A x1 s1.heap ∧ s1.heap.get? x1 = some o1 ∧ o1.cls = cls1 ∧
      (∀ Q' : Value → Shared → Prop, Q' (.ref x1) s1 → wpAny (model prog w) A c Q' E s1) ∧
      PySem.W.Looks (model prog w) s1.heap (isSubtype cls (.type "BaseException")) true ∧ PySem.W.Looks (model prog w) s1.heap (isSubtype cls1 (.type "BaseException")) true ∧ PySem.W.Looks (model prog w) (fromE s1.heap a x1) (typeOf cls) (.type "type") ∧
      E (.ref a) { s1 with heap := (fromE s1.heap a x1).update a (Obj.mapFields (·.setIfInBounds 2 (.ref x1))) }) E s) :
    wpAny (model prog w) A (raiseStmt env (some x) (some c)) Q E s := by
  unfold raiseStmt
  dsimp only
  refine wpAny_bind (wpAny_mono h (fun v s1 h1 => ?_) fun _ _ z => z)
  obtain ⟨a, oe, vs, cls, o1, cls1, rfl, ha, hcls, hd, h1, hi, hne, hot, ho1, hc1, hcs, L1, L2', L3, hE⟩ := h1
  have LT : PySem.W.Looks (model prog w) s1.heap (typeOf (.ref a)) cls := fun A Q E s k q => wpAny_typeOf_ref (k _ _ ha) (by rw [hcls]; exact q)
  have LT1 : PySem.W.Looks (model prog w) s1.heap (typeOf (.ref x1)) cls1 := fun A Q E s k q => wpAny_typeOf_ref (k _ _ ho1) (by rw [hc1]; exact q)
  have LI : PySem.W.Looks (model prog w) s1.heap (isInstance (.ref a) (.type "BaseException")) true := LT.andThen L1
  have LI1 : PySem.W.Looks (model prog w) s1.heap (isInstance (.ref x1) (.type "BaseException")) true := LT1.andThen L2'
  obtain ⟨hh, o1', v1, ho1', hd1, _⟩ := id hot
  rw [ho1] at ho1'
  cases ho1'
  have nt : ∀ {s' : Shared} {b : Addr} {o : Obj} {us : Array Value} {Q' : Bool → Shared → Prop}, s'.heap.get? b = some o → o.data = .fields us → Q' false s' → wpAny (model prog w) A (isType (.ref b)) Q' E s' := by
    intro s' b o us Q' e d q
    simp only [isType, loadHead]
    refine wpAny_bind (wpAny_loadPart e ?_)
    rw [d]; exact wpAny_pure q
  obtain ⟨a4, d4⟩ := fromE_at (x1 := x1) ha hd
  have d3 := Obj.data_mapFields hd (·.setIfInBounds 3 (.ref x1))
  have a3 := Heap.get?_update_self (Obj.mapFields (·.setIfInBounds 3 (.ref x1))) ha (Obj.isFreed_of_fields d3)
  have z3 : 3 < vs.size := by omega
  have z4 : 4 < (vs.setIfInBounds 3 (Value.ref x1)).size := by rw [set_size]; exact hi
  have z2 : 2 < (fromV vs x1).size := by unfold fromV; rw [set_size, set_size]; omega
  have v14 : (fromV vs x1)[1]? = some Value.none := set_other (by decide) (set_other (by decide) h1)
  have c4 : (fromO oe x1).cls = cls := by unfold fromO; rw [Obj.cls_mapFields, Obj.cls_mapFields]; exact hcls
  have LT4 : PySem.W.Looks (model prog w) (fromE s1.heap a x1) (typeOf (.ref a)) cls := fun A Q E s k q => wpAny_typeOf_ref (k _ _ a4) (by rw [c4]; exact q)
  have hot4 : HotAt A x1 (fromE s1.heap a x1) := by
    obtain ⟨q1, o, us, q2, q3, q4⟩ := hot
    exact ⟨q1, o, us, by rw [fromE_ne (Ne.symm hne)]; exact q2, q3, q4⟩
  have rest : wpAny (model prog w) A (do
      let b ← isType (.ref a)
      if b = true then do
        let e ← holding [.ref a] (raisedFor (.ref a) (.ref a))
        setFlight e none
        raiseNew e
      else do
        let e ← raisedInstance (.ref a)
        setFlight e none
        raiseNew e : Sem Flow) Q E { s1 with heap := fromE s1.heap a x1 } := by
    refine wpAny_bind (nt (s' := { s1 with heap := fromE s1.heap a x1 }) a4 d4 ?_)
    simp only [Bool.false_eq_true, if_false]
    unfold raisedInstance
    refine wpAny_bind (wpAny_bind (LT4.here (wpAny_bind (L3.here ?_))))
    rw [if_pos (beq_self_eq_true _)]
    refine wpAny_pure ?_
    unfold setFlight
    refine wpAny_bind (wpAny_bind (wpAny_field a4 d4 v14 ?_))
    rw [if_neg (by decide)]
    exact wpAny_pure (raiseNew_hot hot4 hne a4 d4 z2 hE)
  refine wpAny_bind (wpAny_holding (hcs _ (wpAny_bind (wpAny_pure ?_))))
  dsimp only
  have xv : ∀ {b : Addr} {o : Obj} {us : Array Value} {msg : String} {Q' : Value → Shared → Prop}, s1.heap.get? b = some o → o.data = .fields us → PySem.W.Looks (model prog w) s1.heap (isInstance (.ref b) (.type "BaseException")) true → Q' (.ref b) s1 → wpAny (model prog w) A (excFromValue (.ref b) msg) Q' E s1 := by
    intro b o us msg Q' e d li q
    unfold excFromValue isExcClass
    refine wpAny_bind (wpAny_bind (nt e d ?_))
    simp only [Bool.false_eq_true, if_false]
    refine wpAny_pure ?_
    simp only [Bool.false_eq_true, if_false]
    refine wpAny_bind (li.here ?_)
    simp only [if_true]
    exact wpAny_pure q
  refine wpAny_bind (wpAny_holding (xv ha hd LI ?_))
  rw [if_neg (show ¬ ((Value.ref x1 == Value.none) = true) by simp)]
  refine wpAny_bind (wpAny_holding (xv ho1 hd1 LI1 ?_))
  exact wpAny_bind (wpAny_setField ha hd z3 (wpAny_bind (wpAny_setField a3 d3 z4 rest)))
end DLX
namespace DL
open PySem PySem.Spec PyProof.Rows L2 HotX L2H DLX
/-- a name at a state of ours, by the heap -/
theorem name_at {X : Cx} {pins : List (Addr × Obj)} {st : L2.St} {H : Hp} {s : Shared} {i : Nat} {x : Str} {v : V} {pos : Pos} {E : Value → Shared → Prop} (I : Inv X pins st H s) (hN : X.N[i]? = some x) (hv : Vis X.env.scope x) (e : st[i]? = some (some v)) (hd : (x == ("__debug__" : Str)) = false) (hcd : (x == ("__classdict__" : Str)) = false) :
    ∃ u, RelV v u ∧ ∀ Q : Value → Shared → Prop, Q u s → wpAny (model X.prog X.w) X.A (eval (.Name x pos) X.env) Q E s := by
  obtain ⟨m, hn, hl⟩ := I.loc
  obtain ⟨u, r, l⟩ := hl i x v hN e hv
  refine ⟨u, r, fun Q q => ?_⟩
  rcases l with ⟨hk, hm⟩ | ⟨hk, c, hc, hcell⟩
  · exact wpAny_Name (wpAny_loadName_local I.ok.kind hk hn hm q) hd
  · rcases hk with hk | hk
    · exact wpAny_Name (wpAny_loadName_cell I.ok.kind hk hc hcell q) hd
    · exact wpAny_Name (wpAny_loadName_free I.ok.kind hk hc hcell q hcd) hd
/-- raise e from n, n the exception that is handled -/
theorem ps_raiseFrom {X : Cx} {W : WX} {e : Expr} {t : L2.St → Hp → XK → Prop} {pos np : Pos} {i : Nat} {n : Str} {p : Addr × Obj} {C1 : Addr} (hot : Hot1 X.A p) (hp : p ∈ X.pn) (hc1 : p.2.cls = .ref C1) (rc : Raises X (.ref C1)) (tk : L2.Takes X W) (he : PMk5 X e t) (hN : X.N[i]? = some n) (hv : Vis X.env.scope n)
    (hd1 : (n == ("__debug__" : Str)) = false) (hd2 : (n == ("__classdict__" : Str)) = false) : PS X (.Raise (some e) (some (.Name n np)) pos) (fun _ s H => s[i]? = some (some (.ref p.1)) ∧ t s H fun cls d H' => W cls d s H') := by
  refine ⟨fun pins s st H D I h => ?_⟩
  obtain ⟨hs, h⟩ := h
  obtain ⟨hh, v1, e1, c1⟩ := hot
  show wpAny _ _ (do standAt pos; raiseStmt X.env (some (do let v ← eval e X.env; standAt pos; pure v)) (some (do let v ← eval (.Name n np) X.env; standAt pos; pure v))) _ _ (_ : Shared)
  refine wpAny_bind (wpAny_standAt (raise_from (x1 := p.1) (wpAny_bind (wpAny_mono (he pins s st H _ I h) (fun u s1 hu => wpAny_bind (wpAny_standAt (wpAny_pure ?_))) fun _ _ z => z))))
  obtain ⟨⟨a, oe, vs, sI, H', cls, d, rfl, J, k, hne, ha, hz, hd, h1, na, os, ag, r, q⟩, h5⟩ := hu
  have hi : 4 < vs.size := h5 a oe vs rfl ha hd
  have k4 : ∀ b u, sI.heap.get? b = some u → (fromE s1.heap a p.1).get? b = some u := fun b u z => by
    have nab : a ≠ b := fun y => by rw [← y, hne] at z; cases z
    rw [fromE_ne nab]; exact k b u z
  obtain ⟨r1, _⟩ := r (model X.prog X.w) s1.heap (J.kIn.keeps k)
  obtain ⟨_, r2⟩ := r (model X.prog X.w) (fromE s1.heap a p.1) (J.kIn.keeps k4)
  obtain ⟨r3, _⟩ := rc (model X.prog X.w) s1.heap (J.kIn.keeps k)
  have P1 := (J.pin p (List.mem_append_left _ hp)).1
  have nap : p.1 ≠ a := fun z => by rw [z, hne] at P1; cases P1
  have J1 : Inv X pins st H' s1 := J.landed (B := sI.heap) (fun b o e _ => e) k (Heap.UpToSlots.of_keeps k) os ag
  obtain ⟨u, ru, ev⟩ := name_at (pos := np) (E := X.xe) J1 hN hv hs hd1 hd2
  cases ru
  obtain ⟨a4, d4⟩ := fromE_at (x1 := p.1) ha hd
  have h12 : ((fromV vs p.1).setIfInBounds 2 (Value.ref p.1))[1]? = some Value.none := set_other (by decide) (set_other (by decide) (set_other (by decide) h1))
  refine ⟨a, oe, vs, cls, p.2, .ref C1, rfl, ha, hz.1, hd, h1, hi, nap, ⟨hh, p.2, v1, k _ _ P1, e1, c1⟩, k _ _ P1, hc1, fun Q' q' => wpAny_bind (ev _ (wpAny_bind (wpAny_standAt (wpAny_pure q')))), r1, r3, r2, tk _ _ (XE.new J (fun b u z => ?_) hne (Heap.get?_update_self _ a4 (Obj.isFreed_of_fields (Obj.data_mapFields d4 _)))
    ⟨by unfold fromO; rw [Obj.cls_mapFields, Obj.cls_mapFields, Obj.cls_mapFields]; exact hz.1, by unfold fromO; rw [HandSPX.dict_mapFields, HandSPX.dict_mapFields, HandSPX.dict_mapFields]; exact hz.2.1⟩ (Obj.data_mapFields d4 _) h12 na os ag q)⟩
  have nab : a ≠ b := fun y => by rw [← y, hne] at z; cases z
  show ((fromE s1.heap a p.1).update a (Obj.mapFields (·.setIfInBounds 2 (.ref p.1)))).get? b = some u
  rw [Heap.get?_update_other _ _ nab]
  exact k4 b u z
end DL
set_option Elab.async false
set_option linter.all false
set_option autoImplicit false
set_option maxRecDepth 100000
set_option maxHeartbeats 4000000
/-! DL24: an own exception's __init__ while another one is handled. -/
namespace DL
open PySem PySem.Spec PyProof.Rows L2 HotX L2H DLX
section
variable {P : Program} {w : World} {K : PySem.W.Frag} {mg : Str → Option Value} {base : Heap} {qual g g1 g2 : Str} {st : Stmt} {f : Addr} {fd : FuncData} {N ps : List Str} {k : Nat} {C : Addr} {tx : Str}
theorem init1H (F : Fun K "__init__" qual st f fd) (S : FnScope N ps (defScope st)) (hp : ps.length = 2) (hN : N.length = 2)
    (hb : ∀ (cdv : Value) (A : Around) (outer : List Env) (s : Shared) (H : Hp) (E : XK) (p : Addr × Obj), PSs (cxH (L2.CX P w) P w K mg base N qual (defScope st) f cdv A outer s H E p) (defBody st) (tSeq (tDrop (tVeI K (tCons (tVar 0) (tCons (tC (.str tx)) tNil)))) (tOst K g (tVar 0) (tVar 1)))) :
    FnH P w K mg base (L2.CX P w) (k + 1) f fd ps (spI K C [g]) := by
  obtain ⟨oc, od, kV, doc, pm, an, cdv, ct, osl, rfl, lk, hcd⟩ := F.ex
  refine fn_ofH lk hcd S (fun vs H Q E ⟨a, ws, e, l, _⟩ => by rw [e, hp]; simp [l]) fun A outer s H vs Q E p hot hr h => ⟨_, hb cdv A outer s H E p, ?_⟩
  obtain ⟨a, ws, rfl, l, oc', gg, ea, q⟩ := h
  match ws, l with
  | [v], _ =>
    have s0 : (L2.start N [V.ref a, v])[0]? = some (some (V.ref a)) := rfl
    have s1 : (L2.start N [V.ref a, v])[1]? = some (some v) := rfl
    refine ⟨_, s0, a, C, [.str tx], rfl, by simp, oc', ea, ?_⟩
    refine ⟨_, s1, _, s0, a, C, rfl, oc', gg g (by simp), .inl ⟨ea, fun dx hd hne => ?_⟩⟩
    exact q dx _ hd hne upd_same (by rw [upd_ne hne, upd_same]; rfl) fun b h1 h2 => by rw [upd_ne h1, upd_ne h2]
end
/-- the class x, made with values of its fields gs while an exception is handled -/
structure MkH (P : Program) (w : World) (K : PySem.W.Frag) (mg : Str → Option Value) (base : Heap) (x : Str) (k : Nat) (C : Addr) (gs : List Str) : Prop where
  ex : ∃ fI fd ps, FnH P w K mg base (L2.CX P w) k fI fd ps (spI K C gs) ∧ PySem.W.findIn K (.ref C) "__init__" = some (some (.ref fI)) ∧ PySem.W.typeIn K (.ref fI) = some (.type "function") ∧ Binds K fd ps []
  oc : OexC K C
  gs : ∀ g ∈ gs, PySem.W.findIn K (.ref C) g = some none
  mg : mg x = some (.ref C)
end DL
set_option Elab.async false
set_option linter.all false
set_option autoImplicit false
set_option maxRecDepth 100000
set_option maxHeartbeats 4000000
/-! DL49: try .. except X as e: raise Y(z) from e. -/
namespace DLX
open PySem PySem.Spec PyProof.Rows L2 HotX L2H
section
variable {M : Model} {A : Around} {E₁ : Value → Shared → Prop} {env : Env} {outer : List Env} {L a : Addr} {Z : Obj → Prop} {Q : Unit → Shared → Prop} {B : Heap} {s : Shared}
/-- noted, and held at the frame -/
theorem sky_note (hZ : HandSPX.Steady Z) (hfr : A.frames = some (env :: outer)) (hf : env.frame = some L) (sk : Sky B (env :: outer) a Z L s.heap)
    (hq : ∀ g, HandSPX.HeldZ B (env :: outer) a Z L g → s.heap.UpToSlots g → Q () { s with heap := g }) : wpAny M A (noteFrame (.ref a) env) Q E₁ s := by
  rcases sk with ⟨b1, b2, b3, oe, vs, b4, b5, b6, b7⟩ | fl | hh
  · exact HandSPX.look_newZ hZ hfr b3 hf b4 b1 b2 b6 b7 b5 hq
  · exact HandSPX.looks_onZ hZ hfr hf fl hq
  · exact HandSPX.againZ hf hh.2.2.2 (hq s.heap hh (Heap.UpToSlots.refl _))
/-- held where the frame's own names change -/
theorem held_same {h g : Heap} {m m' : Str → Option Value} (hf : env.frame = some L) (hh : HandSPX.HeldZ B (env :: outer) a Z L h) (hn : h.Ns L m) (hn' : g.Ns L m') (hs : Heap.SameBut L h g) : HandSPX.HeldZ B (env :: outer) a Z L g := by
  obtain ⟨b1, b0, f1, oe, vs, T, oT, ts, he, hz, hd, h1, hnT, hTe, hT, hdT, h3⟩ := hh
  have nL : B.get? L = none := by
    obtain ⟨_, ⟨L', _, f', n', _⟩, _⟩ := f1
    rw [hf] at f'
    rw [Option.some.inj f']
    exact n'
  obtain ⟨oL, es, ep, hoL, hdL, _⟩ := id hn
  have noRec : ∀ (b : Addr) (o : Obj) (us : Array Value), h.get? b = some o → o.data = .fields us → b ≠ L := fun b o us e d q => by
    rw [q, hoL] at e
    cases e
    rw [hdL] at d; cases d
  exact ⟨fun b o e => (hs.2 b fun q => by rw [q, nL] at e; cases e).trans (b1 b o e), b0, Heap.FunFrames.sameBut hs hn' f1, oe, vs, T, oT, ts, (hs.2 a (noRec _ _ _ he hd)).trans he, hz, hd, h1, hnT, hTe, (hs.2 T (noRec _ _ _ hT hdT)).trans hT, hdT, h3⟩
end
section
variable {X : Cx} {pins : List (Addr × Obj)} {st : L2.St} {H : Hp} {s : Shared} {i : Nat} {n : Str} {g : Heap} {w0 : Option Value} {m : Str → Option Value} {t' : Nat}
/-- a name of the def goes -/
theorem inv_gone (I : Inv X pins st H s) (hN : X.N.Nodup) (hi : X.N[i]? = some n) (hlk : ∀ (k : Nat) (y : Str) (v : V), X.N[k]? = some y → st[k]? = some (some v) → Vis X.env.scope y → ∃ u, RelV v u ∧ Look X.env s.heap m y u)
    (hg : g.Ns X.env.locals (fun y => if y = n then w0 else m y)) (hs : Heap.SameBut X.env.locals s.heap g) : Inv X pins (st.set i none) H { s with heap := g, toks := t' } := by
  have low : ∀ b o, X.s_0.heap.get? b = some o → b ≠ X.env.locals := fun b o q => Nat.ne_of_lt (Nat.lt_of_lt_of_le (Heap.lt_size q) I.ok.above)
  refine ⟨I.ok, I.os, I.bare, ⟨?_, ?_, I.base.free, ?_, I.base.tups, I.base.frzs, I.base.tbls⟩, ⟨_, hg, ?_⟩, ?_, I.free, I.freeC, ?_, ?_, by simpa using I.len⟩
  · intro b o q1 q2 q3 q4
    exact (hs.2 b (low b o q1)).trans (I.base.keep b o q1 q2 q3 q4)
  · intro b o q1 q2 q3 q4
    obtain ⟨sl, z⟩ := I.base.slot b o q1 q2 q3 q4
    exact ⟨sl, (hs.2 b (low b o q1)).trans z⟩
  · intro b o q1 q2
    obtain ⟨o2, z⟩ := I.base.there b o q1 q2
    exact ⟨o2, (hs.2 b (low b o q1)).trans z⟩
  · intro k y v q1 q2 q3
    by_cases hk : k = i
    · subst hk
      have hlt : k < st.length := by rw [I.len]; exact (List.getElem?_eq_some_iff.mp hi).1
      rw [List.getElem?_set_self hlt] at q2; cases q2
    · rw [List.getElem?_set_ne (Ne.symm hk)] at q2
      obtain ⟨u, ru, q⟩ := hlk k y v q1 q2 q3
      refine ⟨u, ru, ?_⟩
      rcases q with ⟨l1, l2⟩ | ⟨l1, c, l2, l3⟩
      · refine .inl ⟨l1, ?_⟩
        have ny : y ≠ n := fun z => hk (nodup_ix hN q1 (z ▸ hi))
        show (if y = n then w0 else m y) = _
        rw [if_neg ny]; exact l2
      · exact .inr ⟨l1, c, l2, l3.sameBut hs (I.cne y c l2)⟩
  · intro y c q1
    obtain ⟨u, z⟩ := I.cell y c q1
    exact ⟨u, z.sameBut hs (I.cne y c q1)⟩
  · intro p hp
    obtain ⟨z1, z2, z3, z4, z5⟩ := I.pin p hp
    exact ⟨(hs.2 p.1 z3).trans z1, z2, z3, z4, z5⟩
  · intro b ob q1
    refine (I.hok b ob q1).stay (fun c w1 hc z => (hs.2 c fun y => ?_).trans z) (fun _ z => z) fun _ _ z => z
    subst y
    rcases hc with hc | hc
    · rw [← hc, I.free] at q1; cases q1
    · rw [I.free] at hc; cases hc
end
/-- an exception out of a suite «as n»: the name goes, it flies on -/
theorem as_out {X : Cx} {W : WX} {i : Nat} {n : Str} {pos : Pos} {A' : Around} {u : Value} {s' : Shared} {E₂ E₃ : Value → Shared → Prop} (hs : X.stack = X.env :: X.outer) (hf : X.env.frame = some X.env.locals) (hN : X.N.Nodup) (hi : X.N[i]? = some n) (hl : X.env.kindOf n = some .local)
    (hfr : A'.frames = some (X.env :: X.outer)) (tk : L2.Takes X W) (x : XE X (fun cls d st H => W cls d (st.set i none) H) u s') :
    wpAny (model X.prog X.w) A' (noteFrame u X.env) (fun _ s1 => wpAny (model X.prog X.w) A' (do bindName X.env n .none; unbindBehindTheSuite X.env n pos)
      (fun _ s2 => wpAny (model X.prog X.w) A' (passOn "try.except-as" u X.env : Sem Flow) (fun _ _ => False) (notedBy (model X.prog X.w) A' X.env (cameBackBy (model X.prog X.w) X.A X.env X.xe)) s2) E₂ s1) E₃ s' := by
  obtain ⟨a, B, sI, pins, st, H, cls, d, rfl, J, nb, up, sky, na, os, ag, w⟩ := x
  rw [hs] at sky
  refine sky_note Zc.steady hfr hf sky fun h3 hh3 up3 => ?_
  obtain ⟨m, hn, hlk⟩ := id J.loc
  obtain ⟨oL, es, ep, hoL, hdL, hsk, hfd⟩ := id hn
  obtain ⟨sl3, e3⟩ := (up.trans up3) X.env.locals oL hoL (fun vs z => by rw [hdL] at z; cases z)
  have hn3 : h3.Ns X.env.locals m := ⟨_, es, ep, e3, hdL, hsk, hfd⟩
  have hcl : (X.env.scope.kind == .class || (X.env.scope.kind == .module && X.env.locals != X.env.globals)) = false := by rw [J.ok.kind]; rfl
  refine wpAny_nameGoes_keeps (s := { s' with heap := h3 }) hl hn3 hcl fun h4 v hn4 hs4 => ?_
  have hh4 := held_same hf hh3 hn3 hn4 hs4
  obtain ⟨o4, es4, ep4, ho4, hd4, hk4, hf4⟩ := id hn4
  -- the state without the exception, its name gone
  have nfz : o4.isFreed = false := by
    obtain ⟨oc, od, dt, sl⟩ := o4
    cases hd4
    rfl
  have hI4 : (sI.heap.update X.env.locals (fun _ => o4)).get? X.env.locals = some o4 := Heap.get?_update_self (fun _ => o4) hoL nfz
  have sI4 : Heap.SameBut X.env.locals sI.heap (sI.heap.update X.env.locals (fun _ => o4)) := Heap.SameBut.update _ _ _
  have J4 : Inv X pins (st.set i none) H { sI with heap := sI.heap.update X.env.locals (fun _ => o4), toks := sI.toks } := inv_gone (w0 := v) J hN hi hlk ⟨o4, es4, ep4, hI4, hd4, hk4, hf4⟩ sI4
  have memL : X.env.locals ∈ frs X.stack := by rw [hs]; exact List.mem_filterMap.mpr ⟨X.env, List.mem_cons_self, hf⟩
  have nb4 : ∀ b o, (sI.heap.update X.env.locals (fun _ => o4)).get? b = some o → b ∉ frs X.stack → B.get? b = some o := fun b o e hb => by
    have nL : b ≠ X.env.locals := fun z => hb (z ▸ memL)
    rw [sI4.2 b nL] at e
    exact nb b o e hb
  have up4 : (sI.heap.update X.env.locals (fun _ => o4)).UpToSlots h4 := fun b o e hnf => by
    by_cases z : b = X.env.locals
    · subst z
      rw [hI4] at e; cases e
      exact ⟨o4.slots, ho4⟩
    · rw [sI4.2 b z] at e
      obtain ⟨sl, q⟩ := (up.trans up3) b o e hnf
      exact ⟨sl, (hs4.2 b z).trans q⟩
  obtain ⟨c1, c0, c3, c4⟩ := hh4
  have fld : ∀ {h : Heap}, HandSPX.TracedZ h B a (Zc cls d) (rawInt X.env.locals) → ∃ oe vs T, h.get? a = some oe ∧ oe.data = .fields vs ∧ vs[1]? = some (.ref T) := fun ⟨oe, vs, T, _, _, e, _, dd, e1, _⟩ => ⟨oe, vs, T, e, dd, e1⟩
  obtain ⟨oe, vs, T, he, hd, h1⟩ := fld c4
  unfold PySem.passOn
  refine wpAny_bind (wpAny_field he hd h1 ?_)
  rw [if_neg (show ¬ ((Value.ref T == Value.none) = true) by simp)]
  have fin : wpAny (model X.prog X.w) A' (setFlight (.ref a) X.env.frame) (fun _ s5 => wpAny (model X.prog X.w) A' (throw (.ref a) : Sem Flow) (fun _ _ => False) (notedBy (model X.prog X.w) A' X.env (cameBackBy (model X.prog X.w) X.A X.env X.xe)) s5) (notedBy (model X.prog X.w) A' X.env (cameBackBy (model X.prog X.w) X.A X.env X.xe)) { s' with heap := h4, toks := s'.toks + 1 } := by
    rw [hf]
    refine HandSPX.setFlight_anyZ (s := { s' with heap := h4, toks := s'.toks + 1 }) c1 c3 c4 fun h5 k1 k2 k3 k4 => wpAny_throw ?_
    show wpAny _ _ (noteFrame (.ref a) X.env) _ _ (_ : Shared)
    refine HandSPX.againZ hf k3 ?_
    obtain ⟨oe5, vs5, T5, he5, hd5, h15⟩ := fld k3
    unfold cameBackBy
    refine wpAny_bind (wpAny_field he5 hd5 h15 ?_)
    rw [if_neg (show ¬ ((Value.ref T5 == Value.none) = true) by simp)]
    have last : wpAny (model X.prog X.w) X.A (setFlight (.ref a) X.env.frame) (fun _ s6 => X.xe (.ref a) s6) X.xe { s' with heap := h5, toks := s'.toks + 1 } := by
      rw [hf]
      refine HandSPX.setFlight_anyZ (s := { s' with heap := h5, toks := s'.toks + 1 }) k1 k2 k3 fun h6 l1 l2 l3 l4 => tk _ _ ?_
      exact ⟨a, B, _, pins, _, H, cls, d, rfl, J4, nb4, (up4.trans k4).trans l4, .inr (.inr (by rw [hs]; exact ⟨l1, c0, l2, l3⟩)), na, os, ag, w⟩
    first
      | exact last
      | exact wpAny_bind (wpAny_pure last)
  first
    | exact wpAny_bind (wpAny_pure (wpAny_bind fin))
    | exact wpAny_bind fin
end DLX
set_option Elab.async false
set_option linter.all false
set_option autoImplicit false
set_option maxRecDepth 100000
set_option maxHeartbeats 4000000
/-! DL50: the rule of try .. except X as e: raise Y(z) from e. -/
namespace DL
open PySem PySem.Spec PyProof.Rows L2 HotX L2H DLX
/-- what is caught goes on as another one: slot i is e's, slot k is z's -/
def sTryF (i k : Nat) (f : Addr → Option Bool) (C : Addr) (g : Str) (m : SS) : SS := fun rho mu => match m rho mu with
  | some (.ex C1 fs, rho1, mu1) => match f C1 with
    | some true => match (rho1[k]? : Option (Option D)) with
      | some (some d) => some (.ex C [(g, d)], rho1.set i none, mu1)
      | _ => none
    | some false => some (.ex C1 fs, rho1, mu1)
    | none => none
  | o => o
/-- the same, but for exceptions with a context -/
abbrev Tb.n (T : Tb) : Tb := ⟨T.tb, T.pre, .n⟩
theorem SR.toN {K : PySem.W.Frag} {T : Tb} {al : List Addr} {mu : Mu} {H : Hp} (r : SR K T al mu H) : SR K T.n al mu H := ⟨r.len, r.nd, r.ok, r.tabs, r.pre⟩
theorem SR.ofN {K : PySem.W.Frag} {T : Tb} {al : List Addr} {mu : Mu} {H : Hp} (r : SR K T.n al mu H) : SR K T al mu H := ⟨r.len, r.nd, r.ok, r.tabs, r.pre⟩
section
variable {T : Tb} {X : Cx} {pos pos' sp np np' cp yp : Pos} {t : Expr} {body : List Stmt} {m : SS} {f : Addr → Option Bool} {n y x : Str} {i k j kk : Nat} {C : Addr} {g : Str}
theorem st_tryF (hmd : T.md = .a) (hs : X.stack = X.env :: X.outer) (hf : X.env.frame = some X.env.locals) (hN : X.N.Nodup) (hi : X.N[i]? = some n) (hk : X.N[k]? = some y) (hln : X.env.kindOf n = some .local) (hvy : Vis X.env.scope y) (hki : k ≠ i) (ht : Tst X t f)
    (hrc : ∀ C1, f C1 = some true → PySem.W.subIn X.K (.ref C1) (.type "BaseException") = some true ∧ PySem.W.typeIn X.K (.ref C1) = some (.type "type"))
    (c : MkH X.prog X.w X.K X.mg X.base x kk C [g]) (hr : Room j X.A) (hj : kk + 1 ≤ j) (hgl : Gl X x)
    (hb : ∀ (pn : List (Addr × Obj)) (xe : Value → Shared → Prop), STs T.n (X.tr pn xe) body m) (hd1 : (n == ("__debug__" : Str)) = false := by decide) (hd2 : (n == ("__classdict__" : Str)) = false := by decide) (hd3 : (y == ("__debug__" : Str)) = false := by decide) (hd4 : (y == ("__classdict__" : Str)) = false := by decide) (hdb : (x == ("__debug__" : Str)) = false := by decide)
    (hst : starEach [.Name y yp] X.env = (false, eval (.Name y yp) X.env) :: starEach [] X.env := by rfl) (hpl : (backTo cp (starEach [] X.env)).any (·.1) = false := by rfl) :
    ST T X (.Try body [.ExceptHandler (some t) (some n) [.Raise (some (.Call (.Name x np) [.Name y yp] [] cp)) (some (.Name n np')) sp] pos'] [] [] pos) (sTryF i k f C g m) := fun W z ps => by
  refine ⟨fun pins s0 s H De I ⟨al, rho, mu, sl, sr, w⟩ => ?_⟩
  have ok := I.ok
  have hfr : X.A.frames = some (X.env :: X.outer) := by rw [ok.frames, hs]
  have hloc : Loc X.env.scope n := .inl hln
  have ztk : Takes X W := by have q := z.tk; rw [hmd] at q; exact q
  let Wb : WX := fun cls d s' H' => ∃ C1 dd vs rho1 mu1 fs al', cls = .ref C1 ∧ d = some dd ∧ Gr al al' ∧ Kp H H' ∧ SL X.K al' H' rho1 s' ∧ SR X.K T al' mu1 H' ∧ H' dd = some (.xd vs) ∧ RpA X.K al' H' fs vs ∧ m rho mu = some (.ex C1 fs, rho1, mu1)
  refine wpAny_Try_except ?_
  have rd : rdS X.K T.n Wb m De s H := by
    refine ⟨al, rho, mu, sl, sr.toN, ?_⟩
    unfold sTryF at w
    match q : m rho mu with
    | none => rw [q] at w; exact w
    | some (.nx, rho1, mu1) => rw [q] at w; exact fun a1 s1 H1 g1 k1 l1 r1 => w a1 s1 H1 g1 k1 l1 r1.ofN
    | some (.bk, rho1, mu1) => rw [q] at w; exact fun a1 s1 H1 g1 k1 l1 r1 => w a1 s1 H1 g1 k1 l1 r1.ofN
    | some (.ct, rho1, mu1) => rw [q] at w; exact fun a1 s1 H1 g1 k1 l1 r1 => w a1 s1 H1 g1 k1 l1 r1.ofN
    | some (.rt d, rho1, mu1) => rw [q] at w; exact fun a1 v1 H1 g1 k1 r1 rv => w a1 v1 H1 g1 k1 r1.ofN rv
    | some (.ex C1 fs, rho1, mu1) => exact fun a1 s1 H1 dd vs g1 k1 l1 r1 e1 r2 => ⟨C1, dd, vs, rho1, mu1, fs, a1, rfl, rfl, g1, k1, l1, r1.ofN, e1, r2, q⟩
  have run := fun xe (tk : L2N.Takes (X.tr (X.pn ++ pins) xe) Wb) po => (hb (X.pn ++ pins) xe Wb ⟨tk, z.gd⟩ po).run [] s0 s H De (I.toTry xe)
  refine wpAny_mono (run (fun e s1 => wpAny (model X.prog X.w) X.A (noteFrame e X.env) (fun _ s2 => wpAny (model X.prog X.w) X.A (setFlight e none) (fun _ s3 =>
    wpAny (model X.prog X.w) X.A (handleBy e X.env [.ExceptHandler (some t) (some n) [.Raise (some (.Call (.Name x np) [.Name y yp] [] cp)) (some (.Name n np')) sp] pos']) (L2.SP X pins De) X.xe s3) X.xe s2) X.xe s1) (fun u s' xx => ?_) PassesOwn.looking rd) (fun fl s1 hsp => ?_) (fun e s1 he => he)
  · obtain ⟨a, B, sI, pins', st', H', cls, d, rfl, J', nb, up, sky, na, os, ag, C1, dd, vs, rho1, mu1, fs, al', rfl, rfl, g1, k1, sl1, sr1, edd, rfs, em⟩ := xx
    have J : Inv X pins st' H' sI := J'.ofTry ok
    have sky' : Sky B (X.env :: X.outer) a (L2N.Zn (.ref C1) (some dd)) X.env.locals s'.heap := by rw [← hs]; exact sky
    show wpAny (model X.prog X.w) X.A (noteFrame (.ref a) X.env) _ _ (_ : Shared)
    refine L2N.Sky.land L2N.Zn.steady hfr hf sky' fun h3 fl3 up3 => ?_
    have J3 : Inv X pins st' H' { s' with heap := h3 } := J.landed nb fl3.1 (up.trans up3) os ag
    obtain ⟨oe3, vs3, he3, hz3, hd3'⟩ := fl3.there
    have nfr : a ∉ frs (X.env :: X.outer) := fun hm => by
      obtain ⟨_, o', e', hnf⟩ := fl3.2.2.1.mem hm
      rw [he3] at e'; cases e'
      exact hnf _ hd3'
    have nL : a ≠ X.env.locals := fun z => nfr (List.mem_filterMap.mpr ⟨X.env, List.mem_cons_self, by rw [hf, z]⟩)
    have nF : a ∉ X.fs := fun hm => by
      obtain ⟨e, he, q⟩ := List.mem_filterMap.mp hm
      exact nfr (List.mem_filterMap.mpr ⟨e, List.mem_cons_of_mem _ he, q⟩)
    have S3 := J3.suite he3 hd3' na nL nF
    unfold sTryF at w
    rw [em] at w
    dsimp only at w
    refine wpAny_handleBy_cons (codeAny_handlers_test ?_) (by intro q; cases q)
    cases hfc : f C1 with
    | none => rw [hfc] at w; exact w.elim
    | some b =>
      rw [hfc] at w
      refine ht a oe3 _ _ _ _ C1 b _ _ S3 he3 hz3.1 hfc fun h4 hh4 => ?_
      have kp4 := push_keep hh4
      have fl4 := fly_push fl3 kp4
      have up4 := upto_push (up.trans up3) kp4
      cases b with
      | true =>
        dsimp only at w
        refine codeAny_handlers_suite_as ?_
        refine HandSPX.lands_againZ fl4 fun h5 fl5 up5 => ?_
        have J5 : Inv X pins st' H' { s' with heap := h5 } := J.landed nb fl5.1 (up4.trans up5) os ag
        obtain ⟨oe5, vs5, he5, hz5, hd5⟩ := fl5.there
        have S5 := suiteX_of (J5.suite he5 hd5 na nL nF)
        refine store_ok (X := suiteX X a ((a, oe5) :: (X.pn ++ pins))) (v := .ref a) S5 hN hi hloc rfl (fun s6 S6 => ?_) (.inr hln)
        have lt : i < st'.length := by rw [J.len]; exact (List.getElem?_eq_some_iff.mp hi).1
        have hot : Hot1 (X.A.mark (some (.ref a))) (a, oe5) := ⟨rfl, vs5, hd5, hz5.2.2 vs5 hd5⟩
        obtain ⟨hr1, hr2⟩ := hrc C1 hfc
        obtain ⟨fI, fd, pps, FI, iC, tI, bI⟩ := c.ex
        -- the slot of z
        split at w
        · rename_i dz hdz
          obtain ⟨vz, ez, rz⟩ := sl1.ok k _ hdz
          -- the suite's context: what leaves it goes on behind the name's end
          obtain ⟨KX, hKX⟩ : ∃ KX : Value → Shared → Prop, KX = fun x s3 => wpAny (model X.prog X.w) (X.A.mark (some (.ref a))) (noteFrame x X.env) (fun _ s3' => wpAny (model X.prog X.w) (X.A.mark (some (.ref a))) (do bindName X.env n .none; unbindBehindTheSuite X.env n pos')
            (fun _ s4 => wpAny (model X.prog X.w) (X.A.mark (some (.ref a))) (passOn "try.except-as" x X.env : Sem Flow) (fun _ _ => False) (notedBy (model X.prog X.w) (X.A.mark (some (.ref a))) X.env (cameBackBy (model X.prog X.w) X.A X.env X.xe)) s4)
            (fun y s4 => wpAny (model X.prog X.w) (X.A.mark (some (.ref a))) (setFlight x none) (fun _ s5 => (notedBy (model X.prog X.w) (X.A.mark (some (.ref a))) X.env (cameBackBy (model X.prog X.w) X.A X.env X.xe)) y s5) (notedBy (model X.prog X.w) (X.A.mark (some (.ref a))) X.env (cameBackBy (model X.prog X.w) X.A X.env X.xe)) s4) s3') (notedBy (model X.prog X.w) (X.A.mark (some (.ref a))) X.env (cameBackBy (model X.prog X.w) X.A X.env X.xe)) s3 := ⟨_, rfl⟩
          have S7 : Inv ((suiteX X a ((a, oe5) :: (X.pn ++ pins))).wish KX) [] (st'.set i (some (.ref a))) H' s6 := S6.wish KX
          have tkS : L2.Takes ((suiteX X a ((a, oe5) :: (X.pn ++ pins))).wish KX) (fun cls d st H => W cls d (st.set i none) H) := fun u2 s2 x2 => by
            obtain ⟨a2, B2, sI2, pn2, σ2, H2, cls2, d2, e2, I2, nb2, up2, sky2, na2, os2, ag2, w2⟩ := x2
            show KX u2 s2
            rw [hKX]
            exact as_out hs hf hN hi hln hfr ztk ⟨a2, B2, sI2, pins, σ2, H2, cls2, d2, e2, unsuiteX I2.unwish ok, nb2, up2, sky2, na2, os2, ag2, w2⟩
          have mk := pmk5_oexH (X := (suiteX X a ((a, oe5) :: (X.pn ++ pins))).wish KX) (p := np) (pos := cp) c.oc iC tI FI (roomH_mark (hr.mono hj) _) ⟨(a, oe5), hot, List.mem_cons_self⟩ bI (fun _ _ _ _ _ _ _ ⟨_, _, _, _, _, _, _, _, _, _, _, _, q⟩ => q.elim) hgl c.mg (pa_cons (pe_var (pos := yp) hk hvy hd3 hd4) pa_nil hst) hdb hst hpl
          have rule := ps_raiseFrom (X := (suiteX X a ((a, oe5) :: (X.pn ++ pins))).wish KX) (pos := sp) (np := np') (i := i) (n := n) (p := (a, oe5)) hot List.mem_cons_self hz5.1 (raises_own hr1 hr2) tkS mk hi (.inl hln) hd1 hd2
          refine wpAny_mono ((pss_one rule).run [] s6 _ H' { nx := fun _ _ => False, rt := fun _ _ => False, bk := fun _ _ => False, ct := fun _ _ => False } S7 ⟨List.getElem?_set_self lt, vz, ?_, ?_, fun a2 na2 => ?_⟩) (fun fl s8 hsp => ?_) (fun x8 s8 z8 => ?_)
          · rw [List.getElem?_set_ne (Ne.symm hki)]; exact ez
          · simp
          · refine ⟨a2, [vz], rfl, rfl, c.oc, c.gs, upd_same, fun dx H2 hdx hne ea ed ot => ⟨rfl, dx, [(g, vz)], ea, ed, ?_, ?_⟩⟩
            · rw [upd_ne hne] at hdx; exact hdx
            · rw [upd_ne hne] at hdx
              have sm : Same H' (upd (del H2 a2) dx (.xd [(g, vz)])) := fun b o eb => by
                have n1 : b ≠ dx := fun q => by rw [q, hdx] at eb; cases eb
                have n2 : b ≠ a2 := fun q => by rw [q, na2] at eb; cases eb
                rw [upd_ne n1, del_ne n2, ot b n2 n1, upd_ne n2]
                exact eb
              have e1 : (st'.set i (some (V.ref a))).set i none = st'.set i none := List.set_set ..
              rw [e1]
              exact w al' _ _ dx [(g, vz)] g1 (k1.trans (Kp.same sm)) ((sl1.mono (Kp.same sm) (Gr.refl _)).unset i) (sr1.same sm) upd_same ⟨rfl, Rps.one (Rp.mono (Kp.same sm) (Gr.refl _) _ _ rz)⟩
          · cases fl with
            | next => obtain ⟨_, _, _, q⟩ := hsp; exact q.elim
            | brk => obtain ⟨_, _, _, q⟩ := hsp; exact q.elim
            | cont => obtain ⟨_, _, _, q⟩ := hsp; exact q.elim
            | ret u => obtain ⟨_, _, _, _, _, q⟩ := hsp; exact q.elim
          · have z9 : KX x8 s8 := z8
            rw [hKX] at z9
            exact z9
        · exact w.elim
      | false =>
        show wpAny _ X.A (handleBy (.ref a) X.env []) _ _ (_ : Shared)
        refine wpAny_handleBy_nil ?_
        obtain ⟨k1', k2', k3', oe, vs', TT, oT, ts', he, hz', hd, h1, hr'⟩ := id fl4
        unfold PySem.passOn
        refine wpAny_bind (wpAny_field he hd h1 ?_)
        rw [if_neg (show ¬ ((Value.ref TT == Value.none) = true) by simp)]
        have flz : HandSPX.FlyingZ B (X.env :: X.outer) a (Zc (.ref C1) (some dd)) h4 := flyingZ_imp (fun o z => z.zc) fl4
        have fin : wpAny (model X.prog X.w) X.A (setFlight (.ref a) X.env.frame) (fun _ s4 => wpAny (model X.prog X.w) X.A (throw (.ref a) : Sem Flow) (L2.SP X pins De) X.xe s4) X.xe { s' with heap := h4 } := by
          rw [hf]
          refine HandSPX.setFlight_upZ flz fun h5 hh5 up5 => wpAny_throw (ztk _ _ ?_)
          exact ⟨a, B, sI, pins, st', H', .ref C1, some dd, rfl, J, nb, up4.trans up5, .inr (.inr (by rw [hs]; exact hh5)), na, os, ag, w al' st' H' dd vs g1 k1 sl1 sr1 edd rfs⟩
        first
          | exact wpAny_bind (wpAny_pure (wpAny_bind fin))
          | exact wpAny_bind fin
  · cases fl with
    | next =>
      obtain ⟨st', H', J', q⟩ := hsp
      exact wpAny_execs_nil ⟨st', H', J'.ofTry ok, q⟩
    | brk =>
      obtain ⟨st', H', J', q⟩ := hsp
      exact ⟨st', H', J'.ofTry ok, q⟩
    | cont =>
      obtain ⟨st', H', J', q⟩ := hsp
      exact ⟨st', H', J'.ofTry ok, q⟩
    | ret u =>
      obtain ⟨v, st', H', J', r, q⟩ := hsp
      exact ⟨v, st', H', J'.ofTry ok, r, q⟩
end
end DL
set_option Elab.async false
set_option linter.all false
set_option autoImplicit false
set_option maxRecDepth 100000
set_option maxHeartbeats 4000000
/-! DL51: bs.count(True) of a list of truth values. -/
namespace DLX
open PySem PySem.Spec PyProof.Rows L2 SeqAt
theorem eqB_at {k : Bool} : ∀ {us : List Value} {bs : List Bool}, Vals (bs.map V.bl) us → ∀ y ∈ us, ∀ (A : Around) (s : Shared), EqAt A s y (.bool k) (isBoolOf k y)
  | [], _, _, y, hy, _, _ => by cases hy
  | u :: us, [], h, _, _, _, _ => by cases h
  | u :: us, b :: bs, h, y, hy, A, s => by
    cases h with
    | cons h1 h2 =>
      rcases List.mem_cons.mp hy with e | e
      · rw [e]
        have h1 : u = Value.bool b := h1
        rw [h1]
        exact EqAt.bool_bool b k
      · exact eqB_at h2 y e A s
theorem eqB_count {k : Bool} : ∀ {us : List Value} {bs : List Bool}, Vals (bs.map V.bl) us → us.countP (isBoolOf k) = bs.count k
  | [], [], _ => rfl
  | [], _ :: _, h => by cases h
  | u :: us, [], h => by cases h
  | u :: us, b :: bs, h => by
    cases h with
    | cons h1 h2 =>
      have h1 : u = Value.bool b := h1
      have ih := eqB_count (k := k) h2
      subst h1
      rw [List.countP_cons, List.count_cons, ih] <;> rfl
def rCntB (K : PySem.W.Frag) : V → List V → Hp → VK → Prop := fun x xs H Q => ∃ (p : Addr) (bs : List Bool) (k : Bool), x = .ref p ∧ xs = [.bl k] ∧ SqL K H p (bs.map V.bl) ∧ Q (.int (bs.count k : Nat)) H
theorem mt_lcountB {X : Cx} : MtR X "list.count" (rCntB X.K) := by
  intro pins s σ H x xs v us Q I rx rxs h
  obtain ⟨p, bs, k, rfl, rfl, hs, q⟩ := h
  cases rx
  obtain ⟨u, rfl, ru⟩ := rxs.one
  have ru : u = Value.bool k := ru
  subst ru
  obtain ⟨its, rv, ⟨⟨cls, dd, data, sl⟩, n, ho, hc, hdn, hd⟩, hlen⟩ := I.list hs
  simp only at hc hd
  subst hc hd
  refine call_meets PySem.F.slot_list_count ⟨_, ho, rfl⟩ PySem.F.entry_list_count (PySem.F.args_list_count_2 _ _)
    (SeqAt.list_countAt p its.toArray n dd sl (.bool k) (isBoolOf k)) ⟨ho, fun y hy => eqB_at rv y (by simpa using hy) _ _, ?_⟩
  have ec : its.toArray.toList.countP (isBoolOf k) = bs.count k := eqB_count rv
  refine ⟨.int (bs.count k : Nat), H, I.tok _, ⟨s.toks, ?_⟩, q⟩
  show Value.int ((its.toArray.toList.countP (isBoolOf k) : Nat) : Int) s.toks = Value.int ((bs.count k : Nat) : Int) s.toks
  rw [ec]
end DLX
namespace DL
open PySem PySem.Spec PyProof.Rows L2
def cntM : D → List D → Mu → Ro
  | d, [.bl k], mu => match lstD d mu with
    | some xs => match blsD xs with
      | some bs => okD (.int (bs.count k : Nat)) mu
      | none => none
    | none => none
  | _, _, _ => none
theorem m_count {K : PySem.W.Frag} {T : Tb} : MthD K T cntM (DLX.rCntB K) := fun al mu H d ds v vs Q E sr r rs p => by
  unfold cntM at p
  split at p
  · split at p
    · rename_i xs e
      split at p
      · rename_i bs e2
        obtain ⟨u, rfl, r1⟩ := rps_one.mp rs
        obtain ⟨a, ys, rfl, q, r2⟩ := lst_rp sr r e
        cases bls_rp e2 r2
        cases rp_bl.mp r1
        exact ⟨a, bs, _, rfl, rfl, q, p.now sr (rp_int.mpr rfl)⟩
      · exact p.elim
    · exact p.elim
  · exact p.elim
end DL
set_option Elab.async false
set_option linter.all false
set_option autoImplicit false
set_option maxRecDepth 100000
set_option maxHeartbeats 4000000
/-! M53: shapes. -/
namespace DL
open PySem PySem.Spec L2
/-! need_shape (slots: 0 thing) -/
/-! changed (slots: 0 shape, 1 string) -/
/-! then_shape (slots: 0 first, 1 later) -/
/-! _law_shaped (slots: 0 _law_shape, 1 _law_string, 2 _law_found, 3 _law_small, 4 _law_great, 5 _law_k, 6 _law_sign, 7 _law_up) -/
end DL
namespace Shp
open PySem PySem.Spec L2 DL
def nm : List Str := ["", "upper", "lower", "first", "title"]
def upB (sh : Str) (k : Nat) : Bool := sh == "upper" || (k == 0 && (sh == "first" || sh == "title"))
def loB (sh : Str) : Bool := sh == "lower" || sh == "title"
def wk (sh : Str) (k c : Nat) : Nat := if upB sh k = true then up1 c else if loB sh = true then lo1 c else c
def walk (sh : Str) (l : List Nat) : List Nat := l.mapIdx (wk sh)
abbrev sm : Str := "abcdefghijklmnopqrstuvwxyz"
abbrev gr : Str := "ABCDEFGHIJKLMNOPQRSTUVWXYZ"
theorem sum_ones : ∀ l : List Nat, ((l.map fun c => tx [c]).map (·.length)).sum = l.length
  | [] => rfl
  | c :: l => by
    simp only [List.map_cons, List.sum_cons, List.length_cons]
    rw [sum_ones l, tx_len]; simp; omega
theorem head_tail (sh : Str) (l : List Nat) : walk sh l = (l.take 1).map (wk sh 0) ++ (l.drop 1).map (wk sh 1) := by
  unfold walk
  cases l with
  | nil => rfl
  | cons c l =>
    rw [List.mapIdx_cons]
    simp only [List.take_succ_cons, List.take_zero, List.drop_succ_cons, List.drop_zero, List.map_cons, List.map_nil, List.singleton_append]
    congr 1
    apply List.ext_getElem?
    intro i
    rw [List.getElem?_mapIdx, List.getElem?_map]
    have : wk sh (i + 1) = wk sh 1 := by funext c; unfold wk upB; rfl
    rw [this]
def thn (a b : Str) : Str := if b = "" ∨ (b = "first" ∧ (a = "upper" ∨ a = "first" ∨ a = "title")) then a else if b = "first" then (if a = "lower" then "title" else "first") else b
theorem thn_in : ∀ a ∈ nm, ∀ b ∈ nm, thn a b ∈ nm := by decide +kernel
theorem wk_small : ∀ a ∈ nm, ∀ c < 127, wk a 0 c < 127 ∧ wk a 1 c < 127 := by decide +kernel
theorem walk_small {a : Str} (ha : a ∈ nm) {l : List Nat} (hl : ∀ c ∈ l, c < 127) : ∀ c ∈ walk a l, c < 127 := fun c hc => by
  unfold walk at hc
  obtain ⟨i, hi⟩ := List.mem_iff_getElem?.mp hc
  rw [List.getElem?_mapIdx] at hi
  cases h : l[i]? with
  | none => rw [h] at hi; cases hi
  | some d =>
    rw [h] at hi
    cases hi
    have hd := hl d (List.mem_of_getElem? h)
    cases i with
    | zero => exact (wk_small a ha d hd).1
    | succ i => exact (wk_small a ha d hd).2
theorem walk_len (a : Str) (l : List Nat) : (walk a l).length = l.length := by unfold walk; simp
theorem nm_shape {sh : Str} : isShapeB (.str sh) = true ↔ sh ∈ nm := by
  unfold isShapeB nm
  simp [or_assoc]
end Shp
namespace DL
open PySem PySem.Spec L2
theorem tx_inj {a b : List Nat} (h : tx a = tx b) : a = b := by
  have := congrArg (fun s : Str => s.cps.toList) h
  simpa using this
/-! shaped (slots: 0 shape, 1 string) -/
end DL
set_option Elab.async false
set_option linter.all false
set_option autoImplicit false
set_option maxRecDepth 100000
set_option maxHeartbeats 4000000
/-! M54: parts of words; parts put together. -/
namespace DL
open PySem PySem.Spec L2
/-- a part: a string or a stretch in a shape -/
inductive Pt where
  | s (l : List Nat)
  | h (i : Int) (sh : Str)
def Pt.d : Pt → D
  | .s l => .str (tx l)
  | .h i sh => .tup [.int i, .str sh]
def Pt.len : Pt → Nat
  | .s l => l.length
  | .h _ _ => 0
def Pt.ok : Pt → Prop
  | .s l => ∀ c ∈ l, c < 127
  | .h i sh => 0 ≤ i ∧ sh ∈ Shp.nm
def Pt.isS : Pt → Bool
  | .s _ => true
  | .h _ _ => false
def totL (xs : List Pt) : Nat := (xs.map Pt.len).sum
/-- one more part -/
def putP (acc : List Pt) (p : Pt) : List Pt := match p with
  | .s l => match acc.getLast? with
    | some (.s m) => acc.dropLast ++ [.s (m ++ l)]
    | _ => if l = [] then acc else acc ++ [p]
  | .h _ _ => acc ++ [p]
def joinP (xs : List Pt) : List Pt := xs.foldl putP []
theorem putP_ok {acc : List Pt} {p : Pt} (ha : ∀ x ∈ acc, x.ok) (hp : p.ok) : ∀ x ∈ putP acc p, x.ok := by
  intro x hx
  unfold putP at hx
  split at hx
  · rename_i l
    split at hx
    · rename_i m hm
      rcases List.mem_append.mp hx with hx | hx
      · exact ha x (List.dropLast_subset _ hx)
      · rw [List.mem_singleton.mp hx]
        intro c hc
        rcases List.mem_append.mp hc with hc | hc
        · exact ha (.s m) (List.mem_of_getLast? hm) c hc
        · exact hp c hc
    · split at hx
      · exact ha x hx
      · rcases List.mem_append.mp hx with hx | hx
        · exact ha x hx
        · rw [List.mem_singleton.mp hx]; exact hp
  · rcases List.mem_append.mp hx with hx | hx
    · exact ha x hx
    · rw [List.mem_singleton.mp hx]; exact hp
theorem totL_app (a b : List Pt) : totL (a ++ b) = totL a + totL b := by unfold totL; rw [List.map_append, List.sum_append]
theorem last_split {α : Type} {l : List α} {x : α} (h : l.getLast? = some x) : l = l.dropLast ++ [x] := by
  rw [List.getLast?_eq_some_iff] at h
  obtain ⟨ys, rfl⟩ := h
  simp
theorem putP_tot {acc : List Pt} {p : Pt} : totL (putP acc p) = totL acc + p.len := by
  unfold putP
  split
  · rename_i l
    split
    · rename_i m hm
      have := last_split hm
      conv => rhs; rw [this]
      rw [totL_app, totL_app]
      simp [totL, Pt.len]
      omega
    · split
      · rename_i hl; subst hl; simp [Pt.len]
      · rw [totL_app]; simp [totL]
  · rw [totL_app]; simp [totL]
theorem putP_len {acc : List Pt} {p : Pt} : (putP acc p).length ≤ acc.length + 1 := by
  unfold putP
  split
  · split
    · rename_i m hm
      have := last_split hm
      have e := congrArg List.length this
      simp at e
      simp
    · split
      · omega
      · simp
  · simp
theorem Pt.inj : ∀ {a b : Pt}, a.d = b.d → a = b
  | .s l, .s m, e => by simp only [Pt.d, D.str.injEq] at e; rw [tx_inj e]
  | .h i z, .h j t, e => by simp only [Pt.d, D.tup.injEq, List.cons.injEq, D.int.injEq, D.str.injEq, and_true] at e; rw [e.1, e.2]
  | .s l, .h j t, e => by simp [Pt.d] at e
  | .h i z, .s m, e => by simp [Pt.d] at e
theorem add_strs {mu : Mu} {a b : List Nat} (h : a.length + b.length ≤ 16777216) : addD (.str (tx a)) (.str (tx b)) mu = some (.ok (.str (tx (a ++ b))), mu) := by
  simp only [addD]
  rw [if_pos (by rw [tx_len, tx_len]; exact h), tx_app]
theorem forL_nxG {g : Option (Nat × List D)} {t : Tg} {b : SS} {x : D} {xs : List D} {rho rho1 rho2 : Rho} {mu mu2 : Mu} (hg : grdOk g mu) (h1 : asgD t x rho = some rho1) (h2 : b rho1 mu = some (.nx, rho2, mu2)) : forL g t b (x :: xs) rho mu = forL g t b xs rho2 mu2 := by
  rw [forL, if_pos hg, h1]
  dsimp only
  rw [h2]
theorem forL_nlG {g : Option (Nat × List D)} {t : Tg} {b : SS} {rho : Rho} {mu : Mu} (hg : grdOk g mu) : forL g t b [] rho mu = some (.nx, rho, mu) := by unfold forL; rw [if_pos hg]
/-! joined (slots: 0 parts, 1 found, 2 part) -/
end DL
set_option Elab.async false
set_option linter.all false
set_option autoImplicit false
set_option maxRecDepth 100000
set_option maxHeartbeats 4000000
/-! M55: words shaped and filled. -/
namespace DL
open PySem PySem.Spec L2
def shpP (sh : Str) : Pt → Pt
  | .s l => .s (Shp.walk sh l)
  | .h i z => .h i (Shp.thn z sh)
def headP (sh : Str) : List Pt → List Pt
  | [] => []
  | x :: r => shpP sh x :: r
def shpL (sh : Str) (xs : List Pt) : List Pt := if sh = "" then xs else if sh = "first" then headP "first" xs else if sh = "upper" then xs.map (shpP "upper") else if sh = "title" then headP "first" (xs.map (shpP "lower")) else xs.map (shpP "lower")
def PsOk (xs : List Pt) : Prop := (∀ p ∈ xs, p.ok) ∧ totL xs ≤ 900000 ∧ xs.length ≤ 900000
theorem shpP_ok {sh : Str} {p : Pt} (hs : sh ∈ Shp.nm) (hp : p.ok) : (shpP sh p).ok ∧ (shpP sh p).len = p.len := by
  cases p with
  | s l => exact ⟨Shp.walk_small hs hp, Shp.walk_len sh l⟩
  | h i z => exact ⟨⟨hp.1, Shp.thn_in z hp.2 sh hs⟩, rfl⟩
theorem PsOk.map {sh : Str} {xs : List Pt} (hs : sh ∈ Shp.nm) (h : PsOk xs) : PsOk (xs.map (shpP sh)) := by
  refine ⟨fun p hp => ?_, ?_, by rw [List.length_map]; exact h.2.2⟩
  · obtain ⟨x, hx, rfl⟩ := List.mem_map.mp hp
    exact (shpP_ok hs (h.1 x hx)).1
  · have : totL (xs.map (shpP sh)) = totL xs := by
      unfold totL
      rw [List.map_map]
      congr 1
      exact List.map_congr_left fun x hx => (shpP_ok hs (h.1 x hx)).2
    rw [this]
    exact h.2.1
theorem PsOk.head {sh : Str} {xs : List Pt} (hs : sh ∈ Shp.nm) (h : PsOk xs) : PsOk (headP sh xs) := by
  cases xs with
  | nil => exact h
  | cons x r =>
    have hx := shpP_ok hs (h.1 x List.mem_cons_self)
    refine ⟨fun p hp => ?_, ?_, h.2.2⟩
    · rcases List.mem_cons.mp hp with rfl | hp
      · exact hx.1
      · exact h.1 p (List.mem_cons_of_mem _ hp)
    · have := h.2.1
      simp only [headP, totL, List.map_cons, List.sum_cons, hx.2] at this ⊢
      exact this
theorem nm5 : ("" : Str) ∈ Shp.nm ∧ ("upper" : Str) ∈ Shp.nm ∧ ("lower" : Str) ∈ Shp.nm ∧ ("first" : Str) ∈ Shp.nm ∧ ("title" : Str) ∈ Shp.nm := by decide +kernel
theorem PsOk.shp {sh : Str} {xs : List Pt} (h : PsOk xs) : PsOk (shpL sh xs) := by
  unfold shpL
  split
  · exact h
  · split
    · exact h.head nm5.2.2.2.1
    · split
      · exact h.map nm5.2.1
      · split
        · exact (h.map nm5.2.2.1).head nm5.2.2.2.1
        · exact h.map nm5.2.2.1
/-! shaped_part (slots: 0 part, 1 shape) -/
/-! shaped_parts (slots: 0 parts, 1 shape, 2 all_small, 3 found, 4 part) -/
theorem sl1 {mu : Mu} {x : D} {xs : List D} : slD (.tup (x :: xs)) (some 1) none mu = some (.ok (.tup xs), mu) := by
  have := sl_from (mu := mu) (xs := x :: xs) (i := 1) (by simp)
  simpa using this
theorem tot_mem {xs : List Pt} {y : Pt} (h : y ∈ xs) : y.len ≤ totL xs := by
  induction xs with
  | nil => cases h
  | cons x xs ih =>
    simp only [totL, List.map_cons, List.sum_cons]
    rcases List.mem_cons.mp h with rfl | h
    · omega
    · have := ih h
      unfold totL at this
      omega
end DL
set_option Elab.async false
set_option linter.all false
set_option autoImplicit false
set_option maxRecDepth 100000
set_option maxHeartbeats 4000000
/-! M56: words made, filled, shaped. -/
namespace DL
open PySem PySem.Spec L2
/-! ### parts that are joined -/
def adjOk : List Pt → Bool
  | p :: q :: r => !(p.isS && q.isS) && adjOk (q :: r)
  | _ => true
def neS : Pt → Bool
  | .s [] => false
  | _ => true
def Jn (xs : List Pt) : Prop := adjOk xs = true ∧ xs.all neS = true
theorem shpP_isS (sh : Str) (p : Pt) : (shpP sh p).isS = p.isS ∧ neS (shpP sh p) = neS p := by
  cases p with
  | s l =>
    refine ⟨rfl, ?_⟩
    cases l with
    | nil => rfl
    | cons c l =>
      show neS (.s (Shp.walk sh (c :: l))) = true
      have := Shp.walk_len sh (c :: l)
      cases hw : Shp.walk sh (c :: l) with
      | nil => rw [hw] at this; simp at this
      | cons a b => rfl
  | h i z => exact ⟨rfl, rfl⟩
theorem adj_map {f : Pt → Pt} (hf : ∀ p, (f p).isS = p.isS) : ∀ xs : List Pt, adjOk (xs.map f) = adjOk xs
  | [] => rfl
  | [x] => rfl
  | x :: y :: xs => by
    show (!((f x).isS && (f y).isS) && adjOk ((y :: xs).map f)) = _
    rw [hf, hf, adj_map hf (y :: xs)]
    rfl
theorem Jn.map {sh : Str} {xs : List Pt} (h : Jn xs) : Jn (xs.map (shpP sh)) := by
  refine ⟨by rw [adj_map fun p => (shpP_isS sh p).1]; exact h.1, ?_⟩
  rw [List.all_map]
  have := h.2
  rw [List.all_eq_true] at this ⊢
  intro x hx
  show neS (shpP sh x) = true
  rw [(shpP_isS sh x).2]
  exact this x hx
theorem Jn.head {sh : Str} {xs : List Pt} (h : Jn xs) : Jn (headP sh xs) := by
  cases xs with
  | nil => exact h
  | cons x r =>
    refine ⟨?_, ?_⟩
    · have := h.1
      cases r with
      | nil => rfl
      | cons y r =>
        show (!((shpP sh x).isS && y.isS) && adjOk (y :: r)) = true
        rw [(shpP_isS sh x).1]
        exact this
    · have := h.2
      simp only [headP, List.all_cons] at this ⊢
      rw [(shpP_isS sh x).2]
      exact this
theorem Jn.shp {sh : Str} {xs : List Pt} (h : Jn xs) : Jn (shpL sh xs) := by
  unfold shpL
  split
  · exact h
  · split
    · exact h.head
    · split
      · exact h.map
      · split
        · exact h.map.head
        · exact h.map
theorem foldP_ok : ∀ {xs acc : List Pt}, (∀ p ∈ acc, p.ok) → (∀ p ∈ xs, p.ok) → ∀ p ∈ xs.foldl putP acc, p.ok
  | [], acc, h, _ => h
  | x :: xs, acc, h, h2 => foldP_ok (xs := xs) (acc := putP acc x) (putP_ok h (h2 x List.mem_cons_self)) fun p hp => h2 p (List.mem_cons_of_mem _ hp)
theorem foldP_tot : ∀ {xs acc : List Pt}, totL (xs.foldl putP acc) = totL acc + totL xs
  | [], acc => by simp [totL]
  | x :: xs, acc => by
    rw [List.foldl_cons, foldP_tot, putP_tot]
    simp [totL]
    omega
theorem foldP_len : ∀ {xs acc : List Pt}, (xs.foldl putP acc).length ≤ acc.length + xs.length
  | [], acc => by simp
  | x :: xs, acc => by
    rw [List.foldl_cons]
    have := foldP_len (xs := xs) (acc := putP acc x)
    have := putP_len (acc := acc) (p := x)
    simp
    omega
theorem PsOk.join {xs : List Pt} (h : PsOk xs) : PsOk (joinP xs) := by
  refine ⟨foldP_ok (fun _ h => nomatch h) h.1, ?_, ?_⟩
  · have := foldP_tot (xs := xs) (acc := [])
    unfold joinP
    rw [this]
    have := h.2.1
    simpa [totL] using this
  · have := foldP_len (xs := xs) (acc := [])
    unfold joinP
    have := h.2.2
    simp at *
    omega
/-! ### filled -/
def txD (l : List Nat) : D := .str (tx l)
structure TxOk (T : List (List Nat)) : Prop where
  small : ∀ t ∈ T, ∀ c ∈ t, c < 127
  short : ∀ t ∈ T, t.length ≤ 1000
  few : T.length ≤ 100
structure FilOk (T : List (List Nat)) (xs : List Pt) : Prop where
  t : TxOk T
  ps : PsOk xs
  few : xs.length ≤ 1000
  inT : ∀ i sh, Pt.h i sh ∈ xs → i.toNat < T.length
theorem FilOk.at_ {T : List (List Nat)} {xs : List Pt} (h : FilOk T xs) {i : Int} {sh : Str} (hm : Pt.h i sh ∈ xs) : ∃ t, T[i.toNat]? = some t ∧ T.getD i.toNat [] = t ∧ t ∈ T := by
  have hi := h.inT i sh hm
  refine ⟨T[i.toNat], List.getElem?_eq_getElem hi, ?_, List.getElem_mem hi⟩
  rw [List.getD_eq_getElem?_getD, List.getElem?_eq_getElem hi]
  rfl
theorem join_txs : ∀ ls : List (List Nat), Txt.join (tx []) (ls.map tx) = tx ls.flatten := fun ls => by
  rw [show Txt.join (tx []) (ls.map tx) = Str.join (tx []) (ls.map tx) from TL.join_eq _ _]
  induction ls with
  | nil => rfl
  | cons a ls ih =>
    cases ls with
    | nil => simp [Str.join]
    | cons b ls =>
      show tx a ++ tx [] ++ Str.join (tx []) ((b :: ls).map tx) = _
      rw [ih, tx_app, tx_app]
      simp
theorem strs_txs : ∀ ls : List (List Nat), strsD (ls.map txD) = some (ls.map tx)
  | [] => rfl
  | a :: ls => by
    rw [List.map_cons]
    unfold txD strsD
    have := strs_txs ls
    unfold txD at this
    rw [this]
    rfl
theorem sum_txs : ∀ ls : List (List Nat), ((ls.map tx).map (·.length)).sum = ls.flatten.length
  | [] => rfl
  | a :: ls => by
    simp only [List.map_cons, List.sum_cons, List.flatten_cons, List.length_append]
    rw [sum_txs ls, tx_len]
theorem join_ev {mu : Mu} {j : Nat} {ls : List (List Nat)} (hj : mu[j]? = some (.lst (ls.map txD))) (hl : ls.flatten.length ≤ 16777216) : joinM (.str "") [.cel j] mu = some (.ok (.str (tx ls.flatten)), mu) := by
  have e0 : ("" : Str) = tx [] := rfl
  have es : seqD (.cel j) mu = some (ls.map txD) := by simp [seqD, lstD, hj]
  show (match seqD (.cel j) mu with | some xs => (match strsD xs with | some ys => if (ys.map Str.length).sum + ys.length * ("" : Str).length ≤ 16777216 then okD (.str (Txt.join "" ys)) mu else none | none => none) | none => none) = _
  rw [es]
  dsimp only
  rw [strs_txs]
  dsimp only
  rw [if_pos (by rw [sum_txs, e0, tx_len]; simp; simpa using hl), e0, join_txs]
/-! filled_parts (slots: 0 parts, 1 texts, 2 part) -/
end DL
set_option Elab.async false
set_option linter.all false
set_option autoImplicit false
set_option maxRecDepth 100000
set_option maxHeartbeats 4000000
/-! M57: the class of words. -/
namespace DL
open PySem PySem.Spec L2
def of_own_parts (q : Ad) (C : Addr) : Bool := decide (C ∈ [q.cWord])
/-! is_pair (slots: 0 thing) -/
/-! ### a word -/
def wdF (xs : List Pt) : List (Str × D) := [("own_parts", .tup (xs.map Pt.d))]
def WdAt (q : Ad) (mu : Mu) (j : Nat) (xs : List Pt) : Prop := mu[j]? = some (.ins q.cWord (wdF xs))
theorem WdAt.app {q : Ad} {mu g : Mu} {j : Nat} {xs : List Pt} (h : WdAt q mu j xs) : WdAt q (mu ++ g) j xs := app_at h
theorem WdAt.fld {q : Ad} {mu : Mu} {j : Nat} {xs : List Pt} (h : WdAt q mu j xs) : fldD "own_parts" (of_own_parts q) (.cel j) mu = some (.ok (.tup (xs.map Pt.d)), mu) := by
  unfold fldD insD
  dsimp only
  rw [h]
  dsimp only
  rw [if_pos (by simp [of_own_parts])]
  rfl
/-! Word.__init__ (slots: 0 self, 1 parts, 2 at, 3 part) -/
/-! Word.shaped (slots: 0 self, 1 shape) -/
/-! Word.filled (slots: 0 self, 1 texts, 2 at, 3 part, 4 one) -/
structure HoleAt (q : Ad) (mu : Mu) (j : Nat) (xs : List Pt) (i : Int) (y : Str) (r : List Pt) (T : List (List Nat)) : Prop where
  w : WdAt q mu j (xs ++ Pt.h i y :: r)
  ok : ∀ p ∈ xs, p.ok
  low : ∀ k w, Pt.h k w ∈ xs → k < T.length
  hi : (T.length : Int) ≤ i
  few : T.length ≤ 1000
  ne : ∀ t ∈ T, t ≠ []
end DL
set_option Elab.async false
set_option linter.all false
set_option autoImplicit false
set_option maxRecDepth 100000
set_option maxHeartbeats 4000000
/-! M58: the law's own parts: joined, letters, filled. -/
namespace DL
open PySem PySem.Spec L2
/-! _law_joined (slots: 0 _law_parts, 1 _law_found, 2 _law_part_here) -/
/-! _law_letter (slots: 0 _law_sign, 1 _law_is_up, 2 _law_small, 3 _law_great) -/
/-! _law_filled (slots: 0 _law_parts, 1 _law_texts, 2 _law_part_here) -/
end DL
set_option Elab.async false
set_option linter.all false
set_option autoImplicit false
set_option maxRecDepth 100000
set_option maxHeartbeats 4000000
/-! M59: a word in a shape, as the law tells it. -/
namespace DL
open PySem PySem.Spec L2
/-! _law_word_in (slots: 0 _law_shape, 1 _law_parts, 2 _law_found, 3 _law_k, 4 _law_part_here, 5 _law_is_up, 6 _law_is_low, 7 _law_own, 8 _law_many, 9 _law_sign) -/
/-- what becomes of the part k -/
def wiP (sh : Str) (k : Nat) : Pt → Pt
  | .s l => .s (((l.map fun c => if Shp.loB sh = true then lo1 c else c).take (if sh = "upper" then l.length else if Shp.upB sh k = true then 1 else 0)).map up1 ++ (l.map fun c => if Shp.loB sh = true then lo1 c else c).drop (if sh = "upper" then l.length else if Shp.upB sh k = true then 1 else 0))
  | .h i z => .h i (if Shp.upB sh k = true ∧ sh ≠ "upper" then Shp.thn (if sh = "upper" then "upper" else if Shp.loB sh = true then "lower" else z) "first" else if sh = "upper" then "upper" else if Shp.loB sh = true then "lower" else z)
theorem join_c {mu : Mu} {j : Nat} {l : List Nat} (hj : mu[j]? = some (.lst (l.map fun c => D.str (tx [c])))) (hl : l.length ≤ 16000000) : joinM (.str "") [.cel j] mu = some (.ok (.str (tx l)), mu) := by
  have e : l.map (fun c => D.str (tx [c])) = (l.map fun c => [c]).map txD := by rw [List.map_map]; rfl
  rw [e] at hj
  have fl : (l.map fun c => [c]).flatten = l := by
    clear hj hl e
    induction l with
    | nil => rfl
    | cons c l ih => simp [ih]
  rw [join_ev hj (by rw [fl]; omega), fl]
theorem sl_strT {mu : Mu} {l : List Nat} {n : Nat} (h : l.length ≤ 16000000) : slD (.str (tx l)) none (some (n : Int)) mu = some (.ok (.str (tx (l.take n))), mu) := by
  have z : (tx l).length ≤ 16777216 := by rw [tx_len]; omega
  simp only [slD, if_pos z, okD]
  have : cutS (tx l) none (some (n : Int)) = tx (l.take n) := by
    unfold cutS
    simp [HT.sIx_nat, HT.sIx_none, tx_len]
    try (apply congrArg; omega)
  rw [this]
theorem sl_strD {mu : Mu} {l : List Nat} {n : Nat} (h : l.length ≤ 16000000) : slD (.str (tx l)) (some (n : Int)) none mu = some (.ok (.str (tx (l.drop n))), mu) := by
  have z : (tx l).length ≤ 16777216 := by rw [tx_len]; omega
  simp only [slD, if_pos z, okD]
  have : cutS (tx l) (some (n : Int)) none = tx (l.drop n) := by
    unfold cutS
    simp [HT.sIx_nat, HT.sIx_none, tx_len]
    rw [List.take_of_length_le (by rw [List.length_drop]; exact Nat.le_refl _)]
    by_cases hn : n ≤ l.length
    · rw [Nat.min_eq_left hn]
    · rw [Nat.min_eq_right (by omega), List.drop_eq_nil_of_le (Nat.le_refl _), List.drop_eq_nil_of_le (by omega)]
  rw [this]
/-! ### what it is in plain words -/
theorem map_walk {sh : Str} (h : ∀ k c, Shp.wk sh k c = Shp.wk sh 1 c) (l : List Nat) : Shp.walk sh l = l.map (Shp.wk sh 1) := by
  unfold Shp.walk
  apply List.ext_getElem?
  intro i
  rw [List.getElem?_mapIdx, List.getElem?_map]
  cases l[i]? with
  | none => rfl
  | some c => simp [h]
theorem wk_low (k c : Nat) : Shp.wk "lower" k c = lo1 c := by
  have : Shp.upB "lower" k = false := by unfold Shp.upB; cases k <;> rfl
  unfold Shp.wk; rw [this]; rfl
theorem wk_upp (k c : Nat) : Shp.wk "upper" k c = up1 c := by
  have : Shp.upB "upper" k = true := by unfold Shp.upB; cases k <;> rfl
  unfold Shp.wk; rw [this]; rfl
theorem walk_low (l : List Nat) : Shp.walk "lower" l = l.map lo1 := by
  rw [map_walk (fun k c => by rw [wk_low, wk_low])]
  exact List.map_congr_left fun c _ => wk_low 1 c
theorem walk_upp (l : List Nat) : Shp.walk "upper" l = l.map up1 := by
  rw [map_walk (fun k c => by rw [wk_upp, wk_upp])]
  exact List.map_congr_left fun c _ => wk_upp 1 c
theorem walk_fst (l : List Nat) : Shp.walk "first" l = (l.take 1).map up1 ++ l.drop 1 := by
  rw [Shp.head_tail, show Shp.wk "first" 0 = up1 by rfl, show Shp.wk "first" 1 = id by rfl, List.map_id]
theorem thn_u (z : Str) (h : z ∈ Shp.nm) : Shp.thn z "upper" = "upper" ∧ Shp.thn z "lower" = "lower" := by
  simp only [Shp.nm, List.mem_cons, List.not_mem_nil, or_false] at h
  rcases h with rfl | rfl | rfl | rfl | rfl <;> exact ⟨rfl, rfl⟩
theorem nupp : ¬ ("" : Str) = "upper" ∧ ¬ ("lower" : Str) = "upper" ∧ ¬ ("first" : Str) = "upper" ∧ ¬ ("title" : Str) = "upper" := by decide +kernel
theorem wiP_0 {p : Pt} (k : Nat) : wiP "" k p = p := by
  have u : Shp.upB "" k = false := by unfold Shp.upB; cases k <;> rfl
  have l0 : Shp.loB "" = false := rfl
  cases p with
  | s l => simp [wiP, nupp.1, nupp.2.1, nupp.2.2.1, nupp.2.2.2, u, l0]
  | h i z => simp [wiP, nupp.1, nupp.2.1, nupp.2.2.1, nupp.2.2.2, u, l0]
theorem wiP_up {p : Pt} (hp : p.ok) (k : Nat) : wiP "upper" k p = shpP "upper" p := by
  have l0 : Shp.loB "upper" = false := rfl
  cases p with
  | s l => simp [wiP, nupp.1, nupp.2.1, nupp.2.2.1, nupp.2.2.2, shpP, l0, walk_upp]
  | h i z => simp [wiP, nupp.1, nupp.2.1, nupp.2.2.1, nupp.2.2.2, shpP, (thn_u z hp.2).1]
theorem wiP_lo {p : Pt} (hp : p.ok) (k : Nat) : wiP "lower" k p = shpP "lower" p := by
  have u : Shp.upB "lower" k = false := by unfold Shp.upB; cases k <;> rfl
  have l0 : Shp.loB "lower" = true := rfl
  cases p with
  | s l => simp [wiP, nupp.1, nupp.2.1, nupp.2.2.1, nupp.2.2.2, shpP, u, l0, walk_low, Function.comp_def]
  | h i z => simp [wiP, nupp.1, nupp.2.1, nupp.2.2.1, nupp.2.2.2, shpP, u, l0, (thn_u z hp.2).2]
theorem wiP_f0 {p : Pt} : wiP "first" 0 p = shpP "first" p := by
  have u : Shp.upB "first" 0 = true := rfl
  have l0 : Shp.loB "first" = false := rfl
  cases p with
  | s l => simp [wiP, nupp.1, nupp.2.1, nupp.2.2.1, nupp.2.2.2, shpP, u, l0, walk_fst]
  | h i z => simp [wiP, nupp.1, nupp.2.1, nupp.2.2.1, nupp.2.2.2, shpP, u, l0]
theorem wiP_f1 {p : Pt} (k : Nat) : wiP "first" (k + 1) p = p := by
  have u : Shp.upB "first" (k + 1) = false := rfl
  have l0 : Shp.loB "first" = false := rfl
  cases p with
  | s l => simp [wiP, nupp.1, nupp.2.1, nupp.2.2.1, nupp.2.2.2, u, l0]
  | h i z => simp [wiP, nupp.1, nupp.2.1, nupp.2.2.1, nupp.2.2.2, u, l0]
theorem wiP_t0 {p : Pt} (hp : p.ok) : wiP "title" 0 p = shpP "first" (shpP "lower" p) := by
  have u : Shp.upB "title" 0 = true := rfl
  have l0 : Shp.loB "title" = true := rfl
  cases p with
  | s l => simp [wiP, nupp.1, nupp.2.1, nupp.2.2.1, nupp.2.2.2, shpP, u, l0, walk_fst, walk_low, Function.comp_def]
  | h i z => simp [wiP, nupp.1, nupp.2.1, nupp.2.2.1, nupp.2.2.2, shpP, u, l0, (thn_u z hp.2).2]
theorem wiP_t1 {p : Pt} (hp : p.ok) (k : Nat) : wiP "title" (k + 1) p = shpP "lower" p := by
  have u : Shp.upB "title" (k + 1) = false := rfl
  have l0 : Shp.loB "title" = true := rfl
  cases p with
  | s l => simp [wiP, nupp.1, nupp.2.1, nupp.2.2.1, nupp.2.2.2, shpP, u, l0, walk_low, Function.comp_def]
  | h i z => simp [wiP, nupp.1, nupp.2.1, nupp.2.2.1, nupp.2.2.2, shpP, u, l0, (thn_u z hp.2).2]
theorem idx_map {f : Nat → Pt → Pt} {h : Pt → Pt} : ∀ {xs : List Pt}, (∀ k, ∀ p ∈ xs, f k p = h p) → xs.mapIdx f = xs.map h := fun {xs} hf => by
  apply List.ext_getElem?
  intro i
  rw [List.getElem?_mapIdx, List.getElem?_map]
  cases e : xs[i]? with
  | none => rfl
  | some p => simp [hf i p (List.mem_of_getElem? e)]
theorem wi_all {sh : Str} (hs : sh ∈ Shp.nm) {xs : List Pt} (hp : ∀ p ∈ xs, p.ok) : xs.mapIdx (wiP sh) = shpL sh xs := by
  simp only [Shp.nm, List.mem_cons, List.not_mem_nil, or_false] at hs
  rcases hs with rfl | rfl | rfl | rfl | rfl
  · rw [idx_map (f := wiP "") (h := id) (fun k p _ => wiP_0 k), List.map_id]; rfl
  · rw [idx_map (fun k p h => wiP_up (hp p h) k)]; rfl
  · rw [idx_map (fun k p h => wiP_lo (hp p h) k)]; rfl
  · cases xs with
    | nil => rfl
    | cons x r =>
      rw [List.mapIdx_cons, wiP_f0, idx_map (f := fun i => wiP "first" (i + 1)) (h := id) (fun k p _ => wiP_f1 k), List.map_id]; rfl
  · cases xs with
    | nil => rfl
    | cons x r =>
      rw [List.mapIdx_cons, wiP_t0 (hp x List.mem_cons_self), idx_map (h := shpP "lower") (fun k p h => wiP_t1 (hp p (List.mem_cons_of_mem _ h)) k)]; rfl
/-! ### the whole -/
end DL
set_option Elab.async false
set_option linter.all false
set_option autoImplicit false
set_option maxRecDepth 100000
set_option maxHeartbeats 4000000
/-! M60: parts and texts drawn; filling a shaped word. -/
namespace DL
open PySem PySem.Spec L2
/-! _law_part (slots: 0 _law_draws_here, 1 _law_most) -/
/-! _law_written (slots: 0 _law_draws_here, 1 _law_many, 2 _law_signs_here, 3 _law_k) -/
def TxK (l : List Nat) : Prop := l ≠ [] ∧ l.length ≤ 200 ∧ ∀ c ∈ l, c < 127
/-! ### filling a shaped word -/
theorem wiP_h {sh : Str} {k : Nat} {p : Pt} {i : Int} {z : Str} (h : wiP sh k p = .h i z) : ∃ y, p = .h i y := by
  cases p with
  | s l => simp [wiP] at h
  | h j y =>
    simp only [wiP, Pt.h.injEq] at h
    exact ⟨y, by rw [h.1]⟩
theorem shpL_h {sh : Str} (hs : sh ∈ Shp.nm) {xs : List Pt} (hp : ∀ p ∈ xs, p.ok) {i : Int} {z : Str} (h : Pt.h i z ∈ shpL sh xs) : ∃ y, Pt.h i y ∈ xs := by
  rw [← wi_all hs hp] at h
  obtain ⟨k, hk, e⟩ := List.mem_mapIdx.mp h
  obtain ⟨y, hy⟩ := wiP_h e
  exact ⟨y, hy ▸ List.getElem_mem hk⟩
theorem shpL_len {sh : Str} (hs : sh ∈ Shp.nm) {xs : List Pt} (hp : ∀ p ∈ xs, p.ok) : (shpL sh xs).length = xs.length := by
  rw [← wi_all hs hp, List.length_mapIdx]
theorem FilOk.shp {T : List (List Nat)} {sh : Str} (hs : sh ∈ Shp.nm) {xs : List Pt} (h : FilOk T xs) : FilOk T (shpL sh xs) := ⟨h.t, h.ps.shp, by rw [shpL_len hs h.ps.1]; exact h.few, fun i z hm => by
  obtain ⟨y, hy⟩ := shpL_h hs h.ps.1 hm
  exact h.inT i y hy⟩
/-! ### parts of a word that is joined -/
structure Pk (xs : List Pt) : Prop where
  ok : ∀ p ∈ xs, p.ok
  tot : totL xs ≤ 24
  few : xs.length ≤ 8
  low : ∀ i sh, Pt.h i sh ∈ xs → i < 4
  jn : Jn xs
theorem Pk.ps {xs : List Pt} (h : Pk xs) : PsOk xs := ⟨h.ok, by have := h.tot; omega, by have := h.few; omega⟩
theorem tot_map {sh : Str} (hs : sh ∈ Shp.nm) {xs : List Pt} (h : ∀ p ∈ xs, p.ok) : totL (xs.map (shpP sh)) = totL xs := by
  unfold totL
  rw [List.map_map]
  congr 1
  exact List.map_congr_left fun x hx => (shpP_ok hs (h x hx)).2
theorem tot_head {sh : Str} (hs : sh ∈ Shp.nm) {xs : List Pt} (h : ∀ p ∈ xs, p.ok) : totL (headP sh xs) = totL xs := by
  cases xs with
  | nil => rfl
  | cons x r => simp only [headP, totL, List.map_cons, List.sum_cons, (shpP_ok hs (h x List.mem_cons_self)).2]
theorem tot_shp {sh : Str} {xs : List Pt} (h : ∀ p ∈ xs, p.ok) : totL (shpL sh xs) = totL xs := by
  unfold shpL
  split
  · rfl
  · split
    · exact tot_head nm5.2.2.2.1 h
    · split
      · exact tot_map nm5.2.1 h
      · split
        · rw [tot_head nm5.2.2.2.1 (fun p hp => by
            obtain ⟨x, hx, rfl⟩ := List.mem_map.mp hp
            exact (shpP_ok nm5.2.2.1 (h x hx)).1), tot_map nm5.2.2.1 h]
        · exact tot_map nm5.2.2.1 h
theorem Pk.shp {sh : Str} (hs : sh ∈ Shp.nm) {xs : List Pt} (h : Pk xs) : Pk (shpL sh xs) := ⟨h.ps.shp.1, by rw [tot_shp h.ok]; exact h.tot, by rw [shpL_len hs h.ok]; exact h.few, fun i z hm => by
  obtain ⟨y, hy⟩ := shpL_h hs h.ok hm
  exact h.low i y hy, h.jn.shp⟩
structure Tk (T : List (List Nat)) : Prop where
  tx : ∀ t ∈ T, TxK t
  four : 4 ≤ T.length
  few : T.length ≤ 8
/-! ### shown -/
theorem fit_txt {mu : Mu} {l : List Nat} {w dp : Nat} (h : ∀ c ∈ l, c < 127) (hl : l.length ≤ w) (hw : w ≤ 16777216) : Fit mu w dp (txD l) := by
  refine Fit.str ?_ ?_ hw
  · rw [List.all_eq_true]
    intro c hc
    have : (tx l).cps.toList = l := by simp
    rw [this] at hc
    exact decide_eq_true (by have := h c hc; omega)
  · have := tx_len l
    have e : (tx l).length = (tx l).cps.size := rfl
    omega
theorem fit_pt {mu : Mu} {p : Pt} (hp : p.ok) (hl : p.len ≤ 24) (hi : ∀ i sh, p = .h i sh → i < 4) : Fit mu 100 2 p.d := by
  cases p with
  | s l => exact (fit_txt (w := 24) hp hl (by decide)).mono (by decide) (Nat.le_refl _)
  | h i sh =>
    have h1 := hp.1
    have h2 := hi i sh rfl
    have f1 : Fit mu 7 1 (.int i) := by
      rcases (show i = 0 ∨ i = 1 ∨ i = 2 ∨ i = 3 by omega) with rfl | rfl | rfl | rfl <;> exact Fit.closed (by decide +kernel)
    have f2 : Fit mu 10 1 (.str sh) := Fit.shape (Shp.nm_shape.mpr hp.2)
    exact (Fit.tup (FitL.cons f1 (FitL.cons f2 (FitL.nil (w := 0))))).mono (by decide) (Nat.le_refl _)
theorem fit_all {α : Type} {f : α → D} {mu : Mu} {w dp : Nat} : ∀ {xs : List α}, (∀ x ∈ xs, Fit mu w dp (f x)) → FitL mu ((w + 1) * xs.length) dp (xs.map f)
  | [], _ => FitL.nil
  | x :: xs, h => by
    have := FitL.cons (h x List.mem_cons_self) (fit_all (xs := xs) fun y hy => h y (List.mem_cons_of_mem _ hy))
    refine this.mono ?_ (Nat.le_refl _)
    rw [List.length_cons, Nat.mul_add]
    omega
theorem Pk.fit {xs : List Pt} (h : Pk xs) : Fit [] 1000 3 (.tup (xs.map Pt.d)) := by
  refine Fit.tup (dp := 2) ((fit_all (w := 100) fun p hp => fit_pt (h.ok p hp) (by have := tot_mem hp; have := h.tot; omega) fun i sh e => h.low i sh (e ▸ hp)).mono ?_ (Nat.le_refl _))
  have := h.few
  omega
theorem Tk.fit {T : List (List Nat)} (h : Tk T) : Fit [] 2000 3 (.tup (T.map txD)) := by
  refine Fit.tup (dp := 2) ((fit_all (w := 200) fun t ht => fit_txt (h.tx t ht).2.2 (h.tx t ht).2.1 (by decide)).mono ?_ (Nat.le_refl _))
  have := h.few
  omega
end DL
set_option Elab.async false
set_option linter.all false
set_option autoImplicit false
set_option maxRecDepth 100000
set_option maxHeartbeats 4000000
/-! M61: the law k11 at data. -/
namespace DL
open PySem PySem.Spec L2
/-! law (slots: 0 _law_script, 1 _law_draws_here, 2 _law_turn, 3 _law_parts, 4 _law_texts, 5 _law_string, 6 _law_again, 7 _law_word, 8 _law_kept, 9 _law_shape, 10 _law_other, 11 _law_later, 12 _law_k, 13 _law_due) -/
theorem for_keep {t : Tg} {b : SS} (K : Rho → Mu → Prop) : ∀ {xs : List D}, (∀ x ∈ xs, ∀ rho mu, K rho mu → ∃ rho1, asgD t x rho = some rho1 ∧ ∃ rho2 mu2, b rho1 mu = some (.nx, rho2, mu2) ∧ K rho2 mu2) → ∀ {rho : Rho} {mu : Mu}, K rho mu → ∃ rho2 mu2, forL none t b xs rho mu = some (.nx, rho2, mu2) ∧ K rho2 mu2
  | [], _, rho, mu, h0 => ⟨rho, mu, forL_nlG trivial, h0⟩
  | x :: xs, h, rho, mu, h0 => by
    obtain ⟨rho1, e1, rho2, mu2, e2, h2⟩ := h x List.mem_cons_self rho mu h0
    obtain ⟨rho3, mu3, e3, h3⟩ := for_keep K (xs := xs) (fun y hy => h y (List.mem_cons_of_mem _ hy)) h2
    exact ⟨rho3, mu3, by rw [forL_nxG (show grdOk none mu from trivial) e1 e2]; exact e3, h3⟩
/-- what a turn knows -/
structure K11 (q : Ad) (xs : List Pt) (T : List (List Nat)) (M : Mu) (jw : Nat) : Prop where
  p : Pk xs
  t : Tk T
  w : WdAt q M jw xs
theorem Tk.ne {T : List (List Nat)} (h : Tk T) : ∀ t ∈ T, t ≠ [] := fun t ht => (h.tx t ht).1
end DL
set_option Elab.async false
set_option linter.all false
set_option autoImplicit false
set_option maxRecDepth 100000
set_option maxHeartbeats 4000000
/-! M66: what a refusal tells. -/
namespace DL
open PySem PySem.Spec L2
/-! ### the first slot is not looked at -/
def Par (g : SS) : Prop := ∀ l mu, ∃ o : Option (Fl × Rho × Mu), ∀ a, g (a :: l) mu = o.map (fun x => (x.1, a :: x.2.1, x.2.2))
theorem par_nil : Par sNil := fun l mu => ⟨some (.nx, l, mu), fun _ => rfl⟩
theorem par_ret {e : ES} (h : ∀ l mu a, e (a :: l) mu = e (none :: l) mu) : Par (sRet e) := fun l mu => by
  cases he : e (none :: l) mu with
  | none => exact ⟨none, fun a => by rw [sRet_ev, h, he]; rfl⟩
  | some x =>
    obtain ⟨r, mu1⟩ := x
    cases r with
    | ok d => exact ⟨some (.rt d, l, mu1), fun a => by rw [sRet_ev, h, he]; rfl⟩
    | ex C fs => exact ⟨some (.ex C fs, l, mu1), fun a => by rw [sRet_ev, h, he]; rfl⟩
theorem par_if {c : ES} {s t : SS} (h : ∀ l mu a, c (a :: l) mu = c (none :: l) mu) (hs : Par s) (ht : Par t) : Par (sIf c s t) := fun l mu => by
  cases he : c (none :: l) mu with
  | none => exact ⟨none, fun a => by rw [sIf_ev, h, he]; rfl⟩
  | some x =>
    obtain ⟨r, mu1⟩ := x
    cases r with
    | ok d =>
      cases d with
      | bl b =>
        cases b with
        | true =>
          obtain ⟨o, ho⟩ := hs l mu1
          exact ⟨o, fun a => by rw [sIf_ev, h, he, bnS_ok, chS_bl, if_pos rfl, ho]⟩
        | false =>
          obtain ⟨o, ho⟩ := ht l mu1
          exact ⟨o, fun a => by rw [sIf_ev, h, he, bnS_ok, chS_bl, if_neg (by simp), ho]⟩
      | _ => exact ⟨none, fun a => by rw [sIf_ev, h, he, bnS_ok]; rfl⟩
    | ex C fs => exact ⟨some (.ex C fs, l, mu1), fun a => by rw [sIf_ev, h, he]; rfl⟩
theorem par_seq {s t : SS} (hs : Par s) (ht : Par t) : Par (sSeq s t) := fun l mu => by
  obtain ⟨o, ho⟩ := hs l mu
  cases o with
  | none => exact ⟨none, fun a => by rw [sSeq_ev, ho]; rfl⟩
  | some x =>
    obtain ⟨f, l1, mu1⟩ := x
    cases f with
    | nx =>
      obtain ⟨o2, ho2⟩ := ht l1 mu1
      exact ⟨o2, fun a => by rw [sSeq_ev, ho]; exact ho2 a⟩
    | rt d => exact ⟨some (.rt d, l1, mu1), fun a => by rw [sSeq_ev, ho]; rfl⟩
    | ex C fs => exact ⟨some (.ex C fs, l1, mu1), fun a => by rw [sSeq_ev, ho]; rfl⟩
    | bk => exact ⟨some (.bk, l1, mu1), fun a => by rw [sSeq_ev, ho]; rfl⟩
    | ct => exact ⟨some (.ct, l1, mu1), fun a => by rw [sSeq_ev, ho]; rfl⟩
theorem fin_par {g : SS} (h : Par g) (a b : Option D) (l : Rho) (mu : Mu) : DL.fin (g (a :: l) mu) = DL.fin (g (b :: l) mu) := by
  obtain ⟨o, ho⟩ := h l mu
  rw [ho, ho]
  cases o with
  | none => rfl
  | some x =>
    obtain ⟨f, l1, mu1⟩ := x
    cases f <;> rfl
/-! _law_refused (slots: 0 _law_call, 1 _law_caught, 2 e) -/
/-! ### what it tells -/
structure D13 (q : Ad) : Prop where
  m : q.cMissing ∉ subsS q
  ws : q.cBadWord ≠ q.cBadShape
  wt : q.cBadWord ≠ q.cBadText
  st : q.cBadShape ≠ q.cBadText
/-! Word.__getitem__ (slots: 0 self, 1 at) -/
/-! ### an item that is not there -/
end DL
set_option Elab.async false
set_option linter.all false
set_option autoImplicit false
set_option maxRecDepth 100000
set_option maxHeartbeats 4000000
/-! M67: refusals shown. -/
namespace DL
open PySem PySem.Spec L2
end DL

set_option Elab.async false
set_option linter.all false
set_option autoImplicit false
set_option maxRecDepth 100000
set_option maxHeartbeats 4000000
/-! M80: the defs of k33 at data. -/
namespace DL
open PySem PySem.Spec L2
def d_PRESS_WORDS : D := .tup [.str "write", .str "clear", .str "reset", .str "next", .str "back"]

/-! is_text (slots: 0 thing) -/
noncomputable def m_is_text (q : Ad) : SS := sRet (eAnd (eCall isiF [eVar 0, eC (.ty "str")]) (eAnd (eChain leD leD (eC (.int 1)) (eCall lenF [eVar 0]) (eC (.int 200))) (eOp notInD (eC (.str "\n")) (eVar 0))))
noncomputable abbrev P_is_text (q : Ad) : FS := fnS 1 (m_is_text q)
/-! need_press (slots: 0 thing) -/
noncomputable def m_need_press (q : Ad) : SS := sSeq (sIf (eOr (eNot (eCall isiF [eVar 0, eC (.ty "tuple")])) (eOr (eOp eqA (eVar 0) (eCall tupF [])) (eOr (eNot (eCall isiF [eOp ixD (eVar 0) (eC (.int 0)), eC (.ty "str")])) (eOp notInD (eOp ixD (eVar 0) (eC (.int 0))) (eC d_PRESS_WORDS))))) (sRaise q.cBadPress gs_BadPress [eVar 0]) (sNil)) (sSeq (sIf (eOr (eOp neD (eCall lenF [eVar 0]) (eOp addD (eC (.int 1)) (eCall intF [eOp eqD (eOp ixD (eVar 0) (eC (.int 0))) (eC (.str "write"))]))) (eAnd (eOp eqD (eOp ixD (eVar 0) (eC (.int 0))) (eC (.str "write"))) (eNot (eCall (P_is_text q) [eOp ixD (eVar 0) (eC (.int 1))])))) (sRaise q.cBadPress gs_BadPress [eVar 0]) (sNil)) (sRet (eVar 0)))
noncomputable abbrev P_need_press (q : Ad) : FS := fnS 1 (m_need_press q)
/-! need_row (slots: 0 thing, 1 at, 2 press, 3 error) -/
noncomputable def m_need_row (q : Ad) : SS := sSeq (sIf (eNot (eCall isiF [eVar 0, eC (.ty "tuple")])) (sRaise q.cBadRow gs_BadRow [eC .non]) (sNil)) (sSeq (sFor (iEn (eVar 0)) (.tp [1, 2]) (sTryF 3 1 (t_BadPress q) q.cBadRow "place" (sExpr (eCall (P_need_press q) [eVar 2])))) (sRet (eVar 0)))
noncomputable abbrev P_need_row (q : Ad) : FS := fnS 4 (m_need_row q)
/-! row_text (slots: 0 row, 1 press) -/
noncomputable def m_row_text (q : Ad) : SS := sRet (eMth isSB joinM (eC (.str "\n")) [eComp (iV (eCall (P_need_row q) [eVar 0])) (.nm 1) [1] (eC (.bl true)) (eMth isSB joinM (eC (.str " ")) [eCall listA [eVar 1]])])
noncomputable abbrev P_row_text (q : Ad) : FS := fnS 2 (m_row_text q)
/-! press_of (slots: 0 line) -/
noncomputable def m_press_of (q : Ad) : SS := sRet (eIf (eOp eqD (eSl (eVar 0) none (some (eC (.int 6)))) (eC (.str "write "))) (eCall tupF [eC (.str "write"), eSl (eVar 0) (some (eC (.int 6))) none]) (eCall tupF [eVar 0]))
noncomputable abbrev P_press_of (q : Ad) : FS := fnS 1 (m_press_of q)
/-! read_row (slots: 0 text, 1 found, 2 at, 3 line, 4 error) -/
noncomputable def m_read_row (q : Ad) : SS := sSeq (sIf (eNot (eCall isiF [eVar 0, eC (.ty "str")])) (sRaise q.cBadText gs_BadText [eNeg (eC (.int 1))]) (sNil)) (sSeq (sSet 1 (eCall lstF [])) (sSeq (sFor (iEn (eIf (eOp neD (eVar 0) (eC (.str ""))) (eMth isSB splitM (eVar 0) [eC (.str "\n")]) (eCall lstF []))) (.tp [2, 3]) (sTryF 4 2 (t_BadPress q) q.cBadText "place" (sExpr (eMth isLB appM (eVar 1) [eCall (P_need_press q) [eCall (P_press_of q) [eVar 3]]])))) (sRet (eTuple (eVar 1)))))
noncomputable abbrev P_read_row (q : Ad) : FS := fnS 5 (m_read_row q)
/-! _law_signs (slots: 0 _law_figures, 1 _law_small) -/
noncomputable def m__law_signs_1caa5b (q : Ad) : SS := sSeq (sAsg (.tp [0, 1]) (eCall tupF [eC (.str "0123456789"), eC (.str "abcdefghijklmnopqrstuvwxyz")])) (sRet (eOp addD (eOp addD (eOp addD (eOp addD (eC (.str " !\"#$&'()*+,-./")) (eVar 0)) (eC (.str ":;<=>?@ABCDEFGHIJKLMNOPQRSTUVWXYZ[\\]^_`"))) (eVar 1)) (eC (.str "{|}"))))
noncomputable abbrev P__law_signs_1caa5b (q : Ad) : FS := fnS 2 (m__law_signs_1caa5b q)
/-! _law_written (slots: 0 _law_draws_here, 1 _law_many, 2 _law_signs_here, 3 _law_k) -/
noncomputable def m__law_written_R33 (q : Ad) : SS := sSeq (sSet 1 (eOp addD (eC (.int 1)) (eCall (P__law_pick q) [eVar 0, eOp ixD (eCall lstF [eC (.int 2), eC (.int 4), eC (.int 12), eC (.int 200)]) (eCall (P__law_pick q) [eVar 0, eC (.int 4)])]))) (sSeq (sSet 2 (eOp ixD (eCall lstF [eC (.str "ab"), eC (.str "aB ~"), eOp addD (eCall (P__law_signs_1caa5b q) []) (eC (.str "~"))]) (eCall (P__law_pick q) [eVar 0, eC (.int 3)]))) (sRet (eMth isSB joinM (eC (.str "")) [eComp (iRg (eVar 1)) (.nm 3) [3] (eC (.bl true)) (eCall (P__law_one q) [eVar 0, eVar 2])])))
def TxN (l : List Nat) : Prop := l ≠ [] ∧ l.length ≤ 200 ∧ ∀ c ∈ l, 32 ≤ c ∧ c < 127
def R__law_written_R33 (ds : List D) (mu : Mu) (x : D) : Prop := ds = [.cel 0] → ∃ l, x = txD l ∧ TxN l
noncomputable def P__law_written_R33 (q : Ad) : FS := Rel (fnS 4 (m__law_written_R33 q)) (Keep R__law_written_R33)
theorem md__law_written_R33 (q : Ad) : Mdl (fnS 4 (m__law_written_R33 q)) (P__law_written_R33 q) := Rel.mdl _ _
/-! _law_press (slots: 0 _law_draws_here, 1 _law_word) -/
noncomputable def m__law_press (q : Ad) : SS := sSeq (sSet 1 (eCall (P__law_one q) [eVar 0, eCall lstF [eC (.str "write"), eC (.str "write"), eC (.str "clear"), eC (.str "reset"), eC (.str "next"), eC (.str "next"), eC (.str "back")]])) (sRet (eIf (eOp eqD (eVar 1) (eC (.str "write"))) (eCall tupF [eC (.str "write"), eCall (P__law_written_R33 q) [eVar 0]]) (eCall tupF [eVar 1])))
/-- a press -/
inductive Pr
  | k (z : Str)
  | w (l : List Nat)
def Pr.d : Pr → D
  | .k z => .tup [.str z]
  | .w l => .tup [.str "write", txD l]
def keyW : List Str := ["clear", "reset", "next", "back"]
def Pr.ok : Pr → Prop
  | .k z => z ∈ keyW
  | .w l => TxN l
def R__law_press (ds : List D) (mu : Mu) (x : D) : Prop := ds = [.cel 0] → ∃ p : Pr, x = p.d ∧ p.ok
noncomputable def P__law_press (q : Ad) : FS := Rel (fnS 2 (m__law_press q)) (Keep R__law_press)
theorem md__law_press (q : Ad) : Mdl (fnS 2 (m__law_press q)) (P__law_press q) := Rel.mdl _ _
/-! _law_lines (slots: 0 _law_row, 1 _law_press_here) -/
noncomputable def m__law_lines_dd0f9d (q : Ad) : SS := sRet (eMth isSB joinM (eC (.str "\n")) [eComp (iV (eVar 0)) (.nm 1) [1] (eC (.bl true)) (eOp addD (eOp ixD (eVar 1) (eC (.int 0))) (eIf (eOp eqD (eOp ixD (eVar 1) (eC (.int 0))) (eC (.str "write"))) (eOp addD (eC (.str " ")) (eOp ixD (eVar 1) (eC (.int 1)))) (eC (.str ""))))])
noncomputable abbrev P__law_lines_dd0f9d (q : Ad) : FS := fnS 2 (m__law_lines_dd0f9d q)
/-! _law_read (slots: 0 _law_text, 1 _law_found, 2 _law_number, 3 _law_own) -/
noncomputable def m__law_read_f27a7e (q : Ad) : SS := sSeq (sSet 1 (eCall lstF [])) (sSeq (sFor (iEn (eIf (eOp neD (eVar 0) (eC (.str ""))) (eMth isSB splitM (eVar 0) [eC (.str "\n")]) (eCall lstF []))) (.tp [2, 3]) (sIf (eOp inD (eVar 3) (eCall tupF [eC (.str "clear"), eC (.str "reset"), eC (.str "next"), eC (.str "back")])) (sExpr (eMth isLB appM (eVar 1) [eCall tupF [eVar 3]])) (sIf (eAnd (eOp eqD (eSl (eVar 3) none (some (eC (.int 6)))) (eC (.str "write "))) (eChain leD leD (eC (.int 1)) (eCall lenF [eSl (eVar 3) (some (eC (.int 6))) none]) (eC (.int 200)))) (sExpr (eMth isLB appM (eVar 1) [eCall tupF [eC (.str "write"), eSl (eVar 3) (some (eC (.int 6))) none]])) (sRet (eVar 2))))) (sRet (eCall lstF [eTuple (eVar 1)])))
noncomputable abbrev P__law_read_f27a7e (q : Ad) : FS := fnS 4 (m__law_read_f27a7e q)
/-! _law_told (slots: 0 _law_call, 1 e, 2 _law_kinds, 3 _law_found, 4 _law_caught) -/
noncomputable def m__law_told_1a87f6 (q : Ad) (f : Addr) (cl : Mu → Ro) : SS := sSeq (sAsg (.tp [3, 4]) (eCall tupF [eC .non, eC .non])) (sSeq (sTryK 1 4 (t_SnippetError q) (sSet 3 (eAct f cl))) (sSeq (sIf (eIsN (eVar 4)) (sRet (eCall lstF [eC (.str "told"), eVar 3])) (sNil)) (sSeq (sSet 2 (eCall lstF [eCall (isO q.cBadText (is_BadText q)) [eVar 4, eC (.adr q.cBadText)], eCall (isO q.cBadRow (is_BadRow q)) [eVar 4, eC (.adr q.cBadRow)]])) (sSeq (sIf (eOr (eOp neD (eMth isLB cntM (eVar 2) [eC (.bl true)]) (eC (.int 1))) (eIsXT [q.cBadPress, q.cBadSnippet, q.cBadState] (isL [q.cBadPress, q.cBadSnippet, q.cBadState] q) (eVar 4))) (sRet (eCall lstF [eC (.str "other")])) (sNil)) (sRet (eCall lstF [eIf (eOp ixD (eVar 2) (eC (.int 0))) (eC (.str "text")) (eC (.str "row")), excGet "place" (ox_place q) (eVar 4)]))))))
noncomputable abbrev tdR (q : Ad) : SS := sSeq (sIf (eIsN (eVar 4)) (sRet (eCall lstF [eC (.str "told"), eVar 3])) (sNil)) (sSeq (sSet 2 (eCall lstF [eCall (isO q.cBadText (is_BadText q)) [eVar 4, eC (.adr q.cBadText)], eCall (isO q.cBadRow (is_BadRow q)) [eVar 4, eC (.adr q.cBadRow)]])) (sSeq (sIf (eOr (eOp neD (eMth isLB cntM (eVar 2) [eC (.bl true)]) (eC (.int 1))) (eIsXT [q.cBadPress, q.cBadSnippet, q.cBadState] (isL [q.cBadPress, q.cBadSnippet, q.cBadState] q) (eVar 4))) (sRet (eCall lstF [eC (.str "other")])) (sNil)) (sRet (eCall lstF [eIf (eOp ixD (eVar 2) (eC (.int 0))) (eC (.str "text")) (eC (.str "row")), excGet "place" (ox_place q) (eVar 4)]))))
theorem par_set {i : Nat} {e : ES} (h : ∀ l mu a, e (a :: l) mu = e (none :: l) mu) : Par (sSet (i + 1) e) := fun l mu => by
  cases he : e (none :: l) mu with
  | none => exact ⟨none, fun a => by rw [sSet_ev, h, he]; rfl⟩
  | some x =>
    obtain ⟨r, mu1⟩ := x
    cases r with
    | ok d => exact ⟨some (.nx, l.set i (some d), mu1), fun a => by rw [sSet_ev, h, he]; rfl⟩
    | ex C fs => exact ⟨some (.ex C fs, l, mu1), fun a => by rw [sSet_ev, h, he]; rfl⟩
theorem tdR_par (q : Ad) : Par (tdR q) := by
  refine par_seq (par_if (fun _ _ _ => rfl) (par_ret fun _ _ _ => rfl) par_nil) (par_seq (par_set fun _ _ _ => rfl) (par_seq (par_if (fun _ _ _ => rfl) (par_ret fun _ _ _ => rfl) par_nil) (par_ret fun _ _ _ => rfl)))
noncomputable def G__law_told_1a87f6 (q : Ad) (cl : Mu → Ro) (mu : Mu) : Ro := match cl mu with
  | some (.ok d, mu1) => DL.fin (tdR q [none, none, none, some d, some .non] mu1)
  | some (.ex C fs, mu1) => match t_SnippetError q C with
    | some true => DL.fin (tdR q [none, none, none, some .non, some (.cel mu1.length)] (mu1 ++ [.exc C fs]))
    | some false => some (.ex C fs, mu1)
    | none => none
  | none => none
theorem h__law_told_1a87f6 (q : Ad) (f : Addr) (cl : Mu → Ro) (mu : Mu) : fnS 5 (m__law_told_1a87f6 q f cl) [.adr f] mu = G__law_told_1a87f6 q cl mu := by
  rw [fnS_ev]
  show DL.fin (sSeq (sAsg (.tp [3, 4]) (eCall tupF [eC .non, eC .non])) (sSeq (sTryK 1 4 (t_SnippetError q) (sSet 3 (eAct f cl))) (tdR q)) [some (.adr f), none, none, none, none] mu) = _
  have act : eAct f cl [some (.adr f), none, none, some .non, some .non] mu = cl mu := by
    show (if f = f then cl mu else none) = _
    rw [if_pos rfl]
  have e0 : sAsg (.tp [3, 4]) (eCall tupF [eC .non, eC .non]) [some (.adr f), none, none, none, none] mu = some (.nx, [some (.adr f), none, none, some .non, some .non], mu) := rfl
  rw [sSeq_ev, e0, thnS_nx, sSeq_ev]
  unfold G__law_told_1a87f6 sTryK
  rw [sSet_ev, act]
  cases h : cl mu with
  | none => rfl
  | some x =>
    obtain ⟨r, mu1⟩ := x
    cases r with
    | ok d =>
      show DL.fin (tdR q [some (.adr f), none, none, some d, some .non] mu1) = _
      exact fin_par (tdR_par q) _ _ _ _
    | ex C fs =>
      dsimp only [bnS_ex]
      cases ht : t_SnippetError q C with
      | none => rfl
      | some b =>
        cases b with
        | false => rfl
        | true =>
          show DL.fin (tdR q [some (.adr f), none, none, some .non, some (.cel mu1.length)] (mu1 ++ [.exc C fs])) = DL.fin (tdR q [none, none, none, some .non, some (.cel mu1.length)] (mu1 ++ [.exc C fs]))
          exact fin_par (tdR_par q) _ _ _ _

/-! _law_is_press (slots: 0 _law_thing) -/
noncomputable def m__law_is_press_e02fb6 (q : Ad) : SS := sSeq (sIf (eOr (eNot (eCall isiF [eVar 0, eC (.ty "tuple")])) (eOr (eOp eqA (eVar 0) (eCall tupF [])) (eNot (eCall isiF [eOp ixD (eVar 0) (eC (.int 0)), eC (.ty "str")])))) (sRet (eC (.bl false))) (sNil)) (sSeq (sIf (eOp eqD (eCall lenF [eVar 0]) (eC (.int 1))) (sRet (eOp inD (eOp ixD (eVar 0) (eC (.int 0))) (eCall tupF [eC (.str "clear"), eC (.str "reset"), eC (.str "next"), eC (.str "back")]))) (sNil)) (sSeq (sIf (eOr (eOp neD (eCall lenF [eVar 0]) (eC (.int 2))) (eOr (eOp neD (eOp ixD (eVar 0) (eC (.int 0))) (eC (.str "write"))) (eNot (eCall isiF [eOp ixD (eVar 0) (eC (.int 1)), eC (.ty "str")])))) (sRet (eC (.bl false))) (sNil)) (sRet (eAnd (eChain leD leD (eC (.int 1)) (eCall lenF [eOp ixD (eVar 0) (eC (.int 1))]) (eC (.int 200))) (eOp notInD (eC (.str "\n")) (eOp ixD (eVar 0) (eC (.int 1))))))))
noncomputable abbrev P__law_is_press_e02fb6 (q : Ad) : FS := fnS 1 (m__law_is_press_e02fb6 q)
/-! _law_want (slots: 0 _law_thing, 1 _law_wrong, 2 _law_at, 3 _law_press_here) -/
noncomputable def m__law_want_d7aeca (q : Ad) : SS := sSeq (sIf (eNot (eCall isiF [eVar 0, eC (.ty "tuple")])) (sRet (eCall lstF [eC (.str "row"), eC .non])) (sNil)) (sSeq (sSet 1 (eComp (iEn (eVar 0)) (.tp [2, 3]) [2, 3] (eNot (eCall (P__law_is_press_e02fb6 q) [eVar 3])) (eVar 2))) (sRet (eIf (eOp neA (eVar 1) (eCall lstF [])) (eCall lstF [eC (.str "row"), eOp ixD (eVar 1) (eC (.int 0))]) (eCall lstF [eC (.str "told"), eCall (P__law_lines_dd0f9d q) [eVar 0]]))))
noncomputable abbrev P__law_want_d7aeca (q : Ad) : FS := fnS 4 (m__law_want_d7aeca q)
/-! _law_right (slots: 0 _law_thing, 1 _law_turn, 2 _law_want_here, 3 _law_kept, 4 _law_told_here) -/
noncomputable def m__law_right_aa9dc6 (q : Ad) : SS := sSeq (sPar 2 3 (eCall (P__law_want_d7aeca q) [eVar 0]) (eCall reprG [eVar 0])) (sSeq (sFor (iRg (eC (.int 2))) (.nm 1) (sSeq (sSet 4 (eLam (G__law_told_1a87f6 q) id (eCall (P_row_text q) [eVar 0]))) (sIf (eOp neD (eCall reprG [eVar 4]) (eCall reprG [eVar 2])) (sRet (eC (.bl false))) (sNil)))) (sSeq (sIf (eAnd (eOp eqD (eOp ixD (eVar 2) (eC (.int 0))) (eC (.str "told"))) (eOp neD (eCall reprG [eCall (P_read_row q) [eOp ixD (eVar 2) (eC (.int 1))]]) (eVar 3))) (sRet (eC (.bl false))) (sNil)) (sRet (eOp eqD (eCall reprG [eVar 0]) (eVar 3)))))
noncomputable abbrev P__law_right_aa9dc6 (q : Ad) : FS := fnS 5 (m__law_right_aa9dc6 q)
/-! _law_read_right (slots: 0 _law_text, 1 _law_found, 2 _law_want_here, 3 _law_turn) -/
noncomputable def m__law_read_right (q : Ad) : SS := sSeq (sSet 1 (eCall (P__law_read_f27a7e q) [eVar 0])) (sSeq (sSet 2 (eCall reprG [eIf (eCall isiF [eVar 1, eC (.ty "int")]) (eCall lstF [eC (.str "text"), eVar 1]) (eCall lstF [eC (.str "told"), eOp ixD (eVar 1) (eC (.int 0))])])) (sSeq (sFor (iRg (eC (.int 2))) (.nm 3) (sIf (eOp neD (eCall reprG [eLam (G__law_told_1a87f6 q) id (eCall (P_read_row q) [eVar 0])]) (eVar 2)) (sRet (eC (.bl false))) (sNil))) (sRet (eC (.bl true)))))
noncomputable abbrev P__law_read_right (q : Ad) : FS := fnS 4 (m__law_read_right q)
/-! _law_bent_text (slots: 0 _law_draws_here, 1 _law_text, 2 _law_sign, 3 _law_at, 4 _law_signs_here) -/
noncomputable def m__law_bent_text_e4fb99 (q : Ad) : SS := sSeq (sPar 3 4 (eCall (P__law_pick q) [eVar 0, eOp addD (eCall lenF [eVar 1]) (eC (.int 1))]) (eCall lstF [eC (.str "\n"), eC (.str " "), eC (.str "w"), eC (.str "write"), eC (.str "write "), eC (.str "x"), eC (.str "next"), eC (.str "\nback")])) (sSeq (sSet 2 (eCall (P__law_one q) [eVar 0, eVar 4])) (sRet (eOp addD (eOp addD (eSl (eVar 1) none (some (eVar 3))) (eOp ixD (eCall lstF [eC (.str ""), eVar 2, eVar 2]) (eCall (P__law_pick q) [eVar 0, eC (.int 3)]))) (eSl (eVar 1) (some (eOp addD (eVar 3) (eCall (P__law_pick q) [eVar 0, eC (.int 2)]))) none))))
def R__law_bent_text_e4fb99 (ds : List D) (mu : Mu) (x : D) : Prop := ∀ l, ds = [.cel 0, txD l] → l.length ≤ 100000 → (∀ c ∈ l, c < 127) → ∃ l2, x = txD l2 ∧ l2.length ≤ l.length + 6 ∧ ∀ c ∈ l2, c < 127
noncomputable def P__law_bent_text_e4fb99 (q : Ad) : FS := Rel (fnS 5 (m__law_bent_text_e4fb99 q)) (Keep R__law_bent_text_e4fb99)
theorem md__law_bent_text_e4fb99 (q : Ad) : Mdl (fnS 5 (m__law_bent_text_e4fb99 q)) (P__law_bent_text_e4fb99 q) := Rel.mdl _ _
/-! _law_odds (slots: 0 _law_some) -/
noncomputable def m__law_odds_3ad58c (q : Ad) : SS := sSeq (sSet 0 (eCall lstF [eC .non, eC (.bl true), eC (.int 0), eC (.int 5), eC (.str "next"), eC (.str ""), eCall tupF [], eCall tupF [eC (.str "next"), eC (.int 1)], eCall tupF [eC (.str "Next")], eCall tupF [eC (.str "write")], eCall tupF [eC (.str "write"), eC (.str "")]])) (sSeq (sSet 0 (eOp addD (eVar 0) (eCall lstF [eCall tupF [eC (.str "write"), eC (.str "a\nb")], eCall lstF [], eCall lstF [eC (.str "next")], eDict0, eCall tupF [eC (.str "write"), eC .non], eCall tupF [eC (.str "write"), eOp mulA (eC (.str "a")) (eC (.int 201))]]))) (sSeq (sSet 0 (eOp addD (eVar 0) (eCall lstF [eCall tupF [eC (.str "write"), eC (.str "a"), eC (.str "b")], eCall tupF [eC .non], eCall tupF [eC (.int 5), eC (.str "a")]]))) (sRet (eOp addD (eVar 0) (eCall lstF [eCall tupF [eC (.str "clear"), eC (.str "a")], eCall tupF [eC (.str "write"), eCall tupF [eC (.str "a")]], eCall tupF [eC (.str "back ")], eCall tupF [eC (.str "write "), eC (.str "a")]])))))
noncomputable abbrev P__law_odds_3ad58c (q : Ad) : FS := fnS 1 (m__law_odds_3ad58c q)
/-! _law_by_hand (slots: 0 _law_rows) -/
noncomputable def m__law_by_hand (q : Ad) : SS := sSeq (sSet 0 (eCall lstF [eCall tupF [eC (.str ""), eCall tupF []], eCall tupF [eC (.str "next"), eCall tupF [eCall tupF [eC (.str "next")]]], eCall tupF [eC (.str "\n"), eC (.int 0)], eCall tupF [eC (.str "next\n"), eC (.int 1)], eCall tupF [eC (.str " next"), eC (.int 0)], eCall tupF [eC (.str "next "), eC (.int 0)], eCall tupF [eC (.str "write"), eC (.int 0)]])) (sSeq (sSet 0 (eOp addD (eVar 0) (eCall lstF [eCall tupF [eC (.str "write "), eC (.int 0)], eCall tupF [eC (.str "write  "), eCall tupF [eCall tupF [eC (.str "write"), eC (.str " ")]]], eCall tupF [eC (.str "write a "), eCall tupF [eCall tupF [eC (.str "write"), eC (.str "a ")]]], eCall tupF [eC (.str "Write a"), eC (.int 0)]]))) (sSeq (sSet 0 (eOp addD (eVar 0) (eCall lstF [eCall tupF [eC (.str "write write a"), eCall tupF [eCall tupF [eC (.str "write"), eC (.str "write a")]]], eCall tupF [eC (.str "back\nreset\n\nclear"), eC (.int 2)], eCall tupF [eC (.str "next\nwrite"), eC (.int 1)]]))) (sSeq (sSet 0 (eOp addD (eVar 0) (eCall lstF [eCall tupF [eOp addD (eC (.str "write ")) (eOp mulA (eC (.str "a")) (eC (.int 200))), eCall tupF [eCall tupF [eC (.str "write"), eOp mulA (eC (.str "a")) (eC (.int 200))]]], eCall tupF [eOp addD (eC (.str "write ")) (eOp mulA (eC (.str "a")) (eC (.int 201))), eC (.int 0)], eCall tupF [eC (.str "-1"), eC (.int 0)]]))) (sSeq (sExpr (eMth isLB appM (eVar 0) [eCall tupF [eC (.str "write   b  \nclear\nreset\nback"), eCall tupF [eCall tupF [eC (.str "write"), eC (.str "  b  ")], eCall tupF [eC (.str "clear")], eCall tupF [eC (.str "reset")], eCall tupF [eC (.str "back")]]]])) (sRet (eOp addD (eVar 0) (eCall lstF [eCall tupF [eOp addD (eOp mulA (eC (.str "next\n")) (eC (.int 300))) (eC (.str "nex")), eC (.int 300)], eCall tupF [eOp addD (eOp mulA (eC (.str "back\n")) (eC (.int 300))) (eC (.str "back")), eOp mulA (eCall tupF [eCall tupF [eC (.str "back")]]) (eC (.int 301))]])))))))
noncomputable abbrev P__law_by_hand (q : Ad) : FS := fnS 1 (m__law_by_hand q)
/-! law (slots: 0 _law_script, 1 _law_turn, 2 _law_odd, 3 _law_draws_here, 4 _law_odds_here, 5 _law_row, 6 _law_text, 7 _law_again, 8 _law_due, 9 _law_want_here, 10 _law_at, 11 _law_bent, 12 _law_k) -/
noncomputable def m_law_7c04c7 (q : Ad) : SS := sSeq (sAsg (.tp [3, 4]) (eCall tupF [eCall (P__law_draws q) [eVar 0], eCall (P__law_odds_3ad58c q) []])) (sSeq (sFor (iRg (eOp addD (eC (.int 4)) (eOp fdivD (eCall minF [eC (.int 60), eCall lenF [eVar 0]]) (eC (.int 12))))) (.nm 1) (sSeq (sSet 5 (eTuple (eComp (iRg (eCall (P__law_pick q) [eVar 3, eC (.int 13)])) (.nm 12) [12] (eC (.bl true)) (eCall (P__law_press q) [eVar 3])))) (sSeq (sAsg (.tp [10, 2]) (eCall tupF [eCall (P__law_pick q) [eVar 3, eOp addD (eCall lenF [eVar 5]) (eC (.int 1))], eCall (P__law_one q) [eVar 3, eVar 4]])) (sSeq (sIf (eOr (eNot (eCall (P__law_right_aa9dc6 q) [eVar 5])) (eOr (eNot (eCall (P__law_right_aa9dc6 q) [eOp addD (eOp addD (eSl (eVar 5) none (some (eVar 10))) (eCall tupF [eVar 2])) (eSl (eVar 5) (some (eVar 10)) none)])) (eNot (eCall (P__law_right_aa9dc6 q) [eCall listA [eVar 5]])))) (sRet (eC (.bl false))) (sNil)) (sSeq (sSet 6 (eCall (P__law_lines_dd0f9d q) [eVar 5])) (sFor (iRg (eC (.int 6))) (.nm 7) (sSeq (sSet 11 (eCall (P__law_bent_text_e4fb99 q) [eVar 3, eVar 6])) (sSeq (sIf (eOr (eNot (eCall (P__law_read_right q) [eVar 6])) (eNot (eCall (P__law_read_right q) [eVar 11]))) (sRet (eC (.bl false))) (sNil)) (sSet 6 (eIf (eOp eqD (eCall (P__law_pick q) [eVar 3, eC (.int 4)]) (eC (.int 0))) (eCall (P__law_bent_text_e4fb99 q) [eVar 3, eVar 11]) (eVar 6))))))))))) (sSeq (sFor (iV (eCall (P__law_by_hand q) [])) (.tp [6, 8]) (sSeq (sSet 9 (eIf (eCall isiF [eVar 8, eC (.ty "int")]) (eCall lstF [eC (.str "text"), eVar 8]) (eCall lstF [eC (.str "told"), eVar 8]))) (sIf (eOr (eOp neD (eCall reprG [eLam (G__law_told_1a87f6 q) id (eCall (P_read_row q) [eVar 6])]) (eCall reprG [eVar 9])) (eNot (eCall (P__law_read_right q) [eVar 6]))) (sRet (eC (.bl false))) (sNil)))) (sSeq (sFor (iV (eOp addD (eVar 4) (eCall lstF [eCall tupF [eC (.str "next"), eC (.str "back")], eCall tupF [eCall tupF [eC (.str "next")], eC .non, eC (.int 5)], eOp subD (eOp powD (eC (.int 10)) (eC (.int 30))) (eC (.int 1))]))) (.nm 2) (sSeq (sIf (eAnd (eNot (eCall isiF [eVar 2, eC (.ty "str")])) (eOp neD (eCall reprG [eLam (G__law_told_1a87f6 q) id (eCall (P_read_row q) [eVar 2])]) (eCall reprG [eCall lstF [eC (.str "text"), eOp subD (eC (.int 0)) (eC (.int 1))]]))) (sRet (eC (.bl false))) (sNil)) (sIf (eOr (eNot (eCall (P__law_right_aa9dc6 q) [eVar 2])) (eNot (eCall (P__law_right_aa9dc6 q) [eCall tupF [eVar 2]]))) (sRet (eC (.bl false))) (sNil)))) (sRet (eC (.bl true))))))
end DL
set_option Elab.async false
set_option linter.all false
set_option autoImplicit false
set_option maxRecDepth 100000
set_option maxHeartbeats 4000000
/-! M81: presses, shown by need_press and the law alike. -/
namespace DL
open PySem PySem.Spec L2
/-- a text that can be written -/
def txB (z : Str) : Bool := decide (1 ≤ z.length) && (decide (z.length ≤ 200) && !decide (10 ∈ z.cps.toList))
def isPr : D → Bool
  | .tup [.str w] => decide (w ∈ keyW)
  | .tup [.str w, .str z] => decide (w = "write") && txB z
  | _ => false
theorem notIn_nl {z : Str} {mu : Mu} : notInD (.str "\n") (.str z) mu = some (.ok (.bl (!decide (10 ∈ z.cps.toList))), mu) := by
  have e : inB (.str "\n") (.str z) mu = some (decide (10 ∈ z.cps.toList)) := by
    show some (!(Builtin.Str.occurrences z "\n" 0 z.length 1).isEmpty) = _
    rw [show ("\n" : Str) = ⟨#[10]⟩ from rfl, StrLaws.found_one]
  unfold notInD
  rw [e]
theorem len_str {z : Str} {mu : Mu} (h : z.length ≤ 16777216) : lenF [.str z] mu = some (.ok (.int z.length), mu) := by
  show (if z.length ≤ 16777216 then _ else none) = _
  rw [if_pos h]
theorem le_ii {i j : Int} {mu : Mu} : leD (.int i) (.int j) mu = some (.ok (.bl (decide (i ≤ j))), mu) := rfl
theorem ev_is_text {q : Ad} {z : Str} {mu : Mu} (h : z.length ≤ 16777216) : P_is_text q [.str z] mu = some (.ok (.bl (txB z)), mu) := by
  simp only [P_is_text, fnS_ev, m_is_text, List.map_cons, List.map_nil, List.cons_append, List.nil_append, sRet_ev, eAnd_ev, eCall_ev, eArgs_cons, eArgs_nil, eVar0, eC_ev, bnd_ok, isi_str_str, chB_bl, if_true, eChain_ev, len_str h, le_ii, eOp_ev, notIn_nl]
  have c1 : decide ((1 : Int) ≤ (z.length : Int)) = decide (1 ≤ z.length) := by congr 1; apply propext; omega
  have c2 : decide ((z.length : Int) ≤ (200 : Int)) = decide (z.length ≤ 200) := by congr 1; apply propext; omega
  rw [c1, c2]
  unfold txB
  by_cases h1 : 1 ≤ z.length <;> by_cases h2 : z.length ≤ 200 <;> simp [h1, h2]
theorem ev_is_text_no {q : Ad} {d : D} {mu : Mu} (h : isiF [d, .ty "str"] mu = some (.ok (.bl false), mu)) : P_is_text q [d] mu = some (.ok (.bl false), mu) := by
  simp [P_is_text, fnS_ev, m_is_text, h]
theorem eqF_str {a b : Str} : eqF (.str a) (.str b) = decide (a = b) := by
  show (a == b) = _
  rw [Bool.eq_iff_iff]
  simp
theorem any_strs {w : Str} : ∀ ws : List Str, ((ws.map D.str).any fun z => eqF z (.str w)) = decide (w ∈ ws)
  | [] => rfl
  | a :: ws => by
    rw [List.map_cons, List.any_cons, any_strs ws, eqF_str]
    by_cases h : w = a
    · rw [h]; simp
    · have h' : ¬ a = w := fun e => h e.symm
      simp [h, h']
theorem flat_strs : ∀ ws : List Str, (ws.map D.str).all flatD = true
  | [] => rfl
  | a :: ws => by rw [List.map_cons, List.all_cons, flat_strs ws]; rfl
theorem inB_strs {w : Str} {ws : List Str} {mu : Mu} : inB (.str w) (.tup (ws.map D.str)) mu = some (decide (w ∈ ws)) := by
  show (if flatD (.str w) = true ∧ (ws.map D.str).all flatD = true then some ((ws.map D.str).any fun z => eqF z (.str w)) else none) = _
  rw [if_pos ⟨rfl, flat_strs ws⟩, any_strs]
theorem in_keys {w : Str} {mu : Mu} : inD (.str w) (.tup [.str "clear", .str "reset", .str "next", .str "back"]) mu = some (.ok (.bl (decide (w ∈ keyW))), mu) := by
  have e : inB (.str w) (.tup [.str "clear", .str "reset", .str "next", .str "back"]) mu = some (decide (w ∈ keyW)) := inB_strs (ws := keyW)
  unfold inD
  rw [e]
theorem notIn_words {w : Str} {mu : Mu} : notInD (.str w) d_PRESS_WORDS mu = some (.ok (.bl (!decide (w ∈ ("write" : Str) :: keyW))), mu) := by
  have e : inB (.str w) d_PRESS_WORDS mu = some (decide (w ∈ ("write" : Str) :: keyW)) := inB_strs (ws := "write" :: keyW)
  unfold notInD
  rw [e]
theorem wr_key : ("write" : Str) ∉ keyW := by decide +kernel
theorem isPr_word {w : Str} {r : List D} (h : w ∉ ("write" : Str) :: keyW) : isPr (.tup (.str w :: r)) = false := by
  rw [List.mem_cons, not_or] at h
  unfold isPr
  split
  · rename_i e
    cases e
    exact decide_eq_false h.2
  · rename_i e
    cases e
    rw [decide_eq_false h.1]
    rfl
  · rfl
theorem isPr_three {a b c : D} {r : List D} : isPr (.tup (a :: b :: c :: r)) = false := by
  unfold isPr
  split
  · rename_i e; cases e
  · rename_i e; cases e
  · rfl
theorem isPr_str {a : D} {r : List D} (h : ∀ z, a ≠ .str z) : isPr (.tup (a :: r)) = false := by
  unfold isPr
  split
  · rename_i e
    cases e
    exact absurd rfl (h _)
  · rename_i e
    cases e
    exact absurd rfl (h _)
  · rfl
theorem isPr_non {x : D} (h : ∀ xs, x ≠ .tup xs) : isPr x = false := by
  unfold isPr
  split
  · exact absurd rfl (h _)
  · exact absurd rfl (h _)
  · rfl
theorem knd_str {mu : Mu} {x : D} (h : wk mu x = true) : (∃ z, x = .str z ∧ z.length ≤ 16777216) ∨ ((∀ z, x ≠ .str z) ∧ isiF [x, .ty "str"] mu = some (.ok (.bl false), mu)) := by
  cases knd_of (wk_knd h) with
  | non => exact .inr ⟨by simp, isi_non_str⟩
  | bl b => exact .inr ⟨by simp, isi_bl_str⟩
  | int i => exact .inr ⟨by simp, isi_int_str⟩
  | str z => exact .inl ⟨z, rfl, by rw [wk_str] at h; exact of_decide_eq_true h⟩
  | tup xs => exact .inr ⟨by simp, isi_tup_str⟩
  | oth d ho =>
    obtain ⟨j, rfl⟩ := ho.cases
    exact .inr ⟨by simp, ho.isi_str⟩
theorem knd_tup {mu : Mu} {x : D} (h : wk mu x = true) : (∃ xs, x = .tup xs ∧ wkL mu xs = true) ∨ ((∀ xs, x ≠ .tup xs) ∧ isiF [x, .ty "tuple"] mu = some (.ok (.bl false), mu)) := by
  cases knd_of (wk_knd h) with
  | non => exact .inr ⟨by simp, isi_non_tuple⟩
  | bl b => exact .inr ⟨by simp, isi_bl_tuple⟩
  | int i => exact .inr ⟨by simp, isi_int_tuple⟩
  | str z => exact .inr ⟨by simp, isi_str_tuple⟩
  | tup xs => exact .inl ⟨xs, rfl, by rw [wk_tup] at h; exact h⟩
  | oth d ho =>
    obtain ⟨j, rfl⟩ := ho.cases
    exact .inr ⟨by simp, ho.isi_tuple⟩
/-- what need_press does -/
def npR (q : Ad) (x : D) (mu : Mu) : Ro := if isPr x = true then some (.ok x, mu) else some (.ex q.cBadPress [("given", x)], mu)
theorem ev_need_press {q : Ad} {x : D} {mu : Mu} (h : wk mu x = true) : P_need_press q [x] mu = npR q x mu := by
  have er : raiseF q.cBadPress gs_BadPress [x] mu = some (.ex q.cBadPress [("given", x)], mu) := rfl
  have i1 : intF [.bl true] mu = some (.ok (.int 1), mu) := rfl
  have i0 : intF [.bl false] mu = some (.ok (.int 0), mu) := rfl
  have a1 : ∀ i j : Int, addD (.int i) (.int j) mu = some (.ok (.int (i + j)), mu) := fun _ _ => rfl
  unfold npR
  rcases knd_tup h with ⟨xs, rfl, hx⟩ | ⟨hn, e0⟩
  · cases xs with
    | nil =>
      rw [show isPr (.tup []) = false from rfl]
      simp only [P_need_press, fnS_ev, m_need_press, List.map_cons, List.map_nil, List.cons_append, List.nil_append, sSeq_ev, sIf_ev, eOr_ev, eNot_ev, eCall_ev, eArgs_cons, eArgs_nil, eVar0, eC_ev, bnd_ok, isi_tup_tuple, chB_bl, if_true, Bool.false_eq_true, if_false, eOp_ev, tup0, eqA_tup0, List.isEmpty_nil, bnS_ok, chS_bl, sRaise_ev, er, bnS_ex, thnS_ex, fin_ex]
    | cons a r =>
      rw [wkL_cons, Bool.and_eq_true] at hx
      obtain ⟨ha, hr⟩ := hx
      have stop1 : isiF [a, .ty "str"] mu = some (.ok (.bl false), mu) → P_need_press q [.tup (a :: r)] mu = some (.ex q.cBadPress [("given", .tup (a :: r))], mu) := fun e1 => by
        simp only [P_need_press, fnS_ev, m_need_press, List.map_cons, List.map_nil, List.cons_append, List.nil_append, sSeq_ev, sIf_ev, eOr_ev, eNot_ev, eCall_ev, eArgs_cons, eArgs_nil, eVar0, eC_ev, bnd_ok, isi_tup_tuple, chB_bl, if_true, Bool.false_eq_true, if_false, eOp_ev, tup0, eqA_tup0, List.isEmpty_cons, ix_tup0, e1, bnS_ok, chS_bl, sRaise_ev, er, bnS_ex, thnS_ex, fin_ex]
      rcases knd_str ha with ⟨w, rfl, hw⟩ | ⟨hn, e1⟩
      · by_cases hk : w ∈ ("write" : Str) :: keyW
        · have c1 : ∀ k : SS, (sSeq (sIf (eOr (eNot (eCall isiF [eVar 0, eC (.ty "tuple")])) (eOr (eOp eqA (eVar 0) (eCall tupF [])) (eOr (eNot (eCall isiF [eOp ixD (eVar 0) (eC (.int 0)), eC (.ty "str")])) (eOp notInD (eOp ixD (eVar 0) (eC (.int 0))) (eC d_PRESS_WORDS))))) (sRaise q.cBadPress gs_BadPress [eVar 0]) (sNil)) k) [some (.tup (.str w :: r))] mu = k [some (.tup (.str w :: r))] mu := fun k => by
            simp only [sSeq_ev, sIf_ev, eOr_ev, eNot_ev, eCall_ev, eArgs_cons, eArgs_nil, eVar0, eC_ev, bnd_ok, isi_tup_tuple, chB_bl, if_true, Bool.false_eq_true, if_false, eOp_ev, tup0, eqA_tup0, List.isEmpty_cons, ix_tup0, isi_str_str, notIn_words, decide_eq_true hk, Bool.not_true, bnS_ok, chS_bl, sNil_ev, thnS_nx]
          show DL.fin (m_need_press q [some (.tup (.str w :: r))] mu) = _
          unfold m_need_press
          rw [c1]
          rcases List.mem_cons.mp hk with rfl | hkw
          · match r, hr with
            | [], _ =>
              rw [show isPr (.tup [.str "write"]) = false from decide_eq_false wr_key]
              simp only [sSeq_ev, sIf_ev, eOr_ev, eOp_ev, eCall_ev, eArgs_cons, eArgs_nil, eVar0, bnd_ok, len_tup, eC_ev, ix_tup0, eq_str, decide_true, i1, a1, nei_int, List.length_cons, List.length_nil, chB_bl]
              simp [er]
            | [y], hr =>
              rw [wkL_cons, Bool.and_eq_true] at hr
              have hl : (!decide (((0 + 1 + 1 : Nat) : Int) = 1 + 1)) = false := by decide
              have pre : ∀ b : Bool, P_is_text q [y] mu = some (.ok (.bl b), mu) → DL.fin ((sSeq (sIf (eOr (eOp neD (eCall lenF [eVar 0]) (eOp addD (eC (.int 1)) (eCall intF [eOp eqD (eOp ixD (eVar 0) (eC (.int 0))) (eC (.str "write"))]))) (eAnd (eOp eqD (eOp ixD (eVar 0) (eC (.int 0))) (eC (.str "write"))) (eNot (eCall (P_is_text q) [eOp ixD (eVar 0) (eC (.int 1))])))) (sRaise q.cBadPress gs_BadPress [eVar 0]) (sNil)) (sRet (eVar 0))) [some (.tup [.str "write", y])] mu) = if b = true then some (.ok (.tup [.str "write", y]), mu) else some (.ex q.cBadPress [("given", .tup [.str "write", y])], mu) := fun b et => by
                simp only [sSeq_ev, sIf_ev, eOr_ev, eOp_ev, eCall_ev, eArgs_cons, eArgs_nil, eVar0, bnd_ok, len_tup, eC_ev, ix_tup0, ix_tup1, eq_str, decide_true, i1, a1, nei_int, List.length_cons, List.length_nil, chB_bl, hl, Bool.false_eq_true, if_false, eAnd_ev, if_true, eNot_ev, et]
                cases b <;> simp [er]
              rcases knd_str hr.1 with ⟨z, rfl, hz⟩ | ⟨hn, e1⟩
              · rw [pre _ (ev_is_text hz)]
                rw [show isPr (.tup [.str "write", .str z]) = txB z by simp [isPr]]
              · rw [pre _ (ev_is_text_no e1)]
                rw [show isPr (.tup [.str "write", y]) = false by
                  unfold isPr
                  split
                  · rename_i e; cases e
                  · rename_i e; cases e; exact absurd rfl (hn _)
                  · rfl]
            | y :: y2 :: r, _ =>
              have hl : (!decide (((r.length + 1 + 1 + 1 : Nat) : Int) = 1 + 1)) = true := by simp; omega
              rw [isPr_three]
              simp only [sSeq_ev, sIf_ev, eOr_ev, eOp_ev, eCall_ev, eArgs_cons, eArgs_nil, eVar0, bnd_ok, len_tup, eC_ev, ix_tup0, eq_str, decide_true, i1, a1, nei_int, List.length_cons, chB_bl, hl, if_true]
              simp [er]
          · have hw2 : w ≠ "write" := fun e => wr_key (e ▸ hkw)
            cases r with
            | nil =>
              have hl : (!decide (((0 + 1 : Nat) : Int) = 1 + 0)) = false := by decide
              rw [show isPr (.tup [.str w]) = true from decide_eq_true hkw]
              simp only [sSeq_ev, sIf_ev, eOr_ev, eOp_ev, eCall_ev, eArgs_cons, eArgs_nil, eVar0, bnd_ok, len_tup, eC_ev, ix_tup0, eq_str, decide_eq_false hw2, i0, a1, nei_int, List.length_cons, List.length_nil, chB_bl, hl, Bool.false_eq_true, if_false, eAnd_ev, bnS_ok, chS_bl, sNil_ev, thnS_nx, sRet_ev, fin_rt, if_true]
            | cons y r =>
              have hl : (!decide (((r.length + 1 + 1 : Nat) : Int) = 1 + 0)) = true := by simp; omega
              rw [show isPr (.tup (.str w :: y :: r)) = false by
                unfold isPr
                split
                · rename_i e; cases e
                · rename_i e; cases e; rw [decide_eq_false hw2]; rfl
                · rfl]
              simp only [sSeq_ev, sIf_ev, eOr_ev, eOp_ev, eCall_ev, eArgs_cons, eArgs_nil, eVar0, bnd_ok, len_tup, eC_ev, ix_tup0, eq_str, decide_eq_false hw2, i0, a1, nei_int, List.length_cons, chB_bl, hl, if_true]
              simp [er]
        · rw [isPr_word hk]
          simp only [P_need_press, fnS_ev, m_need_press, List.map_cons, List.map_nil, List.cons_append, List.nil_append, sSeq_ev, sIf_ev, eOr_ev, eNot_ev, eCall_ev, eArgs_cons, eArgs_nil, eVar0, eC_ev, bnd_ok, isi_tup_tuple, chB_bl, if_true, Bool.false_eq_true, if_false, eOp_ev, tup0, eqA_tup0, List.isEmpty_cons, ix_tup0, isi_str_str, notIn_words, decide_eq_false hk, Bool.not_false, bnS_ok, chS_bl, sRaise_ev, er, bnS_ex, thnS_ex, fin_ex]
      · rw [isPr_str hn, stop1 e1]
        simp
  · rw [isPr_non hn]
    simp [P_need_press, fnS_ev, m_need_press, e0, er]
/-- what the law's own look does -/
theorem ev__law_is_press {q : Ad} {x : D} {mu : Mu} (h : wk mu x = true) : P__law_is_press_e02fb6 q [x] mu = some (.ok (.bl (isPr x)), mu) := by
  rcases knd_tup h with ⟨xs, rfl, hx⟩ | ⟨hn, e0⟩
  · cases xs with
    | nil =>
      rw [show isPr (.tup []) = false from rfl]
      simp only [P__law_is_press_e02fb6, fnS_ev, m__law_is_press_e02fb6, List.map_cons, List.map_nil, List.cons_append, List.nil_append, sSeq_ev, sIf_ev, eOr_ev, eNot_ev, eCall_ev, eArgs_cons, eArgs_nil, eVar0, eC_ev, bnd_ok, isi_tup_tuple, chB_bl, if_true, Bool.false_eq_true, if_false, eOp_ev, tup0, eqA_tup0, List.isEmpty_nil, bnS_ok, chS_bl, sRet_ev, thnS_rt, fin_rt]
    | cons a r =>
      rw [wkL_cons, Bool.and_eq_true] at hx
      obtain ⟨ha, hr⟩ := hx
      rcases knd_str ha with ⟨w, rfl, hw⟩ | ⟨hn, e1⟩
      · have c1 : ∀ k : SS, (sSeq (sIf (eOr (eNot (eCall isiF [eVar 0, eC (.ty "tuple")])) (eOr (eOp eqA (eVar 0) (eCall tupF [])) (eNot (eCall isiF [eOp ixD (eVar 0) (eC (.int 0)), eC (.ty "str")])))) (sRet (eC (.bl false))) (sNil)) k) [some (.tup (.str w :: r))] mu = k [some (.tup (.str w :: r))] mu := fun k => by
          simp only [sSeq_ev, sIf_ev, eOr_ev, eNot_ev, eCall_ev, eArgs_cons, eArgs_nil, eVar0, eC_ev, bnd_ok, isi_tup_tuple, chB_bl, if_true, Bool.false_eq_true, if_false, eOp_ev, tup0, eqA_tup0, List.isEmpty_cons, ix_tup0, isi_str_str, bnS_ok, chS_bl, sNil_ev, thnS_nx]
        show DL.fin (m__law_is_press_e02fb6 q [some (.tup (.str w :: r))] mu) = _
        unfold m__law_is_press_e02fb6
        rw [c1]
        have k4 : tupF [.str "clear", .str "reset", .str "next", .str "back"] mu = some (.ok (.tup [.str "clear", .str "reset", .str "next", .str "back"]), mu) := rfl
        match r, hr with
        | [], _ =>
          have hl : decide (((0 + 1 : Nat) : Int) = 1) = true := by decide
          simp only [sSeq_ev, sIf_ev, eOp_ev, eCall_ev, eArgs_cons, eArgs_nil, eVar0, eC_ev, bnd_ok, len_tup, List.length_cons, List.length_nil, eqi_int, hl, bnS_ok, chS_bl, if_true, sRet_ev, ix_tup0, k4, in_keys, thnS_rt, fin_rt]
          rfl
        | [y], hr =>
          rw [wkL_cons, Bool.and_eq_true] at hr
          have hl : decide (((0 + 1 + 1 : Nat) : Int) = 1) = false := by decide
          have hl2 : (!decide (((0 + 1 + 1 : Nat) : Int) = 2)) = false := by decide
          by_cases hw2 : w = "write"
          · rcases knd_str hr.1 with ⟨z, rfl, hz⟩ | ⟨hn, e1⟩
            · simp only [sSeq_ev, sIf_ev, eOr_ev, eNot_ev, eOp_ev, eCall_ev, eArgs_cons, eArgs_nil, eVar0, eC_ev, bnd_ok, len_tup, List.length_cons, List.length_nil, eqi_int, hl, hl2, nei_int, bnS_ok, chS_bl, chB_bl, if_true, Bool.false_eq_true, if_false, sNil_ev, thnS_nx, ix_tup0, ix_tup1, ne_str, decide_eq_true hw2, Bool.not_true, isi_str_str, sRet_ev, eAnd_ev, eChain_ev, len_str hz, le_ii, notIn_nl]
              have c1 : decide ((1 : Int) ≤ (z.length : Int)) = decide (1 ≤ z.length) := by congr 1; apply propext; omega
              have c2 : decide ((z.length : Int) ≤ (200 : Int)) = decide (z.length ≤ 200) := by congr 1; apply propext; omega
              rw [c1, c2]
              rw [show isPr (.tup [.str w, .str z]) = txB z by rw [hw2]; simp [isPr]]
              unfold txB
              by_cases h1 : 1 ≤ z.length <;> by_cases h2 : z.length ≤ 200 <;> simp [h1, h2]
            · rw [show isPr (.tup [.str w, y]) = false by
                  unfold isPr
                  split
                  · rename_i e; cases e
                  · rename_i e; cases e; exact absurd rfl (hn _)
                  · rfl]
              simp only [sSeq_ev, sIf_ev, eOr_ev, eNot_ev, eOp_ev, eCall_ev, eArgs_cons, eArgs_nil, eVar0, eC_ev, bnd_ok, len_tup, List.length_cons, List.length_nil, eqi_int, hl, hl2, nei_int, bnS_ok, chS_bl, chB_bl, if_true, Bool.false_eq_true, if_false, sNil_ev, thnS_nx, ix_tup0, ix_tup1, ne_str, decide_eq_true hw2, Bool.not_true, e1, sRet_ev, thnS_rt, fin_rt]
          · rw [show isPr (.tup [.str w, y]) = false by
                unfold isPr
                split
                · rename_i e; cases e
                · rename_i e; cases e; rw [decide_eq_false hw2]; rfl
                · rfl]
            simp only [sSeq_ev, sIf_ev, eOr_ev, eNot_ev, eOp_ev, eCall_ev, eArgs_cons, eArgs_nil, eVar0, eC_ev, bnd_ok, len_tup, List.length_cons, List.length_nil, eqi_int, hl, hl2, nei_int, bnS_ok, chS_bl, chB_bl, if_true, Bool.false_eq_true, if_false, sNil_ev, thnS_nx, ix_tup0, ne_str, decide_eq_false hw2, Bool.not_false, sRet_ev, thnS_rt, fin_rt]
        | y :: y2 :: r, _ =>
          have hl : decide (((r.length + 1 + 1 + 1 : Nat) : Int) = 1) = false := by simp; omega
          have hl2 : (!decide (((r.length + 1 + 1 + 1 : Nat) : Int) = 2)) = true := by simp; omega
          rw [isPr_three]
          simp only [sSeq_ev, sIf_ev, eOr_ev, eOp_ev, eCall_ev, eArgs_cons, eArgs_nil, eVar0, eC_ev, bnd_ok, len_tup, List.length_cons, eqi_int, hl, hl2, nei_int, bnS_ok, chS_bl, chB_bl, if_true, Bool.false_eq_true, if_false, sNil_ev, thnS_nx, sRet_ev, thnS_rt, fin_rt]
      · rw [isPr_str hn]
        simp only [P__law_is_press_e02fb6, fnS_ev, m__law_is_press_e02fb6, List.map_cons, List.map_nil, List.cons_append, List.nil_append, sSeq_ev, sIf_ev, eOr_ev, eNot_ev, eCall_ev, eArgs_cons, eArgs_nil, eVar0, eC_ev, bnd_ok, isi_tup_tuple, chB_bl, if_true, Bool.false_eq_true, if_false, eOp_ev, tup0, eqA_tup0, List.isEmpty_cons, ix_tup0, e1, bnS_ok, chS_bl, sRet_ev, thnS_rt, fin_rt]
  · rw [isPr_non hn]
    simp [P__law_is_press_e02fb6, fnS_ev, m__law_is_press_e02fb6, e0]
end DL
set_option Elab.async false
set_option linter.all false
set_option autoImplicit false
set_option maxRecDepth 100000
set_option maxHeartbeats 4000000
/-! M82: lines read: read_row and the law's own reader. -/
namespace DL
open PySem PySem.Spec L2
def wrS : List Nat := [119, 114, 105, 116, 101, 32]
/-- what press_of makes of a line -/
def poD (l : List Nat) : D := if l.take 6 = wrS then .tup [.str "write", txD (l.drop 6)] else .tup [txD l]
def lineP (l : List Nat) : Option D := if isPr (poD l) = true then some (poD l) else none
/-- the lines, one behind the other: the number of the first that is no press, or all presses -/
def readR : Nat → List (List Nat) → List D → Nat ⊕ List D
  | _, [], acc => .inr acc
  | k, l :: r, acc => match lineP l with
    | some p => readR (k + 1) r (acc ++ [p])
    | none => .inl k
theorem readR_some {k : Nat} {l : List Nat} {r : List (List Nat)} {acc : List D} {p : D} (h : lineP l = some p) : readR k (l :: r) acc = readR (k + 1) r (acc ++ [p]) := by
  rw [readR, h]
theorem readR_none {k : Nat} {l : List Nat} {r : List (List Nat)} {acc : List D} (h : lineP l = none) : readR k (l :: r) acc = .inl k := by
  rw [readR, h]
theorem wr_str : ("write " : Str) = tx wrS := rfl
theorem tx_eq {a b : List Nat} : (tx a = tx b) ↔ a = b := ⟨fun h => by
  have := congrArg (fun z : Str => z.cps.toList) h
  simpa using this, fun h => by rw [h]⟩
theorem key_take {l : List Nat} (h : tx l ∈ keyW) : l.take 6 ≠ wrS := by
  have key : ∀ z ∈ keyW, z.cps.toList.take 6 ≠ wrS := by decide +kernel
  have := key _ h
  simpa using this
theorem eq_wr {l : List Nat} {mu : Mu} : eqD (.str (tx (l.take 6))) (.str "write ") mu = some (.ok (.bl (decide (l.take 6 = wrS))), mu) := by
  rw [eq_str, wr_str]
  congr 4
  rw [decide_eq_decide]
  exact tx_eq
theorem sl6 {l : List Nat} {mu : Mu} (h : l.length ≤ 16000000) : slD (.str (tx l)) none (some 6) mu = some (.ok (.str (tx (l.take 6))), mu) := sl_strT (n := 6) h
theorem sd6 {l : List Nat} {mu : Mu} (h : l.length ≤ 16000000) : slD (.str (tx l)) (some 6) none mu = some (.ok (.str (tx (l.drop 6))), mu) := sl_strD (n := 6) h
theorem tup2' (a b : D) (M : Mu) : tupF [a, b] M = some (.ok (.tup [a, b]), M) := rfl
theorem ev_press_of {q : Ad} {l : List Nat} {mu : Mu} (h : l.length ≤ 16000000) : P_press_of q [txD l] mu = some (.ok (poD l), mu) := by
  show DL.fin (m_press_of q [some (.str (tx l))] mu) = _
  simp only [m_press_of, sRet_ev, eIf_ev, eOp_ev, eSl_ev, eVar0, bnd_ok, ePart_n, ePart_c, sl6 h, sd6 h, eC_ev, eq_wr, chB_bl, eCall_ev, eArgs_cons, eArgs_nil, tup2', tup1']
  unfold poD
  by_cases hw : l.take 6 = wrS <;> simp [hw, tup2', tup1', txD]
theorem sTryF_nx {i k : Nat} {f : Addr → Option Bool} {C : Addr} {g : Str} {m : SS} {rho rho1 : Rho} {mu mu1 : Mu} (h : m rho mu = some (.nx, rho1, mu1)) : sTryF i k f C g m rho mu = some (.nx, rho1, mu1) := by
  unfold sTryF
  rw [h]
theorem sTryF_ex {i k : Nat} {f : Addr → Option Bool} {C C1 : Addr} {g : Str} {m : SS} {rho rho1 : Rho} {mu mu1 : Mu} {fs : List (Str × D)} {d : D} (h : m rho mu = some (.ex C1 fs, rho1, mu1)) (hf : f C1 = some true) (hk : rho1[k]? = some (some d)) : sTryF i k f C g m rho mu = some (.ex C [(g, d)], rho1.set i none, mu1) := by
  unfold sTryF
  rw [h]
  dsimp only
  rw [hf]
  dsimp only
  rw [hk]
theorem t_press {q : Ad} : t_BadPress q q.cBadPress = some true := by simp [t_BadPress, isL, lkL]
theorem wk_po {mu : Mu} {l : List Nat} (h : l.length ≤ 16000000) : wk mu (poD l) = true := by
  have h1 : (tx l).length ≤ 16777216 := by rw [tx_len]; omega
  have h2 : (tx (l.drop 6)).length ≤ 16777216 := by rw [tx_len, List.length_drop]; omega
  have h3 : ("write" : Str).length ≤ 16777216 := by decide
  unfold poD txD
  split <;> simp [h1, h2, h3]
theorem lineP_none {l : List Nat} (h : lineP l = none) : isPr (poD l) = false := by
  unfold lineP at h
  cases e : isPr (poD l) with
  | false => rfl
  | true => rw [e] at h; cases h
theorem lineP_some {l : List Nat} {p : D} (h : lineP l = some p) : isPr (poD l) = true ∧ p = poD l := by
  unfold lineP at h
  split at h
  · rename_i e; cases h; exact ⟨e, rfl⟩
  · cases h
noncomputable abbrev rrB (q : Ad) : SS := sTryF 4 2 (t_BadPress q) q.cBadText "place" (sExpr (eMth isLB appM (eVar 1) [eCall (P_need_press q) [eCall (P_press_of q) [eVar 3]]]))
theorem rr_turn {q : Ad} {mu : Mu} {acc ls : List D} {x0 a4 : Option D} {k : Nat} {l : List Nat} (hl : l.length ≤ 16000000) (ha : acc.length < 16777216) :
    rrB q [x0, some (.cel mu.length), some (.int k), some (txD l), a4] (mu ++ [.lst acc, .lst ls]) = match lineP l with
      | some p => some (.nx, [x0, some (.cel mu.length), some (.int k), some (txD l), a4], mu ++ [.lst (acc ++ [p]), .lst ls])
      | none => some (.ex q.cBadText [("place", .int k)], [x0, some (.cel mu.length), some (.int k), some (txD l), none], mu ++ [.lst acc, .lst ls]) := by
  have ec : isLB (.cel mu.length) (mu ++ [.lst acc, .lst ls]) = true := by simp [isLB, lstD]
  have e1 := ev_press_of (q := q) (mu := mu ++ [.lst acc, .lst ls]) hl
  have e2 := ev_need_press (q := q) (mu := mu ++ [.lst acc, .lst ls]) (wk_po hl)
  have e3 : appM (.cel mu.length) [poD l] (mu ++ [.lst acc, .lst ls]) = some (.ok .non, mu ++ [.lst (acc ++ [poD l]), .lst ls]) := by
    rw [app_ev (at_n mu _ _) ha, set_n]
  unfold npR at e2
  cases h : lineP l with
  | some p =>
    obtain ⟨hp, rfl⟩ := lineP_some h
    rw [hp, if_pos rfl] at e2
    refine sTryF_nx ?_
    simp only [sExpr_ev, eMth_ev, eVarS, eVar0, bnd_ok, ec, if_true, eArgs_cons, eArgs_nil, eCall_ev, e1, e2, e3, bnS_ok]
  | none =>
    rw [lineP_none h, if_neg Bool.false_ne_true] at e2
    refine sTryF_ex (C1 := q.cBadPress) (fs := [("given", poD l)]) (d := .int k) (rho1 := [x0, some (.cel mu.length), some (.int k), some (txD l), a4]) ?_ t_press rfl
    simp only [sExpr_ev, eMth_ev, eVarS, eVar0, bnd_ok, ec, if_true, eArgs_cons, eArgs_nil, eCall_ev, e1, e2, bnd_ex, bnS_ex]
theorem getL {ls : List (List Nat)} {k : Nat} {x : D} (h : (ls.map txD)[k]? = some x) : ∃ l, ls[k]? = some l ∧ x = txD l ∧ ls.drop k = l :: ls.drop (k + 1) := by
  rw [List.getElem?_map] at h
  obtain ⟨l, e, rfl⟩ := Option.map_eq_some_iff.mp h
  refine ⟨l, e, rfl, ?_⟩
  obtain ⟨hk, hv⟩ := List.getElem?_eq_some_iff.mp e
  rw [List.drop_eq_getElem_cons hk, hv]
theorem rr_loop {q : Ad} {mu : Mu} {x0 a2 a3 a4 : Option D} {ls : List (List Nat)} (hl : ∀ l ∈ ls, l.length ≤ 16000000) (hn : ls.length ≤ 16000000) :
    (∃ k rho g, readR 0 ls [] = .inl k ∧ k < ls.length ∧ forL (some (mu.length + 1, ls.map txD)) (.tp [2, 3]) (rrB q) (enumD (ls.map txD)) [x0, some (.cel mu.length), a2, a3, a4] (mu ++ [.lst [], .lst (ls.map txD)]) = some (.ex q.cBadText [("place", .int (k : Nat))], rho, mu ++ g)) ∨
    (∃ acc b2 b3 b4, readR 0 ls [] = .inr acc ∧ forL (some (mu.length + 1, ls.map txD)) (.tp [2, 3]) (rrB q) (enumD (ls.map txD)) [x0, some (.cel mu.length), a2, a3, a4] (mu ++ [.lst [], .lst (ls.map txD)]) = some (.nx, [x0, some (.cel mu.length), b2, b3, b4], mu ++ [.lst acc, .lst (ls.map txD)])) := by
  refine forE_wp (xs := ls.map txD) (fun k rho m => ∃ acc b2 b3 b4, acc.length = k ∧ readR 0 ls [] = readR k (ls.drop k) acc ∧ rho = [x0, some (.cel mu.length), b2, b3, b4] ∧ m = mu ++ [.lst acc, .lst (ls.map txD)])
    (fun o => (∃ k rho g, readR 0 ls [] = .inl k ∧ k < ls.length ∧ o = some (.ex q.cBadText [("place", .int (k : Nat))], rho, mu ++ g)) ∨ (∃ acc b2 b3 b4, readR 0 ls [] = .inr acc ∧ o = some (.nx, [x0, some (.cel mu.length), b2, b3, b4], mu ++ [.lst acc, .lst (ls.map txD)])))
    (fun k rho m ⟨acc, b2, b3, b4, _, _, _, hm⟩ => ?_) (fun k x hx rho m ⟨acc, b2, b3, b4, ha, hR, hr, hm⟩ => ?_) (fun rho m ⟨acc, b2, b3, b4, ha, hR, hr, hm⟩ => .inr ?_) ⟨[], a2, a3, a4, rfl, rfl, rfl, rfl⟩
  · subst hm
    show (mu ++ [Cell.lst acc, .lst (ls.map txD)])[mu.length + 1]? = _
    rw [List.getElem?_append_right (by omega)]
    simp
  · obtain ⟨l, el, rfl, ed⟩ := getL hx
    have hlt := (List.getElem?_eq_some_iff.mp el).1
    subst hr hm
    rw [ed] at hR
    have turn := rr_turn (q := q) (mu := mu) (acc := acc) (ls := ls.map txD) (x0 := x0) (a4 := b4) (k := k) (l := l) (hl l (List.mem_of_getElem? el)) (by omega)
    refine ⟨[x0, some (.cel mu.length), some (.int k), some (txD l), b4], rfl, ?_⟩
    cases h : lineP l with
    | some p =>
      rw [h] at turn
      rw [readR_some h] at hR
      exact .inl ⟨_, _, turn, acc ++ [p], _, _, _, by simp [ha], hR, rfl, rfl⟩
    | none =>
      rw [h] at turn
      rw [readR_none h] at hR
      exact .inr (.inr ⟨_, _, _, _, turn, .inl ⟨k, _, _, hR, hlt, rfl⟩⟩)
  · rw [List.length_map, List.drop_length] at hR
    exact ⟨acc, b2, b3, b4, hR, by rw [hr, hm]⟩
/-! ### a whole text -/
/-- the lines of a text -/
def linesOf (l : List Nat) : List (List Nat) := if l = [] then [] else (Txt.split (tx l) "\n").map fun z => z.cps.toList
theorem split_txD {l : List Nat} (h : l ≠ []) : (Txt.split (tx l) "\n").map D.str = (linesOf l).map txD := by
  unfold linesOf
  rw [if_neg h, List.map_map]
  refine List.map_congr_left fun z _ => ?_
  show D.str z = .str (tx z.cps.toList)
  rw [← tx_of]
theorem sum_join (y : Str) : ∀ parts : List Str, (parts.map (·.length)).sum ≤ (Str.join y parts).length
  | [] => Nat.zero_le _
  | [x] => by simp [Str.join]
  | x :: z :: r => by
    have ih := sum_join y (z :: r)
    show _ ≤ (x ++ y ++ Str.join y (z :: r)).length
    rw [Str.length_append, Str.length_append]
    simp only [List.map_cons, List.sum_cons] at ih ⊢
    omega
theorem mem_sum : ∀ {ns : List Nat} {n : Nat}, n ∈ ns → n ≤ ns.sum
  | a :: ns, n, h => by
    rw [List.sum_cons]
    rcases List.mem_cons.mp h with rfl | h
    · omega
    · have := mem_sum h; omega
theorem lines_ok {l : List Nat} (hl : l.length ≤ 1000000) : (∀ x ∈ linesOf l, x.length ≤ l.length ∧ 10 ∉ x) ∧ (linesOf l).length ≤ l.length + 2 := by
  unfold linesOf
  split
  · exact ⟨(fun _ h => by cases h), by simp⟩
  · refine ⟨fun x hx => ?_, ?_⟩
    · obtain ⟨z, hz, rfl⟩ := List.mem_map.mp hx
      have h1 := StrLaws.split_free (tx l) 10 z hz
      have h2 := sum_join "\n" (Txt.split (tx l) "\n")
      rw [StrLaws.join_split, tx_len] at h2
      have h3 := mem_sum (List.mem_map.mpr ⟨z, hz, rfl⟩ : z.length ∈ (Txt.split (tx l) "\n").map (·.length))
      refine ⟨?_, h1⟩
      have : z.cps.toList.length = z.length := by show _ = z.cps.size; simp
      omega
    · rw [List.length_map]
      have := PyProof.Rows.split_le (tx l) "\n"
      rw [tx_len] at this
      exact this
/-- what a text tells -/
def rdOf (l : List Nat) : Nat ⊕ List D := readR 0 (linesOf l) []
theorem ne_emp {l : List Nat} {mu : Mu} : neD (.str (tx l)) (.str "") mu = some (.ok (.bl (!decide (l = []))), mu) := by
  rw [ne_str, show ("" : Str) = tx [] from rfl]
  congr 5
  rw [decide_eq_decide]
  exact tx_eq
noncomputable abbrev rrI : ES := eIf (eOp neD (eVar 0) (eC (.str ""))) (eMth isSB splitM (eVar 0) [eC (.str "\n")]) (eCall lstF [])
theorem rr_lines {l : List Nat} {rho : Rho} {mu : Mu} (hl : l.length ≤ 1000000) : rrI (some (txD l) :: rho) mu = some (.ok (.cel mu.length), mu ++ [.lst ((linesOf l).map txD)]) := by
  have hz : (tx l).length + 2 ≤ 16777216 := by rw [tx_len]; omega
  have e1 : splitM (.str (tx l)) [.str "\n"] mu = some (.ok (.cel mu.length), mu ++ [.lst ((Txt.split (tx l) "\n").map D.str)]) := by
    show (if (("\n" : Str).length == 0) = false ∧ (tx l).length + 2 ≤ 16777216 then newL ((Txt.split (tx l) "\n").map D.str) mu else none) = _
    rw [if_pos ⟨by decide, hz⟩]
  have e2 : isSB (.str (tx l)) mu = true := rfl
  have e3 : lstF [] mu = some (.ok (.cel mu.length), mu ++ [.lst []]) := rfl
  by_cases h : l = []
  · subst h
    simp only [rrI, eIf_ev, eOp_ev, txD, eVar0, eC_ev, bnd_ok, ne_emp, decide_true, Bool.not_true, chB_bl, Bool.false_eq_true, if_false, eCall_ev, eArgs_nil, e3]
    rfl
  · rw [split_txD h] at e1
    simp only [rrI, eIf_ev, eOp_ev, txD, eVar0, eC_ev, bnd_ok, ne_emp, decide_eq_false h, Bool.not_false, chB_bl, if_true, eMth_ev, e2, eArgs_cons, eArgs_nil, e1]
theorem iEn_cel {f : ES} {rho : Rho} {mu mu1 : Mu} {j : Nat} {xs : List D} (h : f rho mu = some (.ok (.cel j), mu1)) (hj : mu1[j]? = some (.lst xs)) : iEn f rho mu = some (.ok (enumD xs) (some (j, xs)), mu1) := by
  unfold iEn
  rw [h]
  dsimp only
  have : srcV (.cel j) mu1 = some (xs, some (j, xs)) := by
    unfold srcV
    dsimp only
    rw [hj]
  rw [this]
/-- what read_row does with a text -/
theorem ev_read_row {q : Ad} {l : List Nat} {mu : Mu} (hl : l.length ≤ 1000000) :
    (∃ k g, rdOf l = .inl k ∧ k ≤ l.length + 2 ∧ P_read_row q [txD l] mu = some (.ex q.cBadText [("place", .int (k : Nat))], mu ++ g)) ∨ ∃ acc g, rdOf l = .inr acc ∧ P_read_row q [txD l] mu = some (.ok (.tup acc), mu ++ g) := by
  obtain ⟨h1, h2⟩ := lines_ok hl
  have loop := rr_loop (q := q) (mu := mu) (x0 := some (txD l)) (a2 := none) (a3 := none) (a4 := none) (ls := linesOf l) (fun x hx => by have := (h1 x hx).1; omega) (by omega)
  have e0 : isiF [.str (tx l), .ty "str"] mu = some (.ok (.bl true), mu) := isi_str_str
  have e3 : lstF [] mu = some (.ok (.cel mu.length), mu ++ [.lst []]) := rfl
  have el := rr_lines (rho := [some (.cel mu.length), none, none, none]) (mu := mu ++ [.lst []]) hl
  have hj : (mu ++ [Cell.lst []] ++ [.lst ((linesOf l).map txD)])[(mu ++ [Cell.lst []]).length]? = some (.lst ((linesOf l).map txD)) := at_n _ _ []
  have ei := iEn_cel el hj
  have em : mu ++ [Cell.lst []] ++ [.lst ((linesOf l).map txD)] = mu ++ [.lst [], .lst ((linesOf l).map txD)] := by simp
  rw [em, show (mu ++ [Cell.lst []]).length = mu.length + 1 by simp] at ei
  have run : ∀ o, forL (some (mu.length + 1, (linesOf l).map txD)) (.tp [2, 3]) (rrB q) (enumD ((linesOf l).map txD)) [some (txD l), some (.cel mu.length), none, none, none] (mu ++ [.lst [], .lst ((linesOf l).map txD)]) = o → P_read_row q [txD l] mu = DL.fin (thnS o (sRet (eTuple (eVar 1)))) := fun o ho => by
    show DL.fin (m_read_row q [some (txD l), none, none, none, none] mu) = _
    unfold m_read_row
    rw [sSeq_ev, sIf_ev, eNot_ev, eCall_ev, eArgs_cons, show eVar 0 [some (txD l), none, none, none, none] mu = some (.ok (.str (tx l)), mu) from rfl, bnd_ok, eArgs_cons, eC_ev, bnd_ok, eArgs_nil, e0, bnd_ok, chB_bl, if_pos rfl, bnS_ok, chS_bl, if_neg Bool.false_ne_true, sNil_ev, thnS_nx, sSeq_ev, sSet_ev, eCall_ev, eArgs_nil, e3, bnS_ok, thnS_nx, sSeq_ev]
    show DL.fin (thnS (sFor (iEn rrI) (.tp [2, 3]) (rrB q) [some (txD l), some (.cel mu.length), none, none, none] (mu ++ [.lst []])) _) = _
    rw [sFor_ok ei, ho]
  rcases loop with ⟨k, rho, g, hR, hk, e⟩ | ⟨acc, b2, b3, b4, hR, e⟩
  · exact .inl ⟨k, g, hR, by omega, by rw [run _ e]; rfl⟩
  · refine .inr ⟨acc, [.lst acc, .lst ((linesOf l).map txD)], hR, ?_⟩
    rw [run _ e, thnS_nx, sRet_ev, eTuple_ev]
    show DL.fin (bnS (bnd (some (.ok (.cel mu.length), mu ++ [.lst acc, .lst ((linesOf l).map txD)])) tup1) _ _) = _
    have t1 : tup1 (.cel mu.length) (mu ++ [.lst acc, .lst ((linesOf l).map txD)]) = some (.ok (.tup acc), mu ++ [.lst acc, .lst ((linesOf l).map txD)]) := by
      show (match lstD _ _ with | some xs => okD (.tup xs) _ | none => none) = _
      rw [lst_of (at_n mu _ _)]
    rw [bnd_ok, t1]
    rfl
/-- .. and with anything else -/
theorem ev_read_row_no {q : Ad} {d : D} {mu : Mu} (h : isiF [d, .ty "str"] mu = some (.ok (.bl false), mu)) : P_read_row q [d] mu = some (.ex q.cBadText [("place", .int (-1))], mu) := by
  have er : raiseF q.cBadText gs_BadText [.int (-1)] mu = some (.ex q.cBadText [("place", .int (-1))], mu) := rfl
  simp only [P_read_row, fnS_ev, m_read_row, List.map_cons, List.map_nil, List.cons_append, List.nil_append, sSeq_ev, sIf_ev, eNot_ev, eCall_ev, eArgs_cons, eArgs_nil, eVar0, eC_ev, bnd_ok, h, chB_bl, Bool.false_eq_true, if_false, bnS_ok, chS_bl, if_true, sRaise_ev, eNeg_ev, okD, er, bnS_ex, thnS_ex, fin_ex]
end DL
set_option Elab.async false
set_option linter.all false
set_option autoImplicit false
set_option maxRecDepth 100000
set_option maxHeartbeats 4000000
/-! M83: the law's own reader; what is told. -/
namespace DL
open PySem PySem.Spec L2
noncomputable abbrev lr33 : SS := sIf (eOp inD (eVar 3) (eCall tupF [eC (.str "clear"), eC (.str "reset"), eC (.str "next"), eC (.str "back")])) (sExpr (eMth isLB appM (eVar 1) [eCall tupF [eVar 3]])) (sIf (eAnd (eOp eqD (eSl (eVar 3) none (some (eC (.int 6)))) (eC (.str "write "))) (eChain leD leD (eC (.int 1)) (eCall lenF [eSl (eVar 3) (some (eC (.int 6))) none]) (eC (.int 200)))) (sExpr (eMth isLB appM (eVar 1) [eCall tupF [eC (.str "write"), eSl (eVar 3) (some (eC (.int 6))) none]])) (sRet (eVar 2)))
theorem lr_turn {mu : Mu} {acc ls : List D} {x0 : Option D} {k : Nat} {l : List Nat} (hl : l.length ≤ 16000000) (hn : 10 ∉ l) (ha : acc.length < 16777216) :
    lr33 [x0, some (.cel mu.length), some (.int k), some (txD l)] (mu ++ [.lst acc, .lst ls]) = match lineP l with
      | some p => some (.nx, [x0, some (.cel mu.length), some (.int k), some (txD l)], mu ++ [.lst (acc ++ [p]), .lst ls])
      | none => some (.rt (.int k), [x0, some (.cel mu.length), some (.int k), some (txD l)], mu ++ [.lst acc, .lst ls]) := by
  have ec : isLB (.cel mu.length) (mu ++ [.lst acc, .lst ls]) = true := by simp [isLB, lstD]
  have e3 : ∀ p, appM (.cel mu.length) [p] (mu ++ [.lst acc, .lst ls]) = some (.ok .non, mu ++ [.lst (acc ++ [p]), .lst ls]) := fun p => by
    rw [app_ev (at_n mu _ _) ha, set_n]
  have k4 : ∀ M : Mu, tupF [.str "clear", .str "reset", .str "next", .str "back"] M = some (.ok (.tup [.str "clear", .str "reset", .str "next", .str "back"]), M) := fun _ => rfl
  have hd : (tx (l.drop 6)).length ≤ 16777216 := by rw [tx_len, List.length_drop]; omega
  by_cases hk : tx l ∈ keyW
  · have hw := key_take hk
    have hp : poD l = .tup [txD l] := by unfold poD; rw [if_neg hw]
    have h : lineP l = some (.tup [txD l]) := by
      unfold lineP
      rw [hp, show isPr (.tup [txD l]) = true from decide_eq_true hk, if_pos rfl]
    rw [h]
    simp only [lr33, sIf_ev, eOp_ev, eVarS, eVar0, bnd_ok, eCall_ev, eArgs_cons, eArgs_nil, eC_ev, k4, txD, in_keys, decide_eq_true hk, bnS_ok, chS_bl, if_true, sExpr_ev, eMth_ev, ec, tup1', e3]
  · by_cases hw : l.take 6 = wrS
    · have hp : poD l = .tup [.str "write", txD (l.drop 6)] := by unfold poD; rw [if_pos hw]
      have hnl : decide (10 ∈ (tx (l.drop 6)).cps.toList) = false := decide_eq_false fun hm => hn (List.mem_of_mem_drop (by simpa using hm))
      have hi : isPr (poD l) = (decide ((1 : Int) ≤ ((tx (l.drop 6)).length : Int)) && decide (((tx (l.drop 6)).length : Int) ≤ 200)) := by
        rw [hp, show isPr (.tup [.str "write", txD (l.drop 6)]) = txB (tx (l.drop 6)) by simp [isPr, txD]]
        unfold txB
        rw [hnl]
        have c1 : decide ((1 : Int) ≤ ((tx (l.drop 6)).length : Int)) = decide (1 ≤ (tx (l.drop 6)).length) := by congr 1; apply propext; omega
        have c2 : decide (((tx (l.drop 6)).length : Int) ≤ (200 : Int)) = decide ((tx (l.drop 6)).length ≤ 200) := by congr 1; apply propext; omega
        rw [c1, c2]
        simp
      have e6 := sl6 (l := l) (mu := mu ++ [.lst acc, .lst ls]) hl
      have d6 := sd6 (l := l) (mu := mu ++ [.lst acc, .lst ls]) hl
      have t2 : tupF [.str "write", .str (tx (l.drop 6))] (mu ++ [.lst acc, .lst ls]) = some (.ok (poD l), mu ++ [.lst acc, .lst ls]) := by rw [hp]; rfl
      unfold lineP
      rw [hi]
      have ech : eChain leD leD (eC (.int 1)) (eCall lenF [eSl (eVar 3) (some (eC (.int 6))) none]) (eC (.int 200)) [x0, some (.cel mu.length), some (.int k), some (txD l)] (mu ++ [.lst acc, .lst ls]) = some (.ok (.bl (decide ((1 : Int) ≤ ((tx (l.drop 6)).length : Int)) && decide (((tx (l.drop 6)).length : Int) ≤ 200))), mu ++ [.lst acc, .lst ls]) := by
        simp only [eChain_ev, eC_ev, bnd_ok, eCall_ev, eArgs_cons, eArgs_nil, eSl_ev, eVarS, eVar0, txD, ePart_n, ePart_c, d6, len_str hd, le_ii, chB_bl]
        cases decide ((1 : Int) ≤ ((tx (l.drop 6)).length : Int)) <;> rfl
      have pre : lr33 [x0, some (.cel mu.length), some (.int k), some (txD l)] (mu ++ [.lst acc, .lst ls]) = if (decide ((1 : Int) ≤ ((tx (l.drop 6)).length : Int)) && decide (((tx (l.drop 6)).length : Int) ≤ 200)) = true then some (.nx, [x0, some (.cel mu.length), some (.int k), some (txD l)], mu ++ [.lst (acc ++ [poD l]), .lst ls]) else some (.rt (.int k), [x0, some (.cel mu.length), some (.int k), some (txD l)], mu ++ [.lst acc, .lst ls]) := by
        simp only [lr33, sIf_ev, eOp_ev, eVarS, eVar0, bnd_ok, eCall_ev, eArgs_cons, eArgs_nil, eC_ev, k4, txD, in_keys, decide_eq_false hk, bnS_ok, chS_bl, Bool.false_eq_true, if_false, eAnd_ev, eSl_ev, ePart_n, ePart_c, e6, eq_wr, decide_eq_true hw, chB_bl, if_true]
        have ech' := ech
        simp only [txD, eCall_ev] at ech'
        rw [ech', bnS_ok, chS_bl]
        simp only [sExpr_ev, eMth_ev, eVarS, eVar0, bnd_ok, ec, if_true, eArgs_cons, eArgs_nil, eCall_ev, eC_ev, eSl_ev, ePart_n, ePart_c, d6, t2, e3, bnS_ok, sRet_ev]
      rw [pre]
      cases (decide ((1 : Int) ≤ ((tx (l.drop 6)).length : Int)) && decide (((tx (l.drop 6)).length : Int) ≤ 200)) <;> rfl
    · have hp : poD l = .tup [txD l] := by unfold poD; rw [if_neg hw]
      have h : lineP l = none := by
        unfold lineP
        rw [hp, show isPr (.tup [txD l]) = false from decide_eq_false hk, if_neg Bool.false_ne_true]
      have e6 := sl6 (l := l) (mu := mu ++ [.lst acc, .lst ls]) hl
      rw [h]
      simp only [lr33, sIf_ev, eOp_ev, eVarS, eVar0, bnd_ok, eCall_ev, eArgs_cons, eArgs_nil, eC_ev, k4, txD, in_keys, decide_eq_false hk, bnS_ok, chS_bl, Bool.false_eq_true, if_false, eAnd_ev, eSl_ev, ePart_n, ePart_c, e6, eq_wr, decide_eq_false hw, chB_bl, sRet_ev]
theorem lr_loop {mu : Mu} {x0 a2 a3 : Option D} {ls : List (List Nat)} (hl : ∀ l ∈ ls, l.length ≤ 16000000 ∧ 10 ∉ l) (hn : ls.length ≤ 16000000) :
    (∃ k rho g, readR 0 ls [] = .inl k ∧ forL (some (mu.length + 1, ls.map txD)) (.tp [2, 3]) lr33 (enumD (ls.map txD)) [x0, some (.cel mu.length), a2, a3] (mu ++ [.lst [], .lst (ls.map txD)]) = some (.rt (.int (k : Nat)), rho, mu ++ g)) ∨
    (∃ acc b2 b3, readR 0 ls [] = .inr acc ∧ forL (some (mu.length + 1, ls.map txD)) (.tp [2, 3]) lr33 (enumD (ls.map txD)) [x0, some (.cel mu.length), a2, a3] (mu ++ [.lst [], .lst (ls.map txD)]) = some (.nx, [x0, some (.cel mu.length), b2, b3], mu ++ [.lst acc, .lst (ls.map txD)])) := by
  refine forE_wp (xs := ls.map txD) (fun k rho m => ∃ acc b2 b3, acc.length = k ∧ readR 0 ls [] = readR k (ls.drop k) acc ∧ rho = [x0, some (.cel mu.length), b2, b3] ∧ m = mu ++ [.lst acc, .lst (ls.map txD)])
    (fun o => (∃ k rho g, readR 0 ls [] = .inl k ∧ o = some (.rt (.int (k : Nat)), rho, mu ++ g)) ∨ (∃ acc b2 b3, readR 0 ls [] = .inr acc ∧ o = some (.nx, [x0, some (.cel mu.length), b2, b3], mu ++ [.lst acc, .lst (ls.map txD)])))
    (fun k rho m ⟨acc, b2, b3, _, _, _, hm⟩ => ?_) (fun k x hx rho m ⟨acc, b2, b3, ha, hR, hr, hm⟩ => ?_) (fun rho m ⟨acc, b2, b3, ha, hR, hr, hm⟩ => .inr ?_) ⟨[], a2, a3, rfl, rfl, rfl, rfl⟩
  · subst hm
    show (mu ++ [Cell.lst acc, .lst (ls.map txD)])[mu.length + 1]? = _
    rw [List.getElem?_append_right (by omega)]
    simp
  · obtain ⟨l, el, rfl, ed⟩ := getL hx
    have hlt := (List.getElem?_eq_some_iff.mp el).1
    subst hr hm
    rw [ed] at hR
    obtain ⟨h1, h2⟩ := hl l (List.mem_of_getElem? el)
    have turn := lr_turn (mu := mu) (acc := acc) (ls := ls.map txD) (x0 := x0) (k := k) (l := l) h1 h2 (by omega)
    refine ⟨[x0, some (.cel mu.length), some (.int k), some (txD l)], rfl, ?_⟩
    cases h : lineP l with
    | some p =>
      rw [h] at turn
      rw [readR_some h] at hR
      exact .inl ⟨_, _, turn, acc ++ [p], _, _, by simp [ha], hR, rfl, rfl⟩
    | none =>
      rw [h] at turn
      rw [readR_none h] at hR
      exact .inr (.inl ⟨_, _, _, turn, .inl ⟨k, _, _, hR, rfl⟩⟩)
  · rw [List.length_map, List.drop_length] at hR
    exact ⟨acc, b2, b3, hR, by rw [hr, hm]⟩
/-- what the law's reader tells -/
theorem ev__law_read {q : Ad} {l : List Nat} {mu : Mu} (hl : l.length ≤ 1000000) :
    (∃ k g, rdOf l = .inl k ∧ P__law_read_f27a7e q [txD l] mu = some (.ok (.int (k : Nat)), mu ++ g)) ∨ ∃ acc g, rdOf l = .inr acc ∧ P__law_read_f27a7e q [txD l] mu = some (.ok (.cel (mu ++ g).length), mu ++ g ++ [.lst [.tup acc]]) := by
  obtain ⟨h1, h2⟩ := lines_ok hl
  have loop := lr_loop (mu := mu) (x0 := some (txD l)) (a2 := none) (a3 := none) (ls := linesOf l) (fun x hx => ⟨by have := (h1 x hx).1; omega, (h1 x hx).2⟩) (by omega)
  have e3 : lstF [] mu = some (.ok (.cel mu.length), mu ++ [.lst []]) := rfl
  have el := rr_lines (rho := [some (.cel mu.length), none, none]) (mu := mu ++ [.lst []]) hl
  have hj : (mu ++ [Cell.lst []] ++ [.lst ((linesOf l).map txD)])[(mu ++ [Cell.lst []]).length]? = some (.lst ((linesOf l).map txD)) := at_n _ _ []
  have ei := iEn_cel el hj
  have em : mu ++ [Cell.lst []] ++ [.lst ((linesOf l).map txD)] = mu ++ [.lst [], .lst ((linesOf l).map txD)] := by simp
  rw [em, show (mu ++ [Cell.lst []]).length = mu.length + 1 by simp] at ei
  have run : ∀ o, forL (some (mu.length + 1, (linesOf l).map txD)) (.tp [2, 3]) lr33 (enumD ((linesOf l).map txD)) [some (txD l), some (.cel mu.length), none, none] (mu ++ [.lst [], .lst ((linesOf l).map txD)]) = o → P__law_read_f27a7e q [txD l] mu = DL.fin (thnS o (sRet (eCall lstF [eTuple (eVar 1)]))) := fun o ho => by
    show DL.fin (m__law_read_f27a7e q [some (txD l), none, none, none] mu) = _
    unfold m__law_read_f27a7e
    rw [sSeq_ev, sSet_ev, eCall_ev, eArgs_nil, e3, bnS_ok, thnS_nx, sSeq_ev]
    show DL.fin (thnS (sFor (iEn rrI) (.tp [2, 3]) lr33 [some (txD l), some (.cel mu.length), none, none] (mu ++ [.lst []])) _) = _
    rw [sFor_ok ei, ho]
  rcases loop with ⟨k, rho, g, hR, e⟩ | ⟨acc, b2, b3, hR, e⟩
  · exact .inl ⟨k, g, hR, by rw [run _ e]; rfl⟩
  · refine .inr ⟨acc, [.lst acc, .lst ((linesOf l).map txD)], hR, ?_⟩
    have t1 : tup1 (.cel mu.length) (mu ++ [.lst acc, .lst ((linesOf l).map txD)]) = some (.ok (.tup acc), mu ++ [.lst acc, .lst ((linesOf l).map txD)]) := by
      show (match lstD _ _ with | some xs => okD (.tup xs) _ | none => none) = _
      rw [lst_of (at_n mu _ _)]
    rw [run _ e, thnS_nx, sRet_ev, eCall_ev, eArgs_cons, eTuple_ev, show eVar 1 [some (txD l), some (.cel mu.length), b2, b3] (mu ++ [.lst acc, .lst ((linesOf l).map txD)]) = some (.ok (.cel mu.length), mu ++ [.lst acc, .lst ((linesOf l).map txD)]) from rfl, bnd_ok, t1, bnd_ok, eArgs_nil]
    rfl
/-! ### what is told of a call -/
structure D33 (q : Ad) : Prop where
  tr : q.cBadText ≠ q.cBadRow
  tp : q.cBadText ≠ q.cBadPress
  ts : q.cBadText ≠ q.cBadSnippet
  tt : q.cBadText ≠ q.cBadState
  rp : q.cBadRow ≠ q.cBadPress
  rs : q.cBadRow ≠ q.cBadSnippet
  rt : q.cBadRow ≠ q.cBadState
theorem told_ok {q : Ad} {cl : Mu → Ro} {mu mu1 : Mu} {d : D} (h : cl mu = some (.ok d, mu1)) : G__law_told_1a87f6 q cl mu = some (.ok (.cel mu1.length), mu1 ++ [.lst [.str "told", d]]) := by
  unfold G__law_told_1a87f6
  rw [h]
  dsimp only
  simp [tdR, isN, lstF, newL]
theorem eIsXT_ev {cs : List Addr} {f : Addr → Option Bool} {e : ES} {rho : Rho} {mu mu1 : Mu} {j : Nat} {C : Addr} {fs : List (Str × D)} {b : Bool} (he : e rho mu = some (.ok (.cel j), mu1)) (hj : mu1[j]? = some (.exc C fs)) (hf : f C = some b) : eIsXT cs f e rho mu = some (.ok (.bl b), mu1) := by
  unfold eIsXT
  rw [he]
  simp [hj, hf]
end DL
set_option Elab.async false
set_option linter.all false
set_option autoImplicit false
set_option maxRecDepth 100000
set_option maxHeartbeats 4000000
/-! M84: refusals told; texts read right. -/
namespace DL
open PySem PySem.Spec L2
theorem cnt_tf {mu : Mu} {j : Nat} {a b : Bool} (h : mu[j]? = some (.lst [.bl a, .bl b])) : cntM (.cel j) [.bl true] mu = some (.ok (.int (([a, b].count true : Nat) : Int)), mu) := by
  show (match lstD (.cel j) mu with | some xs => (match blsD xs with | some bs => okD (.int ((bs.count true : Nat) : Int)) mu | none => none) | none => none) = _
  rw [lst_of h]
  rfl
theorem ix_l0 {mu : Mu} {j : Nat} {a : D} {r : List D} (h : mu[j]? = some (.lst (a :: r))) : ixD (.cel j) (.int 0) mu = some (.ok a, mu) := by
  show (match lstD (.cel j) mu with | some xs => _ | none => none) = _
  rw [lst_of h]
  dsimp only
  rw [show atI (a :: r) (0 : Int) = some a from atI_nat' (n := 0) rfl]
/-- a refusal with a place, of one of two kinds -/
theorem told_ref {q : Ad} {C : Addr} {cl : Mu → Ro} {mu mu1 : Mu} {d : D} {a : Bool} (h : cl mu = some (.ex C [("place", d)], mu1)) (h1 : t_SnippetError q C = some true) (h2 : is_BadText q C = some a) (h3 : is_BadRow q C = some (!a)) (h4 : isL [q.cBadPress, q.cBadSnippet, q.cBadState] q C = some false) (h5 : ox_place q C = true) :
    G__law_told_1a87f6 q cl mu = some (.ok (.cel (mu1.length + 2)), mu1 ++ [.exc C [("place", d)], .lst [.bl a, .bl (!a)], .lst [.str (if a = true then "text" else "row"), d]]) := by
  unfold G__law_told_1a87f6
  rw [h]
  dsimp only
  rw [h1]
  dsimp only
  obtain ⟨M, hM⟩ : ∃ M, M = mu1 ++ [Cell.exc C [("place", d)]] := ⟨_, rfl⟩
  have hj : M[mu1.length]? = some (.exc C [("place", d)]) := by rw [hM]; exact at_n _ _ []
  have hlen : M.length = mu1.length + 1 := by rw [hM]; simp
  obtain ⟨M2, hM2⟩ : ∃ M2, M2 = M ++ [Cell.lst [.bl a, .bl (!a)]] := ⟨_, rfl⟩
  have hj2 : M2[mu1.length]? = some (.exc C [("place", d)]) := by
    rw [hM2, List.getElem?_append_left (by omega)]
    exact hj
  have hl2 : M2[M.length]? = some (.lst [.bl a, .bl (!a)]) := by rw [hM2]; exact at_n _ _ []
  have hc := cnt_tf hl2
  have hct : [a, !a].count true = 1 := by cases a <;> rfl
  rw [hct] at hc
  have i1 : isO q.cBadText (is_BadText q) [.cel mu1.length, .adr q.cBadText] M = some (.ok (.bl a), M) := by simp [isO, hj, h2]
  have i2 : isO q.cBadRow (is_BadRow q) [.cel mu1.length, .adr q.cBadRow] M = some (.ok (.bl (!a)), M) := by simp [isO, hj, h3]
  have l1 : lstF [.bl a, .bl (!a)] M = some (.ok (.cel M.length), M2) := by rw [hM2]; rfl
  have x0 := ix_l0 hl2
  have isl : isLB (.cel M.length) M2 = true := by unfold isLB; rw [lst_of hl2]; rfl
  have g1 : ∀ r : Rho, eVar 4 (none :: none :: some (.cel M.length) :: some .non :: some (.cel mu1.length) :: r) M2 = some (.ok (.cel mu1.length), M2) := fun _ => rfl
  have i3 : eIsXT [q.cBadPress, q.cBadSnippet, q.cBadState] (isL [q.cBadPress, q.cBadSnippet, q.cBadState] q) (eVar 4) [none, none, some (.cel M.length), some .non, some (.cel mu1.length)] M2 = some (.ok (.bl false), M2) := eIsXT_ev (g1 []) hj2 h4
  have gx : ∀ M3 : Mu, M3[mu1.length]? = some (.exc C [("place", d)]) → excGet "place" (ox_place q) (eVar 4) [none, none, some (.cel M.length), some .non, some (.cel mu1.length)] M3 = some (.ok d, M3) := fun M3 h => by
    simp [excGet, h, h5, List.lookup]
  have ne1 : neD (.int ((1 : Nat) : Int)) (.int 1) M2 = some (.ok (.bl false), M2) := by rw [nei_int]; rfl
  have l2 : ∀ w : Str, lstF [.str w, d] M2 = some (.ok (.cel M2.length), M2 ++ [.lst [.str w, d]]) := fun _ => rfl
  have hn : isN (.cel mu1.length) = false := rfl
  rw [← hM]
  have fin1 : mu1 ++ [Cell.exc C [("place", d)], .lst [.bl a, .bl (!a)], .lst [.str (if a = true then "text" else "row"), d]] = M2 ++ [.lst [.str (if a = true then "text" else "row"), d]] := by rw [hM2, hM]; simp
  rw [fin1, show mu1.length + 2 = M2.length by rw [hM2, List.length_append, hlen]; rfl]
  simp only [tdR, sSeq_ev, sIf_ev, eIsN_ev, eVarS, eVar0, bnd_ok, hn, bnS_ok, chS_bl, Bool.false_eq_true, if_false, sNil_ev, thnS_nx, sSet_ev, eCall_ev, eArgs_cons, eArgs_nil, eC_ev, i1, i2, l1, List.set]
  simp only [eOr_ev, eOp_ev, eMth_ev, eVarS, eVar0, bnd_ok, isl, if_true, eArgs_cons, eArgs_nil, eC_ev, hc, ne1, chB_bl, Bool.false_eq_true, if_false, i3, bnS_ok, chS_bl, sNil_ev, thnS_nx, sRet_ev, eCall_ev, eIf_ev, x0]
  cases a with
  | true => simp only [if_true, bnd_ok, eC_ev, gx M2 hj2, l2, bnS_ok, fin_rt]
  | false => simp only [Bool.false_eq_true, if_false, bnd_ok, eC_ev, gx M2 hj2, l2, bnS_ok, fin_rt]
theorem told_text {q : Ad} (hq : D33 q) {cl : Mu → Ro} {mu mu1 : Mu} {d : D} (h : cl mu = some (.ex q.cBadText [("place", d)], mu1)) :
    G__law_told_1a87f6 q cl mu = some (.ok (.cel (mu1.length + 2)), mu1 ++ [.exc q.cBadText [("place", d)], .lst [.bl true, .bl false], .lst [.str "text", d]]) :=
  told_ref (a := true) h (by simp [t_SnippetError, lkL, subsS]) (by simp [is_BadText, isL, lkL]) (by simp [is_BadRow, isL, lkL, excs, subsS, hq.tr]) (by simp [isL, lkL, excs, subsS, hq.tp, hq.ts, hq.tt]) (by simp [ox_place])
theorem told_row {q : Ad} (hq : D33 q) {cl : Mu → Ro} {mu mu1 : Mu} {d : D} (h : cl mu = some (.ex q.cBadRow [("place", d)], mu1)) :
    G__law_told_1a87f6 q cl mu = some (.ok (.cel (mu1.length + 2)), mu1 ++ [.exc q.cBadRow [("place", d)], .lst [.bl false, .bl true], .lst [.str "row", d]]) :=
  told_ref (a := false) h (by simp [t_SnippetError, lkL, subsS]) (by simp [is_BadText, isL, lkL, excs, subsS, hq.tr.symm]) (by simp [is_BadRow, isL, lkL]) (by simp [isL, lkL, excs, subsS, hq.rp, hq.rs, hq.rt]) (by simp [ox_place])
/-! ### what is shown -/
theorem repr_two {mu : Mu} {d : D} {w : Str} (hw : (decide (w.cps.toList.length ≤ 100) && w.cps.toList.all fun c => decide (c < 127)) = true) (h : Fit mu 180000 20 d) : ∃ t, ∀ (g : Mu) (j : Nat), (mu ++ g)[j]? = some (.lst [.str w, d]) → reprG [.cel j] (mu ++ g) = some (.ok (.str t), mu ++ g) := by
  simp only [Bool.and_eq_true, decide_eq_true_eq, List.all_eq_true] at hw
  obtain ⟨_, p, hs, hf⟩ := h
  obtain ⟨_, pw, hsw, hfw⟩ := fit_txt (mu := mu) (dp := 20) (l := w.cps.toList) (w := 100) hw.2 hw.1 (by decide)
  refine ⟨(PyData.list [pw, p]).shown, fun g j hj => ?_⟩
  have hsl : SeesL (mu ++ g) [.str w, d] [pw, p] := fun n hn => by
    unfold dPs
    have h1 := (hsw.app (g := g)) n hn
    unfold txD at h1
    rw [← tx_of] at h1
    rw [h1]
    unfold dPs
    rw [(hs.app (g := g)) n hn]
    unfold dPs
    rfl
  refine repr_lst (w := 181000) (dp := 20) hj hsl ⟨?_, ?_, ?_, ?_⟩ (by omega) (by omega)
  · simp [PyData.showableAll, hf.s, hfw.s]
  · simp [PyData.leavesShortAll, hf.l, hfw.l]
  · simp [PyData.weightAll]; have := hf.w; have := hfw.w; omega
  · simp [PyData.depthAll]; have := hf.d; have := hfw.d; omega
theorem fit_all3 : ((List.range 3100).all fun k => fitB 100 1 (.int ((k : Nat) : Int))) = true := by decide +kernel
theorem fit_k {mu : Mu} {k : Nat} (h : k < 3100) : Fit mu 180000 20 (.int (k : Nat)) := by
  have := (List.all_eq_true.mp fit_all3) k (List.mem_range.mpr h)
  exact (Fit.closed this).mono (by decide) (by decide)
/-! ### lines -/
theorem mem_join (y : Str) {c : Nat} : ∀ {parts : List Str} {z : Str}, z ∈ parts → c ∈ z.cps.toList → c ∈ (Str.join y parts).cps.toList
  | [x], z, hz, hc => by rw [List.mem_singleton.mp hz] at hc; exact hc
  | x :: w :: r, z, hz, hc => by
    show c ∈ (x.cps ++ y.cps ++ (Str.join y (w :: r)).cps).toList
    rw [Array.toList_append, Array.toList_append]
    rcases List.mem_cons.mp hz with rfl | hz
    · simp [hc]
    · have := mem_join y hz hc
      simp [this]
theorem lines_sub {l x : List Nat} (h : x ∈ linesOf l) : ∀ c ∈ x, c ∈ l := by
  unfold linesOf at h
  split at h
  · cases h
  · obtain ⟨z, hz, rfl⟩ := List.mem_map.mp h
    intro c hc
    have := mem_join "\n" hz hc
    rw [StrLaws.join_split] at this
    simpa using this
theorem lines_sum (l : List Nat) : ((linesOf l).map (·.length)).sum ≤ l.length := by
  unfold linesOf
  split
  · simp
  · have h2 := sum_join "\n" (Txt.split (tx l) "\n")
    rw [StrLaws.join_split, tx_len] at h2
    rw [List.map_map]
    have e : (Txt.split (tx l) "\n").map ((fun x : List Nat => x.length) ∘ fun z : Str => z.cps.toList) = (Txt.split (tx l) "\n").map (·.length) := by
      refine List.map_congr_left fun z _ => ?_
      show z.cps.toList.length = z.cps.size
      simp
    rw [e]
    exact h2
theorem fit_po {mu : Mu} {l : List Nat} (h : ∀ c ∈ l, c < 127) (hl : l.length ≤ 16000000) : Fit mu (l.length + 20) 2 (poD l) := by
  have h1 : Fit mu l.length 1 (txD l) := fit_txt h (Nat.le_refl _) (by omega)
  have h2 : Fit mu l.length 1 (txD (l.drop 6)) := fit_txt (fun c hc => h c (List.mem_of_mem_drop hc)) (by rw [List.length_drop]; omega) (by omega)
  have h3 : Fit mu 10 1 (.str "write") := Fit.closed (by decide +kernel)
  unfold poD
  split
  · exact (Fit.tup (FitL.cons h3 (FitL.cons h2 (FitL.nil (w := 0))))).mono (by omega) (by omega)
  · exact (Fit.tup (FitL.cons h1 (FitL.nil (w := 0)))).mono (by omega) (by omega)
theorem fit_pos {mu : Mu} : ∀ {ls : List (List Nat)}, (∀ l ∈ ls, l.length ≤ 16000000 ∧ ∀ c ∈ l, c < 127) → FitL mu ((ls.map (·.length)).sum + 21 * ls.length) 2 (ls.map poD)
  | [], _ => FitL.nil
  | l :: ls, h => by
    obtain ⟨h1, h2⟩ := h l List.mem_cons_self
    have := FitL.cons (fit_po (mu := mu) h2 h1) (fit_pos (ls := ls) fun x hx => h x (List.mem_cons_of_mem _ hx))
    exact this.mono (by simp only [List.map_cons, List.sum_cons, List.length_cons]; omega) (Nat.le_refl _)
theorem readR_all : ∀ {ls : List (List Nat)} {k : Nat} {acc r : List D}, readR k ls acc = .inr r → r = acc ++ ls.map poD
  | [], k, acc, r, h => by
    rw [readR] at h
    cases h
    simp
  | l :: ls, k, acc, r, h => by
    cases e : lineP l with
    | none => rw [readR_none e] at h; cases h
    | some p =>
      rw [readR_some e] at h
      rw [readR_all h, (lineP_some e).2]
      simp
theorem fit_rows {mu : Mu} {l : List Nat} {acc : List D} (hl : l.length ≤ 3000) (hc : ∀ c ∈ l, c < 127) (h : rdOf l = .inr acc) : Fit mu 180000 20 (.tup acc) := by
  have e := readR_all h
  rw [List.nil_append] at e
  subst e
  obtain ⟨h1, h2⟩ := lines_ok (l := l) (by omega)
  have h3 := lines_sum l
  have f := fit_pos (mu := mu) (ls := linesOf l) fun x hx => ⟨by have := (h1 x hx).1; omega, fun c hx2 => hc c (lines_sub hx c hx2)⟩
  exact (Fit.tup f).mono (by omega) (by omega)
/-- a text of the kinds that the law draws -/
def TxS (l : List Nat) : Prop := l.length ≤ 3000 ∧ ∀ c ∈ l, c < 127
/-- what the law wants to hear of a text -/
def wantR (l : List Nat) : Str × D := match rdOf l with
  | .inl k => ("text", .int (k : Nat))
  | .inr acc => ("told", .tup acc)
theorem rd_small {l : List Nat} (h : TxS l) {k : Nat} (hk : rdOf l = .inl k) : k < 3100 := by
  have e := ev_read_row (q := ⟨0, 0, 0, 0, 0, 0, 0, 0, 0, 0, 0, 0, 0, 0, 0, 0, 0, 0, 0, 0, 0, 0, 0, 0, 0, 0⟩) (l := l) (mu := []) (by have := h.1; omega)
  rcases e with ⟨k2, g, e1, e2, _⟩ | ⟨acc, g, e1, _⟩
  · rw [hk] at e1; cases e1; have := h.1; omega
  · rw [hk] at e1; cases e1
theorem fit_want {l : List Nat} (h : TxS l) {mu : Mu} : Fit mu 180000 20 (wantR l).2 := by
  unfold wantR
  cases e : rdOf l with
  | inl k => exact fit_k (rd_small h e)
  | inr acc => exact fit_rows h.1 h.2 e
theorem want_w {l : List Nat} : (decide ((wantR l).1.cps.toList.length ≤ 100) && (wantR l).1.cps.toList.all fun c => decide (c < 127)) = true := by
  unfold wantR
  cases rdOf l with
  | inl k =>
    show (decide (("text" : Str).cps.toList.length ≤ 100) && ("text" : Str).cps.toList.all fun c => decide (c < 127)) = true
    decide +kernel
  | inr acc =>
    show (decide (("told" : Str).cps.toList.length ≤ 100) && ("told" : Str).cps.toList.all fun c => decide (c < 127)) = true
    decide +kernel
/-- what read_row does with such a text, told -/
theorem told_read {q : Ad} (hq : D33 q) {l : List Nat} (h : TxS l) (mu : Mu) :
    ∃ g j, G__law_told_1a87f6 q (fun mu' => P_read_row q [txD l] mu') mu = some (.ok (.cel j), mu ++ g) ∧ (mu ++ g)[j]? = some (.lst [.str (wantR l).1, (wantR l).2]) := by
  rcases ev_read_row (q := q) (l := l) (mu := mu) (by have := h.1; omega) with ⟨k, g, e1, _, e2⟩ | ⟨acc, g, e1, e2⟩
  · have := told_text hq (cl := fun mu' => P_read_row q [txD l] mu') e2
    refine ⟨g ++ [.exc q.cBadText [("place", .int (k : Nat))], .lst [.bl true, .bl false], .lst [.str "text", .int (k : Nat)]], _, by rw [this, List.append_assoc], ?_⟩
    unfold wantR
    rw [e1, ← List.append_assoc, List.getElem?_append_right (by omega), Nat.add_sub_cancel_left]
    rfl
  · have := told_ok (q := q) (cl := fun mu' => P_read_row q [txD l] mu') e2
    refine ⟨g ++ [.lst [.str "told", .tup acc]], _, by rw [this, List.append_assoc], ?_⟩
    unfold wantR
    rw [e1, ← List.append_assoc]
    exact at_n _ _ []
/-- its repr is the same whenever it is asked -/
theorem repr_want {l : List Nat} (h : TxS l) : ∃ t, ∀ (mu : Mu) (j : Nat), mu[j]? = some (.lst [.str (wantR l).1, (wantR l).2]) → reprG [.cel j] mu = some (.ok (.str t), mu) := by
  obtain ⟨t, ht⟩ := repr_two (mu := []) (d := (wantR l).2) (w := (wantR l).1) want_w (fit_want h)
  exact ⟨t, fun mu j hj => ht mu j hj⟩
noncomputable abbrev rdL (q : Ad) (i : Nat) : ES := eCall reprG [eLam (G__law_told_1a87f6 q) id (eCall (P_read_row q) [eVar i])]
theorem rdL_ev {q : Ad} (hq : D33 q) {l : List Nat} (h : TxS l) {t : Str} (ht : ∀ (mu : Mu) (j : Nat), mu[j]? = some (.lst [.str (wantR l).1, (wantR l).2]) → reprG [.cel j] mu = some (.ok (.str t), mu)) {i : Nat} {rho : Rho} (hi : rho[i]? = some (some (txD l))) (mu : Mu) : ∃ g, rdL q i rho mu = some (.ok (.str t), mu ++ g) := by
  obtain ⟨g, j, e1, e2⟩ := told_read hq h mu
  refine ⟨g, ?_⟩
  have e0 : eLam (G__law_told_1a87f6 q) id (eCall (P_read_row q) [eVar i]) rho mu = some (.ok (.cel j), mu ++ g) := by
    unfold eLam
    rw [← e1]
    congr 1
    funext mu'
    show eCall (P_read_row q) [eVar i] rho mu' = _
    rw [eCall_ev, eArgs_cons, eVar_ev hi, bnd_ok, eArgs_nil]
  show eCall reprG [eLam (G__law_told_1a87f6 q) id (eCall (P_read_row q) [eVar i])] rho mu = _
  rw [eCall_ev, eArgs_cons, e0, bnd_ok, eArgs_nil, ht _ _ e2]
theorem ev__law_read_right {q : Ad} (hq : D33 q) {l : List Nat} (h : TxS l) (mu : Mu) : ∃ g, P__law_read_right q [txD l] mu = some (.ok (.bl true), mu ++ g) := by
  obtain ⟨t, ht⟩ := repr_want h
  have first : ∃ x g1 g2, P__law_read_f27a7e q [txD l] mu = some (.ok x, mu ++ g1) ∧ eCall reprG [eIf (eCall isiF [eVar 1, eC (.ty "int")]) (eCall lstF [eC (.str "text"), eVar 1]) (eCall lstF [eC (.str "told"), eOp ixD (eVar 1) (eC (.int 0))])] [some (txD l), some x, none, none] (mu ++ g1) = some (.ok (.str t), mu ++ g1 ++ g2) := by
    rcases ev__law_read (q := q) (l := l) (mu := mu) (by have := h.1; omega) with ⟨k, g, e1, e2⟩ | ⟨acc, g, e1, e2⟩
    · have er := ht (mu ++ g ++ [.lst [.str "text", .int (k : Nat)]]) (mu ++ g).length (by unfold wantR; rw [e1]; exact at_n _ _ [])
      have l1 : lstF [.str "text", .int (k : Nat)] (mu ++ g) = some (.ok (.cel (mu ++ g).length), mu ++ g ++ [.lst [.str "text", .int (k : Nat)]]) := rfl
      refine ⟨_, g, [.lst [.str "text", .int (k : Nat)]], e2, ?_⟩
      simp only [eCall_ev, eArgs_cons, eArgs_nil, eIf_ev, eVarS, eVar0, eC_ev, bnd_ok, isi_int_int, chB_bl, if_true, l1, er]
    · have hi : isiF [.cel (mu ++ g).length, .ty "int"] (mu ++ g ++ [.lst [.tup acc]]) = some (.ok (.bl false), mu ++ g ++ [.lst [.tup acc]]) := isi_int (t := "list") (by simp [tyN])
      have er := ht (mu ++ g ++ [.lst [.tup acc]] ++ [.lst [.str "told", .tup acc]]) (mu ++ g ++ [Cell.lst [.tup acc]]).length (by unfold wantR; rw [e1]; exact at_n _ _ [])
      have l1 : lstF [.str "told", .tup acc] (mu ++ g ++ [.lst [.tup acc]]) = some (.ok (.cel (mu ++ g ++ [Cell.lst [.tup acc]]).length), mu ++ g ++ [.lst [.tup acc]] ++ [.lst [.str "told", .tup acc]]) := rfl
      have x0 := ix_l0 (mu := mu ++ g ++ [.lst [.tup acc]]) (j := (mu ++ g).length) (a := .tup acc) (r := []) (at_n _ _ [])
      refine ⟨.cel (mu ++ g).length, g ++ [.lst [.tup acc]], [.lst [.str "told", .tup acc]], by rw [e2, List.append_assoc], ?_⟩
      rw [← List.append_assoc]
      simp only [eCall_ev, eArgs_cons, eArgs_nil, eIf_ev, eVarS, eVar0, eC_ev, bnd_ok, hi, chB_bl, Bool.false_eq_true, if_false, eOp_ev, x0, l1, er]
  obtain ⟨x, g1, g2, e1, e2⟩ := first
  obtain ⟨N, hN⟩ : ∃ N, N = mu ++ g1 ++ g2 := ⟨_, rfl⟩
  rw [← hN] at e2
  have loop := for_keep (t := .nm 3) (b := sIf (eOp neD (rdL q 0) (eVar 2)) (sRet (eC (.bl false))) (sNil)) (xs := (List.range 2).map fun k => D.int (k : Nat)) (fun rho m => ∃ a3 g, rho = [some (txD l), some x, some (.str t), a3] ∧ m = N ++ g) (fun y hy rho m ⟨a3, g, hr, hm⟩ => by
    subst hr hm
    obtain ⟨g3, e3⟩ := rdL_ev hq h ht (i := 0) (rho := [some (txD l), some x, some (.str t), some y]) rfl (N ++ g)
    refine ⟨_, rfl, [some (txD l), some x, some (.str t), some y], N ++ g ++ g3, ?_, some y, g ++ g3, rfl, by simp⟩
    show sIf (eOp neD (rdL q 0) (eVar 2)) (sRet (eC (.bl false))) sNil [some (txD l), some x, some (.str t), some y] (N ++ g) = _
    rw [sIf_ev, eOp_ev, e3, bnd_ok, eVar_ev (d := .str t) rfl, bnd_ok, ne_self, bnS_ok, chS_bl, if_neg Bool.false_ne_true, sNil_ev]) (rho := [some (txD l), some x, some (.str t), none]) (mu := N) ⟨none, [], rfl, by simp⟩
  obtain ⟨rho2, mu2, el, a3, g, hr, hm⟩ := loop
  refine ⟨g1 ++ g2 ++ g, ?_⟩
  rw [show mu ++ (g1 ++ g2 ++ g) = N ++ g by rw [hN]; simp]
  show DL.fin (m__law_read_right q [some (txD l), none, none, none] mu) = _
  unfold m__law_read_right
  rw [sSeq_ev, sSet_ev, eCall_ev, eArgs_cons, eVar_ev (d := txD l) rfl, bnd_ok, eArgs_nil, e1, bnS_ok, thnS_nx, sSeq_ev, sSet_ev]
  show DL.fin (thnS (bnS (eCall reprG _ [some (txD l), some x, none, none] (mu ++ g1)) _ _) _) = _
  rw [e2, bnS_ok, thnS_nx, sSeq_ev]
  show DL.fin (thnS (sFor (iRg (eC (.int 2))) (.nm 3) (sIf (eOp neD (rdL q 0) (eVar 2)) (sRet (eC (.bl false))) (sNil)) [some (txD l), some x, some (.str t), none] N) _) = _
  rw [sFor_ok (xs := (List.range 2).map fun k => D.int (k : Nat)) (g := none) (mu1 := N) (iRg_ev (n := 2) rfl (by decide) (by decide)), el, thnS_nx, sRet_ev, eC_ev, bnS_ok, fin_rt, hm]
end DL
set_option Elab.async false
set_option linter.all false
set_option autoImplicit false
set_option maxRecDepth 100000
set_option maxHeartbeats 4000000
/-! M85: rows: need_row, row_text, the law's own lines. -/
namespace DL
open PySem PySem.Spec L2
/-- the numbers of what is no press -/
def wrI : Nat → List D → List Nat
  | _, [] => []
  | k, x :: r => if isPr x = true then wrI (k + 1) r else k :: wrI (k + 1) r
theorem wrI_t {k : Nat} {x : D} {r : List D} (h : isPr x = true) : wrI k (x :: r) = wrI (k + 1) r := by rw [wrI, if_pos h]
theorem wrI_f {k : Nat} {x : D} {r : List D} (h : isPr x = false) : wrI k (x :: r) = k :: wrI (k + 1) r := by rw [wrI, if_neg (by rw [h]; exact Bool.false_ne_true)]
theorem drop_at {α : Type} {xs : List α} {k : Nat} {x : α} (h : xs[k]? = some x) : xs.drop k = x :: xs.drop (k + 1) := by
  obtain ⟨hk, hv⟩ := List.getElem?_eq_some_iff.mp h
  rw [List.drop_eq_getElem_cons hk, hv]
theorem iEn_tup {f : ES} {rho : Rho} {mu mu1 : Mu} {xs : List D} (h : f rho mu = some (.ok (.tup xs), mu1)) : iEn f rho mu = some (.ok (enumD xs) none, mu1) := by
  unfold iEn
  rw [h]
  rfl
noncomputable abbrev nrB (q : Ad) : SS := sTryF 3 1 (t_BadPress q) q.cBadRow "place" (sExpr (eCall (P_need_press q) [eVar 2]))
def nrR (q : Ad) (xs : List D) (mu : Mu) : Ro := match wrI 0 xs with
  | [] => some (.ok (.tup xs), mu)
  | k :: _ => some (.ex q.cBadRow [("place", .int (k : Nat))], mu)
theorem ev_need_row {q : Ad} {xs : List D} {mu : Mu} (h : wkL mu xs = true) : P_need_row q [.tup xs] mu = nrR q xs mu := by
  have e0 : isiF [.tup xs, .ty "tuple"] mu = some (.ok (.bl true), mu) := isi_tup_tuple
  have run : ∀ o, forL none (.tp [1, 2]) (nrB q) (enumD xs) [some (.tup xs), none, none, none] mu = o → P_need_row q [.tup xs] mu = DL.fin (thnS o (sRet (eVar 0))) := fun o ho => by
    show DL.fin (m_need_row q [some (.tup xs), none, none, none] mu) = _
    unfold m_need_row
    rw [sSeq_ev, sIf_ev, eNot_ev, eCall_ev, eArgs_cons, eVar0, bnd_ok, eArgs_cons, eC_ev, bnd_ok, eArgs_nil, e0, bnd_ok, chB_bl, if_pos rfl, bnS_ok, chS_bl, if_neg Bool.false_ne_true, sNil_ev, thnS_nx, sSeq_ev]
    rw [sFor_ok (iEn_tup (xs := xs) (mu1 := mu) rfl), ho]
  have loop := forE_wp (g := none) (t := .tp [1, 2]) (b := nrB q) (xs := xs) (fun k rho m => ∃ b1 b2 b3, wrI 0 xs = wrI k (xs.drop k) ∧ rho = [some (.tup xs), b1, b2, b3] ∧ m = mu)
    (fun o => DL.fin (thnS o (sRet (eVar 0))) = nrR q xs mu) (fun _ _ _ _ => trivial) (fun k x hx rho m ⟨b1, b2, b3, hw, hr, hm⟩ => by
      subst hr hm
      have hx1 : wk m x = true := wkL_iff.mp h x (List.mem_of_getElem? hx)
      have e2 := ev_need_press (q := q) hx1
      unfold npR at e2
      rw [drop_at hx] at hw
      refine ⟨[some (.tup xs), some (.int k), some x, b3], rfl, ?_⟩
      cases hp : isPr x with
      | true =>
        rw [hp, if_pos rfl] at e2
        rw [wrI_t hp] at hw
        refine .inl ⟨_, _, sTryF_nx (rho1 := [some (.tup xs), some (.int k), some x, b3]) (mu1 := m) ?_, _, _, _, hw, rfl, rfl⟩
        simp only [sExpr_ev, eCall_ev, eArgs_cons, eArgs_nil, eVarS, eVar0, bnd_ok, e2, bnS_ok]
      | false =>
        rw [hp, if_neg Bool.false_ne_true] at e2
        rw [wrI_f hp] at hw
        refine .inr (.inr ⟨_, _, _, _, sTryF_ex (C1 := q.cBadPress) (fs := [("given", x)]) (d := .int k) (rho1 := [some (.tup xs), some (.int k), some x, b3]) (mu1 := m) ?_ t_press rfl, ?_⟩)
        · simp only [sExpr_ev, eCall_ev, eArgs_cons, eArgs_nil, eVarS, eVar0, bnd_ok, e2, bnS_ex]
        · unfold nrR
          rw [hw]
          rfl) (fun rho m ⟨b1, b2, b3, hw, hr, hm⟩ => by
      rw [List.drop_length] at hw
      subst hr hm
      unfold nrR
      rw [hw]
      rfl) (rho := [some (.tup xs), none, none, none]) (mu := mu) ⟨none, none, none, rfl, rfl, rfl⟩
  rw [run _ rfl]
  exact loop
theorem ev_need_row_no {q : Ad} {d : D} {mu : Mu} (h : isiF [d, .ty "tuple"] mu = some (.ok (.bl false), mu)) : P_need_row q [d] mu = some (.ex q.cBadRow [("place", .non)], mu) := by
  have er : raiseF q.cBadRow gs_BadRow [.non] mu = some (.ex q.cBadRow [("place", .non)], mu) := rfl
  simp only [P_need_row, fnS_ev, m_need_row, List.map_cons, List.map_nil, List.cons_append, List.nil_append, sSeq_ev, sIf_ev, eNot_ev, eCall_ev, eArgs_cons, eArgs_nil, eVar0, eC_ev, bnd_ok, h, chB_bl, Bool.false_eq_true, if_false, bnS_ok, chS_bl, if_true, sRaise_ev, er, bnS_ex, thnS_ex, fin_ex]
/-! ### the text of a row -/
def Pr.ln : Pr → List Nat
  | .k z => z.cps.toList
  | .w l => wrS ++ l
/-- the words of a press -/
def Pr.ws : Pr → List (List Nat)
  | .k z => [z.cps.toList]
  | .w l => [[119, 114, 105, 116, 101], l]
theorem Pr.d_ws (p : Pr) : p.d = .tup (p.ws.map txD) := by
  cases p with
  | k z =>
    show D.tup [.str z] = .tup [.str (tx z.cps.toList)]
    rw [← tx_of]
  | w l => rfl
theorem key_small : ∀ z ∈ keyW, z.cps.toList.length ≤ 5 ∧ z.cps.toList ≠ [] ∧ ∀ c ∈ z.cps.toList, 32 ≤ c ∧ c < 127 := by decide +kernel
theorem ln_small {p : Pr} (h : p.ok) : p.ln.length ≤ 206 ∧ p.ln ≠ [] ∧ ∀ c ∈ p.ln, 32 ≤ c ∧ c < 127 := by
  cases p with
  | k z =>
    obtain ⟨h1, h2, h3⟩ := key_small z h
    exact ⟨by show z.cps.toList.length ≤ 206; omega, h2, h3⟩
  | w l =>
    obtain ⟨h1, h2, h3⟩ := h
    refine ⟨by show (wrS ++ l).length ≤ 206; rw [List.length_append]; simp [wrS]; omega, by show wrS ++ l ≠ []; simp [wrS], fun c hc => ?_⟩
    have hc : c ∈ wrS ++ l := hc
    rcases List.mem_append.mp hc with hc | hc
    · have : ∀ c ∈ wrS, 32 ≤ c ∧ c < 127 := by decide
      exact this c hc
    · exact h3 c hc
theorem join_w {p : Pr} : Txt.join " " (p.ws.map tx) = tx p.ln := by
  cases p with
  | k z => rfl
  | w l =>
    rw [TL.join_eq]
    show tx [119, 114, 105, 116, 101] ++ " " ++ tx l = _
    rw [show (" " : Str) = tx [32] from rfl, tx_app, tx_app]
    rfl
theorem ok_isPr {p : Pr} (h : p.ok) : isPr p.d = true := by
  cases p with
  | k z => exact decide_eq_true h
  | w l =>
    obtain ⟨h1, h2, h3⟩ := h
    show (decide (("write" : Str) = "write") && txB (tx l)) = true
    have h0 : l.length ≠ 0 := fun e => h1 (List.length_eq_zero_iff.mp e)
    have hn : ¬ 10 ∈ l := fun hm => by have := (h3 10 hm).1; omega
    unfold txB
    rw [tx_len]
    simp only [decide_true, Bool.true_and, Bool.and_eq_true, decide_eq_true_eq, Bool.not_eq_true', decide_eq_false_iff_not]
    exact ⟨by omega, h2, by simpa using hn⟩
theorem line_ln {p : Pr} (h : p.ok) : lineP p.ln = some p.d := by
  have hp : poD p.ln = p.d := by
    cases p with
    | k z =>
      have hz : tx z.cps.toList = z := (tx_of z).symm
      have hw := key_take (l := z.cps.toList) (by rw [hz]; exact h)
      unfold poD
      rw [if_neg (show ¬ (Pr.k z).ln.take 6 = wrS from hw)]
      show D.tup [.str (tx z.cps.toList)] = .tup [.str z]
      rw [hz]
    | w l =>
      unfold poD
      rw [if_pos (show (Pr.w l).ln.take 6 = wrS from List.take_left' rfl)]
      show D.tup [.str "write", txD ((wrS ++ l).drop 6)] = .tup [.str "write", txD l]
      rw [show (wrS ++ l).drop 6 = l from List.drop_left' rfl]
  unfold lineP
  rw [hp, ok_isPr h, if_pos rfl]
/-- the text of a row -/
def jnP (ps : List Pr) : List Nat := (Txt.join "\n" ((ps.map Pr.ln).map tx)).cps.toList
theorem jn_tx (ps : List Pr) : Txt.join "\n" ((ps.map Pr.ln).map tx) = tx (jnP ps) := tx_of _
theorem readR_row : ∀ {ps : List Pr} {k : Nat} {acc : List D}, (∀ p ∈ ps, p.ok) → readR k (ps.map Pr.ln) acc = .inr (acc ++ ps.map Pr.d)
  | [], k, acc, _ => by
    show readR k [] acc = _
    rw [readR]
    simp
  | p :: ps, k, acc, h => by
    show readR k (p.ln :: ps.map Pr.ln) acc = _
    rw [readR_some (line_ln (h p List.mem_cons_self)), readR_row fun x hx => h x (List.mem_cons_of_mem _ hx)]
    simp
theorem lines_row {ps : List Pr} (h : ∀ p ∈ ps, p.ok) : linesOf (jnP ps) = ps.map Pr.ln := by
  cases ps with
  | nil => rfl
  | cons p r =>
    have hsp : Txt.split (tx (jnP (p :: r))) "\n" = (((p :: r).map Pr.ln).map tx) := by
      rw [← jn_tx]
      refine TL.split_join (s := 10) (S := []) rfl (by decide +kernel) (by simp) fun z hz => ?_
      obtain ⟨l, hl, rfl⟩ := List.mem_map.mp hz
      obtain ⟨x, hx, rfl⟩ := List.mem_map.mp hl
      intro hm
      have hm : 10 ∈ (tx x.ln).cps.toList := hm
      have := ((ln_small (h x hx)).2.2 10 (by simpa using hm)).1
      omega
    have hne : jnP (p :: r) ≠ [] := fun e => by
      rw [e] at hsp
      have h0 : Txt.split (tx []) "\n" = [tx []] := by rfl
      rw [h0] at hsp
      have h1 := (ln_small (h p List.mem_cons_self)).2.1
      simp only [List.map_cons, List.cons.injEq] at hsp
      exact h1 (tx_eq.mp hsp.1).symm
    unfold linesOf
    rw [if_neg hne, hsp, List.map_map]
    have : ((fun z : Str => z.cps.toList) ∘ tx) = id := by
      funext l
      simp
    rw [this, List.map_id]
theorem rd_row {ps : List Pr} (h : ∀ p ∈ ps, p.ok) : rdOf (jnP ps) = .inr (ps.map Pr.d) := by
  unfold rdOf
  rw [lines_row h, readR_row h]
  rfl
end DL
set_option Elab.async false
set_option linter.all false
set_option autoImplicit false
set_option maxRecDepth 100000
set_option maxHeartbeats 4000000
/-! M86: row_text, the law's lines, what the law wants. -/
namespace DL
open PySem PySem.Spec L2
theorem join_evS {sep : Str} {mu : Mu} {j : Nat} {ls : List (List Nat)} (hj : mu[j]? = some (.lst (ls.map txD))) (hl : ls.flatten.length + ls.length * sep.length ≤ 16777216) : joinM (.str sep) [.cel j] mu = some (.ok (.str (Txt.join sep (ls.map tx))), mu) := by
  have es : seqD (.cel j) mu = some (ls.map txD) := by simp [seqD, lstD, hj]
  show (match seqD (.cel j) mu with | some xs => (match strsD xs with | some ys => if (ys.map Str.length).sum + ys.length * sep.length ≤ 16777216 then okD (.str (Txt.join sep ys)) mu else none | none => none) | none => none) = _
  rw [es]
  dsimp only
  rw [strs_txs]
  dsimp only
  rw [if_pos (by rw [sum_txs, List.length_map]; exact hl)]
theorem flat_len : ∀ {ls : List (List Nat)} {b : Nat}, (∀ l ∈ ls, l.length ≤ b) → ls.flatten.length ≤ b * ls.length
  | [], _, _ => by simp
  | l :: ls, b, h => by
    have h1 := h l List.mem_cons_self
    have h2 := flat_len (ls := ls) (b := b) fun x hx => h x (List.mem_cons_of_mem _ hx)
    simp only [List.flatten_cons, List.length_append, List.length_cons, Nat.mul_succ]
    omega
/-- a row of presses -/
structure RowK (ps : List Pr) : Prop where
  ok : ∀ p ∈ ps, p.ok
  few : ps.length ≤ 14
theorem wr_row : ∀ {ps : List Pr} {k : Nat}, (∀ p ∈ ps, p.ok) → wrI k (ps.map Pr.d) = []
  | [], _, _ => rfl
  | p :: ps, k, h => by
    show wrI k (p.d :: ps.map Pr.d) = []
    rw [wrI_t (ok_isPr (h p List.mem_cons_self))]
    exact wr_row fun x hx => h x (List.mem_cons_of_mem _ hx)
theorem ws_small {p : Pr} (h : p.ok) : p.ws.flatten.length + p.ws.length * (" " : Str).length ≤ 16777216 := by
  have h1 := (ln_small h).1
  cases p with
  | k z =>
    have h1 : z.cps.toList.length ≤ 206 := h1
    show [z.cps.toList].flatten.length + 1 * 1 ≤ _
    simp
    simp at h1
    omega
  | w l =>
    have h2 : l.length ≤ 200 := h.2.1
    show ([[119, 114, 105, 116, 101], l] : List (List Nat)).flatten.length + 2 * 1 ≤ _
    simp
    omega
theorem rows_small {ps : List Pr} (h : RowK ps) : (ps.map Pr.ln).flatten.length + (ps.map Pr.ln).length * ("\n" : Str).length ≤ 16777216 := by
  have h1 := flat_len (ls := ps.map Pr.ln) (b := 206) fun l hl => by
    obtain ⟨p, hp, rfl⟩ := List.mem_map.mp hl
    exact (ln_small (h.ok p hp)).1
  have h2 := h.few
  rw [List.length_map] at h1 ⊢
  have : ("\n" : Str).length = 1 := rfl
  rw [this]
  omega
theorem wk_ws {mu : Mu} {p : Pr} (h : p.ok) : wk mu p.d = true := by
  have h1 : ("write" : Str).length ≤ 16777216 := by decide
  cases p with
  | k z =>
    have h2 := (key_small z h).1
    have : z.length ≤ 16777216 := by
      have : z.length = z.cps.toList.length := by show z.cps.size = _; simp
      omega
    simp [Pr.d, this]
  | w l =>
    have h2 : (tx l).length ≤ 16777216 := by rw [tx_len]; have := h.2.1; omega
    simp [Pr.d, txD, h1, h2]
theorem wk_row {mu : Mu} {ps : List Pr} (h : ∀ p ∈ ps, p.ok) : wkL mu (ps.map Pr.d) = true := wkL_iff.mpr fun x hx => by
  obtain ⟨p, hp, rfl⟩ := List.mem_map.mp hx
  exact wk_ws (h p hp)
/-- the text of a row of presses -/
theorem ev_row_text {q : Ad} {ps : List Pr} (h : RowK ps) (mu : Mu) : ∃ g, P_row_text q [.tup (ps.map Pr.d)] mu = some (.ok (txD (jnP ps)), mu ++ g) := by
  have en := ev_need_row (q := q) (xs := ps.map Pr.d) (mu := mu) (wk_row h.ok)
  unfold nrR at en
  rw [wr_row h.ok] at en
  dsimp only at en
  have ei : iV (eCall (P_need_row q) [eVar 0]) [some (.tup (ps.map Pr.d)), none] mu = some (.ok (ps.map Pr.d) none, mu) := by
    unfold iV
    rw [eCall_ev, eArgs_cons, eVar0, bnd_ok, eArgs_nil, en]
    rfl
  have comp := compL_ix (n := mu.length) (g := none) (t := .nm 1) (tt := eC (.bl true)) (te := eMth isSB joinM (eC (.str " ")) [eCall listA [eVar 1]]) (fun i m => ∃ g, m = mu ++ .lst (((ps.take i).map Pr.ln).map txD) :: g) (rho := [some (.tup (ps.map Pr.d)), none]) (fun _ _ _ => trivial) (xs := ps.map Pr.d) (i := 0) (mu := mu ++ [.lst []]) (fun k x hx m ⟨g, hm⟩ => by
      subst hm
      rw [List.getElem?_map] at hx
      obtain ⟨p, hp, rfl⟩ := Option.map_eq_some_iff.mp hx
      have hpo := h.ok p (List.mem_of_getElem? hp)
      have hlt := (List.getElem?_eq_some_iff.mp hp).1
      have hfew := h.few
      rw [Nat.zero_add]
      obtain ⟨M, hM⟩ : ∃ M, M = mu ++ Cell.lst (((ps.take k).map Pr.ln).map txD) :: g := ⟨_, rfl⟩
      have l1 : listA [p.d] M = some (.ok (.cel M.length), M ++ [.lst (p.ws.map txD)]) := by rw [p.d_ws]; rfl
      have j1 := join_evS (sep := " ") (mu := M ++ [.lst (p.ws.map txD)]) (j := M.length) (ls := p.ws) (at_n _ _ []) (ws_small hpo)
      rw [join_w] at j1
      refine ⟨[some (.tup (ps.map Pr.d)), some p.d], rfl, .inr ⟨M, M ++ [.lst (p.ws.map txD)], txD p.ln, ((ps.take k).map Pr.ln).map txD, by rw [← hM]; rfl, ?_, ?_, ?_, ?_⟩⟩
      · simp only [eMth_ev, eC_ev, bnd_ok, show isSB (.str " ") M = true from rfl, if_true, eArgs_cons, eArgs_nil, eCall_ev, eVarS, eVar0, l1, j1]
        rfl
      · rw [hM]
        simp
      · simp only [List.length_map, List.length_take]
        omega
      · refine ⟨g ++ [.lst (p.ws.map txD)], ?_⟩
        rw [hM, show mu ++ Cell.lst (((ps.take k).map Pr.ln).map txD) :: g ++ [.lst (p.ws.map txD)] = mu ++ Cell.lst (((ps.take k).map Pr.ln).map txD) :: (g ++ [.lst (p.ws.map txD)]) by simp, set_n]
        rw [List.take_add_one, hp]
        simp) ⟨[], by simp⟩
  obtain ⟨mu2, ec, g, hm⟩ := comp
  rw [Nat.zero_add, List.length_map, List.take_length] at hm
  have ecomp : eComp (iV (eCall (P_need_row q) [eVar 0])) (.nm 1) [1] (eC (.bl true)) (eMth isSB joinM (eC (.str " ")) [eCall listA [eVar 1]]) [some (.tup (ps.map Pr.d)), none] mu = some (.ok (.cel mu.length), mu2) := by
    unfold eComp
    rw [ei]
    dsimp only
    rw [show wipeR [some (D.tup (ps.map Pr.d)), none] [1] = [some (.tup (ps.map Pr.d)), none] from rfl, ec]
  have ej := join_evS (sep := "\n") (mu := mu2) (j := mu.length) (ls := ps.map Pr.ln) (by rw [hm]; exact at_n _ _ _) (rows_small h)
  rw [jn_tx] at ej
  refine ⟨.lst ((ps.map Pr.ln).map txD) :: g, ?_⟩
  rw [← hm]
  show DL.fin (m_row_text q [some (.tup (ps.map Pr.d)), none] mu) = _
  unfold m_row_text
  rw [sRet_ev, eMth_ev, eC_ev, bnd_ok, if_pos (show isSB (.str "\n") mu = true from rfl), eArgs_cons, ecomp, bnd_ok, eArgs_nil, ej]
  rfl
theorem ev_row_text_bad {q : Ad} {xs : List D} {mu : Mu} {k : Nat} {r : List Nat} (hw : wkL mu xs = true) (h : wrI 0 xs = k :: r) : P_row_text q [.tup xs] mu = some (.ex q.cBadRow [("place", .int (k : Nat))], mu) := by
  have en := ev_need_row (q := q) (xs := xs) (mu := mu) hw
  unfold nrR at en
  rw [h] at en
  dsimp only at en
  show DL.fin (m_row_text q [some (.tup xs), none] mu) = _
  unfold m_row_text
  rw [sRet_ev, eMth_ev, eC_ev, bnd_ok, if_pos (show isSB (.str "\n") mu = true from rfl), eArgs_cons]
  unfold eComp iV
  rw [eCall_ev, eArgs_cons, eVar0, bnd_ok, eArgs_nil, en]
  rfl
theorem ev_row_text_no {q : Ad} {d : D} {mu : Mu} (h : isiF [d, .ty "tuple"] mu = some (.ok (.bl false), mu)) : P_row_text q [d] mu = some (.ex q.cBadRow [("place", .non)], mu) := by
  have en := ev_need_row_no (q := q) h
  show DL.fin (m_row_text q [some d, none] mu) = _
  unfold m_row_text
  rw [sRet_ev, eMth_ev, eC_ev, bnd_ok, if_pos (show isSB (.str "\n") mu = true from rfl), eArgs_cons]
  unfold eComp iV
  rw [eCall_ev, eArgs_cons, eVar0, bnd_ok, eArgs_nil, en]
  rfl
/-! ### the law's own lines -/
theorem d_inj {p p' : Pr} (h : p.d = p'.d) : p.ln = p'.ln := by
  cases p <;> cases p' <;> simp [Pr.d, txD] at h
  · rw [h]
  · show wrS ++ _ = wrS ++ _
    rw [h]
/-- the line of a press -/
noncomputable def lnD (d : D) : D := by
  classical exact if h : ∃ p : Pr, d = p.d then txD h.choose.ln else .non
theorem lnD_d (p : Pr) : lnD p.d = txD p.ln := by
  have hex : ∃ p' : Pr, p.d = p'.d := ⟨p, rfl⟩
  unfold lnD
  rw [dif_pos hex]
  congr 1
  exact (d_inj hex.choose_spec).symm
theorem ev__law_lines {q : Ad} {ps : List Pr} (h : RowK ps) (mu : Mu) : P__law_lines_dd0f9d q [.tup (ps.map Pr.d)] mu = some (.ok (txD (jnP ps)), mu ++ [.lst ((ps.map Pr.ln).map txD)]) := by
  have hfew := h.few
  have comp := comp_pure (fi := iV (eVar 0)) (t := .nm 1) (vs := [1]) (tt := eC (.bl true)) (te := eOp addD (eOp ixD (eVar 1) (eC (.int 0))) (eIf (eOp eqD (eOp ixD (eVar 1) (eC (.int 0))) (eC (.str "write"))) (eOp addD (eC (.str " ")) (eOp ixD (eVar 1) (eC (.int 1)))) (eC (.str "")))) (rho := [some (.tup (ps.map Pr.d)), none]) (mu0 := mu) (mu := mu) (g := none) (xs := ps.map Pr.d) (fun _ => true) lnD rfl trivial (fun x hx acc => by
    obtain ⟨p, hp, rfl⟩ := List.mem_map.mp hx
    refine ⟨[some (.tup (ps.map Pr.d)), some p.d], rfl, rfl, fun _ => ?_⟩
    rw [lnD_d]
    have hpo := h.ok p hp
    cases p with
    | k z =>
      have hz : z ≠ "write" := fun e => wr_key (e ▸ hpo)
      have hz2 : tx z.cps.toList = z := (tx_of z).symm
      have hl : z.cps.toList.length ≤ 5 := (key_small z hpo).1
      have a1 : ∀ M : Mu, addD (.str z) (.str "") M = some (.ok (.str z), M) := fun M => by
        have := add_strs (mu := M) (a := z.cps.toList) (b := []) (by simp at hl ⊢; omega)
        rw [hz2, List.append_nil, hz2] at this
        exact this
      show _ = some (Rs.ok (D.str (tx z.cps.toList)), _)
      rw [hz2]
      simp only [Pr.d, eOp_ev, eVarS, eVar0, eC_ev, bnd_ok, ix_tup0, eIf_ev, eq_str, decide_eq_false hz, chB_bl, Bool.false_eq_true, if_false, a1]
    | w l =>
      have hl : l.length ≤ 200 := hpo.2.1
      have a1 : ∀ M : Mu, addD (.str " ") (.str (tx l)) M = some (.ok (.str (tx (32 :: l))), M) := fun M => add_strs (a := [32]) (by simp; omega)
      have a2 : ∀ M : Mu, addD (.str "write") (.str (tx (32 :: l))) M = some (.ok (txD (wrS ++ l)), M) := fun M => add_strs (a := [119, 114, 105, 116, 101]) (by simp; omega)
      simp only [Pr.d, txD, eOp_ev, eVarS, eVar0, eC_ev, bnd_ok, ix_tup0, ix_tup1, eIf_ev, eq_str, decide_true, chB_bl, if_true, a1]
      exact a2 _) (by rw [List.length_map]; omega)
  have hf : ((ps.map Pr.d).filter fun _ => true).map lnD = (ps.map Pr.ln).map txD := by
    rw [List.filter_eq_self.mpr (fun _ _ => rfl), List.map_map, List.map_map]
    exact List.map_congr_left fun p _ => lnD_d p
  rw [hf] at comp
  have ej := join_evS (sep := "\n") (mu := mu ++ [.lst ((ps.map Pr.ln).map txD)]) (j := mu.length) (ls := ps.map Pr.ln) (at_n _ _ []) (rows_small h)
  rw [jn_tx] at ej
  show DL.fin (m__law_lines_dd0f9d q [some (.tup (ps.map Pr.d)), none] mu) = _
  unfold m__law_lines_dd0f9d
  rw [sRet_ev, eMth_ev, eC_ev, bnd_ok, if_pos (show isSB (.str "\n") mu = true from rfl), eArgs_cons, comp, bnd_ok, eArgs_nil, ej]
  rfl
/-! ### what is wanted -/
def pW : D → Bool
  | .tup [_, x] => !isPr x
  | _ => false
def fW : D → D
  | .tup [k, _] => k
  | _ => .non
theorem wr_enum : ∀ (xs : List D) (k : Nat), (((xs.zipIdx k).map fun p => D.tup [.int (p.2 : Nat), p.1]).filter pW).map fW = (wrI k xs).map fun k => D.int (k : Nat)
  | [], _ => rfl
  | x :: xs, k => by
    have ih := wr_enum xs (k + 1)
    rw [List.zipIdx_cons, List.map_cons]
    cases hp : isPr x with
    | true =>
      rw [List.filter_cons_of_neg (by simp [pW, hp]), wrI_t hp]
      exact ih
    | false =>
      rw [List.filter_cons_of_pos (by simp [pW, hp]), wrI_f hp, List.map_cons, List.map_cons, ih]
      rfl
theorem ev__law_wrong33 {q : Ad} {xs : List D} {mu : Mu} (h : wkL mu xs = true) (hl : xs.length ≤ 1000) : eComp (iEn (eVar 0)) (.tp [2, 3]) [2, 3] (eNot (eCall (P__law_is_press_e02fb6 q) [eVar 3])) (eVar 2) [some (.tup xs), none, none, none] mu = some (.ok (.cel mu.length), mu ++ [.lst ((wrI 0 xs).map fun k => D.int (k : Nat))]) := by
  have comp := comp_pure (fi := iEn (eVar 0)) (t := .tp [2, 3]) (vs := [2, 3]) (tt := eNot (eCall (P__law_is_press_e02fb6 q) [eVar 3])) (te := eVar 2) (rho := [some (.tup xs), none, none, none]) (mu0 := mu) (mu := mu) (g := none) (xs := enumD xs) pW fW (iEn_tup rfl) trivial (fun x hx acc => by
    unfold enumD at hx
    obtain ⟨⟨y, k⟩, hy, rfl⟩ := List.mem_map.mp hx
    have hy1 : y ∈ xs := by
      have := List.mem_zipIdx hy
      simp at this
      obtain ⟨h1, h2⟩ := this
      rw [h2]
      exact List.getElem_mem _
    have e := ev__law_is_press (q := q) (mu := mu ++ [.lst acc]) (x := y) (wk_app _ (wkL_iff.mp h y hy1))
    refine ⟨[some (.tup xs), none, some (.int (k : Nat)), some y], rfl, ?_, fun _ => rfl⟩
    simp only [eNot_ev, eCall_ev, eArgs_cons, eArgs_nil, eVarS, eVar0, bnd_ok, e, chB_bl]
    show _ = some (Rs.ok (D.bl (!isPr y)), _)
    cases isPr y <;> rfl) (by rw [enumD_length]; omega)
  have hf : ((enumD xs).filter pW).map fW = (wrI 0 xs).map fun k => D.int (k : Nat) := wr_enum xs 0
  rw [hf] at comp
  exact comp
end DL
set_option Elab.async false
set_option linter.all false
set_option autoImplicit false
set_option maxRecDepth 100000
set_option maxHeartbeats 4000000
/-! M87: things written or refused as they must be (_law_right). -/
namespace DL
open PySem PySem.Spec L2
/-- a thing that the law asks of: what is wanted -/
inductive Thg (mu : Mu) : D → Str → D → Prop
  | no (d : D) (h : isiF [d, .ty "tuple"] mu = some (.ok (.bl false), mu)) : Thg mu d "row" .non
  | bad (xs : List D) (k : Nat) (r : List Nat) (hw : wkL mu xs = true) (hl : xs.length ≤ 1000) (h : wrI 0 xs = k :: r) : Thg mu (.tup xs) "row" (.int (k : Nat))
  | row (ps : List Pr) (h : RowK ps) : Thg mu (.tup (ps.map Pr.d)) "told" (txD (jnP ps))
theorem tyN_app {d : D} {mu g : Mu} {t : String} (h : tyN d mu = some t) : tyN d (mu ++ g) = some t := by
  cases d with
  | cel j =>
    unfold tyN at h ⊢
    dsimp only at h ⊢
    cases hj : mu[j]? with
    | none => rw [hj] at h; cases h
    | some c =>
      rw [List.getElem?_append_left (List.getElem?_eq_some_iff.mp hj).1, hj]
      rw [hj] at h
      exact h
  | _ => exact h
theorem isi_app {d : D} {mu g : Mu} {n : String} {b : Bool} (h : isiF [d, .ty n] mu = some (.ok (.bl b), mu)) : isiF [d, .ty n] (mu ++ g) = some (.ok (.bl b), mu ++ g) := by
  have h' : (match tyN d mu with | some t => if kitB t n = some (isTyB t n) then okD (.bl (isTyB t n)) mu else none | none => none) = some (.ok (.bl b), mu) := h
  show (match tyN d (mu ++ g) with | some t => if kitB t n = some (isTyB t n) then okD (.bl (isTyB t n)) (mu ++ g) else none | none => none) = _
  cases e : tyN d mu with
  | none => rw [e] at h'; cases h'
  | some t =>
    rw [e] at h'
    rw [tyN_app e]
    dsimp only at h' ⊢
    split at h'
    · rename_i hk
      rw [if_pos hk]
      have := Option.some.inj h'
      simp only [Prod.mk.injEq, Rs.ok.injEq, D.bl.injEq] at this
      rw [← this.1]
    · cases h'
theorem Thg.app {mu g : Mu} {d x : D} {w : Str} (h : Thg mu d w x) : Thg (mu ++ g) d w x := by
  cases h with
  | no d h => exact .no d (isi_app h)
  | bad xs k r hw hl h => exact .bad xs k r (wkL_iff.mpr fun y hy => wk_app _ (wkL_iff.mp hw y hy)) hl h
  | row ps h => exact .row ps h
/-- what the law wants -/
theorem ev__law_want {q : Ad} {mu : Mu} {d x : D} {w : Str} (h : Thg mu d w x) : ∃ g, P__law_want_d7aeca q [d] mu = some (.ok (.cel (mu ++ g).length), mu ++ g ++ [.lst [.str w, x]]) := by
  cases h with
  | no d h =>
    have l1 : lstF [.str "row", .non] mu = some (.ok (.cel mu.length), mu ++ [.lst [.str "row", .non]]) := rfl
    refine ⟨[], ?_⟩
    simp only [P__law_want_d7aeca, fnS_ev, m__law_want_d7aeca, List.map_cons, List.map_nil, List.cons_append, List.nil_append, sSeq_ev, sIf_ev, eNot_ev, eCall_ev, eArgs_cons, eArgs_nil, eVar0, eC_ev, bnd_ok, h, chB_bl, Bool.false_eq_true, if_false, bnS_ok, chS_bl, if_true, sRet_ev, l1, thnS_rt, fin_rt, List.append_nil]
  | bad xs k r hw hl h =>
    have e0 : isiF [.tup xs, .ty "tuple"] mu = some (.ok (.bl true), mu) := isi_tup_tuple
    have ec := ev__law_wrong33 (q := q) hw hl
    rw [h] at ec
    obtain ⟨M, hM⟩ : ∃ M, M = mu ++ [Cell.lst ((k :: r).map fun k => D.int (k : Nat))] := ⟨_, rfl⟩
    rw [← hM] at ec
    have hj : M[mu.length]? = some (.lst (.int (k : Nat) :: r.map fun k => D.int (k : Nat))) := by rw [hM]; exact at_n _ _ []
    have l0 : lstF [] M = some (.ok (.cel M.length), M ++ [.lst []]) := rfl
    have hj2 : (M ++ [Cell.lst []])[mu.length]? = some (.lst (.int (k : Nat) :: r.map fun k => D.int (k : Nat))) := by
      rw [List.getElem?_append_left (List.getElem?_eq_some_iff.mp hj).1, hj]
    have n1 := neA_nil hj2 (at_n M (.lst []) [])
    have x0 := ix_l0 hj2
    have l1 : lstF [.str "row", .int (k : Nat)] (M ++ [.lst []]) = some (.ok (.cel (M ++ [Cell.lst []]).length), M ++ [.lst []] ++ [.lst [.str "row", .int (k : Nat)]]) := rfl
    refine ⟨[.lst ((k :: r).map fun k => D.int (k : Nat)), .lst []], ?_⟩
    rw [show mu ++ [Cell.lst ((k :: r).map fun k => D.int (k : Nat)), .lst []] = M ++ [.lst []] by rw [hM]; simp]
    show DL.fin (m__law_want_d7aeca q [some (.tup xs), none, none, none] mu) = _
    unfold m__law_want_d7aeca
    rw [sSeq_ev, sIf_ev, eNot_ev, eCall_ev, eArgs_cons, eVar0, bnd_ok, eArgs_cons, eC_ev, bnd_ok, eArgs_nil, e0, bnd_ok, chB_bl, if_pos rfl, bnS_ok, chS_bl, if_neg Bool.false_ne_true, sNil_ev, thnS_nx, sSeq_ev, sSet_ev, ec, bnS_ok, thnS_nx]
    simp only [List.set, sRet_ev, eIf_ev, eOp_ev, eVarS, eVar0, bnd_ok, eCall_ev, eArgs_cons, eArgs_nil, l0, n1, List.isEmpty_cons, Bool.not_false, chB_bl, if_true, eC_ev, x0, l1, bnS_ok, fin_rt]
  | row ps h =>
    have hfew := h.few
    have e0 : isiF [.tup (ps.map Pr.d), .ty "tuple"] mu = some (.ok (.bl true), mu) := isi_tup_tuple
    have ec := ev__law_wrong33 (q := q) (mu := mu) (wk_row h.ok) (by rw [List.length_map]; omega)
    rw [wr_row h.ok] at ec
    obtain ⟨M, hM⟩ : ∃ M, M = mu ++ [Cell.lst (([] : List Nat).map fun k => D.int (k : Nat))] := ⟨_, rfl⟩
    rw [← hM] at ec
    have hj : M[mu.length]? = some (.lst []) := by rw [hM]; exact at_n _ _ []
    have l0 : lstF [] M = some (.ok (.cel M.length), M ++ [.lst []]) := rfl
    have hj2 : (M ++ [Cell.lst []])[mu.length]? = some (.lst []) := by
      rw [List.getElem?_append_left (List.getElem?_eq_some_iff.mp hj).1, hj]
    have n1 := neA_nil hj2 (at_n M (.lst []) [])
    have el := ev__law_lines (q := q) h (M ++ [.lst []])
    obtain ⟨M2, hM2⟩ : ∃ M2, M2 = M ++ [.lst []] ++ [Cell.lst ((ps.map Pr.ln).map txD)] := ⟨_, rfl⟩
    rw [← hM2] at el
    have l1 : lstF [.str "told", txD (jnP ps)] M2 = some (.ok (.cel M2.length), M2 ++ [.lst [.str "told", txD (jnP ps)]]) := rfl
    refine ⟨[.lst [], .lst [], .lst ((ps.map Pr.ln).map txD)], ?_⟩
    rw [show mu ++ [Cell.lst [], .lst [], .lst ((ps.map Pr.ln).map txD)] = M2 by rw [hM2, hM]; simp]
    show DL.fin (m__law_want_d7aeca q [some (.tup (ps.map Pr.d)), none, none, none] mu) = _
    unfold m__law_want_d7aeca
    rw [sSeq_ev, sIf_ev, eNot_ev, eCall_ev, eArgs_cons, eVar0, bnd_ok, eArgs_cons, eC_ev, bnd_ok, eArgs_nil, e0, bnd_ok, chB_bl, if_pos rfl, bnS_ok, chS_bl, if_neg Bool.false_ne_true, sNil_ev, thnS_nx, sSeq_ev, sSet_ev, ec, bnS_ok, thnS_nx]
    simp only [List.set, sRet_ev, eIf_ev, eOp_ev, eVarS, eVar0, bnd_ok, eCall_ev, eArgs_cons, eArgs_nil, l0, n1, List.isEmpty_nil, Bool.not_true, chB_bl, Bool.false_eq_true, if_false, eC_ev, el, l1, bnS_ok, fin_rt]
/-- what row_text does, told -/
theorem told_thing {q : Ad} (hq : D33 q) {mu : Mu} {d x : D} {w : Str} (h : Thg mu d w x) :
    ∃ g j, G__law_told_1a87f6 q (fun mu' => P_row_text q [d] mu') mu = some (.ok (.cel j), mu ++ g) ∧ (mu ++ g)[j]? = some (.lst [.str w, x]) := by
  cases h with
  | no d h =>
    have := told_row hq (cl := fun mu' => P_row_text q [d] mu') (ev_row_text_no (q := q) h)
    refine ⟨_, _, this, ?_⟩
    rw [List.getElem?_append_right (by omega), Nat.add_sub_cancel_left]
    rfl
  | bad xs k r hw hl h =>
    have := told_row hq (cl := fun mu' => P_row_text q [.tup xs] mu') (ev_row_text_bad (q := q) hw h)
    refine ⟨_, _, this, ?_⟩
    rw [List.getElem?_append_right (by omega), Nat.add_sub_cancel_left]
    rfl
  | row ps h =>
    obtain ⟨g, e⟩ := ev_row_text (q := q) h mu
    have := told_ok (q := q) (cl := fun mu' => P_row_text q [.tup (ps.map Pr.d)] mu') e
    refine ⟨g ++ [.lst [.str "told", txD (jnP ps)]], _, by rw [this, List.append_assoc], ?_⟩
    rw [← List.append_assoc]
    exact at_n _ _ []
theorem join_mem {c : Nat} (y : Str) : ∀ {parts : List Str}, c ∈ (Str.join y parts).cps.toList → c ∈ y.cps.toList ∨ ∃ z ∈ parts, c ∈ z.cps.toList
  | [], h => by
    have h : c ∈ (Str.empty).cps.toList := h
    cases h
  | [x], h => .inr ⟨x, List.mem_cons_self, h⟩
  | x :: w :: r, h => by
    have h : c ∈ (x.cps ++ y.cps ++ (Str.join y (w :: r)).cps).toList := h
    rw [Array.toList_append, Array.toList_append, List.mem_append, List.mem_append] at h
    rcases h with (h | h) | h
    · exact .inr ⟨x, List.mem_cons_self, h⟩
    · exact .inl h
    · rcases join_mem y h with h | ⟨z, hz, h⟩
      · exact .inl h
      · exact .inr ⟨z, List.mem_cons_of_mem _ hz, h⟩
theorem jn_len {ps : List Pr} (h : ∀ p ∈ ps, p.ok) : (jnP ps).length ≤ 207 * ps.length := by
  have h2 : Txt.join "\n" ((ps.map Pr.ln).map tx) = tx (jnP ps) := jn_tx ps
  rw [TL.join_eq] at h2
  have hl := StrLaws.join_length_le "\n" ((ps.map Pr.ln).map tx)
  rw [h2, tx_len, sum_txs] at hl
  have h3 := flat_len (ls := ps.map Pr.ln) (b := 206) fun l hl => by
    obtain ⟨p, hp, rfl⟩ := List.mem_map.mp hl
    exact (ln_small (h p hp)).1
  rw [List.length_map] at h3
  rw [List.length_map, List.length_map, show ("\n" : Str).length = 1 from rfl] at hl
  omega
theorem jn_chars {ps : List Pr} (h : ∀ p ∈ ps, p.ok) : ∀ c ∈ jnP ps, c < 127 := fun c hc => by
  have h2 : Txt.join "\n" ((ps.map Pr.ln).map tx) = tx (jnP ps) := jn_tx ps
  rw [TL.join_eq] at h2
  have hc : c ∈ (Str.join "\n" ((ps.map Pr.ln).map tx)).cps.toList := by rw [h2]; simpa using hc
  rcases join_mem "\n" hc with hc | ⟨z, hz, hc⟩
  · have : ∀ c ∈ ("\n" : Str).cps.toList, c < 127 := by decide +kernel
    exact this c hc
  · obtain ⟨l, hl, rfl⟩ := List.mem_map.mp hz
    obtain ⟨p, hp, rfl⟩ := List.mem_map.mp hl
    exact ((ln_small (h p hp)).2.2 c (by simpa using hc)).2
theorem jn_TxS {ps : List Pr} (h : RowK ps) : TxS (jnP ps) := ⟨by have := jn_len h.ok; have := h.few; omega, jn_chars h.ok⟩
theorem Thg.w_ok {mu : Mu} {d x : D} {w : Str} (h : Thg mu d w x) : (decide (w.cps.toList.length ≤ 100) && w.cps.toList.all fun c => decide (c < 127)) = true := by
  cases h with
  | no d h => decide +kernel
  | bad xs k r hw hl h => decide +kernel
  | row ps h => decide +kernel
theorem wrI_lt : ∀ {xs : List D} {k j : Nat}, j ∈ wrI k xs → j < k + xs.length
  | [], k, j, h => by cases h
  | x :: xs, k, j, h => by
    cases hp : isPr x with
    | true =>
      rw [wrI_t hp] at h
      have := wrI_lt h
      rw [List.length_cons]
      omega
    | false =>
      rw [wrI_f hp] at h
      rw [List.length_cons]
      rcases List.mem_cons.mp h with rfl | h
      · omega
      · have := wrI_lt h
        omega
theorem Thg.fit {mu : Mu} {d x : D} {w : Str} (h : Thg mu d w x) : Fit [] 180000 20 x := by
  cases h with
  | no d h => exact Fit.non
  | bad xs k r hw hl h => exact fit_k (by have := wrI_lt (xs := xs) (k := 0) (j := k) (by rw [h]; exact List.mem_cons_self); omega)
  | row ps h => exact fit_txt (jn_TxS h).2 (by have := (jn_TxS h).1; omega) (by decide)
/-- a thing is written, or refused, as it must be, and read again -/
theorem ev__law_right {q : Ad} (hq : D33 q) {mu : Mu} {d x : D} {w : Str} (h : Thg mu d w x) (hf : Fit mu 180000 20 d) : ∃ g, P__law_right_aa9dc6 q [d] mu = some (.ok (.bl true), mu ++ g) := by
  obtain ⟨t, ht⟩ := repr_two (mu := []) (w := w) h.w_ok h.fit
  have ht : ∀ (M : Mu) (j : Nat), M[j]? = some (.lst [.str w, x]) → reprG [.cel j] M = some (.ok (.str t), M) := fun M j hj => ht M j hj
  obtain ⟨kp, ekp⟩ : ∃ kp, ∀ g, reprG [d] (mu ++ g) = some (.ok (.str kp), mu ++ g) := by
    obtain ⟨_, p, hs, hp⟩ := hf
    exact ⟨p.shown, fun g => repr_fit hs.app hp (by decide) (by decide)⟩
  obtain ⟨g1, ew⟩ := ev__law_want (q := q) h
  obtain ⟨N, hN⟩ : ∃ N, N = mu ++ (g1 ++ [Cell.lst [.str w, x]]) := ⟨_, rfl⟩
  rw [List.append_assoc, ← hN] at ew
  have hj : N[(mu ++ g1).length]? = some (.lst [.str w, x]) := by rw [hN, ← List.append_assoc]; exact at_n _ _ []
  have hjg : ∀ g, (N ++ g)[(mu ++ g1).length]? = some (.lst [.str w, x]) := fun g => by rw [List.getElem?_append_left (List.getElem?_eq_some_iff.mp hj).1, hj]
  have ek1 : reprG [d] N = some (.ok (.str kp), N) := by rw [hN]; exact ekp _
  obtain ⟨j0, hj0⟩ : ∃ j0, j0 = (mu ++ g1).length := ⟨_, rfl⟩
  rw [← hj0] at ew hjg
  have loop := for_keep (t := .nm 1) (b := sSeq (sSet 4 (eLam (G__law_told_1a87f6 q) id (eCall (P_row_text q) [eVar 0]))) (sIf (eOp neD (eCall reprG [eVar 4]) (eCall reprG [eVar 2])) (sRet (eC (.bl false))) (sNil))) (xs := (List.range 2).map fun k => D.int (k : Nat)) (fun rho m => ∃ a1 a4 g, rho = [some d, a1, some (.cel j0), some (.str kp), a4] ∧ m = N ++ g) (fun y hy rho m ⟨a1, a4, g, hr, hm⟩ => by
    subst hr hm
    have h3 : Thg (N ++ g) d w x := by rw [hN, List.append_assoc]; exact h.app
    obtain ⟨g3, j, e3, hj3⟩ := told_thing hq h3
    have e4 : eLam (G__law_told_1a87f6 q) id (eCall (P_row_text q) [eVar 0]) [some d, some y, some (.cel j0), some (.str kp), a4] (N ++ g) = some (.ok (.cel j), N ++ g ++ g3) := by
      unfold eLam
      rw [← e3]
      rfl
    have r1 := ht _ _ hj3
    have r2 := ht (N ++ g ++ g3) j0 (by rw [List.append_assoc]; exact hjg _)
    refine ⟨[some d, some y, some (.cel j0), some (.str kp), a4], rfl, [some d, some y, some (.cel j0), some (.str kp), some (.cel j)], N ++ g ++ g3, ?_, some y, some (.cel j), g ++ g3, rfl, by simp⟩
    rw [sSeq_ev, sSet_ev, e4, bnS_ok]
    simp only [List.set, thnS_nx, sIf_ev, eOp_ev, eCall_ev, eArgs_cons, eArgs_nil, eVarS, eVar0, bnd_ok, r1, r2, ne_self, bnS_ok, chS_bl, Bool.false_eq_true, if_false, sNil_ev]) (rho := [some d, none, some (.cel j0), some (.str kp), none]) (mu := N) ⟨none, none, [], rfl, by simp⟩
  obtain ⟨rho2, mu2, el, a1, a4, g, hr, hm⟩ := loop
  subst hr hm
  have x0 := ix_l0 (hjg g)
  have third : ∃ g3, sIf (eAnd (eOp eqD (eOp ixD (eVar 2) (eC (.int 0))) (eC (.str "told"))) (eOp neD (eCall reprG [eCall (P_read_row q) [eOp ixD (eVar 2) (eC (.int 1))]]) (eVar 3))) (sRet (eC (.bl false))) sNil [some d, a1, some (.cel j0), some (.str kp), a4] (N ++ g) = some (.nx, [some d, a1, some (.cel j0), some (.str kp), a4], N ++ g ++ g3) := by
    have nrow : w = "row" → ∃ g3, sIf (eAnd (eOp eqD (eOp ixD (eVar 2) (eC (.int 0))) (eC (.str "told"))) (eOp neD (eCall reprG [eCall (P_read_row q) [eOp ixD (eVar 2) (eC (.int 1))]]) (eVar 3))) (sRet (eC (.bl false))) sNil [some d, a1, some (.cel j0), some (.str kp), a4] (N ++ g) = some (.nx, [some d, a1, some (.cel j0), some (.str kp), a4], N ++ g ++ g3) := fun hw => by
      have hne : decide (w = ("told" : Str)) = false := by rw [hw]; decide +kernel
      refine ⟨[], ?_⟩
      rw [List.append_nil]
      simp only [sIf_ev, eAnd_ev, eOp_ev, eVarS, eVar0, eC_ev, bnd_ok, x0, eq_str, hne, chB_bl, Bool.false_eq_true, if_false, bnS_ok, chS_bl, sNil_ev]
    cases h with
    | no d h => exact nrow rfl
    | bad xs k r hw hl h => exact nrow rfl
    | row ps h =>
      have hT := jn_TxS h
      have x1 : ixD (.cel j0) (.int 1) (N ++ g) = some (.ok (txD (jnP ps)), N ++ g) := by
        show (match lstD (.cel j0) (N ++ g) with | some xs => _ | none => none) = _
        rw [lst_of (hjg g)]
        dsimp only
        rw [show atI [D.str "told", txD (jnP ps)] (1 : Int) = some (txD (jnP ps)) from atI_nat' (n := 1) rfl]
      rcases ev_read_row (q := q) (l := jnP ps) (mu := N ++ g) (by have := hT.1; omega) with ⟨k, g3, e1, _, _⟩ | ⟨acc, g3, e1, e2⟩
      · rw [rd_row h.ok] at e1; cases e1
      · rw [rd_row h.ok] at e1
        cases e1
        have ek2 : reprG [.tup (ps.map Pr.d)] (N ++ g ++ g3) = some (.ok (.str kp), N ++ g ++ g3) := by
          rw [hN, List.append_assoc, List.append_assoc]
          exact ekp _
        refine ⟨g3, ?_⟩
        simp only [sIf_ev, eAnd_ev, eOp_ev, eVarS, eVar0, eC_ev, bnd_ok, x0, eq_str, decide_true, chB_bl, if_true, eCall_ev, eArgs_cons, eArgs_nil, x1, e2, ek2, ne_self, Bool.false_eq_true, if_false, bnS_ok, chS_bl, sNil_ev]
  obtain ⟨g3, e3⟩ := third
  have ek3 : reprG [d] (N ++ g ++ g3) = some (.ok (.str kp), N ++ g ++ g3) := by
    rw [hN, List.append_assoc, List.append_assoc]
    exact ekp _
  refine ⟨g1 ++ [.lst [.str w, x]] ++ g ++ g3, ?_⟩
  rw [show mu ++ (g1 ++ [Cell.lst [.str w, x]] ++ g ++ g3) = N ++ g ++ g3 by rw [hN]; simp]
  show DL.fin (m__law_right_aa9dc6 q [some d, none, none, none, none] mu) = _
  unfold m__law_right_aa9dc6
  rw [sSeq_ev, sPar_ev, eCall_ev, eArgs_cons, eVar0, bnd_ok, eArgs_nil, ew, bnS_ok, eCall_ev, eArgs_cons, eVar0, bnd_ok, eArgs_nil, ek1, bnS_ok]
  simp only [List.set]
  rw [thnS_nx, sSeq_ev, sFor_ok (xs := (List.range 2).map fun k => D.int (k : Nat)) (g := none) (mu1 := N) (iRg_ev (n := 2) rfl (by decide) (by decide)), el, thnS_nx, sSeq_ev, e3, thnS_nx, sRet_ev, eOp_ev, eCall_ev, eArgs_cons, eVar0, bnd_ok, eArgs_nil, ek3, bnd_ok, eVar_ev (d := .str kp) rfl, bnd_ok, eq_str, show decide (kp = kp) = true from decide_eq_true rfl, bnS_ok, fin_rt]
end DL
set_option Elab.async false
set_option linter.all false
set_option autoImplicit false
set_option maxRecDepth 100000
set_option maxHeartbeats 4000000
/-! M88: what is drawn: texts, presses, bent texts. -/
namespace DL
open PySem PySem.Spec L2
def signs33a : Str := " !\"#$&'()*+,-./0123456789:;<=>?@ABCDEFGHIJKLMNOPQRSTUVWXYZ[\\]^_`abcdefghijklmnopqrstuvwxyz{|}"
def signs33 : Str := " !\"#$&'()*+,-./0123456789:;<=>?@ABCDEFGHIJKLMNOPQRSTUVWXYZ[\\]^_`abcdefghijklmnopqrstuvwxyz{|}~"
def okT3 (x : D) : Prop := ∃ l : List Nat, x = .str (tx l) ∧ 0 < l.length ∧ l.length ≤ 100 ∧ ∀ c ∈ l, 32 ≤ c ∧ c < 127
theorem okT3_of (z : Str) (h : (decide (0 < z.cps.toList.length) && decide (z.cps.toList.length ≤ 100) && z.cps.toList.all fun c => decide (32 ≤ c) && decide (c < 127)) = true) : okT3 (.str z) := by
  simp only [Bool.and_eq_true, decide_eq_true_eq, List.all_eq_true] at h
  exact ⟨z.cps.toList, by rw [← tx_of], h.1.1, h.1.2, h.2⟩
theorem ev__law_written33 {q : Ad} {s : DS} {r : Mu} : ∃ l s', P__law_written_R33 q [.cel 0] (drw s ++ r) = some (.ok (txD l), drw s' ++ r) ∧ TxN l := by
  have ⟨v1, s1, x1, e1, e2, m, em, hm0, hm1⟩ := oneof (q := q) (s := s) (r := r) (t := []) (xs := [.int 2, .int 4, .int 12, .int 200]) (P := fun x => ∃ m : Int, x = .int m ∧ 0 < m ∧ m ≤ 200) 4 rfl (by decide) (by decide) (by
    intro x hx
    simp only [List.mem_cons, List.not_mem_nil, or_false] at hx
    rcases hx with rfl | rfl | rfl | rfl
    · exact ⟨2, rfl, by decide, by decide⟩
    · exact ⟨4, rfl, by decide, by decide⟩
    · exact ⟨12, rfl, by decide, by decide⟩
    · exact ⟨200, rfl, by decide, by decide⟩)
  subst em
  obtain ⟨v2, s2, e3, h3, h4⟩ := ev__law_pick (q := q) (s := s1) (r := r ++ [.lst [.int 2, .int 4, .int 12, .int 200]]) (many := m) hm0 (by omega)
  have ⟨v4, s3, x3, e4, e5, l, el, hl0, hl1, hl2⟩ := oneof (q := q) (s := s2) (r := r ++ [.lst [.int 2, .int 4, .int 12, .int 200]]) (t := []) (xs := [.str "ab", .str "aB ~", .str signs33]) (P := okT3) 3 rfl (by decide) (by decide) (by
    intro x hx
    simp only [List.mem_cons, List.not_mem_nil, or_false] at hx
    rcases hx with rfl | rfl | rfl
    · exact okT3_of _ (by decide +kernel)
    · exact okT3_of _ (by decide +kernel)
    · exact okT3_of _ (by decide +kernel))
  subst el
  have ec := comp_keep (t := .nm 3) (vs := [3]) (te := eCall (P__law_one q) [eVar 0, eVar 2]) (rho := [some (.cel 0), some (.int (1 + v2)), some (.str (tx l)), none]) (fi := iRg (eVar 1)) (s := s3) (r := r ++ [.lst [.int 2, .int 4, .int 12, .int 200], .lst [.str "ab", .str "aB ~", .str signs33]]) (mu0 := drw s3 ++ (r ++ [.lst [.int 2, .int 4, .int 12, .int 200], .lst [.str "ab", .str "aB ~", .str signs33]])) (xs := (List.range (1 + v2).toNat).map fun k => D.int (k : Nat)) (fun y => ∃ c : Nat, y = .str (tx [c]) ∧ 32 ≤ c ∧ c < 127) (by
      show (if -(2 ^ 62) ≤ 1 + v2 ∧ 1 + v2 < 2 ^ 62 then _ else none) = _
      rw [if_pos (by omega)]) (by
      intro x hx s r'
      refine ⟨_, rfl, ?_⟩
      obtain ⟨y, s', e, hy⟩ := ev__law_one (q := q) (s := s) (r := r ++ [.lst [.int 2, .int 4, .int 12, .int 200], .lst [.str "ab", .str "aB ~", .str signs33]] ++ r') (o := .str (tx l)) (xs := l.map fun c => D.str (tx [c])) (by simp) rfl (by
        intro z
        rw [List.map_eq_nil_iff] at z
        rw [z] at hl0
        exact absurd hl0 (by decide)) (by rw [List.length_map]; omega)
      refine ⟨y, s', e, ?_⟩
      obtain ⟨c, hc, rfl⟩ := List.mem_map.mp hy
      exact ⟨c, rfl, hl2 c hc⟩) (by simp; omega)
  obtain ⟨ys, s4, ec, hy1, hy2⟩ := ec
  have hys : ∃ cs : List Nat, ys = cs.map (fun c => D.str (tx [c])) ∧ ∀ c ∈ cs, 32 ≤ c ∧ c < 127 := by
    clear ec hy1
    induction ys with
    | nil => exact ⟨[], rfl, fun _ h => nomatch h⟩
    | cons y ys ih =>
      obtain ⟨c, rfl, hc⟩ := hy2 y List.mem_cons_self
      obtain ⟨cs, rfl, hcs⟩ := ih fun z hz => hy2 z (List.mem_cons_of_mem _ hz)
      exact ⟨c :: cs, rfl, fun z hz => by
        rcases List.mem_cons.mp hz with rfl | hz
        · exact hc
        · exact hcs z hz⟩
  obtain ⟨cs, rfl, hcs⟩ := hys
  simp only [List.length_map, List.length_range] at hy1
  have ej : joinM (.str "") [.cel (2 + (r ++ [Cell.lst [.int 2, .int 4, .int 12, .int 200], .lst [.str "ab", .str "aB ~", .str signs33]]).length)] (drw s4 ++ (r ++ [Cell.lst [.int 2, .int 4, .int 12, .int 200], .lst [.str "ab", .str "aB ~", .str signs33]] ++ [.lst (cs.map fun c => D.str (tx [c]))])) = some (.ok (.str (tx cs)), drw s4 ++ (r ++ [Cell.lst [.int 2, .int 4, .int 12, .int 200], .lst [.str "ab", .str "aB ~", .str signs33]] ++ [.lst (cs.map fun c => D.str (tx [c]))])) := by
    refine join_c ?_ (by omega)
    exact at_e
  have ef : fnS 4 (m__law_written_R33 q) [.cel 0] (drw s ++ r) = some (.ok (.str (tx cs)), drw s4 ++ r ++ [Cell.lst [.int 2, .int 4, .int 12, .int 200], .lst [.str "ab", .str "aB ~", .str signs33], .lst (cs.map fun c => D.str (tx [c]))]) := by
    simp only [List.append_assoc, List.cons_append, List.nil_append, List.length_append, List.length_cons, List.length_nil] at ec ej e1 e2 e3 e4 e5
    have hs : ∀ M : Mu, P__law_signs_1caa5b q [] M = some (.ok (.str signs33a), M) := fun M => rfl
    have ha : ∀ M : Mu, addD (.str signs33a) (.str "~") M = some (.ok (.str signs33), M) := fun M => rfl
    show DL.fin (m__law_written_R33 q [some (.cel 0), none, none, none] (drw s ++ r)) = _
    simp [m__law_written_R33, lstF_ev, e1, e2, e3, e4, e5, hs, ha, ec, ej, isSB]
  obtain ⟨x, s', e, hR⟩ := Keep.ev (R := R__law_written_R33) ef (fun _ => ⟨cs, rfl, by
    intro z
    rw [z] at hy1
    simp at hy1
    omega, by omega, hcs⟩) (fun _ _ => by simp [cl])
  obtain ⟨l2, rfl, h2⟩ := hR rfl
  exact ⟨l2, s', e, h2⟩
abbrev prW : List D := [.str "write", .str "write", .str "clear", .str "reset", .str "next", .str "next", .str "back"]
theorem ev__law_press {q : Ad} {s : DS} {r : Mu} : ∃ (p : Pr) (s' : DS), P__law_press q [.cel 0] (drw s ++ r) = some (.ok p.d, drw s' ++ r) ∧ p.ok := by
  have l1 : lstF prW (drw s ++ r) = some (.ok (.cel (2 + r.length)), drw s ++ (r ++ [.lst prW])) := lstF_ev (by decide)
  obtain ⟨x, s1, e1, hx⟩ := ev__law_one (q := q) (s := s) (r := r ++ [.lst prW]) (o := .cel (2 + r.length)) (xs := prW) (by simp; omega) (itm_e (r := r) (t := [])) (by decide) (by decide)
  have hx' : x = .str "write" ∨ ∃ z ∈ keyW, x = .str z := by
    simp only [prW, List.mem_cons, List.not_mem_nil, or_false] at hx
    rcases hx with rfl | rfl | rfl | rfl | rfl | rfl | rfl
    · exact .inl rfl
    · exact .inl rfl
    · exact .inr ⟨_, by decide +kernel, rfl⟩
    · exact .inr ⟨_, by decide +kernel, rfl⟩
    · exact .inr ⟨_, by decide +kernel, rfl⟩
    · exact .inr ⟨_, by decide +kernel, rfl⟩
    · exact .inr ⟨_, by decide +kernel, rfl⟩
  have fin_ : ∀ (p : Pr) (s2 : DS), p.ok → fnS 2 (m__law_press q) [.cel 0] (drw s ++ r) = some (.ok p.d, drw s2 ++ r ++ [.lst prW]) → ∃ (p : Pr) (s' : DS), P__law_press q [.cel 0] (drw s ++ r) = some (.ok p.d, drw s' ++ r) ∧ p.ok := fun p s2 hp e => by
    obtain ⟨x, s', e, hR⟩ := Keep.ev (R := R__law_press) e (fun _ => ⟨p, rfl, hp⟩) (fun _ _ => by cases p <;> simp [Pr.d, txD, cl, clL])
    obtain ⟨p2, rfl, h2⟩ := hR rfl
    exact ⟨p2, s', e, h2⟩
  rcases hx' with rfl | ⟨z, hz, rfl⟩
  · obtain ⟨l, s2, e2, hl⟩ := ev__law_written33 (q := q) (s := s1) (r := r ++ [.lst prW])
    refine fin_ (.w l) s2 hl ?_
    show DL.fin (m__law_press q [some (.cel 0), none] (drw s ++ r)) = _
    simp only [m__law_press, sSeq_ev, sSet_ev, eCall_ev, eArgs_cons, eArgs_nil, eVarS, eVar0, eC_ev, bnd_ok, l1, e1, bnS_ok, List.set, thnS_nx, sRet_ev, eIf_ev, eOp_ev, eq_str, decide_true, chB_bl, if_true, e2, tup2', fin_rt]
    simp [Pr.d]
  · have hne : z ≠ "write" := fun e => wr_key (e ▸ hz)
    refine fin_ (.k z) s1 hz ?_
    show DL.fin (m__law_press q [some (.cel 0), none] (drw s ++ r)) = _
    simp only [m__law_press, sSeq_ev, sSet_ev, eCall_ev, eArgs_cons, eArgs_nil, eVarS, eVar0, eC_ev, bnd_ok, l1, e1, bnS_ok, List.set, thnS_nx, sRet_ev, eIf_ev, eOp_ev, eq_str, decide_eq_false hne, chB_bl, Bool.false_eq_true, if_false, tup1', fin_rt]
    simp [Pr.d]
/-! ### bent texts -/
abbrev bsW : List D := [.str "\n", .str " ", .str "w", .str "write", .str "write ", .str "x", .str "next", .str "\nback"]
theorem bsW_ok : ∀ x ∈ bsW, ∃ l : List Nat, x = .str (tx l) ∧ l.length ≤ 6 ∧ ∀ c ∈ l, c < 127 := by
  have key : ∀ z : Str, (decide (z.cps.toList.length ≤ 6) && z.cps.toList.all fun c => decide (c < 127)) = true → ∃ l : List Nat, D.str z = .str (tx l) ∧ l.length ≤ 6 ∧ ∀ c ∈ l, c < 127 := fun z h => by
    simp only [Bool.and_eq_true, decide_eq_true_eq, List.all_eq_true] at h
    exact ⟨z.cps.toList, by rw [← tx_of], h.1, h.2⟩
  intro x hx
  simp only [bsW, List.mem_cons, List.not_mem_nil, or_false] at hx
  rcases hx with rfl | rfl | rfl | rfl | rfl | rfl | rfl | rfl <;> exact key _ (by decide +kernel)
theorem ev__law_bent_text {q : Ad} {s : DS} {r : Mu} {l : List Nat} (hl : l.length ≤ 100000) (hc : ∀ c ∈ l, c < 127) : ∃ (l2 : List Nat) (s' : DS), P__law_bent_text_e4fb99 q [.cel 0, txD l] (drw s ++ r) = some (.ok (txD l2), drw s' ++ r) ∧ l2.length ≤ l.length + 6 ∧ ∀ c ∈ l2, c < 127 := by
  have len1 : lenF [.str (tx l)] (drw s ++ r) = some (.ok (.int l.length), drw s ++ r) := by rw [len_str (by rw [tx_len]; omega), tx_len]
  obtain ⟨v1, s1, e1, h1, h2⟩ := ev__law_pick (q := q) (s := s) (r := r) (many := (l.length : Int) + 1) (by omega) (by omega)
  obtain ⟨n1, rfl⟩ : ∃ n : Nat, v1 = n := ⟨v1.toNat, by omega⟩
  have l1 : lstF bsW (drw s1 ++ r) = some (.ok (.cel (2 + r.length)), drw s1 ++ (r ++ [.lst bsW])) := lstF_ev (by decide)
  obtain ⟨x, s2, e2, hx⟩ := ev__law_one (q := q) (s := s1) (r := r ++ [.lst bsW]) (o := .cel (2 + r.length)) (xs := bsW) (by simp; omega) (itm_e (r := r) (t := [])) (by decide) (by decide)
  obtain ⟨ls, rfl, hs1, hs2⟩ := bsW_ok x hx
  obtain ⟨r1, hr1⟩ : ∃ r1, r1 = r ++ [Cell.lst bsW] := ⟨_, rfl⟩
  rw [← hr1] at l1 e2
  have l3 : lstF [.str "", .str (tx ls), .str (tx ls)] (drw s2 ++ r1) = some (.ok (.cel (2 + r1.length)), drw s2 ++ (r1 ++ [.lst [.str "", .str (tx ls), .str (tx ls)]])) := lstF_ev (by simp)
  have ⟨v3, s3, y, e3, e4, hy⟩ := oneof (q := q) (s := s2) (r := r1) (t := []) (xs := [.str "", .str (tx ls), .str (tx ls)]) (P := fun y => ∃ m : List Nat, y = .str (tx m) ∧ m.length ≤ 6 ∧ ∀ c ∈ m, c < 127) 3 rfl (by simp) (by simp) (by
    intro y hy
    simp only [List.mem_cons, List.not_mem_nil, or_false] at hy
    rcases hy with rfl | rfl | rfl
    · exact ⟨[], rfl, by decide, by decide⟩
    · exact ⟨ls, rfl, hs1, hs2⟩
    · exact ⟨ls, rfl, hs1, hs2⟩)
  obtain ⟨m, rfl, hm1, hm2⟩ := hy
  obtain ⟨r2, hr2⟩ : ∃ r2, r2 = r1 ++ [Cell.lst [.str "", .str (tx ls), .str (tx ls)]] := ⟨_, rfl⟩
  rw [← hr2] at l3 e3 e4
  obtain ⟨v5, s5, e5, h5, h6⟩ := ev__law_pick (q := q) (s := s3) (r := r2) (many := 2) (by decide) (by decide)
  obtain ⟨n5, rfl⟩ : ∃ n : Nat, v5 = n := ⟨v5.toNat, by omega⟩
  have sl1 : ∀ M : Mu, slD (.str (tx l)) none (some (n1 : Int)) M = some (.ok (.str (tx (l.take n1))), M) := fun M => sl_strT (by omega)
  have sl2 : ∀ M : Mu, slD (.str (tx l)) (some ((n1 : Int) + (n5 : Int))) none M = some (.ok (.str (tx (l.drop (n1 + n5)))), M) := fun M => by
    rw [show (n1 : Int) + (n5 : Int) = ((n1 + n5 : Nat) : Int) by push_cast; rfl]
    exact sl_strD (by omega)
  have ht1 : (l.take n1).length ≤ l.length := by rw [List.length_take]; omega
  have ht2 : (l.take n1 ++ m).length ≤ l.length + 6 := by rw [List.length_append]; omega
  have hd1 : (l.drop (n1 + n5)).length ≤ l.length := by rw [List.length_drop]; omega
  have a1 : ∀ M : Mu, addD (.str (tx (l.take n1))) (.str (tx m)) M = some (.ok (.str (tx (l.take n1 ++ m))), M) := fun M => add_strs (by omega)
  have a2 : ∀ M : Mu, addD (.str (tx (l.take n1 ++ m))) (.str (tx (l.drop (n1 + n5)))) M = some (.ok (.str (tx (l.take n1 ++ m ++ l.drop (n1 + n5)))), M) := fun M => add_strs (by omega)
  have ef : fnS 5 (m__law_bent_text_e4fb99 q) [.cel 0, txD l] (drw s ++ r) = some (.ok (txD (l.take n1 ++ m ++ l.drop (n1 + n5))), drw s5 ++ r ++ [.lst bsW, .lst [.str "", .str (tx ls), .str (tx ls)]]) := by
    have hfin : drw s5 ++ r ++ [Cell.lst bsW, .lst [.str "", .str (tx ls), .str (tx ls)]] = drw s5 ++ r2 := by rw [hr2, hr1]; simp
    rw [hfin]
    show DL.fin (m__law_bent_text_e4fb99 q [some (.cel 0), some (.str (tx l)), none, none, none] (drw s ++ r)) = _
    have a0 : ∀ M : Mu, addD (.int (l.length : Nat)) (.int 1) M = some (.ok (.int ((l.length : Int) + 1)), M) := fun _ => rfl
    have a3 : ∀ M : Mu, addD (.int (n1 : Nat)) (.int (n5 : Nat)) M = some (.ok (.int ((n1 : Int) + (n5 : Int))), M) := fun _ => rfl
    have p1 : ∀ (K : Option Int → Mu → Ro) (M : Mu), ePart (some (eVar 3)) [some (.cel 0), some (.str (tx l)), some (.str (tx ls)), some (.int (n1 : Nat)), some (.cel (2 + r.length))] M K = K (some (n1 : Int)) M := fun K M => ePart_s rfl
    have p2 : ∀ (K : Option Int → Mu → Ro), ePart (some (eOp addD (eVar 3) (eCall (P__law_pick q) [eVar 0, eC (.int 2)]))) [some (.cel 0), some (.str (tx l)), some (.str (tx ls)), some (.int (n1 : Nat)), some (.cel (2 + r.length))] (drw s3 ++ r2) K = K (some ((n1 : Int) + (n5 : Int))) (drw s5 ++ r2) := fun K => ePart_s (by simp only [eOp_ev, eVarS, eVar0, bnd_ok, eCall_ev, eArgs_cons, eArgs_nil, eC_ev, e5, a3])
    simp only [m__law_bent_text_e4fb99, sSeq_ev, sPar_ev, eCall_ev, eArgs_cons, eArgs_nil, eVarS, eVar0, bnd_ok, eOp_ev, len1, eC_ev, a0, e1, bnS_ok, l1, List.set, thnS_nx, sSet_ev, e2, sRet_ev, eSl_ev, ePart_n, p1, sl1, l3, e3, e4, a1, p2, sl2, a2, fin_rt]
    rfl
  obtain ⟨x, s', e, hR⟩ := Keep.ev (R := R__law_bent_text_e4fb99) ef (fun l3 el hl3 hc3 => by
    have hll : l3 = l := by
      have : txD l = txD l3 := by
        simp only [List.cons.injEq] at el
        exact el.2.1
      exact (tx_eq.mp (D.str.inj this)).symm
    subst hll
    refine ⟨_, rfl, ?_, fun c hcm => ?_⟩
    · simp only [List.length_append, List.length_take, List.length_drop]
      omega
    · rcases List.mem_append.mp hcm with hcm | hcm
      · rcases List.mem_append.mp hcm with hcm | hcm
        · exact hc3 c (List.mem_of_mem_take hcm)
        · exact hm2 c hcm
      · exact hc3 c (List.mem_of_mem_drop hcm)) (fun _ _ => by simp [txD, cl])
  obtain ⟨l2, rfl, h21, h22⟩ := hR l rfl hl hc
  exact ⟨l2, s', e, h21, h22⟩
end DL
set_option Elab.async false
set_option linter.all false
set_option autoImplicit false
set_option maxRecDepth 100000
set_option maxHeartbeats 4000000
/-! M89: the odd things; the rows by hand. -/
namespace DL
open PySem PySem.Spec L2
/-! ### lines, computed -/
def sp : List Nat → List (List Nat)
  | [] => [[]]
  | c :: r => if c = 10 then [] :: sp r else match sp r with
    | [] => [[c]]
    | p :: q => (c :: p) :: q
theorem sp_ne : ∀ l, sp l ≠ []
  | [] => by simp [sp]
  | c :: r => by
    unfold sp
    split
    · simp
    · split <;> simp
theorem sp_join : ∀ l, TL.joinL [10] (sp l) = l
  | [] => rfl
  | c :: r => by
    have ih := sp_join r
    have hne := sp_ne r
    unfold sp
    split
    · rename_i hc
      cases e : sp r with
      | nil => exact absurd e hne
      | cons p q =>
        rw [e] at ih
        show [] ++ ([10] ++ TL.joinL [10] (p :: q)) = c :: r
        rw [ih, hc]
        rfl
    · cases e : sp r with
      | nil => exact absurd e hne
      | cons p q =>
        rw [e] at ih
        cases q with
        | nil =>
          have ih : p = r := ih
          rw [ih]
          rfl
        | cons p2 q =>
          have ih : p ++ ([10] ++ TL.joinL [10] (p2 :: q)) = r := ih
          show (c :: p) ++ ([10] ++ TL.joinL [10] (p2 :: q)) = c :: r
          rw [List.cons_append, ih]
theorem sp_free : ∀ l, ∀ p ∈ sp l, 10 ∉ p
  | [], p, hp => by
    rw [List.mem_singleton.mp hp]
    simp
  | c :: r, p, hp => by
    have ih := sp_free r
    unfold sp at hp
    split at hp
    · rcases List.mem_cons.mp hp with rfl | hp
      · simp
      · exact ih p hp
    · rename_i hc
      split at hp
      · rw [List.mem_singleton.mp hp]
        simpa using fun e => hc e.symm
      · rename_i a b e
        rcases List.mem_cons.mp hp with rfl | hp
        · have := ih a (by rw [e]; exact List.mem_cons_self)
          simp only [List.mem_cons, not_or]
          exact ⟨fun e => hc e.symm, this⟩
        · exact ih p (by rw [e]; exact List.mem_cons_of_mem _ hp)
theorem lines_sp {l : List Nat} (h : l ≠ []) : linesOf l = sp l := by
  have e : tx l = Txt.join "\n" ((sp l).map tx) := by
    rw [TL.join_eq, tx_of (Str.join "\n" ((sp l).map tx))]
    congr 1
    have := TL.tl_join "\n" ((sp l).map tx)
    have hm : ((sp l).map tx).map TL.tl = sp l := by
      rw [List.map_map]
      have : (TL.tl ∘ tx) = id := by
        funext x
        show (tx x).cps.toList = x
        simp
      rw [this, List.map_id]
    rw [hm, show TL.tl ("\n" : Str) = [10] from rfl, sp_join] at this
    exact this.symm
  have hs : Txt.split (tx l) "\n" = (sp l).map tx := by
    rw [e]
    refine TL.split_join (s := 10) (S := []) rfl (by decide +kernel) (fun e => sp_ne l (List.map_eq_nil_iff.mp e)) fun z hz => ?_
    obtain ⟨p, hp, rfl⟩ := List.mem_map.mp hz
    intro hm
    have hm : 10 ∈ (tx p).cps.toList := hm
    exact sp_free l p hp (by simpa using hm)
  unfold linesOf
  rw [if_neg h, hs, List.map_map]
  have : ((fun z : Str => z.cps.toList) ∘ tx) = id := by
    funext x
    simp
  rw [this, List.map_id]

/-- a text and what is due -/
def HandOk (T : Str) (due : D) : Prop := TxS T.cps.toList ∧ ((∃ k : Nat, due = .int (k : Nat) ∧ rdOf T.cps.toList = .inl k) ∨ ∃ acc, due = .tup acc ∧ rdOf T.cps.toList = .inr acc)
def tsB (T : Str) : Bool := decide (T.cps.toList.length ≤ 3000) && T.cps.toList.all fun c => decide (c < 127)
theorem tsB_ok {T : Str} (h : tsB T = true) : TxS T.cps.toList := by
  simp only [tsB, Bool.and_eq_true, decide_eq_true_eq, List.all_eq_true] at h
  exact h
theorem hand_l {T : Str} {k : Nat} (h : (tsB T && !T.cps.toList.isEmpty && decide ((readR 0 (sp T.cps.toList) []).getLeft? = some k)) = true) : HandOk T (.int (k : Nat)) := by
  simp only [Bool.and_eq_true, decide_eq_true_eq, Bool.not_eq_true'] at h
  refine ⟨tsB_ok h.1.1, .inl ⟨k, rfl, ?_⟩⟩
  have hne : T.cps.toList ≠ [] := fun e => by rw [e] at h; exact absurd h.1.2 (by simp)
  unfold rdOf
  rw [lines_sp hne]
  have := h.2
  cases e : readR 0 (sp T.cps.toList) [] with
  | inl k2 => rw [e] at this; simpa using this
  | inr a => rw [e] at this; cases this
theorem hand_r {T : Str} {due : D} (h : (tsB T && !T.cps.toList.isEmpty && (readR 0 (sp T.cps.toList) []).isRight) = true) (hd : due = .tup ((sp T.cps.toList).map poD)) : HandOk T due := by
  simp only [Bool.and_eq_true, Bool.not_eq_true'] at h
  refine ⟨tsB_ok h.1.1, .inr ⟨_, hd, ?_⟩⟩
  have hne : T.cps.toList ≠ [] := fun e => by rw [e] at h; exact absurd h.1.2 (by simp)
  unfold rdOf
  rw [lines_sp hne]
  have := h.2
  cases e : readR 0 (sp T.cps.toList) [] with
  | inl k2 => rw [e] at this; cases this
  | inr a => rw [readR_all e]; rfl
abbrev hr1 : List (Str × D) := [("", .tup []), ("next", .tup [.tup [.str "next"]]), ("\n", .int 0), ("next\n", .int 1), (" next", .int 0), ("next ", .int 0), ("write", .int 0)]
abbrev hr2 : List (Str × D) := [("write ", .int 0), ("write  ", .tup [.tup [.str "write", .str " "]]), ("write a ", .tup [.tup [.str "write", .str "a "]]), ("Write a", .int 0)]
abbrev hr3 : List (Str × D) := [("write write a", .tup [.tup [.str "write", .str "write a"]]), ("back\nreset\n\nclear", .int 2), ("next\nwrite", .int 1)]
abbrev hr4 : List (Str × D) := [("write " ++ repS "a" 200, .tup [.tup [.str "write", .str (repS "a" 200)]]), ("write " ++ repS "a" 201, .int 0), ("-1", .int 0)]
abbrev hr5 : List (Str × D) := [("write   b  \nclear\nreset\nback", .tup [.tup [.str "write", .str "  b  "], .tup [.str "clear"], .tup [.str "reset"], .tup [.str "back"]])]
abbrev hr6 : List (Str × D) := [(repS "next\n" 300 ++ "nex", .int 300), (repS "back\n" 300 ++ "back", .tup (List.replicate 301 [D.tup [.str "back"]]).flatten)]
def hrD (p : Str × D) : D := .tup [.str p.1, p.2]
theorem hr1_ok : ∀ p ∈ hr1, HandOk p.1 p.2 := by
  intro p hp
  simp only [hr1, List.mem_cons, List.not_mem_nil, or_false] at hp
  rcases hp with rfl | rfl | rfl | rfl | rfl | rfl | rfl
  · exact ⟨tsB_ok (by decide +kernel), .inr ⟨[], rfl, rfl⟩⟩
  · exact hand_r (by decide +kernel) rfl
  · exact hand_l (k := 0) (by decide +kernel)
  · exact hand_l (k := 1) (by decide +kernel)
  · exact hand_l (k := 0) (by decide +kernel)
  · exact hand_l (k := 0) (by decide +kernel)
  · exact hand_l (k := 0) (by decide +kernel)
theorem hr2_ok : ∀ p ∈ hr2, HandOk p.1 p.2 := by
  intro p hp
  simp only [hr2, List.mem_cons, List.not_mem_nil, or_false] at hp
  rcases hp with rfl | rfl | rfl | rfl
  · exact hand_l (k := 0) (by decide +kernel)
  · exact hand_r (by decide +kernel) rfl
  · exact hand_r (by decide +kernel) rfl
  · exact hand_l (k := 0) (by decide +kernel)
theorem hr3_ok : ∀ p ∈ hr3, HandOk p.1 p.2 := by
  intro p hp
  simp only [hr3, List.mem_cons, List.not_mem_nil, or_false] at hp
  rcases hp with rfl | rfl | rfl
  · exact hand_r (by decide +kernel) rfl
  · exact hand_l (k := 2) (by decide +kernel)
  · exact hand_l (k := 1) (by decide +kernel)
theorem hr4_ok : ∀ p ∈ hr4, HandOk p.1 p.2 := by
  intro p hp
  simp only [hr4, List.mem_cons, List.not_mem_nil, or_false] at hp
  rcases hp with rfl | rfl | rfl
  · exact hand_r (by decide +kernel) rfl
  · exact hand_l (k := 0) (by decide +kernel)
  · exact hand_l (k := 0) (by decide +kernel)
theorem hr5_ok : ∀ p ∈ hr5, HandOk p.1 p.2 := by
  intro p hp
  rw [List.mem_singleton.mp hp]
  exact hand_r (by decide +kernel) rfl
theorem sp_back : sp (repS "back\n" 300 ++ "back" : Str).cps.toList = List.replicate 301 [98, 97, 99, 107] := by decide +kernel
theorem hr6_ok : ∀ p ∈ hr6, HandOk p.1 p.2 := by
  intro p hp
  simp only [hr6, List.mem_cons, List.not_mem_nil, or_false] at hp
  rcases hp with rfl | rfl
  · exact hand_l (k := 300) (by decide +kernel)
  · refine hand_r (by decide +kernel) ?_
    rw [sp_back, List.map_replicate, show poD [98, 97, 99, 107] = .tup [.str "back"] from rfl]
    congr 1
end DL
set_option Elab.async false
set_option linter.all false
set_option autoImplicit false
set_option maxRecDepth 100000
set_option maxHeartbeats 4000000
/-! M89b: the odd things and the rows by hand, run. -/
namespace DL
open PySem PySem.Spec L2
theorem add_lst33 {M : Mu} {i j : Nat} {a b : List D} (hi : M[i]? = some (.lst a)) (hj : M[j]? = some (.lst b)) (h : a.length + b.length ≤ 16777216) : addD (.cel i) (.cel j) M = some (.ok (.cel M.length), M ++ [.lst (a ++ b)]) := by
  show (match M[i]?, M[j]? with | some (.lst a), some (.lst b) => if a.length + b.length ≤ 16777216 then newL (a ++ b) M else none | _, _ => none) = _
  rw [hi, hj]
  dsimp only
  rw [if_pos h]
theorem add_str33 {a b : Str} {N : Mu} (h : a.length + b.length ≤ 16777216) : addD (.str a) (.str b) N = some (.ok (.str (a ++ b)), N) := if_pos h
theorem at_app {M g : Mu} {i : Nat} {c : Cell} (h : M[i]? = some c) : (M ++ g)[i]? = some c := by
  rw [List.getElem?_append_left (List.getElem?_eq_some_iff.mp h).1, h]
/-! ### rows by hand -/
theorem ev__law_by_hand {q : Ad} (M : Mu) : ∃ g j, P__law_by_hand q [] M = some (.ok (.cel j), M ++ g) ∧ (M ++ g)[j]? = some (.lst ((hr1 ++ hr2 ++ hr3 ++ hr4 ++ hr5 ++ hr6).map hrD)) := by
  have s1 : ∀ rho, eCall lstF [eCall tupF [eC (.str ""), eCall tupF []], eCall tupF [eC (.str "next"), eCall tupF [eCall tupF [eC (.str "next")]]], eCall tupF [eC (.str "\n"), eC (.int 0)], eCall tupF [eC (.str "next\n"), eC (.int 1)], eCall tupF [eC (.str " next"), eC (.int 0)], eCall tupF [eC (.str "next "), eC (.int 0)], eCall tupF [eC (.str "write"), eC (.int 0)]] rho M = some (.ok (.cel M.length), M ++ [.lst (hr1.map hrD)]) := fun _ => rfl
  obtain ⟨M1, h1⟩ : ∃ M1, M1 = M ++ [Cell.lst (hr1.map hrD)] := ⟨_, rfl⟩
  have a1 : M1[M.length]? = some (.lst (hr1.map hrD)) := h1 ▸ at_n _ _ []
  have s2 : ∀ rho, eCall lstF [eCall tupF [eC (.str "write "), eC (.int 0)], eCall tupF [eC (.str "write  "), eCall tupF [eCall tupF [eC (.str "write"), eC (.str " ")]]], eCall tupF [eC (.str "write a "), eCall tupF [eCall tupF [eC (.str "write"), eC (.str "a ")]]], eCall tupF [eC (.str "Write a"), eC (.int 0)]] rho M1 = some (.ok (.cel M1.length), M1 ++ [.lst (hr2.map hrD)]) := fun _ => rfl
  have p2 := add_lst33 (at_app (g := [.lst (hr2.map hrD)]) a1) (at_n M1 (.lst (hr2.map hrD)) []) (by decide)
  obtain ⟨M2, h2⟩ : ∃ M2, M2 = M1 ++ [Cell.lst (hr2.map hrD)] ++ [.lst (hr1.map hrD ++ hr2.map hrD)] := ⟨_, rfl⟩
  have a2 : M2[(M1 ++ [Cell.lst (hr2.map hrD)]).length]? = some (.lst (hr1.map hrD ++ hr2.map hrD)) := h2 ▸ at_n _ _ []
  have s3 : ∀ rho, eCall lstF [eCall tupF [eC (.str "write write a"), eCall tupF [eCall tupF [eC (.str "write"), eC (.str "write a")]]], eCall tupF [eC (.str "back\nreset\n\nclear"), eC (.int 2)], eCall tupF [eC (.str "next\nwrite"), eC (.int 1)]] rho M2 = some (.ok (.cel M2.length), M2 ++ [.lst (hr3.map hrD)]) := fun _ => rfl
  have p3 := add_lst33 (at_app (g := [.lst (hr3.map hrD)]) a2) (at_n M2 (.lst (hr3.map hrD)) []) (by decide)
  obtain ⟨M3, h3⟩ : ∃ M3, M3 = M2 ++ [Cell.lst (hr3.map hrD)] ++ [.lst (hr1.map hrD ++ hr2.map hrD ++ hr3.map hrD)] := ⟨_, rfl⟩
  have a3 : M3[(M2 ++ [Cell.lst (hr3.map hrD)]).length]? = some (.lst (hr1.map hrD ++ hr2.map hrD ++ hr3.map hrD)) := h3 ▸ at_n _ _ []
  have m200 : ∀ N : Mu, mulA (.str "a") (.int 200) N = some (.ok (.str (repS "a" 200)), N) := fun _ => rfl
  have m201 : ∀ N : Mu, mulA (.str "a") (.int 201) N = some (.ok (.str (repS "a" 201)), N) := fun _ => rfl
  have d200 : ∀ N : Mu, addD (.str "write ") (.str (repS "a" 200)) N = some (.ok (.str ("write " ++ repS "a" 200)), N) := fun _ => rfl
  have d201 : ∀ N : Mu, addD (.str "write ") (.str (repS "a" 201)) N = some (.ok (.str ("write " ++ repS "a" 201)), N) := fun _ => rfl
  have l4 : lstF (hr4.map hrD) M3 = some (.ok (.cel M3.length), M3 ++ [.lst (hr4.map hrD)]) := rfl
  have s4 : ∀ rho, eCall lstF [eCall tupF [eOp addD (eC (.str "write ")) (eOp mulA (eC (.str "a")) (eC (.int 200))), eCall tupF [eCall tupF [eC (.str "write"), eOp mulA (eC (.str "a")) (eC (.int 200))]]], eCall tupF [eOp addD (eC (.str "write ")) (eOp mulA (eC (.str "a")) (eC (.int 201))), eC (.int 0)], eCall tupF [eC (.str "-1"), eC (.int 0)]] rho M3 = some (.ok (.cel M3.length), M3 ++ [.lst (hr4.map hrD)]) := fun rho => by
    simp only [eCall_ev, eArgs_cons, eArgs_nil, eOp_ev, eC_ev, bnd_ok, m200, m201, d200, d201, tup2', tup1']
    exact l4
  have p4 := add_lst33 (at_app (g := [.lst (hr4.map hrD)]) a3) (at_n M3 (.lst (hr4.map hrD)) []) (by decide)
  obtain ⟨L4, hL4⟩ : ∃ L4, L4 = hr1.map hrD ++ hr2.map hrD ++ hr3.map hrD ++ hr4.map hrD := ⟨_, rfl⟩
  rw [← hL4] at p4
  obtain ⟨N4, hN4⟩ : ∃ N4, N4 = M3 ++ [Cell.lst (hr4.map hrD)] := ⟨_, rfl⟩
  rw [← hN4] at p4 s4
  have t5 : ∀ (rho : Rho) (N : Mu), eCall tupF [eC (.str "write   b  \nclear\nreset\nback"), eCall tupF [eCall tupF [eC (.str "write"), eC (.str "  b  ")], eCall tupF [eC (.str "clear")], eCall tupF [eC (.str "reset")], eCall tupF [eC (.str "back")]]] rho N = some (.ok (hrD ("write   b  \nclear\nreset\nback", .tup [.tup [.str "write", .str "  b  "], .tup [.str "clear"], .tup [.str "reset"], .tup [.str "back"]])), N) := fun _ _ => rfl
  obtain ⟨x5, hx5⟩ : ∃ x5, x5 = hrD ("write   b  \nclear\nreset\nback", .tup [.tup [.str "write", .str "  b  "], .tup [.str "clear"], .tup [.str "reset"], .tup [.str "back"]]) := ⟨_, rfl⟩
  rw [← hx5] at t5
  have isl : isLB (.cel N4.length) (N4 ++ [.lst L4]) = true := by unfold isLB; rw [lst_of (at_n N4 _ [])]; rfl
  have p5 : appM (.cel N4.length) [x5] (N4 ++ [.lst L4]) = some (.ok .non, N4 ++ [.lst (L4 ++ [x5])]) := by
    rw [app_ev (at_n N4 _ []) (by rw [hL4]; decide), set_n]
  obtain ⟨M5, h5⟩ : ∃ M5, M5 = N4 ++ [Cell.lst (L4 ++ [x5])] := ⟨_, rfl⟩
  have a5 : M5[N4.length]? = some (.lst (L4 ++ [x5])) := h5 ▸ at_n _ _ []
  rw [← h5] at p5
  have m300 : ∀ N : Mu, mulA (.str "next\n") (.int 300) N = some (.ok (.str (repS "next\n" 300)), N) := fun _ => rfl
  have m300b : ∀ N : Mu, mulA (.str "back\n") (.int 300) N = some (.ok (.str (repS "back\n" 300)), N) := fun _ => rfl
  have m301 : ∀ N : Mu, mulA (.tup [.tup [.str "back"]]) (.int 301) N = some (.ok (.tup (List.replicate 301 [D.tup [.str "back"]]).flatten), N) := fun _ => rfl
  have d300 : ∀ N : Mu, addD (.str (repS "next\n" 300)) (.str "nex") N = some (.ok (.str (repS "next\n" 300 ++ "nex")), N) := fun _ => add_str33 (by decide +kernel)
  have d300b : ∀ N : Mu, addD (.str (repS "back\n" 300)) (.str "back") N = some (.ok (.str (repS "back\n" 300 ++ "back")), N) := fun _ => add_str33 (by decide +kernel)
  have l6 : lstF (hr6.map hrD) M5 = some (.ok (.cel M5.length), M5 ++ [.lst (hr6.map hrD)]) := rfl
  have s6 : ∀ rho, eCall lstF [eCall tupF [eOp addD (eOp mulA (eC (.str "next\n")) (eC (.int 300))) (eC (.str "nex")), eC (.int 300)], eCall tupF [eOp addD (eOp mulA (eC (.str "back\n")) (eC (.int 300))) (eC (.str "back")), eOp mulA (eCall tupF [eCall tupF [eC (.str "back")]]) (eC (.int 301))]] rho M5 = some (.ok (.cel M5.length), M5 ++ [.lst (hr6.map hrD)]) := fun rho => by
    simp only [eCall_ev, eArgs_cons, eArgs_nil, eOp_ev, eC_ev, bnd_ok, m300, m300b, m301, d300, d300b, tup2', tup1']
    exact l6
  have p6 := add_lst33 (at_app (g := [.lst (hr6.map hrD)]) a5) (at_n M5 (.lst (hr6.map hrD)) []) (by rw [hL4]; simp)
  refine ⟨[.lst (hr1.map hrD), .lst (hr2.map hrD), .lst (hr1.map hrD ++ hr2.map hrD), .lst (hr3.map hrD), .lst (hr1.map hrD ++ hr2.map hrD ++ hr3.map hrD), .lst (hr4.map hrD), .lst (L4 ++ [x5]), .lst (hr6.map hrD), .lst (L4 ++ [x5] ++ hr6.map hrD)], (M5 ++ [Cell.lst (hr6.map hrD)]).length, ?_, ?_⟩
  · rw [show M ++ [Cell.lst (hr1.map hrD), .lst (hr2.map hrD), .lst (hr1.map hrD ++ hr2.map hrD), .lst (hr3.map hrD), .lst (hr1.map hrD ++ hr2.map hrD ++ hr3.map hrD), .lst (hr4.map hrD), .lst (L4 ++ [x5]), .lst (hr6.map hrD), .lst (L4 ++ [x5] ++ hr6.map hrD)] = M5 ++ [.lst (hr6.map hrD)] ++ [.lst (L4 ++ [x5] ++ hr6.map hrD)] by rw [h5, hN4, h3, h2, h1]; simp only [List.append_assoc, List.cons_append, List.nil_append]]
    show DL.fin (m__law_by_hand q [none] M) = _
    unfold m__law_by_hand
    rw [sSeq_ev, sSet_ev, s1, bnS_ok, thnS_nx, sSeq_ev, sSet_ev, eOp_ev, ← h1]
    show DL.fin (thnS (bnS (bnd (eVar 0 [some (.cel M.length)] M1) _) _ _) _) = _
    rw [eVar0, bnd_ok, s2, bnd_ok, p2, bnS_ok, thnS_nx, sSeq_ev, sSet_ev, eOp_ev, ← h2]
    show DL.fin (thnS (bnS (bnd (eVar 0 [some (.cel (M1 ++ [Cell.lst (hr2.map hrD)]).length)] M2) _) _ _) _) = _
    rw [eVar0, bnd_ok, s3, bnd_ok, p3, bnS_ok, thnS_nx, sSeq_ev, sSet_ev, eOp_ev, ← h3]
    show DL.fin (thnS (bnS (bnd (eVar 0 [some (.cel (M2 ++ [Cell.lst (hr3.map hrD)]).length)] M3) _) _ _) _) = _
    rw [eVar0, bnd_ok, s4, bnd_ok, p4, bnS_ok, thnS_nx, sSeq_ev, sExpr_ev, eMth_ev]
    show DL.fin (thnS (bnS (bnd (eVar 0 [some (.cel N4.length)] (N4 ++ [.lst L4])) _) _ _) _) = _
    rw [eVar0, bnd_ok, if_pos isl, eArgs_cons, t5, bnd_ok, eArgs_nil, p5, bnS_ok, thnS_nx, sRet_ev, eOp_ev]
    show DL.fin (bnS (bnd (eVar 0 [some (.cel N4.length)] M5) _) _ _) = _
    rw [eVar0, bnd_ok, s6, bnd_ok, p6, bnS_ok, fin_rt]
  · rw [show M ++ [Cell.lst (hr1.map hrD), .lst (hr2.map hrD), .lst (hr1.map hrD ++ hr2.map hrD), .lst (hr3.map hrD), .lst (hr1.map hrD ++ hr2.map hrD ++ hr3.map hrD), .lst (hr4.map hrD), .lst (L4 ++ [x5]), .lst (hr6.map hrD), .lst (L4 ++ [x5] ++ hr6.map hrD)] = M5 ++ [.lst (hr6.map hrD)] ++ [.lst (L4 ++ [x5] ++ hr6.map hrD)] by rw [h5, hN4, h3, h2, h1]; simp only [List.append_assoc, List.cons_append, List.nil_append]]
    rw [at_n]
    rw [hL4, hx5]
    simp only [List.map_append]
    rfl
end DL
set_option Elab.async false
set_option linter.all false
set_option autoImplicit false
set_option maxRecDepth 100000
set_option maxHeartbeats 4000000
/-! M90: the odd things. -/
namespace DL
open PySem PySem.Spec L2
abbrev od1 : List D := [.non, .bl true, .int 0, .int 5, .str "next", .str "", .tup [], .tup [.str "next", .int 1], .tup [.str "Next"], .tup [.str "write"], .tup [.str "write", .str ""]]
abbrev od2 : List D := [.tup [.str "write", .str "a\nb"], .cel 3, .cel 4, .cel 5, .tup [.str "write", .non], .tup [.str "write", .str (repS "a" 201)]]
abbrev od3 : List D := [.tup [.str "write", .str "a", .str "b"], .tup [.non], .tup [.int 5, .str "a"]]
abbrev od4 : List D := [.tup [.str "clear", .str "a"], .tup [.str "write", .tup [.str "a"]], .tup [.str "back "], .tup [.str "write ", .str "a"]]
abbrev odL : List D := od1 ++ od2 ++ od3 ++ od4
abbrev odG : Mu := [.lst od1, .lst [], .lst [.str "next"], .dct [], .lst od2, .lst (od1 ++ od2), .lst od3, .lst (od1 ++ od2 ++ od3), .lst od4, .lst odL]
theorem ev__law_odds33 {q : Ad} {s : DS} : P__law_odds_3ad58c q [] (drw s) = some (.ok (.cel 11), drw s ++ odG) := rfl
/-- an odd thing -/
structure OddK (M : Mu) (x : D) : Prop where
  fit : Fit M 2000 8 x
  npr : isPr x = false
  thg : ∃ w y, Thg M x w y
def chkO (x : D) : Bool := fitB 2000 8 x && !isPr x && match x with
  | .tup xs => xs.isEmpty || (decide (xs.length ≤ 5) && !(wrI 0 xs).isEmpty)
  | _ => true
theorem odd_of {M : Mu} {x : D} (h : chkO x = true) : OddK M x := by
  unfold chkO at h
  simp only [Bool.and_eq_true, Bool.not_eq_true'] at h
  obtain ⟨⟨h1, h2⟩, h3⟩ := h
  have hf := Fit.closed (mu := M) h1
  refine ⟨hf, h2, ?_⟩
  rcases knd_tup hf.1 with ⟨xs, rfl, hw⟩ | ⟨_, e⟩
  · simp only [Bool.or_eq_true, Bool.and_eq_true, decide_eq_true_eq, Bool.not_eq_true'] at h3
    rcases h3 with h3 | ⟨h3, h4⟩
    · rw [List.isEmpty_iff.mp h3]
      exact ⟨_, _, .row [] ⟨(fun _ h => by cases h), by simp⟩⟩
    · cases e : wrI 0 xs with
      | nil => rw [e] at h4; cases h4
      | cons k r => exact ⟨_, _, .bad xs k r hw (by omega) e⟩
  · exact ⟨_, _, .no _ e⟩
def odC : List D := [.non, .bl true, .int 0, .int 5, .str "next", .str "", .tup [], .tup [.str "next", .int 1], .tup [.str "Next"], .tup [.str "write"], .tup [.str "write", .str ""], .tup [.str "write", .str "a\nb"], .tup [.str "write", .non], .tup [.str "write", .str (repS "a" 201)], .tup [.str "write", .str "a", .str "b"], .tup [.non], .tup [.int 5, .str "a"], .tup [.str "clear", .str "a"], .tup [.str "write", .tup [.str "a"]], .tup [.str "back "], .tup [.str "write ", .str "a"], .tup [.str "next", .str "back"], .tup [.tup [.str "next"], .non, .int 5], .int 999999999999999999999999999999]
theorem odC_ok : odC.all chkO = true := by decide +kernel
theorem odC_mem {x : D} (h : x ∈ odL ++ [.tup [.str "next", .str "back"], .tup [.tup [.str "next"], .non, .int 5], .int 999999999999999999999999999999]) : x ∈ odC ∨ x = .cel 3 ∨ x = .cel 4 ∨ x = .cel 5 := by
  simp only [odL, od1, od2, od3, od4, List.cons_append, List.nil_append, List.mem_cons, List.not_mem_nil, or_false] at h
  simp only [odC, List.mem_cons, List.not_mem_nil, or_false]
  rcases h with h | h | h | h | h | h | h | h | h | h | h | h | h | h | h | h | h | h | h | h | h | h | h | h | h | h | h <;> simp [h]
theorem odd_all {s : DS} {r : Mu} {x : D} (h : x ∈ odL ++ [.tup [.str "next", .str "back"], .tup [.tup [.str "next"], .non, .int 5], .int 999999999999999999999999999999]) : OddK (drw s ++ (odG ++ r)) x := by
  have c3 : (drw s ++ (odG ++ r))[3]? = some (.lst []) := rfl
  have c4 : (drw s ++ (odG ++ r))[4]? = some (.lst [.str "next"]) := rfl
  have c5 : (drw s ++ (odG ++ r))[5]? = some (.dct []) := rfl
  have no : ∀ j t, tyN (.cel j) (drw s ++ (odG ++ r)) = some t → (t == "tuple") = false → ∃ w y, Thg (drw s ++ (odG ++ r)) (.cel j) w y := fun j t h1 h2 => ⟨_, _, .no _ (by rw [isi_tuple h1, h2])⟩
  rcases odC_mem h with h | rfl | rfl | rfl
  · exact odd_of (List.all_eq_true.mp odC_ok x h)
  · exact ⟨(Fit.cel (dp := 1) (w := 100) (ps := []) c3 (fun _ => by unfold dPs; rfl) ⟨by simp [PyData.showableAll], by simp [PyData.leavesShortAll], by simp [PyData.weightAll], by simp [PyData.depthAll]⟩).mono (by decide) (by decide), rfl, no 3 "list" (by simp only [tyN, c3]) rfl⟩
  · exact ⟨(Fit.cel (dp := 1) (w := 100) (ps := [.str "next"]) c4 (fun _ => by unfold dPs dP; rfl) ⟨by decide +kernel, by decide +kernel, by decide +kernel, by decide +kernel⟩).mono (by decide) (by decide), rfl, no 4 "list" (by simp only [tyN, c4]) rfl⟩
  · exact ⟨(Fit.dct (dp := 1) (w := 100) c5).mono (by decide) (by decide), rfl, no 5 "dict" (by simp only [tyN, c5]) rfl⟩
end DL
set_option Elab.async false
set_option linter.all false
set_option autoImplicit false
set_option maxRecDepth 100000
set_option maxHeartbeats 4000000
/-! M91: the law k33 at data: a turn's parts. -/
namespace DL
open PySem PySem.Spec L2
theorem slP_to {mu : Mu} {xs : List D} {n : Nat} : slD (.tup xs) none (some (n : Int)) mu = some (.ok (.tup (xs.take n)), mu) := by
  have e : cutD xs none (some (n : Int)) = xs.take n := by
    unfold cutD
    simp [HT.sIx_nat, HT.sIx_none]
    try omega
  show okD (.tup (cutD xs none (some (n : Int)))) mu = _
  rw [e]
theorem slP_from {mu : Mu} {xs : List D} {n : Nat} : slD (.tup xs) (some (n : Int)) none mu = some (.ok (.tup (xs.drop n)), mu) := by
  have e : cutD xs (some (n : Int)) none = xs.drop n := by
    unfold cutD
    simp only [HT.sIx_nat, HT.sIx_none]
    rw [List.take_of_length_le (by rw [List.length_drop]; exact Nat.le_refl _)]
    by_cases h : n ≤ xs.length
    · rw [Nat.min_eq_left h]
    · rw [Nat.min_eq_right (by omega), List.drop_eq_nil_of_le (Nat.le_refl _), List.drop_eq_nil_of_le (by omega)]
  show okD (.tup (cutD xs (some (n : Int)) none)) mu = _
  rw [e]
theorem po_d {p : Pr} (h : p.ok) : poD p.ln = p.d := ((lineP_some (line_ln h)).2).symm
theorem fit_d {mu : Mu} {p : Pr} (h : p.ok) : Fit mu 230 2 p.d := by
  have := fit_po (mu := mu) (l := p.ln) (fun c hc => ((ln_small h).2.2 c hc).2) (by have := (ln_small h).1; omega)
  rw [po_d h] at this
  exact this.mono (by have := (ln_small h).1; omega) (Nat.le_refl _)
theorem fit_ds {mu : Mu} {ps : List Pr} (h : ∀ p ∈ ps, p.ok) : FitL mu (231 * ps.length) 2 (ps.map Pr.d) := fit_all fun p hp => fit_d (h p hp)
def Pr.pd : Pr → PyData
  | .k z => .tuple [.str z]
  | .w l => .tuple [.str "write", .str (tx l)]
theorem dP_d (rc : Nat → Option PyData) : ∀ p : Pr, dP rc p.d = some p.pd := fun p => by
  cases p with
  | k z => unfold Pr.d Pr.pd; simp [dP, dPs]
  | w l => unfold Pr.d Pr.pd txD; simp [dP, dPs]
theorem dPs_ds (rc : Nat → Option PyData) : ∀ ps : List Pr, dPs rc (ps.map Pr.d) = some (ps.map Pr.pd)
  | [] => by simp [dPs]
  | p :: ps => by
    rw [List.map_cons]
    unfold dPs
    rw [dP_d, dPs_ds rc ps]
    rfl
theorem wrI_app : ∀ {ps : List Pr} {k : Nat} {x : D} {ys : List D}, (∀ p ∈ ps, p.ok) → isPr x = false → wrI k (ps.map Pr.d ++ x :: ys) = (k + ps.length) :: wrI (k + ps.length + 1) ys
  | [], k, x, ys, _, hx => by
    rw [List.map_nil, List.nil_append, wrI_f hx]
    rfl
  | p :: ps, k, x, ys, h, hx => by
    rw [List.map_cons, List.cons_append, wrI_t (ok_isPr (h p List.mem_cons_self)), wrI_app (fun y hy => h y (List.mem_cons_of_mem _ hy)) hx, List.length_cons]
    rw [show k + 1 + ps.length = k + (ps.length + 1) by omega]
abbrev r33 (x0 a1 a2 a5 a6 a7 a8 a9 a10 a11 a12 : Option D) : Rho := [x0, a1, a2, some (.cel 0), some (.cel 11), a5, a6, a7, a8, a9, a10, a11, a12]
/-- the three looks at a row -/
noncomputable abbrev l33R (q : Ad) : SS := sIf (eOr (eNot (eCall (P__law_right_aa9dc6 q) [eVar 5])) (eOr (eNot (eCall (P__law_right_aa9dc6 q) [eOp addD (eOp addD (eSl (eVar 5) none (some (eVar 10))) (eCall tupF [eVar 2])) (eSl (eVar 5) (some (eVar 10)) none)])) (eNot (eCall (P__law_right_aa9dc6 q) [eCall listA [eVar 5]])))) (sRet (eC (.bl false))) (sNil)
theorem l33_right {q : Ad} (hq : D33 q) {ps : List Pr} (hp : RowK ps) {n : Nat} (hn : n ≤ ps.length) {M : Mu} {x : D} (hx : ∀ g, OddK (M ++ g) x) {x0 a1 a6 a7 a8 a9 a11 a12 : Option D} :
    ∃ g, l33R q (r33 x0 a1 (some x) (some (.tup (ps.map Pr.d))) a6 a7 a8 a9 (some (.int (n : Nat))) a11 a12) M = some (.nx, r33 x0 a1 (some x) (some (.tup (ps.map Pr.d))) a6 a7 a8 a9 (some (.int (n : Nat))) a11 a12, M ++ g) := by
  have hfew := hp.few
  obtain ⟨g1, e1⟩ := ev__law_right hq (mu := M) (.row ps hp) ((Fit.tup (fit_ds hp.ok)).mono (by omega) (by decide))
  -- the mixed row
  obtain ⟨xs, hxs⟩ : ∃ xs, xs = (ps.map Pr.d).take n ++ [x] ++ (ps.map Pr.d).drop n := ⟨_, rfl⟩
  have hox := hx g1
  have hwx : wrI 0 xs = n :: wrI (n + 1) ((ps.map Pr.d).drop n) := by
    rw [hxs, List.append_assoc, ← List.map_take]
    have := wrI_app (ps := ps.take n) (k := 0) (x := x) (ys := (ps.map Pr.d).drop n) (fun p hpm => hp.ok p (List.mem_of_mem_take hpm)) hox.npr
    rw [Nat.zero_add, List.length_take, Nat.min_eq_left hn] at this
    exact this
  have hwk : wkL (M ++ g1) xs = true := by
    rw [hxs]
    refine wkL_iff.mpr fun y hy => ?_
    rcases List.mem_append.mp hy with hy | hy
    · rcases List.mem_append.mp hy with hy | hy
      · exact wkL_iff.mp (wk_row hp.ok) y (List.mem_of_mem_take hy)
      · rw [List.mem_singleton.mp hy]; exact hox.fit.1
    · exact wkL_iff.mp (wk_row hp.ok) y (List.mem_of_mem_drop hy)
  have hxl : xs.length ≤ 15 := by
    rw [hxs]
    simp only [List.length_append, List.length_take, List.length_drop, List.length_map, List.length_cons, List.length_nil]
    omega
  have hfx : Fit (M ++ g1) 180000 20 (.tup xs) := by
    have f1 : FitL (M ++ g1) (231 * (ps.take n).length) 8 ((ps.take n).map Pr.d) := (fit_ds fun p hpm => hp.ok p (List.mem_of_mem_take hpm)).mono (Nat.le_refl _) (by decide)
    have f2 : FitL (M ++ g1) (231 * (ps.drop n).length) 8 ((ps.drop n).map Pr.d) := (fit_ds fun p hpm => hp.ok p (List.mem_of_mem_drop hpm)).mono (Nat.le_refl _) (by decide)
    have f3 := FitL.app2 (FitL.app2 f1 (FitL.cons hox.fit (FitL.nil (w := 0)))) f2
    rw [List.map_take, List.map_drop, ← hxs] at f3
    exact (Fit.tup f3).mono (by simp only [List.length_take, List.length_drop]; omega) (by decide)
  obtain ⟨g2, e2⟩ := ev__law_right hq (mu := M ++ g1) (.bad xs n _ hwk (by omega) hwx) hfx
  -- the list
  obtain ⟨N, hN⟩ : ∃ N, N = M ++ g1 ++ g2 := ⟨_, rfl⟩
  have l1 : listA [.tup (ps.map Pr.d)] N = some (.ok (.cel N.length), N ++ [.lst (ps.map Pr.d)]) := rfl
  have hj : (N ++ [Cell.lst (ps.map Pr.d)])[N.length]? = some (.lst (ps.map Pr.d)) := at_n _ _ []
  have hfl : Fit (N ++ [.lst (ps.map Pr.d)]) 180000 20 (.cel N.length) := by
    obtain ⟨_, qs, hs, hf⟩ := fit_ds (mu := N) hp.ok
    have := hs 2 (Nat.le_refl _)
    rw [dPs_ds] at this
    cases this
    exact (Fit.cel hj (fun rc => dPs_ds rc ps) hf).mono (by omega) (by decide)
  obtain ⟨g3, e3⟩ := ev__law_right hq (mu := N ++ [.lst (ps.map Pr.d)]) (.no (.cel N.length) (isi_tuple (t := "list") (by simp only [tyN, hj]))) hfl
  have s1 := slP_to (mu := M ++ g1) (xs := ps.map Pr.d) (n := n)
  have s2 := slP_from (mu := M ++ g1) (xs := ps.map Pr.d) (n := n)
  have t1 : tupF [x] (M ++ g1) = some (.ok (.tup [x]), M ++ g1) := rfl
  have p1 : addD (.tup ((ps.map Pr.d).take n)) (.tup [x]) (M ++ g1) = some (.ok (.tup ((ps.map Pr.d).take n ++ [x])), M ++ g1) := add_tup (by simp; omega)
  have p2 : addD (.tup ((ps.map Pr.d).take n ++ [x])) (.tup ((ps.map Pr.d).drop n)) (M ++ g1) = some (.ok (.tup xs), M ++ g1) := by rw [hxs]; exact add_tup (by simp; omega)
  have q1 : ∀ (K : Option Int → Mu → Ro) (M : Mu), ePart (some (eVar 10)) (r33 x0 a1 (some x) (some (.tup (ps.map Pr.d))) a6 a7 a8 a9 (some (.int (n : Nat))) a11 a12) M K = K (some (n : Int)) M := fun K M => ePart_s rfl
  refine ⟨g1 ++ g2 ++ [.lst (ps.map Pr.d)] ++ g3, ?_⟩
  rw [show M ++ (g1 ++ g2 ++ [Cell.lst (ps.map Pr.d)] ++ g3) = N ++ [.lst (ps.map Pr.d)] ++ g3 by rw [hN]; simp]
  rw [← hN] at e2
  simp only [l33R, sIf_ev, eOr_ev, eNot_ev, eCall_ev, eArgs_cons, eArgs_nil, eVarS, eVar0, bnd_ok, e1, chB_bl, if_true, Bool.false_eq_true, if_false, eOp_ev, eSl_ev, ePart_n, q1, s1, t1, p1, s2, p2, e2, l1, e3, bnS_ok, chS_bl, sNil_ev]
/-- the row -/
theorem l33_row {q : Ad} {s : DS} {R : Mu} {x0 a1 a2 a5 a6 a7 a8 a9 a10 a11 a12 : Option D} : ∃ (ps : List Pr) (s' : DS), eComp (iRg (eCall (P__law_pick q) [eVar 3, eC (.int 13)])) (.nm 12) [12] (eC (.bl true)) (eCall (P__law_press q) [eVar 3]) (r33 x0 a1 a2 a5 a6 a7 a8 a9 a10 a11 a12) (drw s ++ R) = some (.ok (.cel (2 + R.length)), drw s' ++ (R ++ [.lst (ps.map Pr.d)])) ∧ ps.length ≤ 12 ∧ ∀ p ∈ ps, p.ok := by
  obtain ⟨v, s1, e1, h3, h4⟩ := ev__law_pick (q := q) (s := s) (r := R) (many := 13) (by decide) (by decide)
  obtain ⟨ys, s2, ec, hy1, hy2⟩ := comp_keep (t := .nm 12) (vs := [12]) (te := eCall (P__law_press q) [eVar 3]) (rho := r33 x0 a1 a2 a5 a6 a7 a8 a9 a10 a11 a12) (fi := iRg (eCall (P__law_pick q) [eVar 3, eC (.int 13)])) (s := s1) (r := R) (mu0 := drw s ++ R) (xs := (List.range v.toNat).map fun k => D.int (k : Nat)) (fun y => ∃ p : Pr, y = p.d ∧ p.ok) (iRg_ev (n := v) (by simp [e1]) (by omega) (by omega)) (by
      intro x hx s r'
      refine ⟨_, rfl, ?_⟩
      obtain ⟨p, s', e, hp⟩ := ev__law_press (q := q) (s := s) (r := R ++ r')
      exact ⟨_, s', e, p, rfl, hp⟩) (by simp; omega)
  have hys : ∃ ps : List Pr, ys = ps.map Pr.d ∧ ∀ p ∈ ps, p.ok := by
    clear ec hy1
    induction ys with
    | nil => exact ⟨[], rfl, fun _ h => nomatch h⟩
    | cons y ys ih =>
      obtain ⟨p, rfl, hp⟩ := hy2 y List.mem_cons_self
      obtain ⟨ps, rfl, hps⟩ := ih fun z hz => hy2 z (List.mem_cons_of_mem _ hz)
      exact ⟨p :: ps, rfl, fun z hz => by
        rcases List.mem_cons.mp hz with rfl | hz
        · exact hp
        · exact hps z hz⟩
  obtain ⟨ps, rfl, hps⟩ := hys
  simp only [List.length_map, List.length_range] at hy1
  exact ⟨ps, s2, ec, by omega, hps⟩
/-! ### the bent texts of a row -/
noncomputable abbrev l33T (q : Ad) : SS := sSeq (sSet 11 (eCall (P__law_bent_text_e4fb99 q) [eVar 3, eVar 6])) (sSeq (sIf (eOr (eNot (eCall (P__law_read_right q) [eVar 6])) (eNot (eCall (P__law_read_right q) [eVar 11]))) (sRet (eC (.bl false))) (sNil)) (sSet 6 (eIf (eOp eqD (eCall (P__law_pick q) [eVar 3, eC (.int 4)]) (eC (.int 0))) (eCall (P__law_bent_text_e4fb99 q) [eVar 3, eVar 11]) (eVar 6))))
theorem l33_text {q : Ad} (hq : D33 q) {l : List Nat} {b : Nat} (hb : b ≤ 2900) (hl : l.length ≤ b) (hc : ∀ c ∈ l, c < 127) {s : DS} {r : Mu} {x0 a1 a2 a5 a7 a8 a9 a10 a11 a12 : Option D} :
    ∃ l2 s' g b11, l33T q (r33 x0 a1 a2 a5 (some (txD l)) a7 a8 a9 a10 a11 a12) (drw s ++ r) = some (.nx, r33 x0 a1 a2 a5 (some (txD l2)) a7 a8 a9 a10 b11 a12, drw s' ++ (r ++ g)) ∧ l2.length ≤ b + 12 ∧ ∀ c ∈ l2, c < 127 := by
  obtain ⟨m, s1, e1, hm1, hm2⟩ := ev__law_bent_text (q := q) (s := s) (r := r) (l := l) (by omega) hc
  obtain ⟨g1, e2⟩ := ev__law_read_right hq (l := l) ⟨by omega, hc⟩ (drw s1 ++ r)
  obtain ⟨g2, e3⟩ := ev__law_read_right hq (l := m) ⟨by omega, hm2⟩ (drw s1 ++ r ++ g1)
  obtain ⟨R, hR⟩ : ∃ R, R = r ++ (g1 ++ g2) := ⟨_, rfl⟩
  have eR : drw s1 ++ r ++ g1 ++ g2 = drw s1 ++ R := by rw [hR]; simp
  rw [eR] at e3
  obtain ⟨v, s2, e4, h3, h4⟩ := ev__law_pick (q := q) (s := s1) (r := R) (many := 4) (by decide) (by decide)
  have pre : ∀ o, eIf (eOp eqD (eCall (P__law_pick q) [eVar 3, eC (.int 4)]) (eC (.int 0))) (eCall (P__law_bent_text_e4fb99 q) [eVar 3, eVar 11]) (eVar 6) (r33 x0 a1 a2 a5 (some (txD l)) a7 a8 a9 a10 (some (txD m)) a12) (drw s1 ++ R) = o → l33T q (r33 x0 a1 a2 a5 (some (txD l)) a7 a8 a9 a10 a11 a12) (drw s ++ r) = bnS o (r33 x0 a1 a2 a5 (some (txD l)) a7 a8 a9 a10 (some (txD m)) a12) fun d mu1 => some (.nx, r33 x0 a1 a2 a5 (some d) a7 a8 a9 a10 (some (txD m)) a12, mu1) := fun o ho => by
    rw [← ho]
    simp only [l33T, sSeq_ev, sSet_ev, eCall_ev, eArgs_cons, eArgs_nil, eVarS, eVar0, bnd_ok, e1, bnS_ok, List.set, thnS_nx, sIf_ev, eOr_ev, eNot_ev, e2, chB_bl, if_true, Bool.false_eq_true, if_false, e3, chS_bl, sNil_ev]
  by_cases hv : v = 0
  · obtain ⟨m2, s3, e5, h51, h52⟩ := ev__law_bent_text (q := q) (s := s2) (r := R) (l := m) (by omega) hm2
    refine ⟨m2, s3, g1 ++ g2, some (txD m), ?_, by omega, h52⟩
    rw [pre (some (.ok (txD m2), drw s3 ++ R)) (by simp only [eIf_ev, eOp_ev, eCall_ev, eArgs_cons, eArgs_nil, eVarS, eVar0, eC_ev, bnd_ok, e4, eqi_int, decide_eq_true hv, chB_bl, if_true, e5]), bnS_ok, hR]
  · refine ⟨l, s2, g1 ++ g2, some (txD m), ?_, by omega, hc⟩
    rw [pre (some (.ok (txD l), drw s2 ++ R)) (by simp only [eIf_ev, eOp_ev, eCall_ev, eArgs_cons, eArgs_nil, eVarS, eVar0, eC_ev, bnd_ok, e4, eqi_int, decide_eq_false hv, chB_bl, Bool.false_eq_true, if_false]), bnS_ok, hR]
end DL
set_option Elab.async false
set_option linter.all false
set_option autoImplicit false
set_option maxRecDepth 100000
set_option maxHeartbeats 4000000
/-! M92: the law k33 at data. -/
namespace DL
open PySem PySem.Spec L2
noncomputable abbrev l33B (q : Ad) : SS := sSeq (sSet 5 (eTuple (eComp (iRg (eCall (P__law_pick q) [eVar 3, eC (.int 13)])) (.nm 12) [12] (eC (.bl true)) (eCall (P__law_press q) [eVar 3])))) (sSeq (sAsg (.tp [10, 2]) (eCall tupF [eCall (P__law_pick q) [eVar 3, eOp addD (eCall lenF [eVar 5]) (eC (.int 1))], eCall (P__law_one q) [eVar 3, eVar 4]])) (sSeq (l33R q) (sSeq (sSet 6 (eCall (P__law_lines_dd0f9d q) [eVar 5])) (sFor (iRg (eC (.int 6))) (.nm 7) (l33T q)))))
theorem l33_turn {q : Ad} (hq : D33 q) {s : DS} {r : Mu} {x0 a1 a2 a5 a6 a7 a8 a9 a10 a11 a12 : Option D} :
    ∃ s' r' b2 b5 b6 b7 b10 b11, l33B q (r33 x0 a1 a2 a5 a6 a7 a8 a9 a10 a11 a12) (drw s ++ (odG ++ r)) = some (.nx, r33 x0 a1 b2 b5 b6 b7 a8 a9 b10 b11 a12, drw s' ++ (odG ++ r')) := by
  obtain ⟨ps, s1, e1, hl, hok⟩ := l33_row (q := q) (s := s) (R := odG ++ r) (x0 := x0) (a1 := a1) (a2 := a2) (a5 := a5) (a6 := a6) (a7 := a7) (a8 := a8) (a9 := a9) (a10 := a10) (a11 := a11) (a12 := a12)
  have hp : RowK ps := ⟨hok, by omega⟩
  obtain ⟨r1, hr1⟩ : ∃ r1, r1 = r ++ [Cell.lst (ps.map Pr.d)] := ⟨_, rfl⟩
  have eR : odG ++ r ++ [Cell.lst (ps.map Pr.d)] = odG ++ r1 := by rw [hr1, List.append_assoc]
  have t1 : tup1 (.cel (2 + (odG ++ r).length)) (drw s1 ++ (odG ++ r1)) = some (.ok (.tup (ps.map Pr.d)), drw s1 ++ (odG ++ r1)) := by
    show (match lstD _ _ with | some xs => okD (.tup xs) _ | none => none) = _
    rw [← eR, lst_of (at_e (t := []))]
  rw [eR] at e1
  obtain ⟨v, s2, e2, h3, h4⟩ := ev__law_pick (q := q) (s := s1) (r := odG ++ r1) (many := (ps.length : Int) + 1) (by omega) (by omega)
  obtain ⟨n, rfl⟩ : ∃ n : Nat, v = n := ⟨v.toNat, by omega⟩
  have hit : itm (.cel 11) (drw s2 ++ (odG ++ r1)) = some odL := rfl
  obtain ⟨x, s3, e3, hx⟩ := ev__law_one (q := q) (s := s2) (r := odG ++ r1) (o := .cel 11) (xs := odL) (by simp) hit (by simp) (by simp)
  have len1 : ∀ M : Mu, lenF [.tup (ps.map Pr.d)] M = some (.ok (.int (ps.length : Nat)), M) := fun M => by rw [len_tup, List.length_map]
  have a0 : ∀ M : Mu, addD (.int (ps.length : Nat)) (.int 1) M = some (.ok (.int ((ps.length : Int) + 1)), M) := fun _ => rfl
  obtain ⟨M, hM⟩ : ∃ M, M = drw s3 ++ (odG ++ r1) := ⟨_, rfl⟩
  have hodd : ∀ g, OddK (M ++ g) x := fun g => by
    rw [hM, List.append_assoc, List.append_assoc]
    exact odd_all (List.mem_append_left _ hx)
  obtain ⟨g4, e4⟩ := l33_right hq hp (n := n) (by omega) hodd (x0 := x0) (a1 := a1) (a6 := a6) (a7 := a7) (a8 := a8) (a9 := a9) (a11 := a11) (a12 := a12)
  have e5 := ev__law_lines (q := q) hp (M ++ g4)
  obtain ⟨R5, hR5⟩ : ∃ R5, R5 = r1 ++ g4 ++ [Cell.lst ((ps.map Pr.ln).map txD)] := ⟨_, rfl⟩
  have eM5 : M ++ g4 ++ [Cell.lst ((ps.map Pr.ln).map txD)] = drw s3 ++ (odG ++ R5) := by rw [hM, hR5]; simp only [List.append_assoc]
  rw [eM5] at e5
  have loop := forI_wp (g := none) (t := .nm 7) (b := l33T q) (xs := (List.range 6).map fun k => D.int (k : Nat)) (fun k rho m => k ≤ 6 ∧ ∃ l s r a7 a11, rho = r33 x0 a1 (some x) (some (.tup (ps.map Pr.d))) (some (txD l)) a7 a8 a9 (some (.int (n : Nat))) a11 a12 ∧ m = drw s ++ (odG ++ r) ∧ l.length ≤ 2484 + 12 * k ∧ ∀ c ∈ l, c < 127)
    (fun o => ∃ l s r a7 a11, o = some (.nx, r33 x0 a1 (some x) (some (.tup (ps.map Pr.d))) (some (txD l)) a7 a8 a9 (some (.int (n : Nat))) a11 a12, drw s ++ (odG ++ r))) (fun _ _ _ _ => trivial) (fun k y hy rho m ⟨hk, l, s, r, a7, a11, hr, hm, hll, hc⟩ => by
      subst hr hm
      have hk6 : k < 6 := by
        have := (List.getElem?_eq_some_iff.mp hy).1
        simpa using this
      obtain ⟨l2, s', g, b11, e, h2, h22⟩ := l33_text hq (l := l) (b := 2484 + 12 * k) (by omega) hll hc (s := s) (r := odG ++ r) (x0 := x0) (a1 := a1) (a2 := some x) (a5 := some (.tup (ps.map Pr.d))) (a7 := some y) (a8 := a8) (a9 := a9) (a10 := some (.int (n : Nat))) (a11 := a11) (a12 := a12)
      refine ⟨_, rfl, .inl ⟨_, _, e, by omega, l2, s', r ++ g, some y, b11, rfl, by rw [List.append_assoc], by omega, h22⟩⟩) (fun rho m ⟨_, l, s, r, a7, a11, hr, hm, _, _⟩ => ⟨l, s, r, a7, a11, by rw [hr, hm]⟩)
    (rho := r33 x0 a1 (some x) (some (.tup (ps.map Pr.d))) (some (txD (jnP ps))) a7 a8 a9 (some (.int (n : Nat))) a11 a12) (mu := drw s3 ++ (odG ++ R5)) ⟨by omega, jnP ps, s3, R5, a7, a11, rfl, rfl, by have := jn_len hok; omega, jn_chars hok⟩
  obtain ⟨l, s6, r6, b7, b11, e6⟩ := loop
  refine ⟨s6, r6, some x, some (.tup (ps.map Pr.d)), some (txD l), b7, some (.int (n : Nat)), b11, ?_⟩
  have e3' : P__law_one q [.cel 0, .cel 11] (drw s2 ++ (odG ++ r1)) = some (.ok x, M) := by rw [hM]; exact e3
  unfold l33B
  rw [sSeq_ev, sSet_ev, eTuple_ev, e1, bnd_ok, t1, bnS_ok, thnS_nx, sSeq_ev]
  have eA : sAsg (.tp [10, 2]) (eCall tupF [eCall (P__law_pick q) [eVar 3, eOp addD (eCall lenF [eVar 5]) (eC (.int 1))], eCall (P__law_one q) [eVar 3, eVar 4]]) (r33 x0 a1 a2 (some (.tup (ps.map Pr.d))) a6 a7 a8 a9 a10 a11 a12) (drw s1 ++ (odG ++ r1)) = some (.nx, r33 x0 a1 (some x) (some (.tup (ps.map Pr.d))) a6 a7 a8 a9 (some (.int (n : Nat))) a11 a12, M) := by
    have ev : eCall tupF [eCall (P__law_pick q) [eVar 3, eOp addD (eCall lenF [eVar 5]) (eC (.int 1))], eCall (P__law_one q) [eVar 3, eVar 4]] (r33 x0 a1 a2 (some (.tup (ps.map Pr.d))) a6 a7 a8 a9 a10 a11 a12) (drw s1 ++ (odG ++ r1)) = some (.ok (.tup [.int (n : Nat), x]), M) := by
      simp only [eCall_ev, eArgs_cons, eArgs_nil, eVarS, eVar0, eC_ev, bnd_ok, eOp_ev, len1, a0, e2, e3', tup2']
    unfold sAsg
    rw [ev]
    rfl
  show thnS (sAsg (.tp [10, 2]) _ (r33 x0 a1 a2 (some (.tup (ps.map Pr.d))) a6 a7 a8 a9 a10 a11 a12) (drw s1 ++ (odG ++ r1))) _ = _
  rw [eA, thnS_nx, sSeq_ev, e4, thnS_nx, sSeq_ev, sSet_ev, eCall_ev, eArgs_cons, eVar_ev (d := .tup (ps.map Pr.d)) rfl, bnd_ok, eArgs_nil, e5, bnS_ok, thnS_nx]
  show sFor (iRg (eC (.int 6))) (.nm 7) (l33T q) (r33 x0 a1 (some x) (some (.tup (ps.map Pr.d))) (some (txD (jnP ps))) a7 a8 a9 (some (.int (n : Nat))) a11 a12) (drw s3 ++ (odG ++ R5)) = _
  rw [sFor_ok (xs := (List.range 6).map fun k => D.int (k : Nat)) (g := none) (mu1 := drw s3 ++ (odG ++ R5)) (iRg_ev (n := 6) rfl (by decide) (by decide)), e6]
end DL
set_option Elab.async false
set_option linter.all false
set_option autoImplicit false
set_option maxRecDepth 100000
set_option maxHeartbeats 4000000
/-! M93: the law k33 at data, whole. -/
namespace DL
open PySem PySem.Spec L2
noncomputable abbrev l33H (q : Ad) : SS := sSeq (sSet 9 (eIf (eCall isiF [eVar 8, eC (.ty "int")]) (eCall lstF [eC (.str "text"), eVar 8]) (eCall lstF [eC (.str "told"), eVar 8]))) (sIf (eOr (eOp neD (rdL q 6) (eCall reprG [eVar 9])) (eNot (eCall (P__law_read_right q) [eVar 6]))) (sRet (eC (.bl false))) (sNil))
theorem l33_hand {q : Ad} (hq : D33 q) {T : Str} {due : D} (h : HandOk T due) (M : Mu) {x0 a1 a2 a5 a7 a9 a10 a11 a12 : Option D} :
    ∃ g b9, l33H q (r33 x0 a1 a2 a5 (some (.str T)) a7 (some due) a9 a10 a11 a12) M = some (.nx, r33 x0 a1 a2 a5 (some (.str T)) a7 (some due) b9 a10 a11 a12, M ++ g) := by
  obtain ⟨hT, hd⟩ := h
  have eT : D.str T = txD T.cps.toList := by unfold txD; rw [← tx_of]
  obtain ⟨t, ht⟩ := repr_want hT
  obtain ⟨w, hw, ew⟩ : ∃ w, wantR T.cps.toList = (w, due) ∧ ∀ rho, rho[8]? = some (some due) → eIf (eCall isiF [eVar 8, eC (.ty "int")]) (eCall lstF [eC (.str "text"), eVar 8]) (eCall lstF [eC (.str "told"), eVar 8]) rho M = some (.ok (.cel M.length), M ++ [.lst [.str w, due]]) := by
    rcases hd with ⟨k, rfl, hk⟩ | ⟨acc, rfl, hk⟩
    · refine ⟨"text", by unfold wantR; rw [hk], fun rho hr => ?_⟩
      have l1 : lstF [.str "text", .int (k : Nat)] M = some (.ok (.cel M.length), M ++ [.lst [.str "text", .int (k : Nat)]]) := rfl
      simp only [eIf_ev, eCall_ev, eArgs_cons, eArgs_nil, eVar_ev hr, eC_ev, bnd_ok, isi_int_int, chB_bl, if_true, l1]
    · refine ⟨"told", by unfold wantR; rw [hk], fun rho hr => ?_⟩
      have l1 : lstF [.str "told", .tup acc] M = some (.ok (.cel M.length), M ++ [.lst [.str "told", .tup acc]]) := rfl
      simp only [eIf_ev, eCall_ev, eArgs_cons, eArgs_nil, eVar_ev hr, eC_ev, bnd_ok, isi_tup_int, chB_bl, Bool.false_eq_true, if_false, l1]
  rw [hw] at ht
  obtain ⟨N, hN⟩ : ∃ N, N = M ++ [Cell.lst [.str w, due]] := ⟨_, rfl⟩
  have hj : N[M.length]? = some (.lst [.str w, due]) := hN ▸ at_n _ _ []
  obtain ⟨g1, e1⟩ := rdL_ev hq hT (t := t) (by rw [hw]; exact ht) (i := 6) (rho := r33 x0 a1 a2 a5 (some (.str T)) a7 (some due) (some (.cel M.length)) a10 a11 a12) (by rw [← eT]; rfl) N
  have e2 := ht (N ++ g1) M.length (at_app hj)
  obtain ⟨g2, e3⟩ := ev__law_read_right hq hT (N ++ g1)
  rw [← eT] at e3
  refine ⟨[.lst [.str w, due]] ++ g1 ++ g2, some (.cel M.length), ?_⟩
  rw [show M ++ ([Cell.lst [.str w, due]] ++ g1 ++ g2) = N ++ g1 ++ g2 by rw [hN]; simp]
  unfold l33H
  rw [sSeq_ev, sSet_ev, ew _ rfl, bnS_ok, thnS_nx, ← hN]
  show sIf (eOr (eOp neD (rdL q 6) (eCall reprG [eVar 9])) (eNot (eCall (P__law_read_right q) [eVar 6]))) (sRet (eC (.bl false))) sNil (r33 x0 a1 a2 a5 (some (.str T)) a7 (some due) (some (.cel M.length)) a10 a11 a12) N = _
  rw [sIf_ev, eOr_ev, eOp_ev, e1, bnd_ok, eCall_ev, eArgs_cons, eVar_ev (d := .cel M.length) rfl, bnd_ok, eArgs_nil, e2, bnd_ok, ne_self, bnd_ok, chB_bl, if_neg Bool.false_ne_true, eNot_ev, eCall_ev, eArgs_cons, eVar_ev (d := .str T) rfl, bnd_ok, eArgs_nil, e3, bnd_ok, chB_bl, if_pos rfl, bnS_ok, chS_bl, if_neg Bool.false_ne_true, sNil_ev]
/-! ### the odd things -/
noncomputable abbrev l33O (q : Ad) : SS := sSeq (sIf (eAnd (eNot (eCall isiF [eVar 2, eC (.ty "str")])) (eOp neD (rdL q 2) (eCall reprG [eCall lstF [eC (.str "text"), eOp subD (eC (.int 0)) (eC (.int 1))]]))) (sRet (eC (.bl false))) (sNil)) (sIf (eOr (eNot (eCall (P__law_right_aa9dc6 q) [eVar 2])) (eNot (eCall (P__law_right_aa9dc6 q) [eCall tupF [eVar 2]]))) (sRet (eC (.bl false))) (sNil))
theorem fit_m1 : Fit [] 180000 20 (.int (-1)) := Fit.closed (by decide +kernel)
theorem l33_odd {q : Ad} (hq : D33 q) {M : Mu} {x : D} (hx : ∀ g, OddK (M ++ g) x) {x0 a1 a5 a6 a7 a8 a9 a10 a11 a12 : Option D} :
    ∃ g, l33O q (r33 x0 a1 (some x) a5 a6 a7 a8 a9 a10 a11 a12) M = some (.nx, r33 x0 a1 (some x) a5 a6 a7 a8 a9 a10 a11 a12, M ++ g) := by
  have first : ∃ g, sIf (eAnd (eNot (eCall isiF [eVar 2, eC (.ty "str")])) (eOp neD (rdL q 2) (eCall reprG [eCall lstF [eC (.str "text"), eOp subD (eC (.int 0)) (eC (.int 1))]]))) (sRet (eC (.bl false))) (sNil) (r33 x0 a1 (some x) a5 a6 a7 a8 a9 a10 a11 a12) M = some (.nx, r33 x0 a1 (some x) a5 a6 a7 a8 a9 a10 a11 a12, M ++ g) := by
    have hw : wk M x = true := by
      have := (hx []).fit.1
      rwa [List.append_nil] at this
    rcases knd_str hw with ⟨z, rfl, _⟩ | ⟨_, e0⟩
    · refine ⟨[], ?_⟩
      rw [List.append_nil]
      simp only [sIf_ev, eAnd_ev, eNot_ev, eCall_ev, eArgs_cons, eArgs_nil, eVarS, eVar0, eC_ev, bnd_ok, isi_str_str, chB_bl, if_true, Bool.false_eq_true, if_false, bnS_ok, chS_bl, sNil_ev]
    · have e1 := told_text hq (cl := fun mu' => P_read_row q [x] mu') (ev_read_row_no (q := q) e0)
      obtain ⟨N, hN⟩ : ∃ N, N = M ++ [Cell.exc q.cBadText [("place", .int (-1))], .lst [.bl true, .bl false], .lst [.str "text", .int (-1)]] := ⟨_, rfl⟩
      have hj : N[M.length + 2]? = some (.lst [.str "text", .int (-1)]) := by
        rw [hN, List.getElem?_append_right (by omega), Nat.add_sub_cancel_left]
        rfl
      rw [← hN] at e1
      obtain ⟨t, ht⟩ := repr_two (mu := []) (w := "text") (by decide +kernel) fit_m1
      have r1 := ht N _ hj
      rw [List.nil_append] at r1
      have l1 : lstF [.str "text", .int (-1)] N = some (.ok (.cel N.length), N ++ [.lst [.str "text", .int (-1)]]) := rfl
      have r2 := ht (N ++ [.lst [.str "text", .int (-1)]]) N.length (at_n _ _ [])
      rw [List.nil_append] at r2
      have sb : ∀ K : Mu, subD (.int 0) (.int 1) K = some (.ok (.int (-1)), K) := fun _ => rfl
      have e2 : rdL q 2 (r33 x0 a1 (some x) a5 a6 a7 a8 a9 a10 a11 a12) M = some (.ok (.str t), N) := by
        show eCall reprG [eLam (G__law_told_1a87f6 q) id (eCall (P_read_row q) [eVar 2])] _ M = _
        rw [eCall_ev, eArgs_cons]
        have : eLam (G__law_told_1a87f6 q) id (eCall (P_read_row q) [eVar 2]) (r33 x0 a1 (some x) a5 a6 a7 a8 a9 a10 a11 a12) M = some (.ok (.cel (M.length + 2)), N) := by
          unfold eLam
          rw [← e1]
          rfl
        rw [this, bnd_ok, eArgs_nil, r1]
      refine ⟨[.exc q.cBadText [("place", .int (-1))], .lst [.bl true, .bl false], .lst [.str "text", .int (-1)]] ++ [.lst [.str "text", .int (-1)]], ?_⟩
      rw [← List.append_assoc, ← hN]
      rw [sIf_ev, eAnd_ev, eNot_ev, eCall_ev, eArgs_cons, eVar_ev (d := x) rfl, bnd_ok, eArgs_cons, eC_ev, bnd_ok, eArgs_nil, e0, bnd_ok, chB_bl, if_neg Bool.false_ne_true, bnd_ok, chB_bl, if_pos rfl, eOp_ev, e2, bnd_ok]
      simp only [eCall_ev, eArgs_cons, eArgs_nil, eC_ev, bnd_ok, eOp_ev, sb, l1, r2, ne_self, bnS_ok, chS_bl, Bool.false_eq_true, if_false, sNil_ev]
  obtain ⟨g1, e1⟩ := first
  have o1 := hx g1
  obtain ⟨w, y, th⟩ := o1.thg
  obtain ⟨g2, e2⟩ := ev__law_right hq th (o1.fit.mono (by decide) (by decide))
  have o2 := hx (g1 ++ g2)
  rw [← List.append_assoc] at o2
  obtain ⟨g3, e3⟩ := ev__law_right hq (mu := M ++ g1 ++ g2) (.bad [x] 0 [] (by rw [wkL_cons, o2.fit.1]; rfl) (by simp) (by rw [wrI_f o2.npr]; rfl)) ((Fit.tup (FitL.cons o2.fit (FitL.nil (w := 0)))).mono (by decide) (by decide))
  refine ⟨g1 ++ g2 ++ g3, ?_⟩
  rw [← List.append_assoc, ← List.append_assoc]
  unfold l33O
  rw [sSeq_ev, e1, thnS_nx]
  simp only [sIf_ev, eOr_ev, eNot_ev, eCall_ev, eArgs_cons, eArgs_nil, eVarS, eVar0, bnd_ok, e2, chB_bl, if_true, Bool.false_eq_true, if_false, tup1', e3, bnS_ok, chS_bl, sNil_ev]
/-! ### the whole -/
abbrev od5 : List D := [.tup [.str "next", .str "back"], .tup [.tup [.str "next"], .non, .int 5], .int 999999999999999999999999999999]
theorem hr_all : ∀ p ∈ hr1 ++ hr2 ++ hr3 ++ hr4 ++ hr5 ++ hr6, HandOk p.1 p.2 := fun p hp => by
  rcases List.mem_append.mp hp with hp | hp
  · rcases List.mem_append.mp hp with hp | hp
    · rcases List.mem_append.mp hp with hp | hp
      · rcases List.mem_append.mp hp with hp | hp
        · rcases List.mem_append.mp hp with hp | hp
          · exact hr1_ok p hp
          · exact hr2_ok p hp
        · exact hr3_ok p hp
      · exact hr4_ok p hp
    · exact hr5_ok p hp
  · exact hr6_ok p hp
theorem iV_cel {f : ES} {rho : Rho} {mu mu1 : Mu} {j : Nat} {xs : List D} (h : f rho mu = some (.ok (.cel j), mu1)) (hj : mu1[j]? = some (.lst xs)) : iV f rho mu = some (.ok xs (some (j, xs)), mu1) := by
  unfold iV
  rw [h]
  dsimp only
  have : srcV (.cel j) mu1 = some (xs, some (j, xs)) := by
    unfold srcV
    dsimp only
    rw [hj]
  rw [this]
theorem l33_hands {q : Ad} (hq : D33 q) (M : Mu) {x0 a1 a2 a5 a6 a7 a8 a9 a10 a11 a12 : Option D} :
    ∃ g b6 b8 b9, sFor (iV (eCall (P__law_by_hand q) [])) (.tp [6, 8]) (l33H q) (r33 x0 a1 a2 a5 a6 a7 a8 a9 a10 a11 a12) M = some (.nx, r33 x0 a1 a2 a5 b6 a7 b8 b9 a10 a11 a12, M ++ g) := by
  obtain ⟨g, j, e, hj⟩ := ev__law_by_hand (q := q) M
  have ei := iV_cel (f := eCall (P__law_by_hand q) []) (rho := r33 x0 a1 a2 a5 a6 a7 a8 a9 a10 a11 a12) (mu := M) (by rw [eCall_ev, eArgs_nil]; exact e) hj
  rw [sFor_ok ei]
  refine forI_wp (fun _ rho m => ∃ g2 b6 b8 b9, rho = r33 x0 a1 a2 a5 b6 a7 b8 b9 a10 a11 a12 ∧ m = M ++ g ++ g2) (fun o => ∃ g b6 b8 b9, o = some (.nx, r33 x0 a1 a2 a5 b6 a7 b8 b9 a10 a11 a12, M ++ g)) (fun k rho m ⟨g2, b6, b8, b9, _, hm⟩ => ?_) (fun k y hy rho m ⟨g2, b6, b8, b9, hr, hm⟩ => ?_) (fun rho m ⟨g2, b6, b8, b9, hr, hm⟩ => ⟨g ++ g2, b6, b8, b9, by rw [hr, hm, List.append_assoc]⟩) ⟨[], a6, a8, a9, rfl, by simp⟩
  · subst hm
    exact at_app hj
  · subst hr hm
    obtain ⟨p, hp, rfl⟩ := List.mem_map.mp (List.mem_of_getElem? hy)
    obtain ⟨g3, c9, e3⟩ := l33_hand hq (hr_all p hp) (M ++ g ++ g2) (x0 := x0) (a1 := a1) (a2 := a2) (a5 := a5) (a7 := a7) (a9 := b9) (a10 := a10) (a11 := a11) (a12 := a12)
    exact ⟨_, rfl, .inl ⟨_, _, e3, g2 ++ g3, _, _, _, rfl, by simp⟩⟩
theorem l33_odds {q : Ad} (hq : D33 q) {s : DS} {r : Mu} {x0 a1 a2 a5 a6 a7 a8 a9 a10 a11 a12 : Option D} :
    ∃ mu2 b2, sFor (iV (eOp addD (eVar 4) (eCall lstF [eCall tupF [eC (.str "next"), eC (.str "back")], eCall tupF [eCall tupF [eC (.str "next")], eC .non, eC (.int 5)], eOp subD (eOp powD (eC (.int 10)) (eC (.int 30))) (eC (.int 1))]))) (.nm 2) (l33O q) (r33 x0 a1 a2 a5 a6 a7 a8 a9 a10 a11 a12) (drw s ++ (odG ++ r)) = some (.nx, r33 x0 a1 b2 a5 a6 a7 a8 a9 a10 a11 a12, mu2) := by
  have c11 : (drw s ++ (odG ++ r))[11]? = some (.lst odL) := rfl
  obtain ⟨M, hM⟩ : ∃ M, M = drw s ++ (odG ++ r) := ⟨_, rfl⟩
  rw [← hM] at c11 ⊢
  have l1 : ∀ rho, eCall lstF [eCall tupF [eC (.str "next"), eC (.str "back")], eCall tupF [eCall tupF [eC (.str "next")], eC .non, eC (.int 5)], eOp subD (eOp powD (eC (.int 10)) (eC (.int 30))) (eC (.int 1))] rho M = some (.ok (.cel M.length), M ++ [.lst od5]) := fun _ => rfl
  have p1 := add_lst33 (at_app (g := [.lst od5]) c11) (at_n M (.lst od5) []) (by simp)
  obtain ⟨N, hN⟩ : ∃ N, N = M ++ [Cell.lst od5] ++ [.lst (odL ++ od5)] := ⟨_, rfl⟩
  have hj : N[(M ++ [Cell.lst od5]).length]? = some (.lst (odL ++ od5)) := hN ▸ at_n _ _ []
  rw [← hN] at p1
  have ei := iV_cel (f := eOp addD (eVar 4) (eCall lstF [eCall tupF [eC (.str "next"), eC (.str "back")], eCall tupF [eCall tupF [eC (.str "next")], eC .non, eC (.int 5)], eOp subD (eOp powD (eC (.int 10)) (eC (.int 30))) (eC (.int 1))])) (rho := r33 x0 a1 a2 a5 a6 a7 a8 a9 a10 a11 a12) (mu := M) (by rw [eOp_ev, eVar_ev (d := .cel 11) rfl, bnd_ok, l1, bnd_ok]; exact p1) hj
  rw [sFor_ok ei]
  refine forI_wp (fun _ rho m => ∃ g b2, rho = r33 x0 a1 b2 a5 a6 a7 a8 a9 a10 a11 a12 ∧ m = N ++ g) (fun o => ∃ mu2 b2, o = some (.nx, r33 x0 a1 b2 a5 a6 a7 a8 a9 a10 a11 a12, mu2)) (fun k rho m ⟨g, b2, _, hm⟩ => ?_) (fun k y hy rho m ⟨g, b2, hr, hm⟩ => ?_) (fun rho m ⟨g, b2, hr, hm⟩ => ⟨m, b2, by rw [hr]⟩) ⟨[], a2, rfl, by simp⟩
  · subst hm
    exact at_app hj
  · subst hr hm
    have hy := List.mem_of_getElem? hy
    obtain ⟨g3, e3⟩ := l33_odd hq (M := N ++ g) (x := y) (fun g' => by
      rw [hN, hM]
      simp only [List.append_assoc]
      exact odd_all hy) (x0 := x0) (a1 := a1) (a5 := a5) (a6 := a6) (a7 := a7) (a8 := a8) (a9 := a9) (a10 := a10) (a11 := a11) (a12 := a12)
    exact ⟨_, rfl, .inl ⟨_, _, e3, g ++ g3, some y, rfl, by simp⟩⟩
theorem fdiv33 {m b : Int} {mu : Mu} (hm1 : 0 ≤ m ∧ m ≤ 60) (hb : 1 ≤ b ∧ b < 1073741824) : fdivD (.int m) (.int b) mu = some (.ok (.int (m / b)), mu) := by
  show (if _ then okD (.int (m / b)) mu else none) = _
  rw [if_pos ⟨by omega, by omega⟩]
theorem law_k33 {q : Ad} (hq : D33 q) (ns : List Int) (h : ns.length ≤ 63) : ∃ mu, fnS 13 (m_law_7c04c7 q) [.fl (ns.map D.int)] [] = some (.ok (.bl true), mu) := by
  obtain ⟨s0, e0⟩ := ev__law_draws (q := q) ns h
  have hlen : ∀ mu, lenF [.fl (ns.map D.int)] mu = some (.ok (.int ns.length), mu) := fun mu => by
    show some (Rs.ok (D.int ((ns.map D.int).length : Nat)), mu) = _
    rw [List.length_map]
  obtain ⟨m, hm0, hm1⟩ : ∃ m : Int, m = (if (ns.length : Int) < 60 then (ns.length : Int) else 60) ∧ 0 ≤ m ∧ m ≤ 60 := ⟨_, rfl, by split <;> omega⟩
  have hmin : ∀ mu, minF [.int 60, .int ns.length] mu = some (.ok (.int m), mu) := fun mu => by rw [hm0]; rfl
  have hdiv : ∀ mu, fdivD (.int m) (.int 12) mu = some (.ok (.int (m / 12)), mu) := fun mu => fdiv33 hm1 (by decide)
  have hq0 : 0 ≤ m / 12 := Int.ediv_nonneg hm1.1 (by omega)
  have hq1 : m / 12 ≤ 60 := Int.le_trans (Int.ediv_le_self _ hm1.1) hm1.2
  have hsrc : ∀ r, iRg (eOp addD (eC (.int 4)) (eOp fdivD (eCall minF [eC (.int 60), eCall lenF [eVar 0]]) (eC (.int 12)))) (some (.fl (ns.map D.int)) :: r) (drw s0 ++ odG) = some (.ok ((List.range (4 + m / 12).toNat).map fun k => D.int (k : Nat)) none, drw s0 ++ odG) := fun r => iRg_ev (n := 4 + m / 12) (by simp [hlen, hmin, hdiv]) (by omega) (by omega)
  have loop := forI_wp (g := none) (t := .nm 1) (b := l33B q) (xs := (List.range (4 + m / 12).toNat).map fun k => D.int (k : Nat)) (fun _ rho m => ∃ s r a1 a2 a5 a6 a7 a10 a11, rho = r33 (some (.fl (ns.map D.int))) a1 a2 a5 a6 a7 none none a10 a11 none ∧ m = drw s ++ (odG ++ r))
    (fun o => ∃ s r a1 a2 a5 a6 a7 a10 a11, o = some (.nx, r33 (some (.fl (ns.map D.int))) a1 a2 a5 a6 a7 none none a10 a11 none, drw s ++ (odG ++ r))) (fun _ _ _ _ => trivial) (fun i x _ rho m ⟨s, r, a1, a2, a5, a6, a7, a10, a11, hr, hm⟩ => by
      subst hr hm
      obtain ⟨s', r', b2, b5, b6, b7, b10, b11, e⟩ := l33_turn hq (s := s) (r := r) (x0 := some (.fl (ns.map D.int))) (a1 := some x) (a2 := a2) (a5 := a5) (a6 := a6) (a7 := a7) (a8 := none) (a9 := none) (a10 := a10) (a11 := a11) (a12 := none)
      exact ⟨_, rfl, .inl ⟨_, _, e, s', r', some x, b2, b5, b6, b7, b10, b11, rfl, rfl⟩⟩) (fun rho m ⟨s, r, a1, a2, a5, a6, a7, a10, a11, hr, hm⟩ => ⟨s, r, a1, a2, a5, a6, a7, a10, a11, by rw [hr, hm]⟩)
    (rho := r33 (some (.fl (ns.map D.int))) none none none none none none none none none none) (mu := drw s0 ++ odG) ⟨s0, [], none, none, none, none, none, none, none, rfl, by simp⟩
  obtain ⟨s1, r1, a1, a2, a5, a6, a7, a10, a11, e1⟩ := loop
  obtain ⟨g2, b6, b8, b9, e2⟩ := l33_hands hq (drw s1 ++ (odG ++ r1)) (x0 := some (.fl (ns.map D.int))) (a1 := a1) (a2 := a2) (a5 := a5) (a6 := a6) (a7 := a7) (a8 := none) (a9 := none) (a10 := a10) (a11 := a11) (a12 := none)
  rw [show drw s1 ++ (odG ++ r1) ++ g2 = drw s1 ++ (odG ++ (r1 ++ g2)) by simp only [List.append_assoc]] at e2
  obtain ⟨mu3, b2, e3⟩ := l33_odds hq (s := s1) (r := r1 ++ g2) (x0 := some (.fl (ns.map D.int))) (a1 := a1) (a2 := a2) (a5 := a5) (a6 := b6) (a7 := a7) (a8 := b8) (a9 := b9) (a10 := a10) (a11 := a11) (a12 := none)
  refine ⟨mu3, ?_⟩
  show DL.fin (m_law_7c04c7 q [some (.fl (ns.map D.int)), none, none, none, none, none, none, none, none, none, none, none, none] []) = _
  have eA : sAsg (.tp [3, 4]) (eCall tupF [eCall (P__law_draws q) [eVar 0], eCall (P__law_odds_3ad58c q) []]) [some (.fl (ns.map D.int)), none, none, none, none, none, none, none, none, none, none, none, none] [] = some (.nx, r33 (some (.fl (ns.map D.int))) none none none none none none none none none none, drw s0 ++ odG) := by
    have ev : eCall tupF [eCall (P__law_draws q) [eVar 0], eCall (P__law_odds_3ad58c q) []] [some (.fl (ns.map D.int)), none, none, none, none, none, none, none, none, none, none, none, none] [] = some (.ok (.tup [.cel 0, .cel 11]), drw s0 ++ odG) := by
      rw [eCall_ev, eArgs_cons, eCall_ev, eArgs_cons, eVar0, bnd_ok, eArgs_nil, e0, bnd_ok, eArgs_cons, eCall_ev, eArgs_nil, ev__law_odds33, bnd_ok, eArgs_nil]
      rfl
    unfold sAsg
    rw [ev]
    rfl
  unfold m_law_7c04c7
  rw [sSeq_ev, eA, thnS_nx, sSeq_ev]
  show DL.fin (thnS (sFor _ (.nm 1) (l33B q) (r33 (some (.fl (ns.map D.int))) none none none none none none none none none none) (drw s0 ++ odG)) _) = _
  rw [sFor_ok (hsrc _), e1, thnS_nx, sSeq_ev]
  show DL.fin (thnS (sFor (iV (eCall (P__law_by_hand q) [])) (.tp [6, 8]) (l33H q) (r33 (some (.fl (ns.map D.int))) a1 a2 a5 a6 a7 none none a10 a11 none) (drw s1 ++ (odG ++ r1))) _) = _
  rw [e2, thnS_nx, sSeq_ev]
  show DL.fin (thnS (sFor _ (.nm 2) (l33O q) (r33 (some (.fl (ns.map D.int))) a1 a2 a5 b6 a7 b8 b9 a10 a11 none) (drw s1 ++ (odG ++ (r1 ++ g2)))) _) = _
  rw [e3, thnS_nx, sRet_ev, eC_ev, bnS_ok, fin_rt]
end DL
set_option Elab.async false
set_option linter.all false
set_option autoImplicit false
set_option maxRecDepth 100000
set_option maxHeartbeats 4000000
namespace K33
open PySem PySem.Spec PyProof.Rows L2 DL
def top (i : Nat) : Stmt := PySem.Challenge.pw_mirrorstops_k33_row_texts.main.body.getD i (.Pass ⟨0, 0, 0, 0⟩)
structure Gx (P : Program) (w : World) (K : PySem.W.Frag) (mg : Str → Option Value) (base : Heap) (q : Ad) : Prop where
  f_enumerate : mg "enumerate" = none
  f_int : mg "int" = none
  f_isinstance : mg "isinstance" = none
  f_len : mg "len" = none
  f_list : mg "list" = none
  f_min : mg "min" = none
  f_range : mg "range" = none
  f_repr : mg "repr" = none
  f_str : mg "str" = none
  f_tuple : mg "tuple" = none
  hr_BadPress : ∀ C, t_BadPress q C = some true → PySem.W.subIn K (.ref C) (.type "BaseException") = some true ∧ PySem.W.typeIn K (.ref C) = some (.type "type")
  iT_BadPress_BadSnippet_BadState : ∀ C b, isL [q.cBadPress, q.cBadSnippet, q.cBadState] q C = some b → L2.ExcC K C ∧ PySem.W.kitAny K (.ref C) ([q.cBadPress, q.cBadSnippet, q.cBadState].map Value.ref) = some b
  i_BadRow : ∀ C b, is_BadRow q C = some b → L2.ExcC K C ∧ PySem.W.kitOne K (.ref C) (.ref q.cBadRow) = some b
  i_BadText : ∀ C b, is_BadText q C = some b → L2.ExcC K C ∧ PySem.W.kitOne K (.ref C) (.ref q.cBadText) = some b
  k_BadPress : Mk P w K mg base "BadPress" 1 q.cBadPress gs_BadPress
  k_BadRow : Mk P w K mg base "BadRow" 1 q.cBadRow gs_BadRow
  k_BadText : Mk P w K mg base "BadText" 1 q.cBadText gs_BadText
  kh_BadRow : MkH P w K mg base "BadRow" 1 q.cBadRow ["place"]
  kh_BadText : MkH P w K mg base "BadText" 1 q.cBadText ["place"]
  mI_MOST_TEXT : ∃ t, mg "MOST_TEXT" = some (.int 200 t)
  mT_PRESS_WORDS : ∃ a, mg "PRESS_WORDS" = some (.ref a) ∧ ∀ al H, Rp K al H d_PRESS_WORDS (.ref a)
  m_BadPress : mg "BadPress" = some (.ref q.cBadPress)
  m_BadRow : mg "BadRow" = some (.ref q.cBadRow)
  m_BadSnippet : mg "BadSnippet" = some (.ref q.cBadSnippet)
  m_BadState : mg "BadState" = some (.ref q.cBadState)
  m_BadText : mg "BadText" = some (.ref q.cBadText)
  m_SnippetError : mg "SnippetError" = some (.ref q.cSnippetError)
  t_BadPress : ∀ C b, t_BadPress q C = some b → PySem.W.exmOne K (.ref C) (.ref q.cBadPress) = some b
  t_SnippetError : ∀ C b, t_SnippetError q C = some b → PySem.W.exmOne K (.ref C) (.ref q.cSnippetError) = some b
  x_place : ∀ C, ox_place q C = true → XfC K C ∧ PySem.W.findIn K (.ref C) "place" = some none
section
variable {P : Program} {w : World} {K : PySem.W.Frag} {mg : Str → Option Value} {base : Heap} {T : Tb} {q : Ad}
/-! _law_by_hand -/
abbrev s__law_by_hand : Stmt := top 33
theorem sc__law_by_hand : FnScope ["_law_rows"] [] (defScope s__law_by_hand) := ⟨rfl, rfl, rfl, by decide +kernel, rfl, by decide +kernel, by decide +kernel⟩
theorem ok__law_by_hand (g : Gx P w K mg base q) {f : Addr} {fd : FuncData} (F : Fun K "_law_by_hand" "_law_by_hand" s__law_by_hand f fd) : FnG T.md P w K mg base 2 f fd [] (spD K T 0 (fnS 1 (m__law_by_hand q))) :=
  fnD F sc__law_by_hand fun cdv A outer s H E hr => sts_cons (st_set (i := 0) sc__law_by_hand.nd (se_lst (sa_cons (se_tup (sa_cons (se_str) (sa_cons (se_tup (sa_nil)) sa_nil))) (sa_cons (se_tup (sa_cons (se_str) (sa_cons (se_tup (sa_cons (se_tup (sa_cons (se_str) sa_nil)) sa_nil)) sa_nil))) (sa_cons (se_tup (sa_cons (se_str) (sa_cons (se_int) sa_nil))) (sa_cons (se_tup (sa_cons (se_str) (sa_cons (se_int) sa_nil))) (sa_cons (se_tup (sa_cons (se_str) (sa_cons (se_int) sa_nil))) (sa_cons (se_tup (sa_cons (se_str) (sa_cons (se_int) sa_nil))) (sa_cons (se_tup (sa_cons (se_str) (sa_cons (se_int) sa_nil))) sa_nil))))))))) (sts_cons (st_set (i := 0) sc__law_by_hand.nd (se_add (se_var 0) (se_lst (sa_cons (se_tup (sa_cons (se_str) (sa_cons (se_int) sa_nil))) (sa_cons (se_tup (sa_cons (se_str) (sa_cons (se_tup (sa_cons (se_tup (sa_cons (se_str) (sa_cons (se_str) sa_nil))) sa_nil)) sa_nil))) (sa_cons (se_tup (sa_cons (se_str) (sa_cons (se_tup (sa_cons (se_tup (sa_cons (se_str) (sa_cons (se_str) sa_nil))) sa_nil)) sa_nil))) (sa_cons (se_tup (sa_cons (se_str) (sa_cons (se_int) sa_nil))) sa_nil))))))) (sts_cons (st_set (i := 0) sc__law_by_hand.nd (se_add (se_var 0) (se_lst (sa_cons (se_tup (sa_cons (se_str) (sa_cons (se_tup (sa_cons (se_tup (sa_cons (se_str) (sa_cons (se_str) sa_nil))) sa_nil)) sa_nil))) (sa_cons (se_tup (sa_cons (se_str) (sa_cons (se_int) sa_nil))) (sa_cons (se_tup (sa_cons (se_str) (sa_cons (se_int) sa_nil))) sa_nil)))))) (sts_cons (st_set (i := 0) sc__law_by_hand.nd (se_add (se_var 0) (se_lst (sa_cons (se_tup (sa_cons (se_add (se_str) (se_mulA (se_str) (se_int))) (sa_cons (se_tup (sa_cons (se_tup (sa_cons (se_str) (sa_cons (se_mulA (se_str) (se_int)) sa_nil))) sa_nil)) sa_nil))) (sa_cons (se_tup (sa_cons (se_add (se_str) (se_mulA (se_str) (se_int))) (sa_cons (se_int) sa_nil))) (sa_cons (se_tup (sa_cons (se_str) (sa_cons (se_int) sa_nil))) sa_nil)))))) (sts_cons (st_expr (se_bm PySem.F.plainAttrs_list PySem.F.slot_list_append PySem.F.type_list_append mt_append m_append (fun _ _ _ _ _ => chk_l) (se_var 0) (sa_cons (se_tup (sa_cons (se_str) (sa_cons (se_tup (sa_cons (se_tup (sa_cons (se_str) (sa_cons (se_str) sa_nil))) (sa_cons (se_tup (sa_cons (se_str) sa_nil)) (sa_cons (se_tup (sa_cons (se_str) sa_nil)) (sa_cons (se_tup (sa_cons (se_str) sa_nil)) sa_nil))))) sa_nil))) sa_nil))) (sts_one (st_ret (se_add (se_var 0) (se_lst (sa_cons (se_tup (sa_cons (se_add (se_mulA (se_str) (se_int)) (se_str)) (sa_cons (se_int) sa_nil))) (sa_cons (se_tup (sa_cons (se_add (se_mulA (se_str) (se_int)) (se_str)) (sa_cons (se_mulA (se_tup (sa_cons (se_tup (sa_cons (se_str) sa_nil)) sa_nil)) (se_int)) sa_nil))) sa_nil))))))))))
theorem fx__law_by_hand (g : Gx P w K mg base q) {f : Addr} {fd : FuncData} (F : Fun K "_law_by_hand" "_law_by_hand" s__law_by_hand f fd) (m : mg "_law_by_hand" = some (.ref f)) : Fx P w K mg base T "_law_by_hand" 2 0 (P__law_by_hand q) :=
  ⟨⟨f, fd, [], ok__law_by_hand g F, m, F.kp, F.binds fun _ _ _ _ _ _ us hl => match us, hl with | [], _ => rfl, rfl⟩⟩
/-! _law_draws -/
abbrev s__law_draws : Stmt := top 18
theorem sc__law_draws : FnScope ["_law_script", "_law_seed", "_law_k", "_law_cell"] ["_law_script"] (defScope s__law_draws) := ⟨rfl, rfl, rfl, by decide +kernel, rfl, by decide +kernel, by decide +kernel⟩
theorem ok__law_draws (g : Gx P w K mg base q) {f : Addr} {fd : FuncData} (F : Fun K "_law_draws" "_law_draws" s__law_draws f fd) : FnG T.md P w K mg base 2 f fd ["_law_script"] (spD K T 1 (fnS 4 (m__law_draws q))) :=
  fnD F sc__law_draws fun cdv A outer s H E hr => sts_cons (st_set (i := 1) sc__law_draws.nd (se_add (se_int) (se_mul (se_int) (se_len g.f_len (sa_cons (se_var 0) sa_nil))))) (sts_cons (st_for (si_enum g.f_enumerate (se_var 0)) (sg_tup (sgs_cons sc__law_draws.nd (sgs_cons sc__law_draws.nd sgs_nil))) (sts_one (st_set (i := 1) sc__law_draws.nd (se_mod (se_intc g.f_int (sa_cons (se_add (se_add (se_mul (se_var 1) (se_int)) (se_var 3)) (se_mul (se_int) (se_var 2))) sa_nil)) (se_int))))) (sts_one (st_ret (se_disp (sd_cons (se_str) (se_comp [("_law_cell", 3)] sc__law_draws.nd (si_val (se_var 0)) (blk_by (N := ["_law_script", "_law_seed", "_law_k", "_law_cell"]) (sc := defScope s__law_draws) (by decide +kernel)) (fun s H C cl fp => sg_name sc__law_draws.nd) (fun s H C cl fp => sp_one (sc_ge (se_var 3) (se_pow (se_int) (se_int)))) (fun s H C cl fp => se_var 3)) (sd_cons (se_str) (se_var 1) (sd_cons (se_str) (se_int) (sd_nil))))))))
theorem fx__law_draws (g : Gx P w K mg base q) {f : Addr} {fd : FuncData} (F : Fun K "_law_draws" "_law_draws" s__law_draws f fd) (m : mg "_law_draws" = some (.ref f)) : Fx P w K mg base T "_law_draws" 2 1 (P__law_draws q) :=
  Fx.mdl ⟨⟨f, fd, ["_law_script"], ok__law_draws g F, m, F.kp, F.binds fun _ _ _ _ _ _ us hl => match us, hl with | [_], _ => rfl, rfl⟩⟩ (md__law_draws q)
/-! _law_odds -/
abbrev s__law_odds_3ad58c : Stmt := top 32
theorem sc__law_odds_3ad58c : FnScope ["_law_some"] [] (defScope s__law_odds_3ad58c) := ⟨rfl, rfl, rfl, by decide +kernel, rfl, by decide +kernel, by decide +kernel⟩
theorem ok__law_odds_3ad58c (g : Gx P w K mg base q) {f : Addr} {fd : FuncData} (F : Fun K "_law_odds" "_law_odds" s__law_odds_3ad58c f fd) : FnG T.md P w K mg base 2 f fd [] (spD K T 0 (fnS 1 (m__law_odds_3ad58c q))) :=
  fnD F sc__law_odds_3ad58c fun cdv A outer s H E hr => sts_cons (st_set (i := 0) sc__law_odds_3ad58c.nd (se_lst (sa_cons (se_non) (sa_cons (se_bl) (sa_cons (se_int) (sa_cons (se_int) (sa_cons (se_str) (sa_cons (se_str) (sa_cons (se_tup (sa_nil)) (sa_cons (se_tup (sa_cons (se_str) (sa_cons (se_int) sa_nil))) (sa_cons (se_tup (sa_cons (se_str) sa_nil)) (sa_cons (se_tup (sa_cons (se_str) sa_nil)) (sa_cons (se_tup (sa_cons (se_str) (sa_cons (se_str) sa_nil))) sa_nil))))))))))))) (sts_cons (st_set (i := 0) sc__law_odds_3ad58c.nd (se_add (se_var 0) (se_lst (sa_cons (se_tup (sa_cons (se_str) (sa_cons (se_str) sa_nil))) (sa_cons (se_lst (sa_nil)) (sa_cons (se_lst (sa_cons (se_str) sa_nil)) (sa_cons (se_dict0) (sa_cons (se_tup (sa_cons (se_str) (sa_cons (se_non) sa_nil))) (sa_cons (se_tup (sa_cons (se_str) (sa_cons (se_mulA (se_str) (se_int)) sa_nil))) sa_nil))))))))) (sts_cons (st_set (i := 0) sc__law_odds_3ad58c.nd (se_add (se_var 0) (se_lst (sa_cons (se_tup (sa_cons (se_str) (sa_cons (se_str) (sa_cons (se_str) sa_nil)))) (sa_cons (se_tup (sa_cons (se_non) sa_nil)) (sa_cons (se_tup (sa_cons (se_int) (sa_cons (se_str) sa_nil))) sa_nil)))))) (sts_one (st_ret (se_add (se_var 0) (se_lst (sa_cons (se_tup (sa_cons (se_str) (sa_cons (se_str) sa_nil))) (sa_cons (se_tup (sa_cons (se_str) (sa_cons (se_tup (sa_cons (se_str) sa_nil)) sa_nil))) (sa_cons (se_tup (sa_cons (se_str) sa_nil)) (sa_cons (se_tup (sa_cons (se_str) (sa_cons (se_str) sa_nil))) sa_nil))))))))))
theorem fx__law_odds_3ad58c (g : Gx P w K mg base q) {f : Addr} {fd : FuncData} (F : Fun K "_law_odds" "_law_odds" s__law_odds_3ad58c f fd) (m : mg "_law_odds" = some (.ref f)) : Fx P w K mg base T "_law_odds" 2 0 (P__law_odds_3ad58c q) :=
  ⟨⟨f, fd, [], ok__law_odds_3ad58c g F, m, F.kp, F.binds fun _ _ _ _ _ _ us hl => match us, hl with | [], _ => rfl, rfl⟩⟩
/-! _law_lines -/
abbrev s__law_lines_dd0f9d : Stmt := top 24
theorem sc__law_lines_dd0f9d : FnScope ["_law_row", "_law_press_here"] ["_law_row"] (defScope s__law_lines_dd0f9d) := ⟨rfl, rfl, rfl, by decide +kernel, rfl, by decide +kernel, by decide +kernel⟩
theorem ok__law_lines_dd0f9d (g : Gx P w K mg base q) {f : Addr} {fd : FuncData} (F : Fun K "_law_lines" "_law_lines" s__law_lines_dd0f9d f fd) : FnG T.md P w K mg base 2 f fd ["_law_row"] (spD K T 1 (fnS 2 (m__law_lines_dd0f9d q))) :=
  fnD F sc__law_lines_dd0f9d fun cdv A outer s H E hr => sts_one (st_ret (se_bm PySem.F.plainAttrs_str PySem.F.slot_str_join PySem.F.type_str_join mt_join m_join (fun _ _ _ _ _ => chk_s) (se_str) (sa_cons (se_comp [("_law_press_here", 1)] sc__law_lines_dd0f9d.nd (si_val (se_var 0)) (blk_by (N := ["_law_row", "_law_press_here"]) (sc := defScope s__law_lines_dd0f9d) (by decide +kernel)) (fun s H C cl fp => sg_name sc__law_lines_dd0f9d.nd) (fun s H C cl fp => sp_nil) (fun s H C cl fp => se_add (se_ix (se_var 1) (se_int)) (se_if (sc_eq hr (se_ix (se_var 1) (se_int)) (se_str)) (se_add (se_str) (se_ix (se_var 1) (se_int))) (se_str)))) sa_nil)))
theorem fx__law_lines_dd0f9d (g : Gx P w K mg base q) {f : Addr} {fd : FuncData} (F : Fun K "_law_lines" "_law_lines" s__law_lines_dd0f9d f fd) (m : mg "_law_lines" = some (.ref f)) : Fx P w K mg base T "_law_lines" 2 1 (P__law_lines_dd0f9d q) :=
  ⟨⟨f, fd, ["_law_row"], ok__law_lines_dd0f9d g F, m, F.kp, F.binds fun _ _ _ _ _ _ us hl => match us, hl with | [_], _ => rfl, rfl⟩⟩
/-! _law_pick -/
abbrev s__law_pick : Stmt := top 19
theorem sc__law_pick : FnScope ["_law_draws_here", "_law_many", "_law_rest", "_law_seed", "_law_found"] ["_law_draws_here", "_law_many"] (defScope s__law_pick) := ⟨rfl, rfl, rfl, by decide +kernel, rfl, by decide +kernel, by decide +kernel⟩
theorem ok__law_pick (g : Gx P w K mg base q) {f : Addr} {fd : FuncData} (F : Fun K "_law_pick" "_law_pick" s__law_pick f fd) : FnG T.md P w K mg base 2 f fd ["_law_draws_here", "_law_many"] (spD K T 2 (fnS 5 (m__law_pick q))) :=
  fnD F sc__law_pick fun cdv A outer s H E hr => sts_cons (st_set (i := 2) sc__law_pick.nd (se_get hr (se_var 0) (se_str))) (sts_cons (st_while (sc_w (sw_and (sc_ne hr (se_var 2) (se_lst (sa_nil))) (sw_and1 (sc_eq hr (se_ix (se_var 2) (se_int)) (se_int))))) (sts_one (st_expr (se_bm PySem.F.plainAttrs_list PySem.F.slot_list_pop PySem.F.type_list_pop mt_popAt m_popAt (fun _ _ _ _ _ => chk_l) (se_var 2) (sa_cons (se_int) sa_nil))))) (sts_cons (st_if (sc_ne hr (se_var 2) (se_lst (sa_nil))) (sts_cons (st_set (i := 4) sc__law_pick.nd (se_mod (se_intc g.f_int (sa_cons (se_ix (se_var 2) (se_int)) sa_nil)) (se_var 1))) (sts_cons (st_lput (se_var 2) (se_int) (se_fdiv (se_ix (se_var 2) (se_int)) (se_var 1))) (sts_one (st_ret (se_var 4))))) (sts_nil)) (sts_cons (st_dput hr (se_var 0) (se_str) (se_add (se_get hr (se_var 0) (se_str)) (se_int))) (sts_cons (st_set (i := 3) sc__law_pick.nd (se_add (se_mul (se_get hr (se_var 0) (se_str)) (se_int)) (se_int))) (sts_cons (st_set (i := 3) sc__law_pick.nd (se_add (se_var 3) (se_mul (se_int) (se_get hr (se_var 0) (se_str))))) (sts_cons (st_dput hr (se_var 0) (se_str) (se_mod (se_intc g.f_int (sa_cons (se_var 3) sa_nil)) (se_int))) (sts_one (st_ret (se_mod (se_intc g.f_int (sa_cons (se_fdiv (se_get hr (se_var 0) (se_str)) (se_int)) sa_nil)) (se_var 1))))))))))
theorem fx__law_pick (g : Gx P w K mg base q) {f : Addr} {fd : FuncData} (F : Fun K "_law_pick" "_law_pick" s__law_pick f fd) (m : mg "_law_pick" = some (.ref f)) : Fx P w K mg base T "_law_pick" 2 2 (P__law_pick q) :=
  Fx.mdl ⟨⟨f, fd, ["_law_draws_here", "_law_many"], ok__law_pick g F, m, F.kp, F.binds fun _ _ _ _ _ _ us hl => match us, hl with | [_, _], _ => rfl, rfl⟩⟩ (md__law_pick q)
/-! _law_one -/
abbrev s__law_one : Stmt := top 20
theorem sc__law_one : FnScope ["_law_draws_here", "_law_some"] ["_law_draws_here", "_law_some"] (defScope s__law_one) := ⟨rfl, rfl, rfl, by decide +kernel, rfl, by decide +kernel, by decide +kernel⟩
theorem ok__law_one (g : Gx P w K mg base q) (c__law_pick : Fx P w K mg base T "_law_pick" 2 2 (P__law_pick q)) {f : Addr} {fd : FuncData} (F : Fun K "_law_one" "_law_one" s__law_one f fd) : FnG T.md P w K mg base 3 f fd ["_law_draws_here", "_law_some"] (spD K T 2 (fnS 2 (m__law_one q))) :=
  fnD F sc__law_one fun cdv A outer s H E hr => sts_one (st_ret (se_ix (se_var 1) (se_call c__law_pick hr (by decide) rfl (sa_cons (se_var 0) (sa_cons (se_len g.f_len (sa_cons (se_var 1) sa_nil)) sa_nil)))))
theorem fx__law_one (g : Gx P w K mg base q) (c__law_pick : Fx P w K mg base T "_law_pick" 2 2 (P__law_pick q)) {f : Addr} {fd : FuncData} (F : Fun K "_law_one" "_law_one" s__law_one f fd) (m : mg "_law_one" = some (.ref f)) : Fx P w K mg base T "_law_one" 3 2 (P__law_one q) :=
  Fx.mdl ⟨⟨f, fd, ["_law_draws_here", "_law_some"], ok__law_one g c__law_pick F, m, F.kp, F.binds fun _ _ _ _ _ _ us hl => match us, hl with | [_, _], _ => rfl, rfl⟩⟩ (md__law_one q)
/-! _law_bent_text -/
abbrev s__law_bent_text_e4fb99 : Stmt := top 31
theorem sc__law_bent_text_e4fb99 : FnScope ["_law_draws_here", "_law_text", "_law_sign", "_law_at", "_law_signs_here"] ["_law_draws_here", "_law_text"] (defScope s__law_bent_text_e4fb99) := ⟨rfl, rfl, rfl, by decide +kernel, rfl, by decide +kernel, by decide +kernel⟩
theorem ok__law_bent_text_e4fb99 (g : Gx P w K mg base q) (c__law_pick : Fx P w K mg base T "_law_pick" 2 2 (P__law_pick q)) (c__law_one : Fx P w K mg base T "_law_one" 3 2 (P__law_one q)) {f : Addr} {fd : FuncData} (F : Fun K "_law_bent_text" "_law_bent_text" s__law_bent_text_e4fb99 f fd) : FnG T.md P w K mg base 4 f fd ["_law_draws_here", "_law_text"] (spD K T 2 (fnS 5 (m__law_bent_text_e4fb99 q))) :=
  fnD F sc__law_bent_text_e4fb99 fun cdv A outer s H E hr => sts_cons (st_par (i := 3) (j := 4) sc__law_bent_text_e4fb99.nd (se_call c__law_pick hr (by decide) rfl (sa_cons (se_var 0) (sa_cons (se_add (se_len g.f_len (sa_cons (se_var 1) sa_nil)) (se_int)) sa_nil))) (se_lst (sa_cons (se_str) (sa_cons (se_str) (sa_cons (se_str) (sa_cons (se_str) (sa_cons (se_str) (sa_cons (se_str) (sa_cons (se_str) (sa_cons (se_str) sa_nil)))))))))) (sts_cons (st_set (i := 2) sc__law_bent_text_e4fb99.nd (se_call c__law_one hr (by decide) rfl (sa_cons (se_var 0) (sa_cons (se_var 4) sa_nil)))) (sts_one (st_ret (se_add (se_add (se_sl (se_var 1) so_none (so_some (se_var 3))) (se_ix (se_lst (sa_cons (se_str) (sa_cons (se_var 2) (sa_cons (se_var 2) sa_nil)))) (se_call c__law_pick hr (by decide) rfl (sa_cons (se_var 0) (sa_cons (se_int) sa_nil))))) (se_sl (se_var 1) (so_some (se_add (se_var 3) (se_call c__law_pick hr (by decide) rfl (sa_cons (se_var 0) (sa_cons (se_int) sa_nil))))) so_none)))))
theorem fx__law_bent_text_e4fb99 (g : Gx P w K mg base q) (c__law_pick : Fx P w K mg base T "_law_pick" 2 2 (P__law_pick q)) (c__law_one : Fx P w K mg base T "_law_one" 3 2 (P__law_one q)) {f : Addr} {fd : FuncData} (F : Fun K "_law_bent_text" "_law_bent_text" s__law_bent_text_e4fb99 f fd) (m : mg "_law_bent_text" = some (.ref f)) : Fx P w K mg base T "_law_bent_text" 4 2 (P__law_bent_text_e4fb99 q) :=
  Fx.mdl ⟨⟨f, fd, ["_law_draws_here", "_law_text"], ok__law_bent_text_e4fb99 g c__law_pick c__law_one F, m, F.kp, F.binds fun _ _ _ _ _ _ us hl => match us, hl with | [_, _], _ => rfl, rfl⟩⟩ (md__law_bent_text_e4fb99 q)
/-! _law_signs -/
abbrev s__law_signs_1caa5b : Stmt := top 21
theorem sc__law_signs_1caa5b : FnScope ["_law_figures", "_law_small"] [] (defScope s__law_signs_1caa5b) := ⟨rfl, rfl, rfl, by decide +kernel, rfl, by decide +kernel, by decide +kernel⟩
theorem ok__law_signs_1caa5b (g : Gx P w K mg base q) {f : Addr} {fd : FuncData} (F : Fun K "_law_signs" "_law_signs" s__law_signs_1caa5b f fd) : FnG T.md P w K mg base 2 f fd [] (spD K T 0 (fnS 2 (m__law_signs_1caa5b q))) :=
  fnD F sc__law_signs_1caa5b fun cdv A outer s H E hr => sts_cons (st_asg (se_tup (sa_cons (se_str) (sa_cons (se_str) sa_nil))) (sg_tup (sgs_cons sc__law_signs_1caa5b.nd (sgs_cons sc__law_signs_1caa5b.nd sgs_nil)))) (sts_one (st_ret (se_add (se_add (se_add (se_add (se_str) (se_var 0)) (se_str)) (se_var 1)) (se_str))))
theorem fx__law_signs_1caa5b (g : Gx P w K mg base q) {f : Addr} {fd : FuncData} (F : Fun K "_law_signs" "_law_signs" s__law_signs_1caa5b f fd) (m : mg "_law_signs" = some (.ref f)) : Fx P w K mg base T "_law_signs" 2 0 (P__law_signs_1caa5b q) :=
  ⟨⟨f, fd, [], ok__law_signs_1caa5b g F, m, F.kp, F.binds fun _ _ _ _ _ _ us hl => match us, hl with | [], _ => rfl, rfl⟩⟩
/-! _law_written -/
abbrev s__law_written_R33 : Stmt := top 22
theorem sc__law_written_R33 : FnScope ["_law_draws_here", "_law_many", "_law_signs_here", "_law_k"] ["_law_draws_here"] (defScope s__law_written_R33) := ⟨rfl, rfl, rfl, by decide +kernel, rfl, by decide +kernel, by decide +kernel⟩
theorem ok__law_written_R33 (g : Gx P w K mg base q) (c__law_one : Fx P w K mg base T "_law_one" 3 2 (P__law_one q)) (c__law_signs_1caa5b : Fx P w K mg base T "_law_signs" 2 0 (P__law_signs_1caa5b q)) (c__law_pick : Fx P w K mg base T "_law_pick" 2 2 (P__law_pick q)) {f : Addr} {fd : FuncData} (F : Fun K "_law_written" "_law_written" s__law_written_R33 f fd) : FnG T.md P w K mg base 4 f fd ["_law_draws_here"] (spD K T 1 (fnS 4 (m__law_written_R33 q))) :=
  fnD F sc__law_written_R33 fun cdv A outer s H E hr => sts_cons (st_set (i := 1) sc__law_written_R33.nd (se_add (se_int) (se_call c__law_pick hr (by decide) rfl (sa_cons (se_var 0) (sa_cons (se_ix (se_lst (sa_cons (se_int) (sa_cons (se_int) (sa_cons (se_int) (sa_cons (se_int) sa_nil))))) (se_call c__law_pick hr (by decide) rfl (sa_cons (se_var 0) (sa_cons (se_int) sa_nil)))) sa_nil))))) (sts_cons (st_set (i := 2) sc__law_written_R33.nd (se_ix (se_lst (sa_cons (se_str) (sa_cons (se_str) (sa_cons (se_add (se_call0 c__law_signs_1caa5b hr (by decide) rfl) (se_str)) sa_nil)))) (se_call c__law_pick hr (by decide) rfl (sa_cons (se_var 0) (sa_cons (se_int) sa_nil))))) (sts_one (st_ret (se_bm PySem.F.plainAttrs_str PySem.F.slot_str_join PySem.F.type_str_join mt_join m_join (fun _ _ _ _ _ => chk_s) (se_str) (sa_cons (se_comp [("_law_k", 3)] sc__law_written_R33.nd (si_range g.f_range (se_var 1)) (blk_by (N := ["_law_draws_here", "_law_many", "_law_signs_here", "_law_k"]) (sc := defScope s__law_written_R33) (by decide +kernel)) (fun s H C cl fp => sg_name sc__law_written_R33.nd) (fun s H C cl fp => sp_nil) (fun s H C cl fp => se_call c__law_one hr (by decide) rfl (sa_cons (se_var 0) (sa_cons (se_var 2) sa_nil)))) sa_nil)))))
theorem fx__law_written_R33 (g : Gx P w K mg base q) (c__law_one : Fx P w K mg base T "_law_one" 3 2 (P__law_one q)) (c__law_signs_1caa5b : Fx P w K mg base T "_law_signs" 2 0 (P__law_signs_1caa5b q)) (c__law_pick : Fx P w K mg base T "_law_pick" 2 2 (P__law_pick q)) {f : Addr} {fd : FuncData} (F : Fun K "_law_written" "_law_written" s__law_written_R33 f fd) (m : mg "_law_written" = some (.ref f)) : Fx P w K mg base T "_law_written" 4 1 (P__law_written_R33 q) :=
  Fx.mdl ⟨⟨f, fd, ["_law_draws_here"], ok__law_written_R33 g c__law_one c__law_signs_1caa5b c__law_pick F, m, F.kp, F.binds fun _ _ _ _ _ _ us hl => match us, hl with | [_], _ => rfl, rfl⟩⟩ (md__law_written_R33 q)
/-! _law_press -/
abbrev s__law_press : Stmt := top 23
theorem sc__law_press : FnScope ["_law_draws_here", "_law_word"] ["_law_draws_here"] (defScope s__law_press) := ⟨rfl, rfl, rfl, by decide +kernel, rfl, by decide +kernel, by decide +kernel⟩
theorem ok__law_press (g : Gx P w K mg base q) (c__law_written_R33 : Fx P w K mg base T "_law_written" 4 1 (P__law_written_R33 q)) (c__law_one : Fx P w K mg base T "_law_one" 3 2 (P__law_one q)) {f : Addr} {fd : FuncData} (F : Fun K "_law_press" "_law_press" s__law_press f fd) : FnG T.md P w K mg base 5 f fd ["_law_draws_here"] (spD K T 1 (fnS 2 (m__law_press q))) :=
  fnD F sc__law_press fun cdv A outer s H E hr => sts_cons (st_set (i := 1) sc__law_press.nd (se_call c__law_one hr (by decide) rfl (sa_cons (se_var 0) (sa_cons (se_lst (sa_cons (se_str) (sa_cons (se_str) (sa_cons (se_str) (sa_cons (se_str) (sa_cons (se_str) (sa_cons (se_str) (sa_cons (se_str) sa_nil)))))))) sa_nil)))) (sts_one (st_ret (se_if (sc_eq hr (se_var 1) (se_str)) (se_tup (sa_cons (se_str) (sa_cons (se_call c__law_written_R33 hr (by decide) rfl (sa_cons (se_var 0) sa_nil)) sa_nil))) (se_tup (sa_cons (se_var 1) sa_nil)))))
theorem fx__law_press (g : Gx P w K mg base q) (c__law_written_R33 : Fx P w K mg base T "_law_written" 4 1 (P__law_written_R33 q)) (c__law_one : Fx P w K mg base T "_law_one" 3 2 (P__law_one q)) {f : Addr} {fd : FuncData} (F : Fun K "_law_press" "_law_press" s__law_press f fd) (m : mg "_law_press" = some (.ref f)) : Fx P w K mg base T "_law_press" 5 1 (P__law_press q) :=
  Fx.mdl ⟨⟨f, fd, ["_law_draws_here"], ok__law_press g c__law_written_R33 c__law_one F, m, F.kp, F.binds fun _ _ _ _ _ _ us hl => match us, hl with | [_], _ => rfl, rfl⟩⟩ (md__law_press q)
/-! _law_is_press -/
abbrev s__law_is_press_e02fb6 : Stmt := top 27
theorem sc__law_is_press_e02fb6 : FnScope ["_law_thing"] ["_law_thing"] (defScope s__law_is_press_e02fb6) := ⟨rfl, rfl, rfl, by decide +kernel, rfl, by decide +kernel, by decide +kernel⟩
theorem ok__law_is_press_e02fb6 (g : Gx P w K mg base q) {f : Addr} {fd : FuncData} (F : Fun K "_law_is_press" "_law_is_press" s__law_is_press_e02fb6 f fd) : FnG T.md P w K mg base 2 f fd ["_law_thing"] (spD K T 1 (fnS 1 (m__law_is_press_e02fb6 q))) :=
  fnD F sc__law_is_press_e02fb6 fun cdv A outer s H E hr => sts_cons (st_if (sc_w (sw_or (sc_not (sc_val (se_isi g.f_isinstance (sa_cons (se_var 0) (sa_cons (se_tyn g.f_tuple (by decide +kernel)) sa_nil))))) (sw_or (sc_eqA hr (se_var 0) (se_tup (sa_nil))) (sw_or1 (sc_not (sc_val (se_isi g.f_isinstance (sa_cons (se_ix (se_var 0) (se_int)) (sa_cons (se_tyn g.f_str (by decide +kernel)) sa_nil))))))))) (sts_one (st_ret (se_bl))) (sts_nil)) (sts_cons (st_if (sc_eq hr (se_len g.f_len (sa_cons (se_var 0) sa_nil)) (se_int)) (sts_one (st_ret (se_in (se_ix (se_var 0) (se_int)) (se_tup (sa_cons (se_str) (sa_cons (se_str) (sa_cons (se_str) (sa_cons (se_str) sa_nil)))))))) (sts_nil)) (sts_cons (st_if (sc_w (sw_or (sc_ne hr (se_len g.f_len (sa_cons (se_var 0) sa_nil)) (se_int)) (sw_or (sc_ne hr (se_ix (se_var 0) (se_int)) (se_str)) (sw_or1 (sc_not (sc_val (se_isi g.f_isinstance (sa_cons (se_ix (se_var 0) (se_int)) (sa_cons (se_tyn g.f_str (by decide +kernel)) sa_nil))))))))) (sts_one (st_ret (se_bl))) (sts_nil)) (sts_one (st_ret (se_and (se_lele (se_int) (se_len g.f_len (sa_cons (se_ix (se_var 0) (se_int)) sa_nil)) (se_int)) (se_one (se_notIn (se_str) (se_ix (se_var 0) (se_int)))))))))
theorem fx__law_is_press_e02fb6 (g : Gx P w K mg base q) {f : Addr} {fd : FuncData} (F : Fun K "_law_is_press" "_law_is_press" s__law_is_press_e02fb6 f fd) (m : mg "_law_is_press" = some (.ref f)) : Fx P w K mg base T "_law_is_press" 2 1 (P__law_is_press_e02fb6 q) :=
  ⟨⟨f, fd, ["_law_thing"], ok__law_is_press_e02fb6 g F, m, F.kp, F.binds fun _ _ _ _ _ _ us hl => match us, hl with | [_], _ => rfl, rfl⟩⟩
/-! _law_want -/
abbrev s__law_want_d7aeca : Stmt := top 28
theorem sc__law_want_d7aeca : FnScope ["_law_thing", "_law_wrong", "_law_at", "_law_press_here"] ["_law_thing"] (defScope s__law_want_d7aeca) := ⟨rfl, rfl, rfl, by decide +kernel, rfl, by decide +kernel, by decide +kernel⟩
theorem ok__law_want_d7aeca (g : Gx P w K mg base q) (c__law_lines_dd0f9d : Fx P w K mg base T "_law_lines" 2 1 (P__law_lines_dd0f9d q)) (c__law_is_press_e02fb6 : Fx P w K mg base T "_law_is_press" 2 1 (P__law_is_press_e02fb6 q)) {f : Addr} {fd : FuncData} (F : Fun K "_law_want" "_law_want" s__law_want_d7aeca f fd) : FnG T.md P w K mg base 3 f fd ["_law_thing"] (spD K T 1 (fnS 4 (m__law_want_d7aeca q))) :=
  fnD F sc__law_want_d7aeca fun cdv A outer s H E hr => sts_cons (st_if (sc_not (sc_val (se_isi g.f_isinstance (sa_cons (se_var 0) (sa_cons (se_tyn g.f_tuple (by decide +kernel)) sa_nil))))) (sts_one (st_ret (se_lst (sa_cons (se_str) (sa_cons (se_non) sa_nil))))) (sts_nil)) (sts_cons (st_setComp (i := 1) [("_law_at", 2), ("_law_press_here", 3)] sc__law_want_d7aeca.nd rfl (si_enum g.f_enumerate (se_var 0)) (blk_by (N := ["_law_thing", "_law_wrong", "_law_at", "_law_press_here"]) (sc := defScope s__law_want_d7aeca) (by decide +kernel)) (fun s H C cl fp => sg_tup (sgs_cons sc__law_want_d7aeca.nd (sgs_cons sc__law_want_d7aeca.nd sgs_nil))) (fun s H C cl fp => sp_one (sc_not (sc_val (se_call c__law_is_press_e02fb6 hr (by decide) rfl (sa_cons (se_var 3) sa_nil))))) (fun s H C cl fp => se_var 2)) (sts_one (st_ret (se_if (sc_neA hr (se_var 1) (se_lst (sa_nil))) (se_lst (sa_cons (se_str) (sa_cons (se_ix (se_var 1) (se_int)) sa_nil))) (se_lst (sa_cons (se_str) (sa_cons (se_call c__law_lines_dd0f9d hr (by decide) rfl (sa_cons (se_var 0) sa_nil)) sa_nil)))))))
theorem fx__law_want_d7aeca (g : Gx P w K mg base q) (c__law_lines_dd0f9d : Fx P w K mg base T "_law_lines" 2 1 (P__law_lines_dd0f9d q)) (c__law_is_press_e02fb6 : Fx P w K mg base T "_law_is_press" 2 1 (P__law_is_press_e02fb6 q)) {f : Addr} {fd : FuncData} (F : Fun K "_law_want" "_law_want" s__law_want_d7aeca f fd) (m : mg "_law_want" = some (.ref f)) : Fx P w K mg base T "_law_want" 3 1 (P__law_want_d7aeca q) :=
  ⟨⟨f, fd, ["_law_thing"], ok__law_want_d7aeca g c__law_lines_dd0f9d c__law_is_press_e02fb6 F, m, F.kp, F.binds fun _ _ _ _ _ _ us hl => match us, hl with | [_], _ => rfl, rfl⟩⟩
/-! _law_told -/
abbrev s__law_told_1a87f6 : Stmt := top 26
theorem sc__law_told_1a87f6 : FnScope ["_law_call", "e", "_law_kinds", "_law_found", "_law_caught"] ["_law_call"] (defScope s__law_told_1a87f6) := ⟨rfl, rfl, rfl, by decide +kernel, rfl, by decide +kernel, by decide +kernel⟩
theorem b__law_told_1a87f6 (g : Gx P w K mg base q) {gq : Addr} (T2 : Tb) (cdv : Value) (A : Around) (outer : List PySem.Env) (s : Shared) (H : Hp) (E : XK) (f : Addr) (cl : Mu → Ro) (ht : T2.tb = T.tb) (hmd : T2.md = .a) (hr : Room 1 (A.deeper (envOfC "_law_told" (defScope s__law_told_1a87f6) s.heap.objs.size gq cdv)))
    (act : ∀ (pn : List (Addr × Obj)) (xe : Value → Shared → Prop) (p1 p2 : Pos), SE T2 ((cxOf (L2.CX P w) P w K mg base ["_law_call", "e", "_law_kinds", "_law_found", "_law_caught"] "_law_told" (defScope s__law_told_1a87f6) gq cdv A outer s H E).tr pn xe) (.Call (.Name "_law_call" p1) [] [] p2) (eAct f cl)) :
    STs T2 (cxOf (L2.CX P w) P w K mg base ["_law_call", "e", "_law_kinds", "_law_found", "_law_caught"] "_law_told" (defScope s__law_told_1a87f6) gq cdv A outer s H E) (defBody s__law_told_1a87f6) (m__law_told_1a87f6 q f cl) :=
  sts_cons (st_asg (se_tup (sa_cons (se_non) (sa_cons (se_non) sa_nil))) (sg_tup (sgs_cons sc__law_told_1a87f6.nd (sgs_cons sc__law_told_1a87f6.nd sgs_nil)))) (sts_cons (st_tryK hmd rfl rfl sc__law_told_1a87f6.nd (i := 1) (j := 4) rfl rfl rfl rfl (by decide) (tst_name ⟨rfl, by decide, .inl g.m_SnippetError⟩ g.t_SnippetError) (fun pn xe => sts_one (st_set (i := 3) sc__law_told_1a87f6.nd (act pn xe _ _)))) (sts_cons (st_if (sc_isN (se_var 4)) (sts_one (st_ret (se_lst (sa_cons (se_str) (sa_cons (se_var 3) sa_nil))))) (sts_nil)) (sts_cons (st_set (i := 2) sc__law_told_1a87f6.nd (se_lst (sa_cons (se_isX g.i_BadText g.f_isinstance (sa_cons (se_var 4) (sa_cons (se_glob (v := .ref q.cBadText) rfl g.m_BadText rfl (fun _ _ => rp_adr.mpr rfl)) sa_nil))) (sa_cons (se_isX g.i_BadRow g.f_isinstance (sa_cons (se_var 4) (sa_cons (se_glob (v := .ref q.cBadRow) rfl g.m_BadRow rfl (fun _ _ => rp_adr.mpr rfl)) sa_nil))) sa_nil)))) (sts_cons (st_if (sc_w (sw_or (sc_ne hr (se_bm PySem.F.plainAttrs_list PySem.F.slot_list_count PySem.F.type_list_count DLX.mt_lcountB m_count (fun _ _ _ _ _ => chk_l) (se_var 2) (sa_cons (se_bl) sa_nil)) (se_int)) (sw_or1 (sc_val (se_isXT (cs := [q.cBadPress, q.cBadSnippet, q.cBadState]) g.iT_BadPress_BadSnippet_BadState (by show 3 ≤ 16777216; decide) g.f_isinstance (se_var 4) (sa_cons (se_glob (v := .ref q.cBadPress) rfl g.m_BadPress rfl (fun _ _ => rp_adr.mpr rfl)) (sa_cons (se_glob (v := .ref q.cBadSnippet) rfl g.m_BadSnippet rfl (fun _ _ => rp_adr.mpr rfl)) (sa_cons (se_glob (v := .ref q.cBadState) rfl g.m_BadState rfl (fun _ _ => rp_adr.mpr rfl)) sa_nil)))))))) (sts_one (st_ret (se_lst (sa_cons (se_str) sa_nil)))) (sts_nil)) (sts_one (st_ret (se_lst (sa_cons (se_if (sc_val (se_ix (se_var 2) (se_int))) (se_str) (se_str)) (sa_cons (se_excGet g.x_place (se_var 4)) sa_nil)))))))))
/-! is_text -/
abbrev s_is_text : Stmt := top 10
theorem sc_is_text : FnScope ["thing"] ["thing"] (defScope s_is_text) := ⟨rfl, rfl, rfl, by decide +kernel, rfl, by decide +kernel, by decide +kernel⟩
theorem ok_is_text (g : Gx P w K mg base q) {f : Addr} {fd : FuncData} (F : Fun K "is_text" "is_text" s_is_text f fd) : FnG T.md P w K mg base 2 f fd ["thing"] (spD K T 1 (fnS 1 (m_is_text q))) :=
  fnD F sc_is_text fun cdv A outer s H E hr => sts_one (st_ret (se_and (se_isi g.f_isinstance (sa_cons (se_var 0) (sa_cons (se_tyn g.f_str (by decide +kernel)) sa_nil))) (se_and (se_lele (se_int) (se_len g.f_len (sa_cons (se_var 0) sa_nil)) (se_globI rfl g.mI_MOST_TEXT)) (se_one (se_notIn (se_str) (se_var 0))))))
theorem fx_is_text (g : Gx P w K mg base q) {f : Addr} {fd : FuncData} (F : Fun K "is_text" "is_text" s_is_text f fd) (m : mg "is_text" = some (.ref f)) : Fx P w K mg base T "is_text" 2 1 (P_is_text q) :=
  ⟨⟨f, fd, ["thing"], ok_is_text g F, m, F.kp, F.binds fun _ _ _ _ _ _ us hl => match us, hl with | [_], _ => rfl, rfl⟩⟩
/-! need_press -/
abbrev s_need_press : Stmt := top 11
theorem sc_need_press : FnScope ["thing"] ["thing"] (defScope s_need_press) := ⟨rfl, rfl, rfl, by decide +kernel, rfl, by decide +kernel, by decide +kernel⟩
theorem ok_need_press (g : Gx P w K mg base q) (c_is_text : Fx P w K mg base T "is_text" 2 1 (P_is_text q)) {f : Addr} {fd : FuncData} (F : Fun K "need_press" "need_press" s_need_press f fd) : FnG T.md P w K mg base 3 f fd ["thing"] (spD K T 1 (fnS 1 (m_need_press q))) :=
  fnD F sc_need_press fun cdv A outer s H E hr => sts_cons (st_if (sc_w (sw_or (sc_not (sc_val (se_isi g.f_isinstance (sa_cons (se_var 0) (sa_cons (se_tyn g.f_tuple (by decide +kernel)) sa_nil))))) (sw_or (sc_eqA hr (se_var 0) (se_tup (sa_nil))) (sw_or (sc_not (sc_val (se_isi g.f_isinstance (sa_cons (se_ix (se_var 0) (se_int)) (sa_cons (se_tyn g.f_str (by decide +kernel)) sa_nil))))) (sw_or1 (sc_notIn (se_ix (se_var 0) (se_int)) ((let ⟨a, ha, hr⟩ := g.mT_PRESS_WORDS; se_glob (v := .ref a) rfl ha rfl hr)))))))) (sts_one (st_raise g.k_BadPress hr (by decide) rfl rfl (sa_cons (se_var 0) sa_nil))) (sts_nil)) (sts_cons (st_if (sc_w (sw_or (sc_ne hr (se_len g.f_len (sa_cons (se_var 0) sa_nil)) (se_add (se_int) (se_intc g.f_int (sa_cons (se_eq hr (se_ix (se_var 0) (se_int)) (se_str)) sa_nil)))) (sw_or1 (sc_w (sw_and (sc_eq hr (se_ix (se_var 0) (se_int)) (se_str)) (sw_and1 (sc_not (sc_val (se_call c_is_text hr (by decide) rfl (sa_cons (se_ix (se_var 0) (se_int)) sa_nil)))))))))) (sts_one (st_raise g.k_BadPress hr (by decide) rfl rfl (sa_cons (se_var 0) sa_nil))) (sts_nil)) (sts_one (st_ret (se_var 0))))
theorem fx_need_press (g : Gx P w K mg base q) (c_is_text : Fx P w K mg base T "is_text" 2 1 (P_is_text q)) {f : Addr} {fd : FuncData} (F : Fun K "need_press" "need_press" s_need_press f fd) (m : mg "need_press" = some (.ref f)) : Fx P w K mg base T "need_press" 3 1 (P_need_press q) :=
  ⟨⟨f, fd, ["thing"], ok_need_press g c_is_text F, m, F.kp, F.binds fun _ _ _ _ _ _ us hl => match us, hl with | [_], _ => rfl, rfl⟩⟩
/-! need_row -/
abbrev s_need_row : Stmt := top 12
theorem sc_need_row : FnScope ["thing", "at", "press", "error"] ["thing"] (defScope s_need_row) := ⟨rfl, rfl, rfl, by decide +kernel, rfl, by decide +kernel, by decide +kernel⟩
theorem ok_need_row (g : Gx P w K mg base q) (hmd : T.md = .a) (n_need_press : Fx P w K mg base T.n "need_press" 3 1 (P_need_press q)) {f : Addr} {fd : FuncData} (F : Fun K "need_row" "need_row" s_need_row f fd) : FnG T.md P w K mg base 4 f fd ["thing"] (spD K T 1 (fnS 4 (m_need_row q))) :=
  fnD F sc_need_row fun cdv A outer s H E hr => sts_cons (st_if (sc_not (sc_val (se_isi g.f_isinstance (sa_cons (se_var 0) (sa_cons (se_tyn g.f_tuple (by decide +kernel)) sa_nil))))) (sts_one (st_raise g.k_BadRow hr (by decide) rfl rfl (sa_cons (se_non) sa_nil))) (sts_nil)) (sts_cons (st_for (si_enum g.f_enumerate (se_var 0)) (sg_tup (sgs_cons sc_need_row.nd (sgs_cons sc_need_row.nd sgs_nil))) (sts_one (st_tryF hmd rfl rfl sc_need_row.nd (i := 3) (k := 1) rfl rfl rfl (.inl rfl) (by decide) (tst_name ⟨rfl, by decide, .inl g.m_BadPress⟩ g.t_BadPress) g.hr_BadPress g.kh_BadRow hr (by decide) rfl (fun pn xe => sts_one (st_expr (se_call n_need_press hr (by decide) rfl (sa_cons (se_var 2) sa_nil))))))) (sts_one (st_ret (se_var 0))))
theorem fx_need_row (g : Gx P w K mg base q) (hmd : T.md = .a) (n_need_press : Fx P w K mg base T.n "need_press" 3 1 (P_need_press q)) {f : Addr} {fd : FuncData} (F : Fun K "need_row" "need_row" s_need_row f fd) (m : mg "need_row" = some (.ref f)) : Fx P w K mg base T "need_row" 4 1 (P_need_row q) :=
  ⟨⟨f, fd, ["thing"], ok_need_row g hmd n_need_press F, m, F.kp, F.binds fun _ _ _ _ _ _ us hl => match us, hl with | [_], _ => rfl, rfl⟩⟩
/-! row_text -/
abbrev s_row_text : Stmt := top 14
theorem sc_row_text : FnScope ["row", "press"] ["row"] (defScope s_row_text) := ⟨rfl, rfl, rfl, by decide +kernel, rfl, by decide +kernel, by decide +kernel⟩
theorem ok_row_text (g : Gx P w K mg base q) (c_need_row : Fx P w K mg base T "need_row" 4 1 (P_need_row q)) {f : Addr} {fd : FuncData} (F : Fun K "row_text" "row_text" s_row_text f fd) : FnG T.md P w K mg base 5 f fd ["row"] (spD K T 1 (fnS 2 (m_row_text q))) :=
  fnD F sc_row_text fun cdv A outer s H E hr => sts_one (st_ret (se_bm PySem.F.plainAttrs_str PySem.F.slot_str_join PySem.F.type_str_join mt_join m_join (fun _ _ _ _ _ => chk_s) (se_str) (sa_cons (se_comp [("press", 1)] sc_row_text.nd (si_val (se_call c_need_row hr (by decide) rfl (sa_cons (se_var 0) sa_nil))) (blk_by (N := ["row", "press"]) (sc := defScope s_row_text) (by decide +kernel)) (fun s H C cl fp => sg_name sc_row_text.nd) (fun s H C cl fp => sp_nil) (fun s H C cl fp => se_bm PySem.F.plainAttrs_str PySem.F.slot_str_join PySem.F.type_str_join mt_join m_join (fun _ _ _ _ _ => chk_s) (se_str) (sa_cons (se_listA g.f_list (se_var 1)) sa_nil))) sa_nil)))
theorem fx_row_text (g : Gx P w K mg base q) (c_need_row : Fx P w K mg base T "need_row" 4 1 (P_need_row q)) {f : Addr} {fd : FuncData} (F : Fun K "row_text" "row_text" s_row_text f fd) (m : mg "row_text" = some (.ref f)) : Fx P w K mg base T "row_text" 5 1 (P_row_text q) :=
  ⟨⟨f, fd, ["row"], ok_row_text g c_need_row F, m, F.kp, F.binds fun _ _ _ _ _ _ us hl => match us, hl with | [_], _ => rfl, rfl⟩⟩
/-! press_of -/
abbrev s_press_of : Stmt := top 15
theorem sc_press_of : FnScope ["line"] ["line"] (defScope s_press_of) := ⟨rfl, rfl, rfl, by decide +kernel, rfl, by decide +kernel, by decide +kernel⟩
theorem ok_press_of (g : Gx P w K mg base q) {f : Addr} {fd : FuncData} (F : Fun K "press_of" "press_of" s_press_of f fd) : FnG T.md P w K mg base 2 f fd ["line"] (spD K T 1 (fnS 1 (m_press_of q))) :=
  fnD F sc_press_of fun cdv A outer s H E hr => sts_one (st_ret (se_if (sc_eq hr (se_sl (se_var 0) so_none (so_some (se_int))) (se_str)) (se_tup (sa_cons (se_str) (sa_cons (se_sl (se_var 0) (so_some (se_int)) so_none) sa_nil))) (se_tup (sa_cons (se_var 0) sa_nil))))
theorem fx_press_of (g : Gx P w K mg base q) {f : Addr} {fd : FuncData} (F : Fun K "press_of" "press_of" s_press_of f fd) (m : mg "press_of" = some (.ref f)) : Fx P w K mg base T "press_of" 2 1 (P_press_of q) :=
  ⟨⟨f, fd, ["line"], ok_press_of g F, m, F.kp, F.binds fun _ _ _ _ _ _ us hl => match us, hl with | [_], _ => rfl, rfl⟩⟩
/-! read_row -/
abbrev s_read_row : Stmt := top 16
theorem sc_read_row : FnScope ["text", "found", "at", "line", "error"] ["text"] (defScope s_read_row) := ⟨rfl, rfl, rfl, by decide +kernel, rfl, by decide +kernel, by decide +kernel⟩
theorem ok_read_row (g : Gx P w K mg base q) (hmd : T.md = .a) (n_need_press : Fx P w K mg base T.n "need_press" 3 1 (P_need_press q)) (n_press_of : Fx P w K mg base T.n "press_of" 2 1 (P_press_of q)) {f : Addr} {fd : FuncData} (F : Fun K "read_row" "read_row" s_read_row f fd) : FnG T.md P w K mg base 4 f fd ["text"] (spD K T 1 (fnS 5 (m_read_row q))) :=
  fnD F sc_read_row fun cdv A outer s H E hr => sts_cons (st_if (sc_not (sc_val (se_isi g.f_isinstance (sa_cons (se_var 0) (sa_cons (se_tyn g.f_str (by decide +kernel)) sa_nil))))) (sts_one (st_raise g.k_BadText hr (by decide) rfl rfl (sa_cons (se_neg (se_int)) sa_nil))) (sts_nil)) (sts_cons (st_set (i := 1) sc_read_row.nd (se_lst (sa_nil))) (sts_cons (st_for (si_enum g.f_enumerate (se_if (sc_ne hr (se_var 0) (se_str)) (se_bm PySem.F.plainAttrs_str PySem.F.slot_str_split PySem.F.type_str_split mt_split m_split (fun _ _ _ _ _ => chk_s) (se_var 0) (sa_cons (se_str) sa_nil)) (se_lst (sa_nil)))) (sg_tup (sgs_cons sc_read_row.nd (sgs_cons sc_read_row.nd sgs_nil))) (sts_one (st_tryF hmd rfl rfl sc_read_row.nd (i := 4) (k := 2) rfl rfl rfl (.inl rfl) (by decide) (tst_name ⟨rfl, by decide, .inl g.m_BadPress⟩ g.t_BadPress) g.hr_BadPress g.kh_BadText hr (by decide) rfl (fun pn xe => sts_one (st_expr (se_bm PySem.F.plainAttrs_list PySem.F.slot_list_append PySem.F.type_list_append mt_append m_append (fun _ _ _ _ _ => chk_l) (se_var 1) (sa_cons (se_call n_need_press hr (by decide) rfl (sa_cons (se_call n_press_of hr (by decide) rfl (sa_cons (se_var 3) sa_nil)) sa_nil)) sa_nil))))))) (sts_one (st_ret (se_tuplec g.f_tuple (se_var 1))))))
theorem fx_read_row (g : Gx P w K mg base q) (hmd : T.md = .a) (n_need_press : Fx P w K mg base T.n "need_press" 3 1 (P_need_press q)) (n_press_of : Fx P w K mg base T.n "press_of" 2 1 (P_press_of q)) {f : Addr} {fd : FuncData} (F : Fun K "read_row" "read_row" s_read_row f fd) (m : mg "read_row" = some (.ref f)) : Fx P w K mg base T "read_row" 4 1 (P_read_row q) :=
  ⟨⟨f, fd, ["text"], ok_read_row g hmd n_need_press n_press_of F, m, F.kp, F.binds fun _ _ _ _ _ _ us hl => match us, hl with | [_], _ => rfl, rfl⟩⟩
/-! _law_right -/
abbrev s__law_right_aa9dc6 : Stmt := top 29
theorem sc__law_right_aa9dc6 : FnScope ["_law_thing", "_law_turn", "_law_want_here", "_law_kept", "_law_told_here"] ["_law_thing"] (defScope s__law_right_aa9dc6) := ⟨rfl, rfl, rfl, by decide +kernel, rfl, by decide +kernel, by decide +kernel⟩
abbrev s__law_read_right : Stmt := top 30
abbrev s_law_7c04c7 : Stmt := top 34
def tb_L (tA0 tA1 tA2 : Addr) : List (Addr × Str) := [(tA0, (envOfC "_law_right" (defScope s__law_right_aa9dc6) 0 0 .none).qual ++ "<lambda>"), (tA1, (envOfC "_law_read_right" (defScope s__law_read_right) 0 0 .none).qual ++ "<lambda>"), (tA2, (envOfC "law" (defScope s_law_7c04c7) 0 0 .none).qual ++ "<lambda>")]
abbrev T_L (tA0 tA1 tA2 : Addr) : Tb := ⟨tb_L tA0 tA1 tA2, [], .a⟩
theorem mT__law_right_aa9dc6 {tA0 tA1 tA2 : Addr} : (tA0, (envOfC "_law_right" (defScope s__law_right_aa9dc6) 0 0 .none).qual ++ "<lambda>") ∈ tb_L tA0 tA1 tA2 := by unfold tb_L; simp
theorem uT__law_right_aa9dc6 {tA0 tA1 tA2 : Addr} (hd : [tA0, tA1, tA2].Nodup) : ∀ p ∈ tb_L tA0 tA1 tA2, p.1 = tA0 → p.2 = (envOfC "_law_right" (defScope s__law_right_aa9dc6) 0 0 .none).qual ++ "<lambda>" := by
  simp only [List.nodup_cons, List.mem_cons, List.not_mem_nil, or_false, not_or, not_false_eq_true, List.nodup_nil, and_true] at hd
  intro p hp e
  simp only [tb_L, List.mem_cons, List.not_mem_nil, or_false] at hp
  rcases hp with rfl | rfl | rfl
  · rfl
  · simp_all
  · simp_all
theorem mT__law_read_right {tA0 tA1 tA2 : Addr} : (tA1, (envOfC "_law_read_right" (defScope s__law_read_right) 0 0 .none).qual ++ "<lambda>") ∈ tb_L tA0 tA1 tA2 := by unfold tb_L; simp
theorem uT__law_read_right {tA0 tA1 tA2 : Addr} (hd : [tA0, tA1, tA2].Nodup) : ∀ p ∈ tb_L tA0 tA1 tA2, p.1 = tA1 → p.2 = (envOfC "_law_read_right" (defScope s__law_read_right) 0 0 .none).qual ++ "<lambda>" := by
  simp only [List.nodup_cons, List.mem_cons, List.not_mem_nil, or_false, not_or, not_false_eq_true, List.nodup_nil, and_true] at hd
  intro p hp e
  simp only [tb_L, List.mem_cons, List.not_mem_nil, or_false] at hp
  rcases hp with rfl | rfl | rfl
  · simp_all
  · rfl
  · simp_all
theorem mT_law_7c04c7 {tA0 tA1 tA2 : Addr} : (tA2, (envOfC "law" (defScope s_law_7c04c7) 0 0 .none).qual ++ "<lambda>") ∈ tb_L tA0 tA1 tA2 := by unfold tb_L; simp
theorem uT_law_7c04c7 {tA0 tA1 tA2 : Addr} (hd : [tA0, tA1, tA2].Nodup) : ∀ p ∈ tb_L tA0 tA1 tA2, p.1 = tA2 → p.2 = (envOfC "law" (defScope s_law_7c04c7) 0 0 .none).qual ++ "<lambda>" := by
  simp only [List.nodup_cons, List.mem_cons, List.not_mem_nil, or_false, not_or, not_false_eq_true, List.nodup_nil, and_true] at hd
  intro p hp e
  simp only [tb_L, List.mem_cons, List.not_mem_nil, or_false] at hp
  rcases hp with rfl | rfl | rfl
  · simp_all
  · simp_all
  · rfl
theorem ok__law_right_aa9dc6 {tA0 tA1 tA2 cA : Addr} (hd : [tA0, tA1, tA2].Nodup) (g : Gx P w K mg base q) (c_read_row : Fx P w K mg base (T_L tA0 tA1 tA2) "read_row" 4 1 (P_read_row q)) (c_row_text : Fx P w K mg base (T_L tA0 tA1 tA2) "row_text" 5 1 (P_row_text q)) (c__law_want_d7aeca : Fx P w K mg base (T_L tA0 tA1 tA2) "_law_want" 3 1 (P__law_want_d7aeca q)) {f__law_told_1a87f6 : Addr} {fd__law_told_1a87f6 : FuncData} (lm__law_told_1a87f6 : mg "_law_told" = some (.ref f__law_told_1a87f6)) (lf__law_told_1a87f6 : Fun K "_law_told" "_law_told" s__law_told_1a87f6 f__law_told_1a87f6 fd__law_told_1a87f6) {f : Addr} {fd : FuncData} (F : Fun K "_law_right" "_law_right" s__law_right_aa9dc6 f fd) (hc : fd.code = .ref cA) (TB : LamX.TabB base mg cA tA0) : FnG .a P w K mg base 8 f fd ["_law_thing"] (spD K (T_L tA0 tA1 tA2) 1 (fnS 5 (m__law_right_aa9dc6 q))) :=
  have hmd : (T_L tA0 tA1 tA2).md = .a := rfl
  fnDc (T := T_L tA0 tA1 tA2) F hc sc__law_right_aa9dc6 fun A outer s H E hr => sts_cons (st_par (i := 2) (j := 3) sc__law_right_aa9dc6.nd (se_call c__law_want_d7aeca hr (by decide) rfl (sa_cons (se_var 0) sa_nil)) (se_reprG hr g.f_repr (sa_cons (se_var 0) sa_nil))) (sts_cons (st_for (si_range g.f_range (se_int)) (sg_name sc__law_right_aa9dc6.nd) (sts_cons (st_set (i := 4) sc__law_right_aa9dc6.nd (se_lam (k := 6) (kb := 5) rfl rfl lm__law_told_1a87f6 lf__law_told_1a87f6 (lf__law_told_1a87f6.binds fun _ _ _ _ _ _ us hl => match us, hl with | [_], _ => rfl) sc__law_told_1a87f6 rfl (.inl rfl) (fun T2 cdv A2 o2 s2 H2 E2 f2 cl ht hmd hl act => b__law_told_1a87f6 g T2 cdv A2 o2 s2 H2 E2 f2 cl ht hmd (hl.mono (by decide)) act) (h__law_told_1a87f6 q) TB rfl mT__law_right_aa9dc6 (uT__law_right_aa9dc6 hd) hr (by decide) (by decide) (DLX.lamP_by (xs := []) (by rfl)) (DLX.lamA_0 rfl (fun _ _ _ _ _ => rfl)) rm_0 (fun T2 A2 o2 s2 H2 E2 f2 c2 ht hmd hl => se_call ((c_row_text).fixT ht hmd) hl (by decide) rfl (sa_cons (se_var 0) sa_nil)))) (sts_one (st_if (sc_ne hr (se_reprG hr g.f_repr (sa_cons (se_var 4) sa_nil)) (se_reprG hr g.f_repr (sa_cons (se_var 2) sa_nil))) (sts_one (st_ret (se_bl))) (sts_nil))))) (sts_cons (st_if (sc_w (sw_and (sc_eq hr (se_ix (se_var 2) (se_int)) (se_str)) (sw_and1 (sc_ne hr (se_reprG hr g.f_repr (sa_cons (se_call c_read_row hr (by decide) rfl (sa_cons (se_ix (se_var 2) (se_int)) sa_nil)) sa_nil)) (se_var 3))))) (sts_one (st_ret (se_bl))) (sts_nil)) (sts_one (st_ret (se_eq hr (se_reprG hr g.f_repr (sa_cons (se_var 0) sa_nil)) (se_var 3))))))
theorem fx__law_right_aa9dc6 {tA0 tA1 tA2 cA : Addr} (hd : [tA0, tA1, tA2].Nodup) (g : Gx P w K mg base q) (c_read_row : Fx P w K mg base (T_L tA0 tA1 tA2) "read_row" 4 1 (P_read_row q)) (c_row_text : Fx P w K mg base (T_L tA0 tA1 tA2) "row_text" 5 1 (P_row_text q)) (c__law_want_d7aeca : Fx P w K mg base (T_L tA0 tA1 tA2) "_law_want" 3 1 (P__law_want_d7aeca q)) {f__law_told_1a87f6 : Addr} {fd__law_told_1a87f6 : FuncData} (lm__law_told_1a87f6 : mg "_law_told" = some (.ref f__law_told_1a87f6)) (lf__law_told_1a87f6 : Fun K "_law_told" "_law_told" s__law_told_1a87f6 f__law_told_1a87f6 fd__law_told_1a87f6) {f : Addr} {fd : FuncData} (F : Fun K "_law_right" "_law_right" s__law_right_aa9dc6 f fd) (hc : fd.code = .ref cA) (TB : LamX.TabB base mg cA tA0) (m : mg "_law_right" = some (.ref f)) : Fx P w K mg base (T_L tA0 tA1 tA2) "_law_right" 8 1 (P__law_right_aa9dc6 q) :=
  ⟨⟨f, fd, ["_law_thing"], ok__law_right_aa9dc6 hd g c_read_row c_row_text c__law_want_d7aeca lm__law_told_1a87f6 lf__law_told_1a87f6 F hc TB, m, F.kp, F.binds fun _ _ _ _ _ _ us hl => match us, hl with | [_], _ => rfl, rfl⟩⟩
/-! _law_read -/
abbrev s__law_read_f27a7e : Stmt := top 25
theorem sc__law_read_f27a7e : FnScope ["_law_text", "_law_found", "_law_number", "_law_own"] ["_law_text"] (defScope s__law_read_f27a7e) := ⟨rfl, rfl, rfl, by decide +kernel, rfl, by decide +kernel, by decide +kernel⟩
theorem ok__law_read_f27a7e (g : Gx P w K mg base q) {f : Addr} {fd : FuncData} (F : Fun K "_law_read" "_law_read" s__law_read_f27a7e f fd) : FnG T.md P w K mg base 2 f fd ["_law_text"] (spD K T 1 (fnS 4 (m__law_read_f27a7e q))) :=
  fnD F sc__law_read_f27a7e fun cdv A outer s H E hr => sts_cons (st_set (i := 1) sc__law_read_f27a7e.nd (se_lst (sa_nil))) (sts_cons (st_for (si_enum g.f_enumerate (se_if (sc_ne hr (se_var 0) (se_str)) (se_bm PySem.F.plainAttrs_str PySem.F.slot_str_split PySem.F.type_str_split mt_split m_split (fun _ _ _ _ _ => chk_s) (se_var 0) (sa_cons (se_str) sa_nil)) (se_lst (sa_nil)))) (sg_tup (sgs_cons sc__law_read_f27a7e.nd (sgs_cons sc__law_read_f27a7e.nd sgs_nil))) (sts_one (st_if (sc_in (se_var 3) (se_tup (sa_cons (se_str) (sa_cons (se_str) (sa_cons (se_str) (sa_cons (se_str) sa_nil)))))) (sts_one (st_expr (se_bm PySem.F.plainAttrs_list PySem.F.slot_list_append PySem.F.type_list_append mt_append m_append (fun _ _ _ _ _ => chk_l) (se_var 1) (sa_cons (se_tup (sa_cons (se_var 3) sa_nil)) sa_nil)))) (sts_one (st_if (sc_w (sw_and (sc_eq hr (se_sl (se_var 3) so_none (so_some (se_int))) (se_str)) (sw_and1 (sc_lele (se_int) (se_len g.f_len (sa_cons (se_sl (se_var 3) (so_some (se_int)) so_none) sa_nil)) (se_int))))) (sts_one (st_expr (se_bm PySem.F.plainAttrs_list PySem.F.slot_list_append PySem.F.type_list_append mt_append m_append (fun _ _ _ _ _ => chk_l) (se_var 1) (sa_cons (se_tup (sa_cons (se_str) (sa_cons (se_sl (se_var 3) (so_some (se_int)) so_none) sa_nil))) sa_nil)))) (sts_one (st_ret (se_var 2)))))))) (sts_one (st_ret (se_lst (sa_cons (se_tuplec g.f_tuple (se_var 1)) sa_nil)))))
theorem fx__law_read_f27a7e (g : Gx P w K mg base q) {f : Addr} {fd : FuncData} (F : Fun K "_law_read" "_law_read" s__law_read_f27a7e f fd) (m : mg "_law_read" = some (.ref f)) : Fx P w K mg base T "_law_read" 2 1 (P__law_read_f27a7e q) :=
  ⟨⟨f, fd, ["_law_text"], ok__law_read_f27a7e g F, m, F.kp, F.binds fun _ _ _ _ _ _ us hl => match us, hl with | [_], _ => rfl, rfl⟩⟩
/-! _law_read_right -/
theorem sc__law_read_right : FnScope ["_law_text", "_law_found", "_law_want_here", "_law_turn"] ["_law_text"] (defScope s__law_read_right) := ⟨rfl, rfl, rfl, by decide +kernel, rfl, by decide +kernel, by decide +kernel⟩
theorem ok__law_read_right {tA0 tA1 tA2 cA : Addr} (hd : [tA0, tA1, tA2].Nodup) (g : Gx P w K mg base q) (c_read_row : Fx P w K mg base (T_L tA0 tA1 tA2) "read_row" 4 1 (P_read_row q)) (c__law_read_f27a7e : Fx P w K mg base (T_L tA0 tA1 tA2) "_law_read" 2 1 (P__law_read_f27a7e q)) {f__law_told_1a87f6 : Addr} {fd__law_told_1a87f6 : FuncData} (lm__law_told_1a87f6 : mg "_law_told" = some (.ref f__law_told_1a87f6)) (lf__law_told_1a87f6 : Fun K "_law_told" "_law_told" s__law_told_1a87f6 f__law_told_1a87f6 fd__law_told_1a87f6) {f : Addr} {fd : FuncData} (F : Fun K "_law_read_right" "_law_read_right" s__law_read_right f fd) (hc : fd.code = .ref cA) (TB : LamX.TabB base mg cA tA1) : FnG .a P w K mg base 7 f fd ["_law_text"] (spD K (T_L tA0 tA1 tA2) 1 (fnS 4 (m__law_read_right q))) :=
  have hmd : (T_L tA0 tA1 tA2).md = .a := rfl
  fnDc (T := T_L tA0 tA1 tA2) F hc sc__law_read_right fun A outer s H E hr => sts_cons (st_set (i := 1) sc__law_read_right.nd (se_call c__law_read_f27a7e hr (by decide) rfl (sa_cons (se_var 0) sa_nil))) (sts_cons (st_set (i := 2) sc__law_read_right.nd (se_reprG hr g.f_repr (sa_cons (se_if (sc_val (se_isi g.f_isinstance (sa_cons (se_var 1) (sa_cons (se_tyn g.f_int (by decide +kernel)) sa_nil)))) (se_lst (sa_cons (se_str) (sa_cons (se_var 1) sa_nil))) (se_lst (sa_cons (se_str) (sa_cons (se_ix (se_var 1) (se_int)) sa_nil)))) sa_nil))) (sts_cons (st_for (si_range g.f_range (se_int)) (sg_name sc__law_read_right.nd) (sts_one (st_if (sc_ne hr (se_reprG hr g.f_repr (sa_cons (se_lam (k := 5) (kb := 4) rfl rfl lm__law_told_1a87f6 lf__law_told_1a87f6 (lf__law_told_1a87f6.binds fun _ _ _ _ _ _ us hl => match us, hl with | [_], _ => rfl) sc__law_told_1a87f6 rfl (.inl rfl) (fun T2 cdv A2 o2 s2 H2 E2 f2 cl ht hmd hl act => b__law_told_1a87f6 g T2 cdv A2 o2 s2 H2 E2 f2 cl ht hmd (hl.mono (by decide)) act) (h__law_told_1a87f6 q) TB rfl mT__law_read_right (uT__law_read_right hd) hr (by decide) (by decide) (DLX.lamP_by (xs := []) (by rfl)) (DLX.lamA_0 rfl (fun _ _ _ _ _ => rfl)) rm_0 (fun T2 A2 o2 s2 H2 E2 f2 c2 ht hmd hl => se_call ((c_read_row).fixT ht hmd) hl (by decide) rfl (sa_cons (se_var 0) sa_nil))) sa_nil)) (se_var 2)) (sts_one (st_ret (se_bl))) (sts_nil)))) (sts_one (st_ret (se_bl)))))
theorem fx__law_read_right {tA0 tA1 tA2 cA : Addr} (hd : [tA0, tA1, tA2].Nodup) (g : Gx P w K mg base q) (c_read_row : Fx P w K mg base (T_L tA0 tA1 tA2) "read_row" 4 1 (P_read_row q)) (c__law_read_f27a7e : Fx P w K mg base (T_L tA0 tA1 tA2) "_law_read" 2 1 (P__law_read_f27a7e q)) {f__law_told_1a87f6 : Addr} {fd__law_told_1a87f6 : FuncData} (lm__law_told_1a87f6 : mg "_law_told" = some (.ref f__law_told_1a87f6)) (lf__law_told_1a87f6 : Fun K "_law_told" "_law_told" s__law_told_1a87f6 f__law_told_1a87f6 fd__law_told_1a87f6) {f : Addr} {fd : FuncData} (F : Fun K "_law_read_right" "_law_read_right" s__law_read_right f fd) (hc : fd.code = .ref cA) (TB : LamX.TabB base mg cA tA1) (m : mg "_law_read_right" = some (.ref f)) : Fx P w K mg base (T_L tA0 tA1 tA2) "_law_read_right" 7 1 (P__law_read_right q) :=
  ⟨⟨f, fd, ["_law_text"], ok__law_read_right hd g c_read_row c__law_read_f27a7e lm__law_told_1a87f6 lf__law_told_1a87f6 F hc TB, m, F.kp, F.binds fun _ _ _ _ _ _ us hl => match us, hl with | [_], _ => rfl, rfl⟩⟩
/-! law -/
theorem sc_law_7c04c7 : FnScope ["_law_script", "_law_turn", "_law_odd", "_law_draws_here", "_law_odds_here", "_law_row", "_law_text", "_law_again", "_law_due", "_law_want_here", "_law_at", "_law_bent", "_law_k"] ["_law_script"] (defScope s_law_7c04c7) := ⟨rfl, rfl, rfl, by decide +kernel, rfl, by decide +kernel, by decide +kernel⟩
theorem ok_law_7c04c7 {tA0 tA1 tA2 cA : Addr} (hd : [tA0, tA1, tA2].Nodup) (g : Gx P w K mg base q) (c__law_right_aa9dc6 : Fx P w K mg base (T_L tA0 tA1 tA2) "_law_right" 8 1 (P__law_right_aa9dc6 q)) (c_read_row : Fx P w K mg base (T_L tA0 tA1 tA2) "read_row" 4 1 (P_read_row q)) (c__law_by_hand : Fx P w K mg base (T_L tA0 tA1 tA2) "_law_by_hand" 2 0 (P__law_by_hand q)) (c__law_read_right : Fx P w K mg base (T_L tA0 tA1 tA2) "_law_read_right" 7 1 (P__law_read_right q)) (c__law_pick : Fx P w K mg base (T_L tA0 tA1 tA2) "_law_pick" 2 2 (P__law_pick q)) (c__law_bent_text_e4fb99 : Fx P w K mg base (T_L tA0 tA1 tA2) "_law_bent_text" 4 2 (P__law_bent_text_e4fb99 q)) (c__law_lines_dd0f9d : Fx P w K mg base (T_L tA0 tA1 tA2) "_law_lines" 2 1 (P__law_lines_dd0f9d q)) (c__law_one : Fx P w K mg base (T_L tA0 tA1 tA2) "_law_one" 3 2 (P__law_one q)) (c__law_press : Fx P w K mg base (T_L tA0 tA1 tA2) "_law_press" 5 1 (P__law_press q)) (c__law_odds_3ad58c : Fx P w K mg base (T_L tA0 tA1 tA2) "_law_odds" 2 0 (P__law_odds_3ad58c q)) (c__law_draws : Fx P w K mg base (T_L tA0 tA1 tA2) "_law_draws" 2 1 (P__law_draws q)) {f__law_told_1a87f6 : Addr} {fd__law_told_1a87f6 : FuncData} (lm__law_told_1a87f6 : mg "_law_told" = some (.ref f__law_told_1a87f6)) (lf__law_told_1a87f6 : Fun K "_law_told" "_law_told" s__law_told_1a87f6 f__law_told_1a87f6 fd__law_told_1a87f6) {f : Addr} {fd : FuncData} (F : Fun K "law" "law" s_law_7c04c7 f fd) (hc : fd.code = .ref cA) (TB : LamX.TabB base mg cA tA2) : FnG .a P w K mg base 9 f fd ["_law_script"] (spD K (T_L tA0 tA1 tA2) 1 (fnS 13 (m_law_7c04c7 q))) :=
  have hmd : (T_L tA0 tA1 tA2).md = .a := rfl
  fnDc (T := T_L tA0 tA1 tA2) F hc sc_law_7c04c7 fun A outer s H E hr => sts_cons (st_asg (se_tup (sa_cons (se_call c__law_draws hr (by decide) rfl (sa_cons (se_var 0) sa_nil)) (sa_cons (se_call0 c__law_odds_3ad58c hr (by decide) rfl) sa_nil))) (sg_tup (sgs_cons sc_law_7c04c7.nd (sgs_cons sc_law_7c04c7.nd sgs_nil)))) (sts_cons (st_for (si_range g.f_range (se_add (se_int) (se_fdiv (se_min g.f_min (sa_cons (se_int) (sa_cons (se_len g.f_len (sa_cons (se_var 0) sa_nil)) sa_nil))) (se_int)))) (sg_name sc_law_7c04c7.nd) (sts_cons (st_set (i := 5) sc_law_7c04c7.nd (se_tuplec g.f_tuple (se_comp [("_law_k", 12)] sc_law_7c04c7.nd (si_range g.f_range (se_call c__law_pick hr (by decide) rfl (sa_cons (se_var 3) (sa_cons (se_int) sa_nil)))) (blk_by (N := ["_law_script", "_law_turn", "_law_odd", "_law_draws_here", "_law_odds_here", "_law_row", "_law_text", "_law_again", "_law_due", "_law_want_here", "_law_at", "_law_bent", "_law_k"]) (sc := defScope s_law_7c04c7) (by decide +kernel)) (fun s H C cl fp => sg_name sc_law_7c04c7.nd) (fun s H C cl fp => sp_nil) (fun s H C cl fp => se_call c__law_press hr (by decide) rfl (sa_cons (se_var 3) sa_nil))))) (sts_cons (st_asg (se_tup (sa_cons (se_call c__law_pick hr (by decide) rfl (sa_cons (se_var 3) (sa_cons (se_add (se_len g.f_len (sa_cons (se_var 5) sa_nil)) (se_int)) sa_nil))) (sa_cons (se_call c__law_one hr (by decide) rfl (sa_cons (se_var 3) (sa_cons (se_var 4) sa_nil))) sa_nil))) (sg_tup (sgs_cons sc_law_7c04c7.nd (sgs_cons sc_law_7c04c7.nd sgs_nil)))) (sts_cons (st_if (sc_w (sw_or (sc_not (sc_val (se_call c__law_right_aa9dc6 hr (by decide) rfl (sa_cons (se_var 5) sa_nil)))) (sw_or (sc_not (sc_val (se_call c__law_right_aa9dc6 hr (by decide) rfl (sa_cons (se_add (se_add (se_sl (se_var 5) so_none (so_some (se_var 10))) (se_tup (sa_cons (se_var 2) sa_nil))) (se_sl (se_var 5) (so_some (se_var 10)) so_none)) sa_nil)))) (sw_or1 (sc_not (sc_val (se_call c__law_right_aa9dc6 hr (by decide) rfl (sa_cons (se_listA g.f_list (se_var 5)) sa_nil)))))))) (sts_one (st_ret (se_bl))) (sts_nil)) (sts_cons (st_set (i := 6) sc_law_7c04c7.nd (se_call c__law_lines_dd0f9d hr (by decide) rfl (sa_cons (se_var 5) sa_nil))) (sts_one (st_for (si_range g.f_range (se_int)) (sg_name sc_law_7c04c7.nd) (sts_cons (st_set (i := 11) sc_law_7c04c7.nd (se_call c__law_bent_text_e4fb99 hr (by decide) rfl (sa_cons (se_var 3) (sa_cons (se_var 6) sa_nil)))) (sts_cons (st_if (sc_w (sw_or (sc_not (sc_val (se_call c__law_read_right hr (by decide) rfl (sa_cons (se_var 6) sa_nil)))) (sw_or1 (sc_not (sc_val (se_call c__law_read_right hr (by decide) rfl (sa_cons (se_var 11) sa_nil))))))) (sts_one (st_ret (se_bl))) (sts_nil)) (sts_one (st_set (i := 6) sc_law_7c04c7.nd (se_if (sc_eq hr (se_call c__law_pick hr (by decide) rfl (sa_cons (se_var 3) (sa_cons (se_int) sa_nil))) (se_int)) (se_call c__law_bent_text_e4fb99 hr (by decide) rfl (sa_cons (se_var 3) (sa_cons (se_var 11) sa_nil))) (se_var 6))))))))))))) (sts_cons (st_for (si_val (se_call0 c__law_by_hand hr (by decide) rfl)) (sg_tup (sgs_cons sc_law_7c04c7.nd (sgs_cons sc_law_7c04c7.nd sgs_nil))) (sts_cons (st_set (i := 9) sc_law_7c04c7.nd (se_if (sc_val (se_isi g.f_isinstance (sa_cons (se_var 8) (sa_cons (se_tyn g.f_int (by decide +kernel)) sa_nil)))) (se_lst (sa_cons (se_str) (sa_cons (se_var 8) sa_nil))) (se_lst (sa_cons (se_str) (sa_cons (se_var 8) sa_nil))))) (sts_one (st_if (sc_w (sw_or (sc_ne hr (se_reprG hr g.f_repr (sa_cons (se_lam (k := 5) (kb := 4) rfl rfl lm__law_told_1a87f6 lf__law_told_1a87f6 (lf__law_told_1a87f6.binds fun _ _ _ _ _ _ us hl => match us, hl with | [_], _ => rfl) sc__law_told_1a87f6 rfl (.inl rfl) (fun T2 cdv A2 o2 s2 H2 E2 f2 cl ht hmd hl act => b__law_told_1a87f6 g T2 cdv A2 o2 s2 H2 E2 f2 cl ht hmd (hl.mono (by decide)) act) (h__law_told_1a87f6 q) TB rfl mT_law_7c04c7 (uT_law_7c04c7 hd) hr (by decide) (by decide) (DLX.lamP_by (xs := []) (by rfl)) (DLX.lamA_0 rfl (fun _ _ _ _ _ => rfl)) rm_0 (fun T2 A2 o2 s2 H2 E2 f2 c2 ht hmd hl => se_call ((c_read_row).fixT ht hmd) hl (by decide) rfl (sa_cons (se_var 6) sa_nil))) sa_nil)) (se_reprG hr g.f_repr (sa_cons (se_var 9) sa_nil))) (sw_or1 (sc_not (sc_val (se_call c__law_read_right hr (by decide) rfl (sa_cons (se_var 6) sa_nil))))))) (sts_one (st_ret (se_bl))) (sts_nil))))) (sts_cons (st_for (si_val (se_add (se_var 4) (se_lst (sa_cons (se_tup (sa_cons (se_str) (sa_cons (se_str) sa_nil))) (sa_cons (se_tup (sa_cons (se_tup (sa_cons (se_str) sa_nil)) (sa_cons (se_non) (sa_cons (se_int) sa_nil)))) (sa_cons (se_sub (se_pow (se_int) (se_int)) (se_int)) sa_nil)))))) (sg_name sc_law_7c04c7.nd) (sts_cons (st_if (sc_w (sw_and (sc_not (sc_val (se_isi g.f_isinstance (sa_cons (se_var 2) (sa_cons (se_tyn g.f_str (by decide +kernel)) sa_nil))))) (sw_and1 (sc_ne hr (se_reprG hr g.f_repr (sa_cons (se_lam (k := 5) (kb := 4) rfl rfl lm__law_told_1a87f6 lf__law_told_1a87f6 (lf__law_told_1a87f6.binds fun _ _ _ _ _ _ us hl => match us, hl with | [_], _ => rfl) sc__law_told_1a87f6 rfl (.inl rfl) (fun T2 cdv A2 o2 s2 H2 E2 f2 cl ht hmd hl act => b__law_told_1a87f6 g T2 cdv A2 o2 s2 H2 E2 f2 cl ht hmd (hl.mono (by decide)) act) (h__law_told_1a87f6 q) TB rfl mT_law_7c04c7 (uT_law_7c04c7 hd) hr (by decide) (by decide) (DLX.lamP_by (xs := []) (by rfl)) (DLX.lamA_0 rfl (fun _ _ _ _ _ => rfl)) rm_0 (fun T2 A2 o2 s2 H2 E2 f2 c2 ht hmd hl => se_call ((c_read_row).fixT ht hmd) hl (by decide) rfl (sa_cons (se_var 2) sa_nil))) sa_nil)) (se_reprG hr g.f_repr (sa_cons (se_lst (sa_cons (se_str) (sa_cons (se_sub (se_int) (se_int)) sa_nil))) sa_nil)))))) (sts_one (st_ret (se_bl))) (sts_nil)) (sts_one (st_if (sc_w (sw_or (sc_not (sc_val (se_call c__law_right_aa9dc6 hr (by decide) rfl (sa_cons (se_var 2) sa_nil)))) (sw_or1 (sc_not (sc_val (se_call c__law_right_aa9dc6 hr (by decide) rfl (sa_cons (se_tup (sa_cons (se_var 2) sa_nil)) sa_nil))))))) (sts_one (st_ret (se_bl))) (sts_nil))))) (sts_one (st_ret (se_bl))))))
end
end K33
set_option Elab.async false
set_option linter.all false
set_option autoImplicit false
set_option maxRecDepth 100000
set_option maxHeartbeats 4000000
namespace K33
open PySem PySem.Spec PyProof.Rows L2 DL
abbrev sI_BadPress : Stmt := inClass (top 3) 0
theorem scI_BadPress : FnScope ["self", "given"] ["self", "given"] (defScope sI_BadPress) := ⟨rfl, rfl, rfl, by decide +kernel, rfl, by decide +kernel, by decide +kernel⟩
abbrev sI_BadRow : Stmt := inClass (top 4) 0
theorem scI_BadRow : FnScope ["self", "place"] ["self", "place"] (defScope sI_BadRow) := ⟨rfl, rfl, rfl, by decide +kernel, rfl, by decide +kernel, by decide +kernel⟩
abbrev sI_BadText : Stmt := inClass (top 6) 0
theorem scI_BadText : FnScope ["self", "place"] ["self", "place"] (defScope sI_BadText) := ⟨rfl, rfl, rfl, by decide +kernel, rfl, by decide +kernel, by decide +kernel⟩
theorem lk_of {cs os : List Addr} {C : Addr} {b : Bool} (h : lkL cs os C = some b) : (C ∈ cs ∧ b = true) ∨ (C ∉ cs ∧ C ∈ os ∧ b = false) := by
  unfold lkL at h
  split at h
  · rename_i z; cases h; exact .inl ⟨z, rfl⟩
  · rename_i z
    split at h
    · rename_i y; cases h; exact .inr ⟨z, y, rfl⟩
    · cases h
theorem dst33_of {q : Ad} (h1 : (Value.ref q.cBadText == Value.ref q.cBadRow) = false) (h2 : (Value.ref q.cBadText == Value.ref q.cBadPress) = false) (h3 : (Value.ref q.cBadText == Value.ref q.cBadSnippet) = false) (h4 : (Value.ref q.cBadText == Value.ref q.cBadState) = false) (h5 : (Value.ref q.cBadRow == Value.ref q.cBadPress) = false) (h6 : (Value.ref q.cBadRow == Value.ref q.cBadSnippet) = false) (h7 : (Value.ref q.cBadRow == Value.ref q.cBadState) = false) : D33 q := by
  refine ⟨fun e => ?_, fun e => ?_, fun e => ?_, fun e => ?_, fun e => ?_, fun e => ?_, fun e => ?_⟩
  · rw [e] at h1; simp at h1
  · rw [e] at h2; simp at h2
  · rw [e] at h3; simp at h3
  · rw [e] at h4; simp at h4
  · rw [e] at h5; simp at h5
  · rw [e] at h6; simp at h6
  · rw [e] at h7; simp at h7
set_option maxHeartbeats 8000000 in
theorem all_mk {l : PySem.W.OpenLaw} {w : World} {K : PySem.W.Frag} {h : Heap} {mg : Str → Option Value} {fa : Addr} {pr : Program} (X : K.In h) (G : h.Ns mainGlobals mg) (hfa : mg "law" = some (.ref fa)) (tab : TabOf pr K mg h)
    {CBadText : Addr}
    {CBadState : Addr}
    {CBadRow : Addr}
    {CBadPress : Addr}
    {CBadSnippet : Addr}
    {CSnippetError : Addr}
    {f0 : Addr} {oc0 kV0 dc0 pm0 cd0 ct0 : Value} {od0 an0 : Option Addr} {sl0 : Array (Option Value)}
    {f1 : Addr} {oc1 kV1 dc1 pm1 cd1 ct1 : Value} {od1 an1 : Option Addr} {sl1 : Array (Option Value)}
    {f2 : Addr} {oc2 kV2 dc2 pm2 cd2 ct2 : Value} {od2 an2 : Option Addr} {sl2 : Array (Option Value)}
    {f3 : Addr} {oc3 kV3 dc3 pm3 cd3 ct3 : Value} {od3 an3 : Option Addr} {sl3 : Array (Option Value)}
    {f4 : Addr} {oc4 kV4 dc4 pm4 cd4 ct4 : Value} {od4 an4 : Option Addr} {sl4 : Array (Option Value)}
    {f5 : Addr} {oc5 kV5 dc5 pm5 cd5 ct5 : Value} {od5 an5 : Option Addr} {sl5 : Array (Option Value)}
    {f6 : Addr} {oc6 kV6 dc6 pm6 cd6 ct6 : Value} {od6 an6 : Option Addr} {sl6 : Array (Option Value)}
    {f7 : Addr} {oc7 kV7 dc7 pm7 cd7 ct7 : Value} {od7 an7 : Option Addr} {sl7 : Array (Option Value)}
    {f8 : Addr} {oc8 kV8 dc8 pm8 cd8 ct8 : Value} {od8 an8 : Option Addr} {sl8 : Array (Option Value)}
    {f9 : Addr} {oc9 kV9 dc9 pm9 cd9 ct9 : Value} {od9 an9 : Option Addr} {sl9 : Array (Option Value)}
    {f10 : Addr} {oc10 kV10 dc10 pm10 cd10 ct10 : Value} {od10 an10 : Option Addr} {sl10 : Array (Option Value)}
    {f11 : Addr} {oc11 kV11 dc11 pm11 cd11 ct11 : Value} {od11 an11 : Option Addr} {sl11 : Array (Option Value)}
    {f12 : Addr} {oc12 kV12 dc12 pm12 cd12 ct12 : Value} {od12 an12 : Option Addr} {sl12 : Array (Option Value)}
    {f13 : Addr} {oc13 kV13 dc13 pm13 cd13 ct13 : Value} {od13 an13 : Option Addr} {sl13 : Array (Option Value)}
    {f14 : Addr} {oc14 kV14 dc14 pm14 cd14 ct14 : Value} {od14 an14 : Option Addr} {sl14 : Array (Option Value)}
    {f15 : Addr} {oc15 kV15 dc15 pm15 cd15 ct15 : Value} {od15 an15 : Option Addr} {sl15 : Array (Option Value)}
    {f16 : Addr} {oc16 kV16 dc16 pm16 cd16 ct16 : Value} {od16 an16 : Option Addr} {sl16 : Array (Option Value)}
    {f17 : Addr} {oc17 kV17 dc17 pm17 cd17 ct17 : Value} {od17 an17 : Option Addr} {sl17 : Array (Option Value)}
    {f18 : Addr} {oc18 kV18 dc18 pm18 cd18 ct18 : Value} {od18 an18 : Option Addr} {sl18 : Array (Option Value)}
    {f19 : Addr} {oc19 kV19 dc19 pm19 cd19 ct19 : Value} {od19 an19 : Option Addr} {sl19 : Array (Option Value)}
    {f20 : Addr} {oc20 kV20 dc20 pm20 cd20 ct20 : Value} {od20 an20 : Option Addr} {sl20 : Array (Option Value)}
    {f21 : Addr} {oc21 kV21 dc21 pm21 cd21 ct21 : Value} {od21 an21 : Option Addr} {sl21 : Array (Option Value)}
    {f22 : Addr} {oc22 kV22 dc22 pm22 cd22 ct22 : Value} {od22 an22 : Option Addr} {sl22 : Array (Option Value)}
    {nm_BadPress q_BadPress : Str} {N_BadPress : Addr} {bs_BadPress bm_BadPress : List Value} {sn_BadPress : List Str} {sub_BadPress : List Value} {ab_BadPress : Bool} {col_BadPress : Option Bool} {dd_BadPress : Option Addr} {kx0_BadPress kx1_BadPress kx2_BadPress kx3_BadPress kx5_BadPress : Option Value}
    {fI_BadPress : Addr} {ocI_BadPress kVI_BadPress dcI_BadPress pmI_BadPress cdI_BadPress ctI_BadPress : Value} {odI_BadPress anI_BadPress : Option Addr} {slI_BadPress : Array (Option Value)}
    {nm_BadRow q_BadRow : Str} {N_BadRow : Addr} {bs_BadRow bm_BadRow : List Value} {sn_BadRow : List Str} {sub_BadRow : List Value} {ab_BadRow : Bool} {col_BadRow : Option Bool} {dd_BadRow : Option Addr} {kx0_BadRow kx1_BadRow kx2_BadRow kx3_BadRow kx5_BadRow : Option Value}
    {fI_BadRow : Addr} {ocI_BadRow kVI_BadRow dcI_BadRow pmI_BadRow cdI_BadRow ctI_BadRow : Value} {odI_BadRow anI_BadRow : Option Addr} {slI_BadRow : Array (Option Value)}
    {nm_BadText q_BadText : Str} {N_BadText : Addr} {bs_BadText bm_BadText : List Value} {sn_BadText : List Str} {sub_BadText : List Value} {ab_BadText : Bool} {col_BadText : Option Bool} {dd_BadText : Option Addr} {kx0_BadText kx1_BadText kx2_BadText kx3_BadText kx5_BadText : Option Value}
    {fI_BadText : Addr} {ocI_BadText kVI_BadText dcI_BadText pmI_BadText cdI_BadText ctI_BadText : Value} {odI_BadText anI_BadText : Option Addr} {slI_BadText : Array (Option Value)}
    {t_mI_MOST_TEXT : Tok}
    {aT_mT_PRESS_WORDS : Addr} {ddT_mT_PRESS_WORDS : Option Addr} {nT_mT_PRESS_WORDS : Nat} {slT_mT_PRESS_WORDS : Array (Option Value)} {tT0_mT_PRESS_WORDS : Tok} {tT1_mT_PRESS_WORDS : Tok} {tT2_mT_PRESS_WORDS : Tok} {tT3_mT_PRESS_WORDS : Tok} {tT4_mT_PRESS_WORDS : Tok}
    {cL0 PL0 : Addr} {eL0 : Value} {ddL0 : Option Addr} {vsL0 : Array Value} {slL0 : Array (Option Value)}
    {cL1 PL1 : Addr} {eL1 : Value} {ddL1 : Option Addr} {vsL1 : Array Value} {slL1 : Array (Option Value)}
    {cL2 PL2 : Addr} {eL2 : Value} {ddL2 : Option Addr} {vsL2 : Array Value} {slL2 : Array (Option Value)}
    (a0 : PySem.W.nsIn K mainGlobals "_law_by_hand" = some (some (.ref f0)))
    (l0 : K.lookup f0 = some ⟨oc0, od0, .func (PySem.W.fnOf "_law_by_hand" "_law_by_hand" (defArgs s__law_by_hand) (defBody s__law_by_hand) (defScope s__law_by_hand) .none kV0 dc0 pm0 an0 cd0 ct0), sl0⟩)
    (c0 : PySem.W.codeIn K cd0 "_law_by_hand" = true)
    (k0 : PySem.W.keepIn K (.ref f0) = true)
    (a1 : PySem.W.nsIn K mainGlobals "_law_draws" = some (some (.ref f1)))
    (l1 : K.lookup f1 = some ⟨oc1, od1, .func (PySem.W.fnOf "_law_draws" "_law_draws" (defArgs s__law_draws) (defBody s__law_draws) (defScope s__law_draws) .none kV1 dc1 pm1 an1 cd1 ct1), sl1⟩)
    (c1 : PySem.W.codeIn K cd1 "_law_draws" = true)
    (k1 : PySem.W.keepIn K (.ref f1) = true)
    (a2 : PySem.W.nsIn K mainGlobals "_law_odds" = some (some (.ref f2)))
    (l2 : K.lookup f2 = some ⟨oc2, od2, .func (PySem.W.fnOf "_law_odds" "_law_odds" (defArgs s__law_odds_3ad58c) (defBody s__law_odds_3ad58c) (defScope s__law_odds_3ad58c) .none kV2 dc2 pm2 an2 cd2 ct2), sl2⟩)
    (c2 : PySem.W.codeIn K cd2 "_law_odds" = true)
    (k2 : PySem.W.keepIn K (.ref f2) = true)
    (a3 : PySem.W.nsIn K mainGlobals "_law_lines" = some (some (.ref f3)))
    (l3 : K.lookup f3 = some ⟨oc3, od3, .func (PySem.W.fnOf "_law_lines" "_law_lines" (defArgs s__law_lines_dd0f9d) (defBody s__law_lines_dd0f9d) (defScope s__law_lines_dd0f9d) .none kV3 dc3 pm3 an3 cd3 ct3), sl3⟩)
    (c3 : PySem.W.codeIn K cd3 "_law_lines" = true)
    (k3 : PySem.W.keepIn K (.ref f3) = true)
    (a4 : PySem.W.nsIn K mainGlobals "_law_pick" = some (some (.ref f4)))
    (l4 : K.lookup f4 = some ⟨oc4, od4, .func (PySem.W.fnOf "_law_pick" "_law_pick" (defArgs s__law_pick) (defBody s__law_pick) (defScope s__law_pick) .none kV4 dc4 pm4 an4 cd4 ct4), sl4⟩)
    (c4 : PySem.W.codeIn K cd4 "_law_pick" = true)
    (k4 : PySem.W.keepIn K (.ref f4) = true)
    (a5 : PySem.W.nsIn K mainGlobals "_law_one" = some (some (.ref f5)))
    (l5 : K.lookup f5 = some ⟨oc5, od5, .func (PySem.W.fnOf "_law_one" "_law_one" (defArgs s__law_one) (defBody s__law_one) (defScope s__law_one) .none kV5 dc5 pm5 an5 cd5 ct5), sl5⟩)
    (c5 : PySem.W.codeIn K cd5 "_law_one" = true)
    (k5 : PySem.W.keepIn K (.ref f5) = true)
    (a6 : PySem.W.nsIn K mainGlobals "_law_bent_text" = some (some (.ref f6)))
    (l6 : K.lookup f6 = some ⟨oc6, od6, .func (PySem.W.fnOf "_law_bent_text" "_law_bent_text" (defArgs s__law_bent_text_e4fb99) (defBody s__law_bent_text_e4fb99) (defScope s__law_bent_text_e4fb99) .none kV6 dc6 pm6 an6 cd6 ct6), sl6⟩)
    (c6 : PySem.W.codeIn K cd6 "_law_bent_text" = true)
    (k6 : PySem.W.keepIn K (.ref f6) = true)
    (a7 : PySem.W.nsIn K mainGlobals "_law_signs" = some (some (.ref f7)))
    (l7 : K.lookup f7 = some ⟨oc7, od7, .func (PySem.W.fnOf "_law_signs" "_law_signs" (defArgs s__law_signs_1caa5b) (defBody s__law_signs_1caa5b) (defScope s__law_signs_1caa5b) .none kV7 dc7 pm7 an7 cd7 ct7), sl7⟩)
    (c7 : PySem.W.codeIn K cd7 "_law_signs" = true)
    (k7 : PySem.W.keepIn K (.ref f7) = true)
    (a8 : PySem.W.nsIn K mainGlobals "_law_written" = some (some (.ref f8)))
    (l8 : K.lookup f8 = some ⟨oc8, od8, .func (PySem.W.fnOf "_law_written" "_law_written" (defArgs s__law_written_R33) (defBody s__law_written_R33) (defScope s__law_written_R33) .none kV8 dc8 pm8 an8 cd8 ct8), sl8⟩)
    (c8 : PySem.W.codeIn K cd8 "_law_written" = true)
    (k8 : PySem.W.keepIn K (.ref f8) = true)
    (a9 : PySem.W.nsIn K mainGlobals "_law_press" = some (some (.ref f9)))
    (l9 : K.lookup f9 = some ⟨oc9, od9, .func (PySem.W.fnOf "_law_press" "_law_press" (defArgs s__law_press) (defBody s__law_press) (defScope s__law_press) .none kV9 dc9 pm9 an9 cd9 ct9), sl9⟩)
    (c9 : PySem.W.codeIn K cd9 "_law_press" = true)
    (k9 : PySem.W.keepIn K (.ref f9) = true)
    (a10 : PySem.W.nsIn K mainGlobals "_law_is_press" = some (some (.ref f10)))
    (l10 : K.lookup f10 = some ⟨oc10, od10, .func (PySem.W.fnOf "_law_is_press" "_law_is_press" (defArgs s__law_is_press_e02fb6) (defBody s__law_is_press_e02fb6) (defScope s__law_is_press_e02fb6) .none kV10 dc10 pm10 an10 cd10 ct10), sl10⟩)
    (c10 : PySem.W.codeIn K cd10 "_law_is_press" = true)
    (k10 : PySem.W.keepIn K (.ref f10) = true)
    (a11 : PySem.W.nsIn K mainGlobals "_law_want" = some (some (.ref f11)))
    (l11 : K.lookup f11 = some ⟨oc11, od11, .func (PySem.W.fnOf "_law_want" "_law_want" (defArgs s__law_want_d7aeca) (defBody s__law_want_d7aeca) (defScope s__law_want_d7aeca) .none kV11 dc11 pm11 an11 cd11 ct11), sl11⟩)
    (c11 : PySem.W.codeIn K cd11 "_law_want" = true)
    (k11 : PySem.W.keepIn K (.ref f11) = true)
    (a12 : PySem.W.nsIn K mainGlobals "_law_told" = some (some (.ref f12)))
    (l12 : K.lookup f12 = some ⟨oc12, od12, .func (PySem.W.fnOf "_law_told" "_law_told" (defArgs s__law_told_1a87f6) (defBody s__law_told_1a87f6) (defScope s__law_told_1a87f6) .none kV12 dc12 pm12 an12 cd12 ct12), sl12⟩)
    (c12 : PySem.W.codeIn K cd12 "_law_told" = true)
    (k12 : PySem.W.keepIn K (.ref f12) = true)
    (a13 : PySem.W.nsIn K mainGlobals "is_text" = some (some (.ref f13)))
    (l13 : K.lookup f13 = some ⟨oc13, od13, .func (PySem.W.fnOf "is_text" "is_text" (defArgs s_is_text) (defBody s_is_text) (defScope s_is_text) .none kV13 dc13 pm13 an13 cd13 ct13), sl13⟩)
    (c13 : PySem.W.codeIn K cd13 "is_text" = true)
    (k13 : PySem.W.keepIn K (.ref f13) = true)
    (a14 : PySem.W.nsIn K mainGlobals "need_press" = some (some (.ref f14)))
    (l14 : K.lookup f14 = some ⟨oc14, od14, .func (PySem.W.fnOf "need_press" "need_press" (defArgs s_need_press) (defBody s_need_press) (defScope s_need_press) .none kV14 dc14 pm14 an14 cd14 ct14), sl14⟩)
    (c14 : PySem.W.codeIn K cd14 "need_press" = true)
    (k14 : PySem.W.keepIn K (.ref f14) = true)
    (a15 : PySem.W.nsIn K mainGlobals "need_row" = some (some (.ref f15)))
    (l15 : K.lookup f15 = some ⟨oc15, od15, .func (PySem.W.fnOf "need_row" "need_row" (defArgs s_need_row) (defBody s_need_row) (defScope s_need_row) .none kV15 dc15 pm15 an15 cd15 ct15), sl15⟩)
    (c15 : PySem.W.codeIn K cd15 "need_row" = true)
    (k15 : PySem.W.keepIn K (.ref f15) = true)
    (a16 : PySem.W.nsIn K mainGlobals "row_text" = some (some (.ref f16)))
    (l16 : K.lookup f16 = some ⟨oc16, od16, .func (PySem.W.fnOf "row_text" "row_text" (defArgs s_row_text) (defBody s_row_text) (defScope s_row_text) .none kV16 dc16 pm16 an16 cd16 ct16), sl16⟩)
    (c16 : PySem.W.codeIn K cd16 "row_text" = true)
    (k16 : PySem.W.keepIn K (.ref f16) = true)
    (a17 : PySem.W.nsIn K mainGlobals "press_of" = some (some (.ref f17)))
    (l17 : K.lookup f17 = some ⟨oc17, od17, .func (PySem.W.fnOf "press_of" "press_of" (defArgs s_press_of) (defBody s_press_of) (defScope s_press_of) .none kV17 dc17 pm17 an17 cd17 ct17), sl17⟩)
    (c17 : PySem.W.codeIn K cd17 "press_of" = true)
    (k17 : PySem.W.keepIn K (.ref f17) = true)
    (a18 : PySem.W.nsIn K mainGlobals "read_row" = some (some (.ref f18)))
    (l18 : K.lookup f18 = some ⟨oc18, od18, .func (PySem.W.fnOf "read_row" "read_row" (defArgs s_read_row) (defBody s_read_row) (defScope s_read_row) .none kV18 dc18 pm18 an18 cd18 ct18), sl18⟩)
    (c18 : PySem.W.codeIn K cd18 "read_row" = true)
    (k18 : PySem.W.keepIn K (.ref f18) = true)
    (a19 : PySem.W.nsIn K mainGlobals "_law_right" = some (some (.ref f19)))
    (l19 : K.lookup f19 = some ⟨oc19, od19, .func (PySem.W.fnOf "_law_right" "_law_right" (defArgs s__law_right_aa9dc6) (defBody s__law_right_aa9dc6) (defScope s__law_right_aa9dc6) .none kV19 dc19 pm19 an19 cd19 ct19), sl19⟩)
    (c19 : PySem.W.codeIn K cd19 "_law_right" = true)
    (k19 : PySem.W.keepIn K (.ref f19) = true)
    (a20 : PySem.W.nsIn K mainGlobals "_law_read" = some (some (.ref f20)))
    (l20 : K.lookup f20 = some ⟨oc20, od20, .func (PySem.W.fnOf "_law_read" "_law_read" (defArgs s__law_read_f27a7e) (defBody s__law_read_f27a7e) (defScope s__law_read_f27a7e) .none kV20 dc20 pm20 an20 cd20 ct20), sl20⟩)
    (c20 : PySem.W.codeIn K cd20 "_law_read" = true)
    (k20 : PySem.W.keepIn K (.ref f20) = true)
    (a21 : PySem.W.nsIn K mainGlobals "_law_read_right" = some (some (.ref f21)))
    (l21 : K.lookup f21 = some ⟨oc21, od21, .func (PySem.W.fnOf "_law_read_right" "_law_read_right" (defArgs s__law_read_right) (defBody s__law_read_right) (defScope s__law_read_right) .none kV21 dc21 pm21 an21 cd21 ct21), sl21⟩)
    (c21 : PySem.W.codeIn K cd21 "_law_read_right" = true)
    (k21 : PySem.W.keepIn K (.ref f21) = true)
    (a22 : PySem.W.nsIn K mainGlobals "law" = some (some (.ref f22)))
    (l22 : K.lookup f22 = some ⟨oc22, od22, .func (PySem.W.fnOf "law" "law" (defArgs s_law_7c04c7) (defBody s_law_7c04c7) (defScope s_law_7c04c7) .none kV22 dc22 pm22 an22 cd22 ct22), sl22⟩)
    (c22 : PySem.W.codeIn K cd22 "law" = true)
    (k22 : PySem.W.keepIn K (.ref f22) = true)
    (gSnippetError : PySem.W.nsIn K mainGlobals "SnippetError" = some (some (.ref CSnippetError)))
    (gBadSnippet : PySem.W.nsIn K mainGlobals "BadSnippet" = some (some (.ref CBadSnippet)))
    (gBadPress : PySem.W.nsIn K mainGlobals "BadPress" = some (some (.ref CBadPress)))
    (gBadRow : PySem.W.nsIn K mainGlobals "BadRow" = some (some (.ref CBadRow)))
    (gBadState : PySem.W.nsIn K mainGlobals "BadState" = some (some (.ref CBadState)))
    (gBadText : PySem.W.nsIn K mainGlobals "BadText" = some (some (.ref CBadText)))
    (en : PySem.W.specialIn K (.builtin "object.__class__") "__get__" = some (some (.builtin "getset_descriptor.__get__")))
    (et : PySem.W.takesIn K (.builtin "object.__class__") = some true)
    (xexSnippetError : PySem.W.subIn K (.ref CSnippetError) (.type "BaseException") = some true)
    (edSnippetError : PySem.W.hasDictIn K CSnippetError = true)
    (xtySnippetError : PySem.W.typeIn K (.ref CSnippetError) = some (.type "type"))
    (egSnippetError : PySem.W.findIn K (.ref CSnippetError) "__getattribute__" = some (some (.builtin "BaseException.__getattribute__")))
    (ekSnippetError : PySem.W.findIn K (.ref CSnippetError) "__getattr__" = some none)
    (eaSnippetError : PySem.W.findIn K (.ref CSnippetError) "__class__" = some (some (.builtin "object.__class__")))
    (emSnippetError : PySem.W.mroIn K CSnippetError (.type "object") = some true)
    (xexBadSnippet : PySem.W.subIn K (.ref CBadSnippet) (.type "BaseException") = some true)
    (edBadSnippet : PySem.W.hasDictIn K CBadSnippet = true)
    (xtyBadSnippet : PySem.W.typeIn K (.ref CBadSnippet) = some (.type "type"))
    (egBadSnippet : PySem.W.findIn K (.ref CBadSnippet) "__getattribute__" = some (some (.builtin "BaseException.__getattribute__")))
    (ekBadSnippet : PySem.W.findIn K (.ref CBadSnippet) "__getattr__" = some none)
    (eaBadSnippet : PySem.W.findIn K (.ref CBadSnippet) "__class__" = some (some (.builtin "object.__class__")))
    (emBadSnippet : PySem.W.mroIn K CBadSnippet (.type "object") = some true)
    (xexBadPress : PySem.W.subIn K (.ref CBadPress) (.type "BaseException") = some true)
    (edBadPress : PySem.W.hasDictIn K CBadPress = true)
    (xtyBadPress : PySem.W.typeIn K (.ref CBadPress) = some (.type "type"))
    (egBadPress : PySem.W.findIn K (.ref CBadPress) "__getattribute__" = some (some (.builtin "BaseException.__getattribute__")))
    (ekBadPress : PySem.W.findIn K (.ref CBadPress) "__getattr__" = some none)
    (eaBadPress : PySem.W.findIn K (.ref CBadPress) "__class__" = some (some (.builtin "object.__class__")))
    (emBadPress : PySem.W.mroIn K CBadPress (.type "object") = some true)
    (xexBadRow : PySem.W.subIn K (.ref CBadRow) (.type "BaseException") = some true)
    (edBadRow : PySem.W.hasDictIn K CBadRow = true)
    (xtyBadRow : PySem.W.typeIn K (.ref CBadRow) = some (.type "type"))
    (egBadRow : PySem.W.findIn K (.ref CBadRow) "__getattribute__" = some (some (.builtin "BaseException.__getattribute__")))
    (ekBadRow : PySem.W.findIn K (.ref CBadRow) "__getattr__" = some none)
    (eaBadRow : PySem.W.findIn K (.ref CBadRow) "__class__" = some (some (.builtin "object.__class__")))
    (emBadRow : PySem.W.mroIn K CBadRow (.type "object") = some true)
    (xexBadState : PySem.W.subIn K (.ref CBadState) (.type "BaseException") = some true)
    (edBadState : PySem.W.hasDictIn K CBadState = true)
    (xtyBadState : PySem.W.typeIn K (.ref CBadState) = some (.type "type"))
    (egBadState : PySem.W.findIn K (.ref CBadState) "__getattribute__" = some (some (.builtin "BaseException.__getattribute__")))
    (ekBadState : PySem.W.findIn K (.ref CBadState) "__getattr__" = some none)
    (eaBadState : PySem.W.findIn K (.ref CBadState) "__class__" = some (some (.builtin "object.__class__")))
    (emBadState : PySem.W.mroIn K CBadState (.type "object") = some true)
    (xexBadText : PySem.W.subIn K (.ref CBadText) (.type "BaseException") = some true)
    (edBadText : PySem.W.hasDictIn K CBadText = true)
    (xtyBadText : PySem.W.typeIn K (.ref CBadText) = some (.type "type"))
    (egBadText : PySem.W.findIn K (.ref CBadText) "__getattribute__" = some (some (.builtin "BaseException.__getattribute__")))
    (ekBadText : PySem.W.findIn K (.ref CBadText) "__getattr__" = some none)
    (eaBadText : PySem.W.findIn K (.ref CBadText) "__class__" = some (some (.builtin "object.__class__")))
    (emBadText : PySem.W.mroIn K CBadText (.type "object") = some true)
    (s_BadSnippet_SnippetError : PySem.W.subIn K (.ref CBadSnippet) (.ref CSnippetError) = some true)
    (n_BadSnippet_SnippetError : (Value.ref CBadSnippet == Value.ref CSnippetError) = false)
    (s_BadSnippet_BadPress : PySem.W.subIn K (.ref CBadSnippet) (.ref CBadPress) = some false)
    (n_BadSnippet_BadPress : (Value.ref CBadSnippet == Value.ref CBadPress) = false)
    (s_BadSnippet_BadRow : PySem.W.subIn K (.ref CBadSnippet) (.ref CBadRow) = some false)
    (n_BadSnippet_BadRow : (Value.ref CBadSnippet == Value.ref CBadRow) = false)
    (s_BadSnippet_BadState : PySem.W.subIn K (.ref CBadSnippet) (.ref CBadState) = some false)
    (n_BadSnippet_BadState : (Value.ref CBadSnippet == Value.ref CBadState) = false)
    (s_BadSnippet_BadText : PySem.W.subIn K (.ref CBadSnippet) (.ref CBadText) = some false)
    (n_BadSnippet_BadText : (Value.ref CBadSnippet == Value.ref CBadText) = false)
    (s_BadPress_SnippetError : PySem.W.subIn K (.ref CBadPress) (.ref CSnippetError) = some true)
    (n_BadPress_SnippetError : (Value.ref CBadPress == Value.ref CSnippetError) = false)
    (s_BadPress_BadSnippet : PySem.W.subIn K (.ref CBadPress) (.ref CBadSnippet) = some false)
    (n_BadPress_BadSnippet : (Value.ref CBadPress == Value.ref CBadSnippet) = false)
    (s_BadPress_BadRow : PySem.W.subIn K (.ref CBadPress) (.ref CBadRow) = some false)
    (n_BadPress_BadRow : (Value.ref CBadPress == Value.ref CBadRow) = false)
    (s_BadPress_BadState : PySem.W.subIn K (.ref CBadPress) (.ref CBadState) = some false)
    (n_BadPress_BadState : (Value.ref CBadPress == Value.ref CBadState) = false)
    (s_BadPress_BadText : PySem.W.subIn K (.ref CBadPress) (.ref CBadText) = some false)
    (n_BadPress_BadText : (Value.ref CBadPress == Value.ref CBadText) = false)
    (s_BadRow_SnippetError : PySem.W.subIn K (.ref CBadRow) (.ref CSnippetError) = some true)
    (n_BadRow_SnippetError : (Value.ref CBadRow == Value.ref CSnippetError) = false)
    (s_BadRow_BadSnippet : PySem.W.subIn K (.ref CBadRow) (.ref CBadSnippet) = some false)
    (n_BadRow_BadSnippet : (Value.ref CBadRow == Value.ref CBadSnippet) = false)
    (s_BadRow_BadPress : PySem.W.subIn K (.ref CBadRow) (.ref CBadPress) = some false)
    (n_BadRow_BadPress : (Value.ref CBadRow == Value.ref CBadPress) = false)
    (s_BadRow_BadState : PySem.W.subIn K (.ref CBadRow) (.ref CBadState) = some false)
    (n_BadRow_BadState : (Value.ref CBadRow == Value.ref CBadState) = false)
    (s_BadRow_BadText : PySem.W.subIn K (.ref CBadRow) (.ref CBadText) = some false)
    (n_BadRow_BadText : (Value.ref CBadRow == Value.ref CBadText) = false)
    (s_BadState_SnippetError : PySem.W.subIn K (.ref CBadState) (.ref CSnippetError) = some true)
    (n_BadState_SnippetError : (Value.ref CBadState == Value.ref CSnippetError) = false)
    (s_BadState_BadSnippet : PySem.W.subIn K (.ref CBadState) (.ref CBadSnippet) = some false)
    (n_BadState_BadSnippet : (Value.ref CBadState == Value.ref CBadSnippet) = false)
    (s_BadState_BadPress : PySem.W.subIn K (.ref CBadState) (.ref CBadPress) = some false)
    (n_BadState_BadPress : (Value.ref CBadState == Value.ref CBadPress) = false)
    (s_BadState_BadRow : PySem.W.subIn K (.ref CBadState) (.ref CBadRow) = some false)
    (n_BadState_BadRow : (Value.ref CBadState == Value.ref CBadRow) = false)
    (s_BadState_BadText : PySem.W.subIn K (.ref CBadState) (.ref CBadText) = some false)
    (n_BadState_BadText : (Value.ref CBadState == Value.ref CBadText) = false)
    (s_BadText_SnippetError : PySem.W.subIn K (.ref CBadText) (.ref CSnippetError) = some true)
    (n_BadText_SnippetError : (Value.ref CBadText == Value.ref CSnippetError) = false)
    (s_BadText_BadSnippet : PySem.W.subIn K (.ref CBadText) (.ref CBadSnippet) = some false)
    (n_BadText_BadSnippet : (Value.ref CBadText == Value.ref CBadSnippet) = false)
    (s_BadText_BadPress : PySem.W.subIn K (.ref CBadText) (.ref CBadPress) = some false)
    (n_BadText_BadPress : (Value.ref CBadText == Value.ref CBadPress) = false)
    (s_BadText_BadRow : PySem.W.subIn K (.ref CBadText) (.ref CBadRow) = some false)
    (n_BadText_BadRow : (Value.ref CBadText == Value.ref CBadRow) = false)
    (s_BadText_BadState : PySem.W.subIn K (.ref CBadText) (.ref CBadState) = some false)
    (n_BadText_BadState : (Value.ref CBadText == Value.ref CBadState) = false)
    (s_BadPress_BadPress : PySem.W.subIn K (.ref CBadPress) (.ref CBadPress) = some true)
    (nx_BadRow_place : PySem.W.findIn K (.ref CBadRow) "place" = some none)
    (nx_BadSnippet_place : PySem.W.findIn K (.ref CBadSnippet) "place" = some none)
    (nx_BadText_place : PySem.W.findIn K (.ref CBadText) "place" = some none)
    (bga : PySem.W.specialIn K (.ref CSnippetError) "__getattribute__" = some (some (.builtin "type.__getattribute__")))
    (brd : PySem.W.readsIn K CSnippetError (.type "type") = true)
    (bfc : PySem.W.findCls K (.ref CSnippetError) (.type "type") "__init__" = some (.val (.builtin "ValueError.__init__")))
    (xC_BadPress : K.lookup CBadPress = some (excClassObj nm_BadPress q_BadPress CBadPress N_BadPress bs_BadPress bm_BadPress true sn_BadPress sub_BadPress ab_BadPress col_BadPress dd_BadPress kx0_BadPress kx1_BadPress kx2_BadPress kx3_BadPress kx5_BadPress "ValueError.__new__"))
    (xm_BadPress : PySem.HandSPX.refsVE bm_BadPress = true)
    (xsa_BadPress : PySem.W.findIn K (.ref CBadPress) "__setattr__" = some (some (.builtin "object.__setattr__")))
    (xk_BadPress : PySem.W.keepIn K (.ref CBadPress) = true)
    (iI_BadPress : PySem.W.findIn K (.ref CBadPress) "__init__" = some (some (.ref fI_BadPress)))
    (tI_BadPress : PySem.W.typeIn K (.ref fI_BadPress) = some (.type "function"))
    (lI_BadPress : K.lookup fI_BadPress = some ⟨ocI_BadPress, odI_BadPress, .func (PySem.W.fnOf "__init__" "BadPress.__init__" (defArgs sI_BadPress) (defBody sI_BadPress) (defScope sI_BadPress) .none kVI_BadPress dcI_BadPress pmI_BadPress anI_BadPress cdI_BadPress ctI_BadPress), slI_BadPress⟩)
    (cI_BadPress : PySem.W.codeIn K cdI_BadPress "BadPress.__init__" = true)
    (kI_BadPress : PySem.W.keepIn K (.ref fI_BadPress) = true)
    (nx_BadPress_given : PySem.W.findIn K (.ref CBadPress) "given" = some none)
    (xC_BadRow : K.lookup CBadRow = some (excClassObj nm_BadRow q_BadRow CBadRow N_BadRow bs_BadRow bm_BadRow true sn_BadRow sub_BadRow ab_BadRow col_BadRow dd_BadRow kx0_BadRow kx1_BadRow kx2_BadRow kx3_BadRow kx5_BadRow "ValueError.__new__"))
    (xm_BadRow : PySem.HandSPX.refsVE bm_BadRow = true)
    (xsa_BadRow : PySem.W.findIn K (.ref CBadRow) "__setattr__" = some (some (.builtin "object.__setattr__")))
    (xk_BadRow : PySem.W.keepIn K (.ref CBadRow) = true)
    (iI_BadRow : PySem.W.findIn K (.ref CBadRow) "__init__" = some (some (.ref fI_BadRow)))
    (tI_BadRow : PySem.W.typeIn K (.ref fI_BadRow) = some (.type "function"))
    (lI_BadRow : K.lookup fI_BadRow = some ⟨ocI_BadRow, odI_BadRow, .func (PySem.W.fnOf "__init__" "BadRow.__init__" (defArgs sI_BadRow) (defBody sI_BadRow) (defScope sI_BadRow) .none kVI_BadRow dcI_BadRow pmI_BadRow anI_BadRow cdI_BadRow ctI_BadRow), slI_BadRow⟩)
    (cI_BadRow : PySem.W.codeIn K cdI_BadRow "BadRow.__init__" = true)
    (kI_BadRow : PySem.W.keepIn K (.ref fI_BadRow) = true)
    (xC_BadText : K.lookup CBadText = some (excClassObj nm_BadText q_BadText CBadText N_BadText bs_BadText bm_BadText true sn_BadText sub_BadText ab_BadText col_BadText dd_BadText kx0_BadText kx1_BadText kx2_BadText kx3_BadText kx5_BadText "ValueError.__new__"))
    (xm_BadText : PySem.HandSPX.refsVE bm_BadText = true)
    (xsa_BadText : PySem.W.findIn K (.ref CBadText) "__setattr__" = some (some (.builtin "object.__setattr__")))
    (xk_BadText : PySem.W.keepIn K (.ref CBadText) = true)
    (iI_BadText : PySem.W.findIn K (.ref CBadText) "__init__" = some (some (.ref fI_BadText)))
    (tI_BadText : PySem.W.typeIn K (.ref fI_BadText) = some (.type "function"))
    (lI_BadText : K.lookup fI_BadText = some ⟨ocI_BadText, odI_BadText, .func (PySem.W.fnOf "__init__" "BadText.__init__" (defArgs sI_BadText) (defBody sI_BadText) (defScope sI_BadText) .none kVI_BadText dcI_BadText pmI_BadText anI_BadText cdI_BadText ctI_BadText), slI_BadText⟩)
    (cI_BadText : PySem.W.codeIn K cdI_BadText "BadText.__init__" = true)
    (kI_BadText : PySem.W.keepIn K (.ref fI_BadText) = true)
    (z_enumerate : PySem.W.nsIn K mainGlobals "enumerate" = some none)
    (z_int : PySem.W.nsIn K mainGlobals "int" = some none)
    (z_isinstance : PySem.W.nsIn K mainGlobals "isinstance" = some none)
    (z_len : PySem.W.nsIn K mainGlobals "len" = some none)
    (z_list : PySem.W.nsIn K mainGlobals "list" = some none)
    (z_min : PySem.W.nsIn K mainGlobals "min" = some none)
    (z_range : PySem.W.nsIn K mainGlobals "range" = some none)
    (z_repr : PySem.W.nsIn K mainGlobals "repr" = some none)
    (z_str : PySem.W.nsIn K mainGlobals "str" = some none)
    (z_tuple : PySem.W.nsIn K mainGlobals "tuple" = some none)
    (v_mI_MOST_TEXT : PySem.W.nsIn K mainGlobals "MOST_TEXT" = some (some (.int 200 t_mI_MOST_TEXT)))
    (v_mT_PRESS_WORDS : PySem.W.nsIn K mainGlobals "PRESS_WORDS" = some (some (.ref aT_mT_PRESS_WORDS)))
    (vl_mT_PRESS_WORDS : K.lookup aT_mT_PRESS_WORDS = some ⟨.type "tuple", ddT_mT_PRESS_WORDS, .seq #[.str "write" tT0_mT_PRESS_WORDS, .str "clear" tT1_mT_PRESS_WORDS, .str "reset" tT2_mT_PRESS_WORDS, .str "next" tT3_mT_PRESS_WORDS, .str "back" tT4_mT_PRESS_WORDS] nT_mT_PRESS_WORDS, slT_mT_PRESS_WORDS⟩)
    (hcd0 : cd19 = .ref cL0)
    (lc0 : K.lookup cL0 = some ⟨eL0, ddL0, .fields vsL0, slL0⟩)
    (v110 : vsL0[11]? = some (.ref PL0))
    (nP0 : K.lookup PL0 = none)
    (hrec0 : ((recsOf pr).any fun e => e.name == ("_law_right" : Str)) = true)
    (hcd1 : cd21 = .ref cL1)
    (lc1 : K.lookup cL1 = some ⟨eL1, ddL1, .fields vsL1, slL1⟩)
    (v111 : vsL1[11]? = some (.ref PL1))
    (nP1 : K.lookup PL1 = none)
    (hrec1 : ((recsOf pr).any fun e => e.name == ("_law_read_right" : Str)) = true)
    (hcd2 : cd22 = .ref cL2)
    (lc2 : K.lookup cL2 = some ⟨eL2, ddL2, .fields vsL2, slL2⟩)
    (v112 : vsL2[11]? = some (.ref PL2))
    (nP2 : K.lookup PL2 = none)
    (hrec2 : ((recsOf pr).any fun e => e.name == ("law" : Str)) = true)
    (dP0_1 : (Value.ref PL0 == Value.ref PL1) = false)
    (dP0_2 : (Value.ref PL0 == Value.ref PL2) = false)
    (dP1_2 : (Value.ref PL1 == Value.ref PL2) = false)
    : LawG l w K 9 63 "_law_script" mg fa h := by
  have e := hfa.symm.trans (PySem.W.mg_of X G a22)
  cases e
  obtain ⟨q, hq⟩ : ∃ q : Ad, q = (⟨CSnippetError, CBadSnippet, CBadPress, CBadRow, CBadState, CBadSnippet, CBadSnippet, CBadSnippet, CBadSnippet, CBadText, CBadSnippet, CBadSnippet, CBadSnippet, CBadSnippet, CSnippetError, CSnippetError, CSnippetError, CSnippetError, CSnippetError, CSnippetError, CSnippetError, CSnippetError, CSnippetError, CSnippetError, CSnippetError, CSnippetError⟩ : Ad) := ⟨_, rfl⟩
  have F0 := fun_mk (st := s__law_by_hand) l0 c0 k0
  have m0 := PySem.W.mg_of X G a0
  have F1 := fun_mk (st := s__law_draws) l1 c1 k1
  have m1 := PySem.W.mg_of X G a1
  have F2 := fun_mk (st := s__law_odds_3ad58c) l2 c2 k2
  have m2 := PySem.W.mg_of X G a2
  have F3 := fun_mk (st := s__law_lines_dd0f9d) l3 c3 k3
  have m3 := PySem.W.mg_of X G a3
  have F4 := fun_mk (st := s__law_pick) l4 c4 k4
  have m4 := PySem.W.mg_of X G a4
  have F5 := fun_mk (st := s__law_one) l5 c5 k5
  have m5 := PySem.W.mg_of X G a5
  have F6 := fun_mk (st := s__law_bent_text_e4fb99) l6 c6 k6
  have m6 := PySem.W.mg_of X G a6
  have F7 := fun_mk (st := s__law_signs_1caa5b) l7 c7 k7
  have m7 := PySem.W.mg_of X G a7
  have F8 := fun_mk (st := s__law_written_R33) l8 c8 k8
  have m8 := PySem.W.mg_of X G a8
  have F9 := fun_mk (st := s__law_press) l9 c9 k9
  have m9 := PySem.W.mg_of X G a9
  have F10 := fun_mk (st := s__law_is_press_e02fb6) l10 c10 k10
  have m10 := PySem.W.mg_of X G a10
  have F11 := fun_mk (st := s__law_want_d7aeca) l11 c11 k11
  have m11 := PySem.W.mg_of X G a11
  have F12 := fun_mk (st := s__law_told_1a87f6) l12 c12 k12
  have m12 := PySem.W.mg_of X G a12
  have F13 := fun_mk (st := s_is_text) l13 c13 k13
  have m13 := PySem.W.mg_of X G a13
  have F14 := fun_mk (st := s_need_press) l14 c14 k14
  have m14 := PySem.W.mg_of X G a14
  have F15 := fun_mk (st := s_need_row) l15 c15 k15
  have m15 := PySem.W.mg_of X G a15
  have F16 := fun_mk (st := s_row_text) l16 c16 k16
  have m16 := PySem.W.mg_of X G a16
  have F17 := fun_mk (st := s_press_of) l17 c17 k17
  have m17 := PySem.W.mg_of X G a17
  have F18 := fun_mk (st := s_read_row) l18 c18 k18
  have m18 := PySem.W.mg_of X G a18
  have F19 := fun_mk (st := s__law_right_aa9dc6) l19 c19 k19
  have m19 := PySem.W.mg_of X G a19
  have F20 := fun_mk (st := s__law_read_f27a7e) l20 c20 k20
  have m20 := PySem.W.mg_of X G a20
  have F21 := fun_mk (st := s__law_read_right) l21 c21 k21
  have m21 := PySem.W.mg_of X G a21
  have F22 := fun_mk (st := s_law_7c04c7) l22 c22 k22
  have m22 := PySem.W.mg_of X G a22
  have FI_BadPress := fun_mk (st := sI_BadPress) lI_BadPress cI_BadPress kI_BadPress
  have FI_BadRow := fun_mk (st := sI_BadRow) lI_BadRow cI_BadRow kI_BadRow
  have FI_BadText := fun_mk (st := sI_BadText) lI_BadText cI_BadText kI_BadText
  subst hcd0
  subst hcd1
  subst hcd2
  obtain ⟨tH0, tE0⟩ := tab "_law_right" _ _ _ _ _ _ _ _ _ hrec0 m19 l19 rfl rfl lc0 v110
  obtain ⟨tH1, tE1⟩ := tab "_law_read_right" _ _ _ _ _ _ _ _ _ hrec1 m21 l21 rfl rfl lc1 v111
  obtain ⟨tH2, tE2⟩ := tab "law" _ _ _ _ _ _ _ _ _ hrec2 m22 l22 rfl rfl lc2 v112
  refine ⟨PySem.W.fnOf "law" "law" (defArgs s_law_7c04c7) (defBody s_law_7c04c7) (defScope s_law_7c04c7) .none kV22 dc22 pm22 an22 (.ref cL2) ct22, [(cL0, PL0, (envOfC "_law_right" (defScope s__law_right_aa9dc6) 0 0 .none).qual ++ "<lambda>"), (cL1, PL1, (envOfC "_law_read_right" (defScope s__law_read_right) 0 0 .none).qual ++ "<lambda>"), (cL2, PL2, (envOfC "law" (defScope s_law_7c04c7) 0 0 .none).qual ++ "<lambda>")], fnS 13 (m_law_7c04c7 q), ?_, ?_, ?_, fun s u => .of_eq rfl, fun ns hn _ => law_k33 (by subst hq; exact dst33_of n_BadText_BadRow n_BadText_BadPress n_BadText_BadSnippet n_BadText_BadState n_BadRow_BadPress n_BadRow_BadSnippet n_BadRow_BadState) ns hn, fun base kin gns TB => ?_⟩
  · intro p hp; simp only [List.mem_cons, List.not_mem_nil, or_false] at hp; rcases hp with rfl | rfl | rfl
    · exact tE0
    · exact tE1
    · exact tE2
  · intro p hp; simp only [List.mem_cons, List.not_mem_nil, or_false] at hp; rcases hp with rfl | rfl | rfl
    · exact nP0
    · exact nP1
    · exact nP2
  · intro p hp; simp only [List.mem_cons, List.not_mem_nil, or_false] at hp; rcases hp with rfl | rfl | rfl
    · exact tH0
    · exact tH1
    · exact tH2
  have TB0 := TB (cL0, PL0, (envOfC "_law_right" (defScope s__law_right_aa9dc6) 0 0 .none).qual ++ "<lambda>") (by simp)
  have TB1 := TB (cL1, PL1, (envOfC "_law_read_right" (defScope s__law_read_right) 0 0 .none).qual ++ "<lambda>") (by simp)
  have TB2 := TB (cL2, PL2, (envOfC "law" (defScope s_law_7c04c7) 0 0 .none).qual ++ "<lambda>") (by simp)
  have hd : [PL0, PL1, PL2].Nodup := by
    have z : ∀ a b : Addr, (Value.ref a == Value.ref b) = false → a ≠ b := fun a b h e => by rw [e] at h; simp at h
    simp only [List.nodup_cons, List.mem_cons, List.not_mem_nil, or_false, not_or, not_false_eq_true, List.nodup_nil, and_true]
    exact ⟨⟨z _ _ dP0_1, z _ _ dP0_2⟩, z _ _ dP1_2⟩
  have ec_BadSnippet : L2.ExcC K CBadSnippet := ⟨egBadSnippet, ekBadSnippet, xexBadSnippet, edBadSnippet, eaBadSnippet, en, et, emBadSnippet⟩
  have ec_BadPress : L2.ExcC K CBadPress := ⟨egBadPress, ekBadPress, xexBadPress, edBadPress, eaBadPress, en, et, emBadPress⟩
  have ec_BadRow : L2.ExcC K CBadRow := ⟨egBadRow, ekBadRow, xexBadRow, edBadRow, eaBadRow, en, et, emBadRow⟩
  have ec_BadState : L2.ExcC K CBadState := ⟨egBadState, ekBadState, xexBadState, edBadState, eaBadState, en, et, emBadState⟩
  have ec_BadText : L2.ExcC K CBadText := ⟨egBadText, ekBadText, xexBadText, edBadText, eaBadText, en, et, emBadText⟩
  have xt_BadSnippet_SnippetError := PySem.W.exm_ref xexSnippetError edSnippetError xtySnippetError s_BadSnippet_SnippetError
  have kt_BadSnippet_BadSnippet : PySem.W.kitOne K (.ref CBadSnippet) (.ref CBadSnippet) = some true := by unfold PySem.W.kitOne; rw [if_pos (by simp)]
  have xt_BadSnippet_BadPress := PySem.W.exm_ref xexBadPress edBadPress xtyBadPress s_BadSnippet_BadPress
  have kt_BadSnippet_BadPress : PySem.W.kitOne K (.ref CBadSnippet) (.ref CBadPress) = some false := by
    have z := xt_BadSnippet_BadPress
    unfold PySem.W.exmOne at z
    rw [xexBadPress, if_pos (by rfl)] at z
    unfold PySem.W.kitOne
    rw [n_BadSnippet_BadPress, if_neg Bool.false_ne_true]; exact z
  have xt_BadSnippet_BadRow := PySem.W.exm_ref xexBadRow edBadRow xtyBadRow s_BadSnippet_BadRow
  have kt_BadSnippet_BadRow : PySem.W.kitOne K (.ref CBadSnippet) (.ref CBadRow) = some false := by
    have z := xt_BadSnippet_BadRow
    unfold PySem.W.exmOne at z
    rw [xexBadRow, if_pos (by rfl)] at z
    unfold PySem.W.kitOne
    rw [n_BadSnippet_BadRow, if_neg Bool.false_ne_true]; exact z
  have xt_BadSnippet_BadState := PySem.W.exm_ref xexBadState edBadState xtyBadState s_BadSnippet_BadState
  have kt_BadSnippet_BadState : PySem.W.kitOne K (.ref CBadSnippet) (.ref CBadState) = some false := by
    have z := xt_BadSnippet_BadState
    unfold PySem.W.exmOne at z
    rw [xexBadState, if_pos (by rfl)] at z
    unfold PySem.W.kitOne
    rw [n_BadSnippet_BadState, if_neg Bool.false_ne_true]; exact z
  have xt_BadSnippet_BadText := PySem.W.exm_ref xexBadText edBadText xtyBadText s_BadSnippet_BadText
  have kt_BadSnippet_BadText : PySem.W.kitOne K (.ref CBadSnippet) (.ref CBadText) = some false := by
    have z := xt_BadSnippet_BadText
    unfold PySem.W.exmOne at z
    rw [xexBadText, if_pos (by rfl)] at z
    unfold PySem.W.kitOne
    rw [n_BadSnippet_BadText, if_neg Bool.false_ne_true]; exact z
  have xt_BadPress_SnippetError := PySem.W.exm_ref xexSnippetError edSnippetError xtySnippetError s_BadPress_SnippetError
  have xt_BadPress_BadSnippet := PySem.W.exm_ref xexBadSnippet edBadSnippet xtyBadSnippet s_BadPress_BadSnippet
  have kt_BadPress_BadSnippet : PySem.W.kitOne K (.ref CBadPress) (.ref CBadSnippet) = some false := by
    have z := xt_BadPress_BadSnippet
    unfold PySem.W.exmOne at z
    rw [xexBadSnippet, if_pos (by rfl)] at z
    unfold PySem.W.kitOne
    rw [n_BadPress_BadSnippet, if_neg Bool.false_ne_true]; exact z
  have kt_BadPress_BadPress : PySem.W.kitOne K (.ref CBadPress) (.ref CBadPress) = some true := by unfold PySem.W.kitOne; rw [if_pos (by simp)]
  have xt_BadPress_BadRow := PySem.W.exm_ref xexBadRow edBadRow xtyBadRow s_BadPress_BadRow
  have kt_BadPress_BadRow : PySem.W.kitOne K (.ref CBadPress) (.ref CBadRow) = some false := by
    have z := xt_BadPress_BadRow
    unfold PySem.W.exmOne at z
    rw [xexBadRow, if_pos (by rfl)] at z
    unfold PySem.W.kitOne
    rw [n_BadPress_BadRow, if_neg Bool.false_ne_true]; exact z
  have xt_BadPress_BadState := PySem.W.exm_ref xexBadState edBadState xtyBadState s_BadPress_BadState
  have kt_BadPress_BadState : PySem.W.kitOne K (.ref CBadPress) (.ref CBadState) = some false := by
    have z := xt_BadPress_BadState
    unfold PySem.W.exmOne at z
    rw [xexBadState, if_pos (by rfl)] at z
    unfold PySem.W.kitOne
    rw [n_BadPress_BadState, if_neg Bool.false_ne_true]; exact z
  have xt_BadPress_BadText := PySem.W.exm_ref xexBadText edBadText xtyBadText s_BadPress_BadText
  have kt_BadPress_BadText : PySem.W.kitOne K (.ref CBadPress) (.ref CBadText) = some false := by
    have z := xt_BadPress_BadText
    unfold PySem.W.exmOne at z
    rw [xexBadText, if_pos (by rfl)] at z
    unfold PySem.W.kitOne
    rw [n_BadPress_BadText, if_neg Bool.false_ne_true]; exact z
  have xt_BadRow_SnippetError := PySem.W.exm_ref xexSnippetError edSnippetError xtySnippetError s_BadRow_SnippetError
  have xt_BadRow_BadSnippet := PySem.W.exm_ref xexBadSnippet edBadSnippet xtyBadSnippet s_BadRow_BadSnippet
  have kt_BadRow_BadSnippet : PySem.W.kitOne K (.ref CBadRow) (.ref CBadSnippet) = some false := by
    have z := xt_BadRow_BadSnippet
    unfold PySem.W.exmOne at z
    rw [xexBadSnippet, if_pos (by rfl)] at z
    unfold PySem.W.kitOne
    rw [n_BadRow_BadSnippet, if_neg Bool.false_ne_true]; exact z
  have xt_BadRow_BadPress := PySem.W.exm_ref xexBadPress edBadPress xtyBadPress s_BadRow_BadPress
  have kt_BadRow_BadPress : PySem.W.kitOne K (.ref CBadRow) (.ref CBadPress) = some false := by
    have z := xt_BadRow_BadPress
    unfold PySem.W.exmOne at z
    rw [xexBadPress, if_pos (by rfl)] at z
    unfold PySem.W.kitOne
    rw [n_BadRow_BadPress, if_neg Bool.false_ne_true]; exact z
  have kt_BadRow_BadRow : PySem.W.kitOne K (.ref CBadRow) (.ref CBadRow) = some true := by unfold PySem.W.kitOne; rw [if_pos (by simp)]
  have xt_BadRow_BadState := PySem.W.exm_ref xexBadState edBadState xtyBadState s_BadRow_BadState
  have kt_BadRow_BadState : PySem.W.kitOne K (.ref CBadRow) (.ref CBadState) = some false := by
    have z := xt_BadRow_BadState
    unfold PySem.W.exmOne at z
    rw [xexBadState, if_pos (by rfl)] at z
    unfold PySem.W.kitOne
    rw [n_BadRow_BadState, if_neg Bool.false_ne_true]; exact z
  have xt_BadRow_BadText := PySem.W.exm_ref xexBadText edBadText xtyBadText s_BadRow_BadText
  have kt_BadRow_BadText : PySem.W.kitOne K (.ref CBadRow) (.ref CBadText) = some false := by
    have z := xt_BadRow_BadText
    unfold PySem.W.exmOne at z
    rw [xexBadText, if_pos (by rfl)] at z
    unfold PySem.W.kitOne
    rw [n_BadRow_BadText, if_neg Bool.false_ne_true]; exact z
  have xt_BadState_SnippetError := PySem.W.exm_ref xexSnippetError edSnippetError xtySnippetError s_BadState_SnippetError
  have xt_BadState_BadSnippet := PySem.W.exm_ref xexBadSnippet edBadSnippet xtyBadSnippet s_BadState_BadSnippet
  have kt_BadState_BadSnippet : PySem.W.kitOne K (.ref CBadState) (.ref CBadSnippet) = some false := by
    have z := xt_BadState_BadSnippet
    unfold PySem.W.exmOne at z
    rw [xexBadSnippet, if_pos (by rfl)] at z
    unfold PySem.W.kitOne
    rw [n_BadState_BadSnippet, if_neg Bool.false_ne_true]; exact z
  have xt_BadState_BadPress := PySem.W.exm_ref xexBadPress edBadPress xtyBadPress s_BadState_BadPress
  have kt_BadState_BadPress : PySem.W.kitOne K (.ref CBadState) (.ref CBadPress) = some false := by
    have z := xt_BadState_BadPress
    unfold PySem.W.exmOne at z
    rw [xexBadPress, if_pos (by rfl)] at z
    unfold PySem.W.kitOne
    rw [n_BadState_BadPress, if_neg Bool.false_ne_true]; exact z
  have xt_BadState_BadRow := PySem.W.exm_ref xexBadRow edBadRow xtyBadRow s_BadState_BadRow
  have kt_BadState_BadRow : PySem.W.kitOne K (.ref CBadState) (.ref CBadRow) = some false := by
    have z := xt_BadState_BadRow
    unfold PySem.W.exmOne at z
    rw [xexBadRow, if_pos (by rfl)] at z
    unfold PySem.W.kitOne
    rw [n_BadState_BadRow, if_neg Bool.false_ne_true]; exact z
  have kt_BadState_BadState : PySem.W.kitOne K (.ref CBadState) (.ref CBadState) = some true := by unfold PySem.W.kitOne; rw [if_pos (by simp)]
  have xt_BadState_BadText := PySem.W.exm_ref xexBadText edBadText xtyBadText s_BadState_BadText
  have kt_BadState_BadText : PySem.W.kitOne K (.ref CBadState) (.ref CBadText) = some false := by
    have z := xt_BadState_BadText
    unfold PySem.W.exmOne at z
    rw [xexBadText, if_pos (by rfl)] at z
    unfold PySem.W.kitOne
    rw [n_BadState_BadText, if_neg Bool.false_ne_true]; exact z
  have xt_BadText_SnippetError := PySem.W.exm_ref xexSnippetError edSnippetError xtySnippetError s_BadText_SnippetError
  have xt_BadText_BadSnippet := PySem.W.exm_ref xexBadSnippet edBadSnippet xtyBadSnippet s_BadText_BadSnippet
  have kt_BadText_BadSnippet : PySem.W.kitOne K (.ref CBadText) (.ref CBadSnippet) = some false := by
    have z := xt_BadText_BadSnippet
    unfold PySem.W.exmOne at z
    rw [xexBadSnippet, if_pos (by rfl)] at z
    unfold PySem.W.kitOne
    rw [n_BadText_BadSnippet, if_neg Bool.false_ne_true]; exact z
  have xt_BadText_BadPress := PySem.W.exm_ref xexBadPress edBadPress xtyBadPress s_BadText_BadPress
  have kt_BadText_BadPress : PySem.W.kitOne K (.ref CBadText) (.ref CBadPress) = some false := by
    have z := xt_BadText_BadPress
    unfold PySem.W.exmOne at z
    rw [xexBadPress, if_pos (by rfl)] at z
    unfold PySem.W.kitOne
    rw [n_BadText_BadPress, if_neg Bool.false_ne_true]; exact z
  have xt_BadText_BadRow := PySem.W.exm_ref xexBadRow edBadRow xtyBadRow s_BadText_BadRow
  have kt_BadText_BadRow : PySem.W.kitOne K (.ref CBadText) (.ref CBadRow) = some false := by
    have z := xt_BadText_BadRow
    unfold PySem.W.exmOne at z
    rw [xexBadRow, if_pos (by rfl)] at z
    unfold PySem.W.kitOne
    rw [n_BadText_BadRow, if_neg Bool.false_ne_true]; exact z
  have xt_BadText_BadState := PySem.W.exm_ref xexBadState edBadState xtyBadState s_BadText_BadState
  have kt_BadText_BadState : PySem.W.kitOne K (.ref CBadText) (.ref CBadState) = some false := by
    have z := xt_BadText_BadState
    unfold PySem.W.exmOne at z
    rw [xexBadState, if_pos (by rfl)] at z
    unfold PySem.W.kitOne
    rw [n_BadText_BadState, if_neg Bool.false_ne_true]; exact z
  have kt_BadText_BadText : PySem.W.kitOne K (.ref CBadText) (.ref CBadText) = some true := by unfold PySem.W.kitOne; rw [if_pos (by simp)]
  have xs_BadPress := PySem.W.exm_ref xexBadPress edBadPress xtyBadPress s_BadPress_BadPress
  have inEx : ∀ C, C ∈ excs q → C = CBadSnippet ∨ C = CBadPress ∨ C = CBadRow ∨ C = CBadState ∨ C = CBadText := by
    intro C hC
    rw [hq] at hC
    simp only [excs, subsS, List.mem_cons, List.mem_append, List.not_mem_nil, or_false, or_assoc] at hC
    rcases hC with rfl | rfl | rfl | rfl | rfl | rfl | rfl | rfl | rfl | rfl | rfl | rfl | rfl <;> simp
  have ox_BadPress : OexC K CBadPress := ⟨⟨_, _, _, _, _, _, _, _, _, _, _, _, _, _, _, xC_BadPress, xm_BadPress⟩, xsa_BadPress, xexBadPress, xtyBadPress, xk_BadPress⟩
  have oi_BadPress : FnOk l.prog w K mg base (L2.CX l.prog w) 1 fI_BadPress _ ["self", "given"] (spI K CBadPress ["given"]) := init1 (tx := "not a press") FI_BadPress scI_BadPress rfl rfl fun cdv A outer s H E =>
    pss_cons (ps_expr (pe_binit ⟨bga, brd, bfc⟩ rfl (PySem.W.mg_of X G gSnippetError) (pa_cons (pv 0) (pa_cons pe_str pa_nil)) (by decide))) (pss_one (ps_ost (pv 0) (pv 1)))
  have ox_BadRow : OexC K CBadRow := ⟨⟨_, _, _, _, _, _, _, _, _, _, _, _, _, _, _, xC_BadRow, xm_BadRow⟩, xsa_BadRow, xexBadRow, xtyBadRow, xk_BadRow⟩
  have oi_BadRow : FnOk l.prog w K mg base (L2.CX l.prog w) 1 fI_BadRow _ ["self", "place"] (spI K CBadRow ["place"]) := init1 (tx := "not a row") FI_BadRow scI_BadRow rfl rfl fun cdv A outer s H E =>
    pss_cons (ps_expr (pe_binit ⟨bga, brd, bfc⟩ rfl (PySem.W.mg_of X G gSnippetError) (pa_cons (pv 0) (pa_cons pe_str pa_nil)) (by decide))) (pss_one (ps_ost (pv 0) (pv 1)))
  have ox_BadText : OexC K CBadText := ⟨⟨_, _, _, _, _, _, _, _, _, _, _, _, _, _, _, xC_BadText, xm_BadText⟩, xsa_BadText, xexBadText, xtyBadText, xk_BadText⟩
  have oi_BadText : FnOk l.prog w K mg base (L2.CX l.prog w) 1 fI_BadText _ ["self", "place"] (spI K CBadText ["place"]) := init1 (tx := "not a written form") FI_BadText scI_BadText rfl rfl fun cdv A outer s H E =>
    pss_cons (ps_expr (pe_binit ⟨bga, brd, bfc⟩ rfl (PySem.W.mg_of X G gSnippetError) (pa_cons (pv 0) (pa_cons pe_str pa_nil)) (by decide))) (pss_one (ps_ost (pv 0) (pv 1)))
  have oh_BadRow : L2H.FnH l.prog w K mg base (L2.CX l.prog w) 1 fI_BadRow _ ["self", "place"] (spI K CBadRow ["place"]) := init1H (tx := "not a row") FI_BadRow scI_BadRow rfl rfl fun cdv A outer s H E p =>
    pss_cons (ps_expr (pe_binit ⟨bga, brd, bfc⟩ rfl (PySem.W.mg_of X G gSnippetError) (pa_cons (pv 0) (pa_cons pe_str pa_nil)) (by decide))) (pss_one (ps_ost (pv 0) (pv 1)))
  have oh_BadText : L2H.FnH l.prog w K mg base (L2.CX l.prog w) 1 fI_BadText _ ["self", "place"] (spI K CBadText ["place"]) := init1H (tx := "not a written form") FI_BadText scI_BadText rfl rfl fun cdv A outer s H E p =>
    pss_cons (ps_expr (pe_binit ⟨bga, brd, bfc⟩ rfl (PySem.W.mg_of X G gSnippetError) (pa_cons (pv 0) (pa_cons pe_str pa_nil)) (by decide))) (pss_one (ps_ost (pv 0) (pv 1)))
  have g : Gx l.prog w K mg base q := by
    constructor
    case f_enumerate =>
      exact PySem.W.mg_none_of X G z_enumerate
    case f_int =>
      exact PySem.W.mg_none_of X G z_int
    case f_isinstance =>
      exact PySem.W.mg_none_of X G z_isinstance
    case f_len =>
      exact PySem.W.mg_none_of X G z_len
    case f_list =>
      exact PySem.W.mg_none_of X G z_list
    case f_min =>
      exact PySem.W.mg_none_of X G z_min
    case f_range =>
      exact PySem.W.mg_none_of X G z_range
    case f_repr =>
      exact PySem.W.mg_none_of X G z_repr
    case f_str =>
      exact PySem.W.mg_none_of X G z_str
    case f_tuple =>
      exact PySem.W.mg_none_of X G z_tuple
    case hr_BadPress =>
      intro C hC
      rcases lk_of hC with ⟨hC, _⟩ | ⟨_, _, h⟩
      · rw [List.mem_singleton.mp hC, hq]
        exact ⟨xexBadPress, xtyBadPress⟩
      · cases h
    case iT_BadPress_BadSnippet_BadState =>
      intro C b hb
      rcases lk_of hb with ⟨hC, rfl⟩ | ⟨hN, hC, rfl⟩
      · rw [hq] at hC ⊢
        simp only [List.mem_cons, List.not_mem_nil, or_false] at hC
        rcases hC with rfl | rfl | rfl
        · exact ⟨ec_BadPress, by simp only [List.map_cons, List.map_nil, PySem.W.kitAny, kt_BadPress_BadPress, kt_BadPress_BadSnippet, kt_BadPress_BadState] <;> rfl⟩
        · exact ⟨ec_BadSnippet, by simp only [List.map_cons, List.map_nil, PySem.W.kitAny, kt_BadSnippet_BadPress, kt_BadSnippet_BadSnippet, kt_BadSnippet_BadState] <;> rfl⟩
        · exact ⟨ec_BadState, by simp only [List.map_cons, List.map_nil, PySem.W.kitAny, kt_BadState_BadPress, kt_BadState_BadSnippet, kt_BadState_BadState] <;> rfl⟩
      · rcases inEx C hC with rfl | rfl | rfl | rfl | rfl
        · exact absurd (by rw [hq]; simp) hN
        · exact absurd (by rw [hq]; simp) hN
        · rw [hq]; exact ⟨ec_BadRow, by simp only [List.map_cons, List.map_nil, PySem.W.kitAny, kt_BadRow_BadPress, kt_BadRow_BadSnippet, kt_BadRow_BadState] <;> rfl⟩
        · exact absurd (by rw [hq]; simp) hN
        · rw [hq]; exact ⟨ec_BadText, by simp only [List.map_cons, List.map_nil, PySem.W.kitAny, kt_BadText_BadPress, kt_BadText_BadSnippet, kt_BadText_BadState] <;> rfl⟩
    case i_BadRow =>
      intro C b hb
      rcases lk_of hb with ⟨hC, rfl⟩ | ⟨hN, hC, rfl⟩
      · rw [List.mem_singleton.mp hC, hq]
        exact ⟨ec_BadRow, kt_BadRow_BadRow⟩
      · rcases inEx C hC with rfl | rfl | rfl | rfl | rfl
        · rw [hq]; exact ⟨ec_BadSnippet, kt_BadSnippet_BadRow⟩
        · rw [hq]; exact ⟨ec_BadPress, kt_BadPress_BadRow⟩
        · exact absurd (by rw [hq]; simp) hN
        · rw [hq]; exact ⟨ec_BadState, kt_BadState_BadRow⟩
        · rw [hq]; exact ⟨ec_BadText, kt_BadText_BadRow⟩
    case i_BadText =>
      intro C b hb
      rcases lk_of hb with ⟨hC, rfl⟩ | ⟨hN, hC, rfl⟩
      · rw [List.mem_singleton.mp hC, hq]
        exact ⟨ec_BadText, kt_BadText_BadText⟩
      · rcases inEx C hC with rfl | rfl | rfl | rfl | rfl
        · rw [hq]; exact ⟨ec_BadSnippet, kt_BadSnippet_BadText⟩
        · rw [hq]; exact ⟨ec_BadPress, kt_BadPress_BadText⟩
        · rw [hq]; exact ⟨ec_BadRow, kt_BadRow_BadText⟩
        · rw [hq]; exact ⟨ec_BadState, kt_BadState_BadText⟩
        · exact absurd (by rw [hq]; simp) hN
    case k_BadPress =>
      rw [hq]
      exact ⟨⟨fI_BadPress, _, _, oi_BadPress, iI_BadPress, tI_BadPress, FI_BadPress.binds fun _ _ _ _ _ _ us hl => match us, hl with | [_, _], _ => rfl⟩, ox_BadPress, fun x hx => by rw [List.mem_singleton.mp hx]; exact nx_BadPress_given, PySem.W.mg_of X G gBadPress⟩
    case k_BadRow =>
      rw [hq]
      exact ⟨⟨fI_BadRow, _, _, oi_BadRow, iI_BadRow, tI_BadRow, FI_BadRow.binds fun _ _ _ _ _ _ us hl => match us, hl with | [_, _], _ => rfl⟩, ox_BadRow, fun x hx => by rw [List.mem_singleton.mp hx]; exact nx_BadRow_place, PySem.W.mg_of X G gBadRow⟩
    case k_BadText =>
      rw [hq]
      exact ⟨⟨fI_BadText, _, _, oi_BadText, iI_BadText, tI_BadText, FI_BadText.binds fun _ _ _ _ _ _ us hl => match us, hl with | [_, _], _ => rfl⟩, ox_BadText, fun x hx => by rw [List.mem_singleton.mp hx]; exact nx_BadText_place, PySem.W.mg_of X G gBadText⟩
    case kh_BadRow =>
      rw [hq]
      exact ⟨⟨fI_BadRow, _, _, oh_BadRow, iI_BadRow, tI_BadRow, FI_BadRow.binds fun _ _ _ _ _ _ us hl => match us, hl with | [_, _], _ => rfl⟩, ox_BadRow, fun x hx => by rw [List.mem_singleton.mp hx]; exact nx_BadRow_place, PySem.W.mg_of X G gBadRow⟩
    case kh_BadText =>
      rw [hq]
      exact ⟨⟨fI_BadText, _, _, oh_BadText, iI_BadText, tI_BadText, FI_BadText.binds fun _ _ _ _ _ _ us hl => match us, hl with | [_, _], _ => rfl⟩, ox_BadText, fun x hx => by rw [List.mem_singleton.mp hx]; exact nx_BadText_place, PySem.W.mg_of X G gBadText⟩
    case mI_MOST_TEXT =>
      exact ⟨_, PySem.W.mg_of X G v_mI_MOST_TEXT⟩
    case mT_PRESS_WORDS =>
      exact ⟨aT_mT_PRESS_WORDS, PySem.W.mg_of X G v_mT_PRESS_WORDS, fun al H => rp_ktup vl_mT_PRESS_WORDS rfl rfl (by show 5 ≤ sizeLine; decide) (vs := [.str "write", .str "clear", .str "reset", .str "next", .str "back"]) (.cons ⟨_, rfl⟩ (.cons ⟨_, rfl⟩ (.cons ⟨_, rfl⟩ (.cons ⟨_, rfl⟩ (.cons ⟨_, rfl⟩ .nil))))) (rps_strs ["write", "clear", "reset", "next", "back"])⟩
    case m_BadPress =>
      rw [hq]; exact PySem.W.mg_of X G gBadPress
    case m_BadRow =>
      rw [hq]; exact PySem.W.mg_of X G gBadRow
    case m_BadSnippet =>
      rw [hq]; exact PySem.W.mg_of X G gBadSnippet
    case m_BadState =>
      rw [hq]; exact PySem.W.mg_of X G gBadState
    case m_BadText =>
      rw [hq]; exact PySem.W.mg_of X G gBadText
    case m_SnippetError =>
      rw [hq]; exact PySem.W.mg_of X G gSnippetError
    case t_BadPress =>
      intro C b hb
      rcases lk_of hb with ⟨hC, rfl⟩ | ⟨hN, hC, rfl⟩
      · rw [List.mem_singleton.mp hC, hq]
        exact xs_BadPress
      · rcases inEx C hC with rfl | rfl | rfl | rfl | rfl
        · rw [hq]; exact xt_BadSnippet_BadPress
        · exact absurd (by rw [hq]; simp) hN
        · rw [hq]; exact xt_BadRow_BadPress
        · rw [hq]; exact xt_BadState_BadPress
        · rw [hq]; exact xt_BadText_BadPress
    case t_SnippetError =>
      intro C b hb
      rcases lk_of hb with ⟨hC, rfl⟩ | ⟨hN, hC, rfl⟩
      · rw [hq]
        rw [hq] at hC
        simp only [subsS, List.mem_cons, List.mem_append, List.not_mem_nil, or_false, or_assoc] at hC
        rcases hC with rfl | rfl | rfl | rfl | rfl | rfl | rfl | rfl | rfl | rfl | rfl
        · exact xt_BadSnippet_SnippetError
        · exact xt_BadPress_SnippetError
        · exact xt_BadRow_SnippetError
        · exact xt_BadState_SnippetError
        · exact xt_BadSnippet_SnippetError
        · exact xt_BadSnippet_SnippetError
        · exact xt_BadSnippet_SnippetError
        · exact xt_BadSnippet_SnippetError
        · exact xt_BadText_SnippetError
        · exact xt_BadSnippet_SnippetError
        · exact xt_BadSnippet_SnippetError
      · rw [hq] at hC hN
        simp only [List.mem_cons, List.not_mem_nil, or_false] at hC
        rcases hC with rfl | rfl
        · exact absurd (by simp [subsS]) hN
        · exact absurd (by simp [subsS]) hN
    case x_place =>
      intro C hC
      have z := of_decide_eq_true hC
      rw [hq] at z
      simp only [List.mem_cons, List.not_mem_nil, or_false] at z
      rcases z with rfl | rfl | rfl | rfl
      · exact ⟨⟨egBadSnippet, ekBadSnippet, xexBadSnippet, edBadSnippet⟩, nx_BadSnippet_place⟩
      · exact ⟨⟨egBadRow, ekBadRow, xexBadRow, edBadRow⟩, nx_BadRow_place⟩
      · exact ⟨⟨egBadSnippet, ekBadSnippet, xexBadSnippet, edBadSnippet⟩, nx_BadSnippet_place⟩
      · exact ⟨⟨egBadText, ekBadText, xexBadText, edBadText⟩, nx_BadText_place⟩
  have x__law_by_hand : Fx l.prog w K mg base (T_L PL0 PL1 PL2) "_law_by_hand" 2 0 (P__law_by_hand q) := fx__law_by_hand (T := T_L PL0 PL1 PL2) g F0 m0
  have x__law_draws : Fx l.prog w K mg base (T_L PL0 PL1 PL2) "_law_draws" 2 1 (P__law_draws q) := fx__law_draws (T := T_L PL0 PL1 PL2) g F1 m1
  have x__law_odds_3ad58c : Fx l.prog w K mg base (T_L PL0 PL1 PL2) "_law_odds" 2 0 (P__law_odds_3ad58c q) := fx__law_odds_3ad58c (T := T_L PL0 PL1 PL2) g F2 m2
  have x__law_lines_dd0f9d : Fx l.prog w K mg base (T_L PL0 PL1 PL2) "_law_lines" 2 1 (P__law_lines_dd0f9d q) := fx__law_lines_dd0f9d (T := T_L PL0 PL1 PL2) g F3 m3
  have x__law_pick : Fx l.prog w K mg base (T_L PL0 PL1 PL2) "_law_pick" 2 2 (P__law_pick q) := fx__law_pick (T := T_L PL0 PL1 PL2) g F4 m4
  have x__law_one : Fx l.prog w K mg base (T_L PL0 PL1 PL2) "_law_one" 3 2 (P__law_one q) := fx__law_one (T := T_L PL0 PL1 PL2) g x__law_pick F5 m5
  have x__law_bent_text_e4fb99 : Fx l.prog w K mg base (T_L PL0 PL1 PL2) "_law_bent_text" 4 2 (P__law_bent_text_e4fb99 q) := fx__law_bent_text_e4fb99 (T := T_L PL0 PL1 PL2) g x__law_pick x__law_one F6 m6
  have x__law_signs_1caa5b : Fx l.prog w K mg base (T_L PL0 PL1 PL2) "_law_signs" 2 0 (P__law_signs_1caa5b q) := fx__law_signs_1caa5b (T := T_L PL0 PL1 PL2) g F7 m7
  have x__law_written_R33 : Fx l.prog w K mg base (T_L PL0 PL1 PL2) "_law_written" 4 1 (P__law_written_R33 q) := fx__law_written_R33 (T := T_L PL0 PL1 PL2) g x__law_one x__law_signs_1caa5b x__law_pick F8 m8
  have x__law_press : Fx l.prog w K mg base (T_L PL0 PL1 PL2) "_law_press" 5 1 (P__law_press q) := fx__law_press (T := T_L PL0 PL1 PL2) g x__law_written_R33 x__law_one F9 m9
  have x__law_is_press_e02fb6 : Fx l.prog w K mg base (T_L PL0 PL1 PL2) "_law_is_press" 2 1 (P__law_is_press_e02fb6 q) := fx__law_is_press_e02fb6 (T := T_L PL0 PL1 PL2) g F10 m10
  have x__law_want_d7aeca : Fx l.prog w K mg base (T_L PL0 PL1 PL2) "_law_want" 3 1 (P__law_want_d7aeca q) := fx__law_want_d7aeca (T := T_L PL0 PL1 PL2) g x__law_lines_dd0f9d x__law_is_press_e02fb6 F11 m11
  have x_is_text : Fx l.prog w K mg base (T_L PL0 PL1 PL2) "is_text" 2 1 (P_is_text q) := fx_is_text (T := T_L PL0 PL1 PL2) g F13 m13
  have xn_is_text : Fx l.prog w K mg base (Tb.n (T_L PL0 PL1 PL2)) "is_text" 2 1 (P_is_text q) := fx_is_text (T := Tb.n (T_L PL0 PL1 PL2)) g F13 m13
  have x_need_press : Fx l.prog w K mg base (T_L PL0 PL1 PL2) "need_press" 3 1 (P_need_press q) := fx_need_press (T := T_L PL0 PL1 PL2) g x_is_text F14 m14
  have xn_need_press : Fx l.prog w K mg base (Tb.n (T_L PL0 PL1 PL2)) "need_press" 3 1 (P_need_press q) := fx_need_press (T := Tb.n (T_L PL0 PL1 PL2)) g xn_is_text F14 m14
  have x_need_row : Fx l.prog w K mg base (T_L PL0 PL1 PL2) "need_row" 4 1 (P_need_row q) := fx_need_row (T := T_L PL0 PL1 PL2) g rfl xn_need_press F15 m15
  have x_row_text : Fx l.prog w K mg base (T_L PL0 PL1 PL2) "row_text" 5 1 (P_row_text q) := fx_row_text (T := T_L PL0 PL1 PL2) g x_need_row F16 m16
  have x_press_of : Fx l.prog w K mg base (T_L PL0 PL1 PL2) "press_of" 2 1 (P_press_of q) := fx_press_of (T := T_L PL0 PL1 PL2) g F17 m17
  have xn_press_of : Fx l.prog w K mg base (Tb.n (T_L PL0 PL1 PL2)) "press_of" 2 1 (P_press_of q) := fx_press_of (T := Tb.n (T_L PL0 PL1 PL2)) g F17 m17
  have x_read_row : Fx l.prog w K mg base (T_L PL0 PL1 PL2) "read_row" 4 1 (P_read_row q) := fx_read_row (T := T_L PL0 PL1 PL2) g rfl xn_need_press xn_press_of F18 m18
  have x__law_right_aa9dc6 : Fx l.prog w K mg base (T_L PL0 PL1 PL2) "_law_right" 8 1 (P__law_right_aa9dc6 q) := fx__law_right_aa9dc6 (tA0 := PL0) (tA1 := PL1) (tA2 := PL2) hd g x_read_row x_row_text x__law_want_d7aeca m12 F12 F19 rfl TB0 m19
  have x__law_read_f27a7e : Fx l.prog w K mg base (T_L PL0 PL1 PL2) "_law_read" 2 1 (P__law_read_f27a7e q) := fx__law_read_f27a7e (T := T_L PL0 PL1 PL2) g F20 m20
  have x__law_read_right : Fx l.prog w K mg base (T_L PL0 PL1 PL2) "_law_read_right" 7 1 (P__law_read_right q) := fx__law_read_right (tA0 := PL0) (tA1 := PL1) (tA2 := PL2) hd g x_read_row x__law_read_f27a7e m12 F12 F21 rfl TB1 m21
  exact ok_law_7c04c7 (tA0 := PL0) (tA1 := PL1) (tA2 := PL2) (cA := cL2) hd g x__law_right_aa9dc6 x_read_row x__law_by_hand x__law_read_right x__law_pick x__law_bent_text_e4fb99 x__law_lines_dd0f9d x__law_one x__law_press x__law_odds_3ad58c x__law_draws m12 F12 F22 rfl TB2
end K33
set_option Elab.async false
set_option linter.all false
set_option autoImplicit false
set_option maxRecDepth 100000
set_option maxHeartbeats 4000000
open PySem PySem.W PyProof.Rows
set_option maxRecDepth 100000 in
set_option maxHeartbeats 0 in
theorem PySem.Challenge.cw_mirrorstops_k33_row_texts_holds : PySem.Challenge.rw_mirrorstops_k33_row_texts.Holds := by
  w_on; o_law; k_head; (case hw => w_witness2)
  k_fill
  refine DL.walk_G (l := PySem.Challenge.rw_mirrorstops_k33_row_texts) (n := 63) (k := 9) (x := "_law_script") rfl (by decide) rfl ⟨rfl, by decide, by decide⟩ (fun w h Y => by first | exact PySem.W.km_in_of Y | exact PySem.W.kIn_of Y) ?F
  case F =>
    intro w mg fa h Y KX G hmg tab
    refine' K33.all_mk KX G hmg tab ?a0 ?l0 ?c0 ?k0 ?a1 ?l1 ?c1 ?k1 ?a2 ?l2 ?c2 ?k2 ?a3 ?l3 ?c3 ?k3 ?a4 ?l4 ?c4 ?k4 ?a5 ?l5 ?c5 ?k5 ?a6 ?l6 ?c6 ?k6 ?a7 ?l7 ?c7 ?k7 ?a8 ?l8 ?c8 ?k8 ?a9 ?l9 ?c9 ?k9 ?a10 ?l10 ?c10 ?k10 ?a11 ?l11 ?c11 ?k11 ?a12 ?l12 ?c12 ?k12 ?a13 ?l13 ?c13 ?k13 ?a14 ?l14 ?c14 ?k14 ?a15 ?l15 ?c15 ?k15 ?a16 ?l16 ?c16 ?k16 ?a17 ?l17 ?c17 ?k17 ?a18 ?l18 ?c18 ?k18 ?a19 ?l19 ?c19 ?k19 ?a20 ?l20 ?c20 ?k20 ?a21 ?l21 ?c21 ?k21 ?a22 ?l22 ?c22 ?k22 ?gSnippetError ?gBadSnippet ?gBadPress ?gBadRow ?gBadState ?gBadText ?en ?et ?xexSnippetError ?edSnippetError ?xtySnippetError ?egSnippetError ?ekSnippetError ?eaSnippetError ?emSnippetError ?xexBadSnippet ?edBadSnippet ?xtyBadSnippet ?egBadSnippet ?ekBadSnippet ?eaBadSnippet ?emBadSnippet ?xexBadPress ?edBadPress ?xtyBadPress ?egBadPress ?ekBadPress ?eaBadPress ?emBadPress ?xexBadRow ?edBadRow ?xtyBadRow ?egBadRow ?ekBadRow ?eaBadRow ?emBadRow ?xexBadState ?edBadState ?xtyBadState ?egBadState ?ekBadState ?eaBadState ?emBadState ?xexBadText ?edBadText ?xtyBadText ?egBadText ?ekBadText ?eaBadText ?emBadText ?s_BadSnippet_SnippetError ?n_BadSnippet_SnippetError ?s_BadSnippet_BadPress ?n_BadSnippet_BadPress ?s_BadSnippet_BadRow ?n_BadSnippet_BadRow ?s_BadSnippet_BadState ?n_BadSnippet_BadState ?s_BadSnippet_BadText ?n_BadSnippet_BadText ?s_BadPress_SnippetError ?n_BadPress_SnippetError ?s_BadPress_BadSnippet ?n_BadPress_BadSnippet ?s_BadPress_BadRow ?n_BadPress_BadRow ?s_BadPress_BadState ?n_BadPress_BadState ?s_BadPress_BadText ?n_BadPress_BadText ?s_BadRow_SnippetError ?n_BadRow_SnippetError ?s_BadRow_BadSnippet ?n_BadRow_BadSnippet ?s_BadRow_BadPress ?n_BadRow_BadPress ?s_BadRow_BadState ?n_BadRow_BadState ?s_BadRow_BadText ?n_BadRow_BadText ?s_BadState_SnippetError ?n_BadState_SnippetError ?s_BadState_BadSnippet ?n_BadState_BadSnippet ?s_BadState_BadPress ?n_BadState_BadPress ?s_BadState_BadRow ?n_BadState_BadRow ?s_BadState_BadText ?n_BadState_BadText ?s_BadText_SnippetError ?n_BadText_SnippetError ?s_BadText_BadSnippet ?n_BadText_BadSnippet ?s_BadText_BadPress ?n_BadText_BadPress ?s_BadText_BadRow ?n_BadText_BadRow ?s_BadText_BadState ?n_BadText_BadState ?s_BadPress_BadPress ?nx_BadRow_place ?nx_BadSnippet_place ?nx_BadText_place ?bga ?brd ?bfc ?xC_BadPress ?xm_BadPress ?xsa_BadPress ?xk_BadPress ?iI_BadPress ?tI_BadPress ?lI_BadPress ?cI_BadPress ?kI_BadPress ?nx_BadPress_given ?xC_BadRow ?xm_BadRow ?xsa_BadRow ?xk_BadRow ?iI_BadRow ?tI_BadRow ?lI_BadRow ?cI_BadRow ?kI_BadRow ?xC_BadText ?xm_BadText ?xsa_BadText ?xk_BadText ?iI_BadText ?tI_BadText ?lI_BadText ?cI_BadText ?kI_BadText ?z_enumerate ?z_int ?z_isinstance ?z_len ?z_list ?z_min ?z_range ?z_repr ?z_str ?z_tuple ?v_mI_MOST_TEXT ?v_mT_PRESS_WORDS ?vl_mT_PRESS_WORDS ?hcd0 ?lc0 ?v110 ?nP0 ?hrec0 ?hcd1 ?lc1 ?v111 ?nP1 ?hrec1 ?hcd2 ?lc2 ?v112 ?nP2 ?hrec2 ?dP0_1 ?dP0_2 ?dP1_2
    (case gSnippetError => k_is)
    (case gBadSnippet => k_is)
    (case gBadPress => k_is)
    (case gBadRow => k_is)
    (case gBadState => k_is)
    (case gBadText => k_is)
    (case a0 => k_is)
    (case a1 => k_is)
    (case a2 => k_is)
    (case a3 => k_is)
    (case a4 => k_is)
    (case a5 => k_is)
    (case a6 => k_is)
    (case a7 => k_is)
    (case a8 => k_is)
    (case a9 => k_is)
    (case a10 => k_is)
    (case a11 => k_is)
    (case a12 => k_is)
    (case a13 => k_is)
    (case a14 => k_is)
    (case a15 => k_is)
    (case a16 => k_is)
    (case a17 => k_is)
    (case a18 => k_is)
    (case a19 => k_is)
    (case a20 => k_is)
    (case a21 => k_is)
    (case a22 => k_is)
    (case l0 => k_is)
    (case c0 => k_is)
    (case k0 => k_is)
    (case l1 => k_is)
    (case c1 => k_is)
    (case k1 => k_is)
    (case l2 => k_is)
    (case c2 => k_is)
    (case k2 => k_is)
    (case l3 => k_is)
    (case c3 => k_is)
    (case k3 => k_is)
    (case l4 => k_is)
    (case c4 => k_is)
    (case k4 => k_is)
    (case l5 => k_is)
    (case c5 => k_is)
    (case k5 => k_is)
    (case l6 => k_is)
    (case c6 => k_is)
    (case k6 => k_is)
    (case l7 => k_is)
    (case c7 => k_is)
    (case k7 => k_is)
    (case l8 => k_is)
    (case c8 => k_is)
    (case k8 => k_is)
    (case l9 => k_is)
    (case c9 => k_is)
    (case k9 => k_is)
    (case l10 => k_is)
    (case c10 => k_is)
    (case k10 => k_is)
    (case l11 => k_is)
    (case c11 => k_is)
    (case k11 => k_is)
    (case l12 => k_is)
    (case c12 => k_is)
    (case k12 => k_is)
    (case l13 => k_is)
    (case c13 => k_is)
    (case k13 => k_is)
    (case l14 => k_is)
    (case c14 => k_is)
    (case k14 => k_is)
    (case l15 => k_is)
    (case c15 => k_is)
    (case k15 => k_is)
    (case l16 => k_is)
    (case c16 => k_is)
    (case k16 => k_is)
    (case l17 => k_is)
    (case c17 => k_is)
    (case k17 => k_is)
    (case l18 => k_is)
    (case c18 => k_is)
    (case k18 => k_is)
    (case l19 => k_is)
    (case c19 => k_is)
    (case k19 => k_is)
    (case l20 => k_is)
    (case c20 => k_is)
    (case k20 => k_is)
    (case l21 => k_is)
    (case c21 => k_is)
    (case k21 => k_is)
    (case l22 => k_is)
    (case c22 => k_is)
    (case k22 => k_is)
    (case en => k_is)
    (case et => k_is)
    (case xexSnippetError => k_is)
    (case edSnippetError => k_is)
    (case xtySnippetError => k_is)
    (case egSnippetError => k_is)
    (case ekSnippetError => k_is)
    (case eaSnippetError => k_is)
    (case emSnippetError => k_is)
    (case xexBadSnippet => k_is)
    (case edBadSnippet => k_is)
    (case xtyBadSnippet => k_is)
    (case egBadSnippet => k_is)
    (case ekBadSnippet => k_is)
    (case eaBadSnippet => k_is)
    (case emBadSnippet => k_is)
    (case xexBadPress => k_is)
    (case edBadPress => k_is)
    (case xtyBadPress => k_is)
    (case egBadPress => k_is)
    (case ekBadPress => k_is)
    (case eaBadPress => k_is)
    (case emBadPress => k_is)
    (case xexBadRow => k_is)
    (case edBadRow => k_is)
    (case xtyBadRow => k_is)
    (case egBadRow => k_is)
    (case ekBadRow => k_is)
    (case eaBadRow => k_is)
    (case emBadRow => k_is)
    (case xexBadState => k_is)
    (case edBadState => k_is)
    (case xtyBadState => k_is)
    (case egBadState => k_is)
    (case ekBadState => k_is)
    (case eaBadState => k_is)
    (case emBadState => k_is)
    (case xexBadText => k_is)
    (case edBadText => k_is)
    (case xtyBadText => k_is)
    (case egBadText => k_is)
    (case ekBadText => k_is)
    (case eaBadText => k_is)
    (case emBadText => k_is)
    (case s_BadSnippet_SnippetError => k_is)
    (case n_BadSnippet_SnippetError => rfl)
    (case s_BadSnippet_BadPress => k_is)
    (case n_BadSnippet_BadPress => rfl)
    (case s_BadSnippet_BadRow => k_is)
    (case n_BadSnippet_BadRow => rfl)
    (case s_BadSnippet_BadState => k_is)
    (case n_BadSnippet_BadState => rfl)
    (case s_BadSnippet_BadText => k_is)
    (case n_BadSnippet_BadText => rfl)
    (case s_BadPress_SnippetError => k_is)
    (case n_BadPress_SnippetError => rfl)
    (case s_BadPress_BadSnippet => k_is)
    (case n_BadPress_BadSnippet => rfl)
    (case s_BadPress_BadRow => k_is)
    (case n_BadPress_BadRow => rfl)
    (case s_BadPress_BadState => k_is)
    (case n_BadPress_BadState => rfl)
    (case s_BadPress_BadText => k_is)
    (case n_BadPress_BadText => rfl)
    (case s_BadRow_SnippetError => k_is)
    (case n_BadRow_SnippetError => rfl)
    (case s_BadRow_BadSnippet => k_is)
    (case n_BadRow_BadSnippet => rfl)
    (case s_BadRow_BadPress => k_is)
    (case n_BadRow_BadPress => rfl)
    (case s_BadRow_BadState => k_is)
    (case n_BadRow_BadState => rfl)
    (case s_BadRow_BadText => k_is)
    (case n_BadRow_BadText => rfl)
    (case s_BadState_SnippetError => k_is)
    (case n_BadState_SnippetError => rfl)
    (case s_BadState_BadSnippet => k_is)
    (case n_BadState_BadSnippet => rfl)
    (case s_BadState_BadPress => k_is)
    (case n_BadState_BadPress => rfl)
    (case s_BadState_BadRow => k_is)
    (case n_BadState_BadRow => rfl)
    (case s_BadState_BadText => k_is)
    (case n_BadState_BadText => rfl)
    (case s_BadText_SnippetError => k_is)
    (case n_BadText_SnippetError => rfl)
    (case s_BadText_BadSnippet => k_is)
    (case n_BadText_BadSnippet => rfl)
    (case s_BadText_BadPress => k_is)
    (case n_BadText_BadPress => rfl)
    (case s_BadText_BadRow => k_is)
    (case n_BadText_BadRow => rfl)
    (case s_BadText_BadState => k_is)
    (case n_BadText_BadState => rfl)
    (case s_BadPress_BadPress => k_is)
    (case nx_BadRow_place => k_is)
    (case nx_BadSnippet_place => k_is)
    (case nx_BadText_place => k_is)
    (case bga => k_is)
    (case brd => k_is)
    (case bfc => k_is)
    (case xC_BadPress => k_is)
    (case xm_BadPress => first | rfl | k_is)
    (case xsa_BadPress => k_is)
    (case xk_BadPress => k_is)
    (case iI_BadPress => k_is)
    (case tI_BadPress => k_is)
    (case lI_BadPress => k_is)
    (case cI_BadPress => k_is)
    (case kI_BadPress => k_is)
    (case nx_BadPress_given => k_is)
    (case xC_BadRow => k_is)
    (case xm_BadRow => first | rfl | k_is)
    (case xsa_BadRow => k_is)
    (case xk_BadRow => k_is)
    (case iI_BadRow => k_is)
    (case tI_BadRow => k_is)
    (case lI_BadRow => k_is)
    (case cI_BadRow => k_is)
    (case kI_BadRow => k_is)
    (case xC_BadText => k_is)
    (case xm_BadText => first | rfl | k_is)
    (case xsa_BadText => k_is)
    (case xk_BadText => k_is)
    (case iI_BadText => k_is)
    (case tI_BadText => k_is)
    (case lI_BadText => k_is)
    (case cI_BadText => k_is)
    (case kI_BadText => k_is)
    (case z_enumerate => k_is)
    (case z_int => k_is)
    (case z_isinstance => k_is)
    (case z_len => k_is)
    (case z_list => k_is)
    (case z_min => k_is)
    (case z_range => k_is)
    (case z_repr => k_is)
    (case z_str => k_is)
    (case z_tuple => k_is)
    (case v_mI_MOST_TEXT => k_is)
    (case v_mT_PRESS_WORDS => k_is)
    (case vl_mT_PRESS_WORDS => k_is)
    (case hcd0 => rfl)
    (case lc0 => k_is)
    (case v110 => rfl)
    (case nP0 => kernel_rfl)
    (case hrec0 => kernel_rfl)
    (case hcd1 => rfl)
    (case lc1 => k_is)
    (case v111 => rfl)
    (case nP1 => kernel_rfl)
    (case hrec1 => kernel_rfl)
    (case hcd2 => rfl)
    (case lc2 => k_is)
    (case v112 => rfl)
    (case nP2 => kernel_rfl)
    (case hrec2 => kernel_rfl)
    (case dP0_1 => rfl)
    (case dP0_2 => rfl)
    (case dP1_2 => rfl)

