import PyProof.Rows.All
import Wide.All
import OpenK.AllK
import Wide.FinOn
import HandS.ForMost
import HandS.ForExc
import HandS.Walk
import HandS.IsInst
import HandS.ExcInit
import HandS.ExcIs
import HandS.ExcField
import HandS.Lambda
import HandS.EndTab
import HandS.StrMore
import HandS.Conv
import HandS.TupAny
import HandS.TupMul
import HandS.Flow
import HandS.Codes
import HandS.CallSlots
import HandS.Replace
import KE.GoesMore
import KE.GoesEnum
import HandS.TryMany
import PyProof.ReprRoads
import HandS.Spec
import HandS.EndOwn
import HandS.HeadWalk
import PySem.Challenge.RW_mirrorstops_k01_shapes
set_option Elab.async false
set_option linter.all false
set_option autoImplicit false
set_option maxRecDepth 100000
set_option maxHeartbeats 4000000
/-! DL1: data, cells, the relation to the abstract heap, the readings. -/
namespace DL
open PySem PySem.Spec PyProof.Rows L2

/-- a datum: immutable trees, a mutable cell by its number, an object of the written part -/
inductive D where
  | non | bl (b : Bool) | int (i : Int) | str (x : Str) | ty (n : String)
  | tup (xs : List D) | cel (j : Nat) | adr (a : Addr)
  /-- a list that is read alone -/
  | fl (xs : List D)
/-- a mutable object -/
inductive Cell where
  | lst (xs : List D)
  | dct (kvs : List (Key × D))
  | ins (C : Addr) (fs : List (Str × D))
  | exc (C : Addr) (fs : List (Str × D))
/-- what an expression comes to -/
inductive Rs where
  | ok (d : D)
  | ex (C : Addr) (fs : List (Str × D))
abbrev Rho := List (Option D)
abbrev Mu := List Cell
abbrev Ro := Option (Rs × Mu)
abbrev ES := Rho → Mu → Ro

/-- what is never written stays -/
structure Kp (H H' : Hp) : Prop where
  tup : ∀ b xs, H b = some (.tup xs) → H' b = some (.tup xs)
  frz : ∀ b o u, H b = some (.frz o u) → H' b = some (.frz o u)
theorem Kp.refl (H : Hp) : Kp H H := ⟨fun _ _ h => h, fun _ _ _ h => h⟩
theorem Kp.trans {H H1 H2 : Hp} (a : Kp H H1) (b : Kp H1 H2) : Kp H H2 := ⟨fun c xs h => b.tup c xs (a.tup c xs h), fun c o u h => b.frz c o u (a.frz c o u h)⟩
theorem Kp.same {H H' : Hp} (s : Same H H') : Kp H H' := ⟨fun b _ h => s b _ h, fun b _ _ h => s b _ h⟩
theorem same_new {H : Hp} {p : Addr} {o : HO} (h : H p = none) : Same H (upd H p o) := fun b u e => by rw [upd_ne (ne_of_none e h)]; exact e
theorem Kp.new {H : Hp} {p : Addr} {o : HO} (h : H p = none) : Kp H (upd H p o) := Kp.same (same_new h)
theorem Kp.wr {H : Hp} {p : Addr} {o o' : HO} (h : H p = some o) (h1 : ∀ xs, o ≠ .tup xs) (h2 : ∀ b u, o ≠ .frz b u) : Kp H (upd H p o') :=
  ⟨fun b xs e => by rw [upd_ne (ne_of e h fun z => h1 xs z.symm)]; exact e, fun b q u e => by rw [upd_ne (ne_of e h fun z => h2 q u z.symm)]; exact e⟩
/-- a frozen list: it is read alone -/
def FzL (K : PySem.W.Frag) (H : Hp) (a : Addr) (vs : List V) : Prop := (∃ o, H a = some (.frz o (.lst vs))) ∨
  ∃ (o : Obj) (its : Array Value) (n : Nat), K.lookup a = some o ∧ o.cls = .type "list" ∧ o.dict = none ∧ o.data = .seq its n ∧ its.size ≤ sizeLine ∧ Vals vs its.toList
theorem FzL.sq {K : PySem.W.Frag} {H : Hp} {a : Addr} {vs : List V} (h : FzL K H a vs) : SqL K H a vs := by
  rcases h with ⟨o, h⟩ | h
  · exact .inl (.inr ⟨o, h⟩)
  · exact .inr h
theorem FzL.kp {K : PySem.W.Frag} {H H' : Hp} (k : Kp H H') {a : Addr} {vs : List V} (h : FzL K H a vs) : FzL K H' a vs := by
  rcases h with ⟨o, h⟩ | h
  · exact .inl ⟨o, k.frz _ _ _ h⟩
  · exact .inr h
mutual
def Rp (K : PySem.W.Frag) (al : List Addr) (H : Hp) : D → V → Prop
  | .non, v => v = .non
  | .bl b, v => v = .bl b
  | .int i, v => v = .int i
  | .str x, v => v = .str x
  | .ty n, v => v = .ty n
  | .cel j, v => ∃ a, al[j]? = some a ∧ v = .ref a
  | .adr a, v => v = .ref a
  | .tup xs, v => ∃ a ys, v = .ref a ∧ SqT K H a ys ∧ Rps K al H xs ys
  | .fl xs, v => ∃ a ys, v = .ref a ∧ FzL K H a ys ∧ Rps K al H xs ys
def Rps (K : PySem.W.Frag) (al : List Addr) (H : Hp) : List D → List V → Prop
  | [], vs => vs = []
  | x :: xs, vs => ∃ v r, vs = v :: r ∧ Rp K al H x v ∧ Rps K al H xs r
end

theorem SqT.kp {K : PySem.W.Frag} {H H' : Hp} (k : Kp H H') {a : Addr} {xs : List V} (h : SqT K H a xs) : SqT K H' a xs := by
  rcases h with (h | ⟨o, h⟩) | h
  · exact .inl (.inl (k.tup _ _ h))
  · exact .inl (.inr ⟨o, k.frz _ _ _ h⟩)
  · exact .inr h
mutual
theorem Rp.mono {K : PySem.W.Frag} {al al' : List Addr} {H H' : Hp} (k : Kp H H') (ha : ∀ (j : Nat) (a : Addr), al[j]? = some a → al'[j]? = some a) : ∀ (d : D) (v : V), Rp K al H d v → Rp K al' H' d v
  | .non, v, h => by unfold Rp at h ⊢; exact h
  | .bl b, v, h => by unfold Rp at h ⊢; exact h
  | .int i, v, h => by unfold Rp at h ⊢; exact h
  | .str x, v, h => by unfold Rp at h ⊢; exact h
  | .ty n, v, h => by unfold Rp at h ⊢; exact h
  | .cel j, v, h => by
    unfold Rp at h ⊢
    obtain ⟨a, e, q⟩ := h
    exact ⟨a, ha j a e, q⟩
  | .adr a, v, h => by unfold Rp at h ⊢; exact h
  | .tup xs, v, h => by
    unfold Rp at h ⊢
    obtain ⟨a, ys, e, q, r⟩ := h
    exact ⟨a, ys, e, SqT.kp k q, Rps.mono k ha xs ys r⟩
  | .fl xs, v, h => by
    unfold Rp at h ⊢
    obtain ⟨a, ys, e, q, r⟩ := h
    exact ⟨a, ys, e, q.kp k, Rps.mono k ha xs ys r⟩
theorem Rps.mono {K : PySem.W.Frag} {al al' : List Addr} {H H' : Hp} (k : Kp H H') (ha : ∀ (j : Nat) (a : Addr), al[j]? = some a → al'[j]? = some a) : ∀ (ds : List D) (vs : List V), Rps K al H ds vs → Rps K al' H' ds vs
  | [], vs, h => by unfold Rps at h ⊢; exact h
  | d :: ds, vs, h => by
    unfold Rps at h ⊢
    obtain ⟨v, r, e, h1, h2⟩ := h
    exact ⟨v, r, e, Rp.mono k ha d v h1, Rps.mono k ha ds r h2⟩
end
/-- the addresses grow at the end -/
def Gr (al al' : List Addr) : Prop := ∀ (j : Nat) (a : Addr), al[j]? = some a → al'[j]? = some a
theorem Gr.refl (al : List Addr) : Gr al al := fun _ _ h => h
theorem Gr.trans {a b c : List Addr} (h : Gr a b) (g : Gr b c) : Gr a c := fun j x e => g j x (h j x e)
theorem Gr.app (al bl : List Addr) : Gr al (al ++ bl) := fun j a e => by
  rw [List.getElem?_append_left (List.getElem?_eq_some_iff.mp e).1]; exact e

theorem Rps.length {K : PySem.W.Frag} {al : List Addr} {H : Hp} : ∀ {ds : List D} {vs : List V}, Rps K al H ds vs → vs.length = ds.length
  | [], vs, h => by unfold Rps at h; subst h; rfl
  | d :: ds, vs, h => by
    unfold Rps at h
    obtain ⟨v, r, rfl, _, h2⟩ := h
    simp [Rps.length h2]
theorem Rps.get {K : PySem.W.Frag} {al : List Addr} {H : Hp} : ∀ {ds : List D} {vs : List V} {i : Nat} {d : D}, Rps K al H ds vs → ds[i]? = some d → ∃ v, vs[i]? = some v ∧ Rp K al H d v
  | [], vs, i, d, h, e => by simp at e
  | x :: ds, vs, 0, d, h, e => by
    unfold Rps at h
    obtain ⟨v, r, rfl, h1, h2⟩ := h
    simp at e; subst e
    exact ⟨v, rfl, h1⟩
  | x :: ds, vs, i + 1, d, h, e => by
    unfold Rps at h
    obtain ⟨v, r, rfl, h1, h2⟩ := h
    obtain ⟨w, e1, e2⟩ := Rps.get (i := i) h2 (by simpa using e)
    exact ⟨w, by simpa using e1, e2⟩
theorem Rps.app {K : PySem.W.Frag} {al : List Addr} {H : Hp} : ∀ {ds es : List D} {vs us : List V}, Rps K al H ds vs → Rps K al H es us → Rps K al H (ds ++ es) (vs ++ us)
  | [], es, vs, us, h, g => by unfold Rps at h; subst h; exact g
  | d :: ds, es, vs, us, h, g => by
    unfold Rps at h
    obtain ⟨v, r, rfl, h1, h2⟩ := h
    show Rps K al H (d :: (ds ++ es)) _
    unfold Rps
    exact ⟨v, r ++ us, rfl, h1, Rps.app h2 g⟩
theorem Rps.one {K : PySem.W.Frag} {al : List Addr} {H : Hp} {d : D} {v : V} (h : Rp K al H d v) : Rps K al H [d] [v] := by
  unfold Rps; exact ⟨v, [], rfl, h, by unfold Rps; rfl⟩
theorem Rps.nil {K : PySem.W.Frag} {al : List Addr} {H : Hp} : Rps K al H [] [] := by unfold Rps; rfl
theorem Rps.cons {K : PySem.W.Frag} {al : List Addr} {H : Hp} {d : D} {v : V} {ds : List D} {vs : List V} (h : Rp K al H d v) (g : Rps K al H ds vs) : Rps K al H (d :: ds) (v :: vs) := by
  unfold Rps; exact ⟨v, vs, rfl, h, g⟩
theorem Rps.set {K : PySem.W.Frag} {al : List Addr} {H : Hp} {d : D} {v : V} (q : Rp K al H d v) : ∀ {ds : List D} {vs : List V} (i : Nat), Rps K al H ds vs → Rps K al H (ds.set i d) (vs.set i v)
  | [], vs, i, h => by unfold Rps at h; subst h; cases i <;> exact Rps.nil
  | x :: ds, vs, 0, h => by
    unfold Rps at h
    obtain ⟨w, r, rfl, h1, h2⟩ := h
    exact Rps.cons q h2
  | x :: ds, vs, i + 1, h => by
    unfold Rps at h
    obtain ⟨w, r, rfl, h1, h2⟩ := h
    exact Rps.cons h1 (Rps.set q i h2)
theorem Rps.drop {K : PySem.W.Frag} {al : List Addr} {H : Hp} : ∀ {ds : List D} {vs : List V} (i : Nat), Rps K al H ds vs → Rps K al H (ds.drop i) (vs.drop i)
  | ds, vs, 0, h => h
  | [], vs, i + 1, h => by unfold Rps at h; subst h; exact Rps.nil
  | x :: ds, vs, i + 1, h => by
    unfold Rps at h
    obtain ⟨w, r, rfl, h1, h2⟩ := h
    exact Rps.drop i h2
theorem Rps.take {K : PySem.W.Frag} {al : List Addr} {H : Hp} : ∀ {ds : List D} {vs : List V} (i : Nat), Rps K al H ds vs → Rps K al H (ds.take i) (vs.take i)
  | ds, vs, 0, h => by simp; exact Rps.nil
  | [], vs, i + 1, h => by unfold Rps at h; subst h; exact Rps.nil
  | x :: ds, vs, i + 1, h => by
    unfold Rps at h
    obtain ⟨w, r, rfl, h1, h2⟩ := h
    exact Rps.cons h1 (Rps.take i h2)
theorem Rps.strs {K : PySem.W.Frag} {al : List Addr} {H : Hp} : ∀ {xs : List Str} {vs : List V}, Rps K al H (xs.map D.str) vs → vs = xs.map V.str
  | [], vs, h => by unfold Rps at h; exact h
  | x :: xs, vs, h => by
    simp only [List.map_cons] at h
    unfold Rps at h
    obtain ⟨v, r, rfl, h1, h2⟩ := h
    unfold Rp at h1
    rw [h1, Rps.strs h2]; rfl

/-- an exception that is held as a value -/
def ExH (a C dd : Addr) : HO := .ext fun h => ∃ (oe : Obj) (vs : Array Value), h.get? a = some oe ∧ oe.cls = .ref C ∧ oe.dict = some dd ∧ oe.data = .fields vs
def RpA {k : Type} (K : PySem.W.Frag) (al : List Addr) (H : Hp) (kvs : List (k × D)) (vs : List (k × V)) : Prop := vs.map (·.1) = kvs.map (·.1) ∧ Rps K al H (kvs.map (·.2)) (vs.map (·.2))
theorem RpA.mono {k : Type} {K : PySem.W.Frag} {al al' : List Addr} {H H' : Hp} (q : Kp H H') (ha : Gr al al') {kvs : List (k × D)} {vs : List (k × V)} (h : RpA K al H kvs vs) : RpA K al' H' kvs vs := ⟨h.1, Rps.mono q ha _ _ h.2⟩
def CellOk (K : PySem.W.Frag) (al : List Addr) (H : Hp) (a : Addr) : Cell → Prop
  | .lst xs => ∃ vs, H a = some (.lst vs) ∧ Rps K al H xs vs
  | .dct kvs => ∃ vs, H a = some (.dK vs) ∧ RpA K al H kvs vs
  | .ins C fs => ∃ dx vs, H a = some (.ins C dx vs) ∧ RpA K al H fs vs
  | .exc C fs => ∃ dd vs, H a = some (ExH a C dd) ∧ H dd = some (.xd vs) ∧ RpA K al H fs vs
/-- the tables of code objects; addresses that lie at the head -/
structure Tb where
  tb : List (Addr × Str)
  pre : List Addr
/-- the store and the heap -/
structure SR (K : PySem.W.Frag) (T : Tb) (al : List Addr) (mu : Mu) (H : Hp) : Prop where
  len : al.length = mu.length
  nd : al.Nodup
  ok : ∀ (j : Nat) (c : Cell) (a : Addr), mu[j]? = some c → al[j]? = some a → CellOk K al H a c
  tabs : LamX.Tabs T.tb H
  pre : Gr T.pre al
theorem CellOk.same {K : PySem.W.Frag} {al al' : List Addr} {H H' : Hp} {a : Addr} {c : Cell} (s : Same H H') (g : Gr al al') (h : CellOk K al H a c) : CellOk K al' H' a c := by
  cases c with
  | lst xs => obtain ⟨vs, e, r⟩ := h; exact ⟨vs, s _ _ e, Rps.mono (Kp.same s) g _ _ r⟩
  | dct kvs => obtain ⟨vs, e, r⟩ := h; exact ⟨vs, s _ _ e, r.mono (Kp.same s) g⟩
  | ins C fs => obtain ⟨dx, vs, e, r⟩ := h; exact ⟨dx, vs, s _ _ e, r.mono (Kp.same s) g⟩
  | exc C fs => obtain ⟨dd, vs, e, e2, r⟩ := h; exact ⟨dd, vs, s _ _ e, s _ _ e2, r.mono (Kp.same s) g⟩
section
variable {K : PySem.W.Frag} {T : Tb} {al al' : List Addr} {mu : Mu} {H H' : Hp}
/-- all that is tracked stays: the store stands -/
theorem SR.same (r : SR K T al mu H) (s : Same H H') : SR K T al mu H' := ⟨r.len, r.nd, fun j c a e1 e2 => (r.ok j c a e1 e2).same s (Gr.refl _), r.tabs.ext s, r.pre⟩
theorem SR.fresh {p : Addr} {o : HO} (r : SR K T al mu H) (h : H p = none) : SR K T al mu (upd H p o) := r.same (same_new h)
/-- a tracked place for each cell -/
theorem SR.at {j : Nat} {c : Cell} (r : SR K T al mu H) (e : mu[j]? = some c) : ∃ a, al[j]? = some a ∧ CellOk K al H a c := by
  have hj : j < al.length := by rw [r.len]; exact (List.getElem?_eq_some_iff.mp e).1
  exact ⟨al[j], by simp [hj], r.ok j c _ e (by simp [hj])⟩
theorem CellOk.there {a : Addr} {c : Cell} (h : CellOk K al H a c) : H a ≠ none := by
  cases c with
  | lst xs => obtain ⟨vs, e, r⟩ := h; rw [e]; simp
  | dct kvs => obtain ⟨vs, e, r⟩ := h; rw [e]; simp
  | ins C fs => obtain ⟨dx, vs, e, r⟩ := h; rw [e]; simp
  | exc C fs => obtain ⟨dd, vs, e, e2, r⟩ := h; rw [e]; simp
/-- a free place is no cell's -/
theorem SR.free {p : Addr} (r : SR K T al mu H) (h : H p = none) : p ∉ al := fun hp => by
  obtain ⟨j, hj, e⟩ := List.mem_iff_getElem.mp hp
  have hm : j < mu.length := by rw [← r.len]; exact hj
  exact (r.ok j mu[j] p (by simp [hm]) (by simp [hj, e])).there h
/-- a new cell -/
theorem SR.alloc {p : Addr} {o : HO} {c : Cell} (r : SR K T al mu H) (h : H p = none) (ok : CellOk K (al ++ [p]) (upd H p o) p c) : SR K T (al ++ [p]) (mu ++ [c]) (upd H p o) := by
  refine ⟨by simp [r.len], ?_, fun j c' a e1 e2 => ?_, r.tabs.ext (same_new h), r.pre.trans (Gr.app _ _)⟩
  · rw [List.nodup_append]
    refine ⟨r.nd, by simp, fun x hx y hy z => r.free h ?_⟩
    have : y = p := by simpa using hy
    subst this; subst z; exact hx
  · by_cases hj : j < mu.length
    · rw [List.getElem?_append_left hj] at e1
      rw [List.getElem?_append_left (by rw [r.len]; exact hj)] at e2
      exact (r.ok j c' a e1 e2).same (same_new h) (Gr.app _ _)
    · have hj' : j = mu.length := by
        have := (List.getElem?_eq_some_iff.mp e1).1
        simp at this; omega
      subst hj'
      simp at e1
      rw [← r.len] at e2
      simp at e2
      subst e1; subst e2
      exact ok
/-- a cell is written -/
theorem SR.write {j : Nat} {a : Addr} {c c' : Cell} {o o' : HO} (r : SR K T al mu H) (e1 : mu[j]? = some c) (e2 : al[j]? = some a) (ho : H a = some o) (h1 : ∀ xs, o ≠ .tup xs) (h2 : ∀ b u, o ≠ .frz b u) (h3 : ∀ ps, o ≠ .tbl ps) (h4 : ∀ f, o ≠ .ext f) (h5 : ∀ fs, o ≠ .xd fs)
    (ok : CellOk K al (upd H a o') a c') : SR K T al (mu.set j c') (upd H a o') := by
  have kp : Kp H (upd H a o') := Kp.wr ho h1 h2
  refine ⟨by simp [r.len], r.nd, fun i c2 b f1 f2 => ?_, fun p hp => ?_, r.pre⟩
  · by_cases hi : i = j
    · subst hi
      rw [e2] at f2; cases f2
      rw [List.getElem?_set_self (List.getElem?_eq_some_iff.mp e1).1] at f1
      cases f1
      exact ok
    · rw [List.getElem?_set_ne (Ne.symm hi)] at f1
      have hba : b ≠ a := fun z => by
        subst z
        obtain ⟨l1, q1⟩ := List.getElem?_eq_some_iff.mp f2
        obtain ⟨l2, q2⟩ := List.getElem?_eq_some_iff.mp e2
        exact hi ((List.getElem_inj r.nd).mp (q1.trans q2.symm))
      have h := r.ok i c2 b f1 f2
      cases c2 with
      | lst xs => obtain ⟨vs, e, q⟩ := h; exact ⟨vs, by rw [upd_ne hba]; exact e, Rps.mono kp (Gr.refl _) _ _ q⟩
      | dct kvs => obtain ⟨vs, e, q⟩ := h; exact ⟨vs, by rw [upd_ne hba]; exact e, q.mono kp (Gr.refl _)⟩
      | ins C fs => obtain ⟨dx, vs, e, q⟩ := h; exact ⟨dx, vs, by rw [upd_ne hba]; exact e, q.mono kp (Gr.refl _)⟩
      | exc C fs =>
        obtain ⟨dd, vs, e, e2', q⟩ := h
        exact ⟨dd, vs, by rw [upd_ne hba]; exact e, by rw [upd_ne (ne_of e2' ho fun z => h5 vs z.symm)]; exact e2', q.mono kp (Gr.refl _)⟩
  · obtain ⟨ps, t1, t2, t3⟩ := r.tabs p hp
    refine ⟨ps, by rw [upd_ne (ne_of t1 ho fun z => h3 ps z.symm)]; exact t1, t2, fun pos cv hc => ?_⟩
    obtain ⟨c0, z1, z2⟩ := t3 pos cv hc
    exact ⟨c0, z1, by rw [upd_ne (ne_of z2 ho fun z => h4 _ z.symm)]; exact z2⟩
end
/-- the slots -/
structure SL (K : PySem.W.Frag) (al : List Addr) (H : Hp) (rho : Rho) (s : L2.St) : Prop where
  len : rho.length = s.length
  ok : ∀ (i : Nat) (d : D), rho[i]? = some (some d) → ∃ v, s[i]? = some (some v) ∧ Rp K al H d v
theorem SL.mono {K : PySem.W.Frag} {al al' : List Addr} {H H' : Hp} {rho : Rho} {s : L2.St} (r : SL K al H rho s) (k : Kp H H') (g : Gr al al') : SL K al' H' rho s := ⟨r.len, fun i d e => by
  obtain ⟨v, e1, e2⟩ := r.ok i d e
  exact ⟨v, e1, Rp.mono k g d v e2⟩⟩
theorem SL.set {K : PySem.W.Frag} {al : List Addr} {H : Hp} {rho : Rho} {s : L2.St} {d : D} {v : V} (r : SL K al H rho s) (q : Rp K al H d v) (i : Nat) : SL K al H (rho.set i (some d)) (s.set i (some v)) := ⟨by simp [r.len], fun j e h => by
  by_cases hj : j = i
  · subst hj
    have hl : j < rho.length := by
      have := (List.getElem?_eq_some_iff.mp h).1
      simpa using this
    rw [List.getElem?_set_self hl] at h
    cases h
    exact ⟨v, by rw [List.getElem?_set_self (by rw [← r.len]; exact hl)], q⟩
  · rw [List.getElem?_set_ne (Ne.symm hj)] at h
    obtain ⟨w, e1, e2⟩ := r.ok j e h
    exact ⟨w, by rw [List.getElem?_set_ne (Ne.symm hj)]; exact e1, e2⟩⟩

/-- what is wanted of an outcome -/
def Wo (K : PySem.W.Frag) (T : Tb) (al : List Addr) (H : Hp) (Q : VK) (E : XK) : Ro → Prop
  | none => False
  | some (.ok d, mu) => ∀ al' v H', Gr al al' → Kp H H' → SR K T al' mu H' → Rp K al' H' d v → Q v H'
  | some (.ex C fs, mu) => ∀ al' H' dd vs, Gr al al' → Kp H H' → SR K T al' mu H' → H' dd = some (.xd vs) → RpA K al' H' fs vs → E (.ref C) (some dd) H'
theorem Wo.mono {K : PySem.W.Frag} {T : Tb} {al al' : List Addr} {H H' : Hp} {Q : VK} {E : XK} {r : Ro} (h : Wo K T al H Q E r) (g : Gr al al') (k : Kp H H') : Wo K T al' H' Q E r := by
  match r with
  | none => exact h
  | some (.ok d, mu) => exact fun a v H2 g2 k2 s q => h a v H2 (g.trans g2) (k.trans k2) s q
  | some (.ex C fs, mu) => exact fun a H2 dd vs g2 k2 s e q => h a H2 dd vs (g.trans g2) (k.trans k2) s e q
/-- go on with a value; an exception goes through -/
def bnd (r : Ro) (k : D → Mu → Ro) : Ro := match r with
  | some (.ok d, mu) => k d mu
  | some (.ex C fs, mu) => some (.ex C fs, mu)
  | none => none
theorem Wo.bnd {K : PySem.W.Frag} {T : Tb} {al : List Addr} {H : Hp} {Q P : VK} {E : XK} {r : Ro} {k : D → Mu → Ro} (h : Wo K T al H Q E (bnd r k))
    (hk : ∀ d mu al' v H', r = some (.ok d, mu) → Gr al al' → Kp H H' → SR K T al' mu H' → Rp K al' H' d v → Wo K T al' H' Q E (k d mu) → P v H') : Wo K T al H P E r := by
  match r with
  | none => exact h
  | some (.ok d, mu) => exact fun a v H2 g2 k2 s q => hk d mu a v H2 rfl g2 k2 s q (Wo.mono (r := k d mu) h g2 k2)
  | some (.ex C fs, mu) => exact h
/-- an outcome with the heap as it is -/
theorem Wo.now {K : PySem.W.Frag} {T : Tb} {al : List Addr} {mu : Mu} {H : Hp} {Q : VK} {E : XK} {d : D} {v : V} (h : Wo K T al H Q E (some (.ok d, mu))) (s : SR K T al mu H) (q : Rp K al H d v) : Q v H := h al v H (Gr.refl _) (Kp.refl _) s q

/-! ### expressions -/
def rdE (K : PySem.W.Frag) (T : Tb) (W : WX) (f : ES) : TE := fun s H Q => ∃ al rho mu, SL K al H rho s ∧ SR K T al mu H ∧ Wo K T al H Q (fun c d H' => W c d s H') (f rho mu)
/-- what a context bears: the wish about exceptions is taken, no repr runs around -/
structure Cz (X : Cx) (W : WX) : Prop where
  tk : Takes X W
  gd : X.A.guards = some []
/-- e, in X, is f -/
def SE (T : Tb) (X : Cx) (e : Expr) (f : ES) : Prop := ∀ W : WX, Cz X W → PE X e (rdE X.K T W f)
theorem PE.weak {X : Cx} {e : Expr} {t t' : TE} (h : PE X e t) (i : ∀ s H Q, t' s H Q → t s H Q) : PE X e t' := ⟨fun pins s σ H Q I z => h.run pins s σ H Q I (i σ H Q z)⟩
theorem PT.weak {X : Cx} {e : Expr} {t t' : TT} (h : PT X e t) (i : ∀ s H Q, t' s H Q → t s H Q) : PT X e t' := ⟨fun pins s σ H Q I z => h.run pins s σ H Q I (i σ H Q z)⟩
theorem PA.weak {X : Cx} {e : List Expr} {t t' : TA} (h : PA X e t) (i : ∀ s H Q, t' s H Q → t s H Q) : PA X e t' := ⟨fun p pins s σ H Q I z => h.run p pins s σ H Q I (i σ H Q z)⟩
theorem PS.weak {X : Cx} {e : Stmt} {t t' : TS} (h : PS X e t) (i : ∀ D s H, t' D s H → t D s H) : PS X e t' := ⟨fun pins s σ H D I z => h.run pins s σ H D I (i D σ H z)⟩
theorem PSs.weak {X : Cx} {e : List Stmt} {t t' : TS} (h : PSs X e t) (i : ∀ D s H, t' D s H → t D s H) : PSs X e t' := ⟨fun pins s σ H D I z => h.run pins s σ H D I (i D σ H z)⟩

def eC (d : D) : ES := fun _ mu => some (.ok d, mu)
def eVar (i : Nat) : ES := fun rho mu => match rho[i]? with
  | some (some d) => some (.ok d, mu)
  | _ => none
section
variable {T : Tb} {X : Cx} {pos : Pos}
/-- a rule that hands out one value, the heap as it stands -/
theorem se_const {e : Expr} {v : V} {d : D} (h : PE X e (tC v)) (r : ∀ al H, Rp X.K al H d v) : SE T X e (eC d) := fun W tk => PE.weak h fun s H Q ⟨al, rho, mu, sl, sr, p⟩ => p.now sr (r al H)
theorem se_int {i j} : SE T X (.Constant (.int i) j pos) (eC (.int i)) := se_const pe_int fun _ _ => by unfold Rp; rfl
theorem se_str {x j} : SE T X (.Constant (.str x) j pos) (eC (.str x)) := se_const pe_str fun _ _ => by unfold Rp; rfl
theorem se_bl {b j} : SE T X (.Constant (.bool b) j pos) (eC (.bl b)) := se_const pe_bl fun _ _ => by unfold Rp; rfl
theorem se_non {j} : SE T X (.Constant .none j pos) (eC .non) := se_const pe_non fun _ _ => by unfold Rp; rfl
theorem se_var (i : Nat) {x : Str} (hN : X.N[i]? = some x := by rfl) (hv : Vis X.env.scope x := by first | exact Or.inl rfl | exact Or.inr (Or.inl rfl) | exact Or.inr (Or.inr rfl)) (hd : (x == ("__debug__" : Str)) = false := by decide)
    (hcd : (x == ("__classdict__" : Str)) = false := by decide) : SE T X (.Name x pos) (eVar i) := fun W tk => PE.weak (pe_var hN hv hd hcd) fun s H Q ⟨al, rho, mu, sl, sr, p⟩ => by
  unfold eVar at p
  match q : rho[i]? with
  | some (some d) =>
    obtain ⟨v, e1, e2⟩ := sl.ok i d q
    rw [q] at p
    exact ⟨v, e1, p.now sr e2⟩
  | some none => rw [q] at p; exact p.elim
  | none => rw [q] at p; exact p.elim
/-- a module's constant -/
theorem se_glob {x : Str} {u : Value} {v : V} {d : D} (hg : Gl X x) (hm : X.mg x = some u) (r : RelV v u) (q : ∀ al H, Rp X.K al H d v) (hd : (x == ("__debug__" : Str)) = false := by decide) : SE T X (.Name x pos) (eC d) := se_const (pe_glob hg hm r hd) q
theorem se_bltn {x : Str} {u : Value} {v : V} {d : D} (hg : Gl X x) (hm : X.mg x = none) (hv : bootBuiltins x = some u) (r : RelV v u) (q : ∀ al H, Rp X.K al H d v) (hn : x ≠ "__name__" := by decide) (hd : (x == ("__debug__" : Str)) = false := by decide) : SE T X (.Name x pos) (eC d) := se_const (pe_bltn hg hm hv r hn hd) q
end
/-! ### two values -/
abbrev D2 := D → D → Mu → Ro
def eOp (h : D2) (f g : ES) : ES := fun rho mu => bnd (f rho mu) fun x mu1 => bnd (g rho mu1) fun y mu2 => h x y mu2
/-- the operation by values -/
def Op2 (K : PySem.W.Frag) (T : Tb) (h : D2) (r : R2) : Prop := ∀ (al : List Addr) (mu : Mu) (H : Hp) (dx dy : D) (x y : V) (Q : VK) (E : XK), SR K T al mu H → Rp K al H dx x → Rp K al H dy y → Wo K T al H Q E (h dx dy mu) → r x y H Q
section
variable {T : Tb} {X : Cx} {pos : Pos} {a b : Expr} {f g : ES}
theorem rd_op {W : WX} {h : D2} {r : R2} (o : Op2 X.K T h r) : ∀ s H Q, rdE X.K T W (eOp h f g) s H Q → tOp r (rdE X.K T W f) (rdE X.K T W g) s H Q := fun s H Q ⟨al, rho, mu, sl, sr, p⟩ =>
  ⟨al, rho, mu, sl, sr, Wo.bnd p fun dx mu1 al1 x H1 _ g1 k1 sr1 rx p1 =>
    ⟨al1, rho, mu1, sl.mono k1 g1, sr1, Wo.bnd p1 fun dy mu2 al2 y H2 _ g2 k2 sr2 ry p2 => o al2 mu2 H2 dx dy x y Q _ sr2 (Rp.mono k2 g2 _ _ rx) ry p2⟩⟩
theorem se_op {op : Operator} {h : D2} {r : R2} (ho : OpR X (binaryOp op) r) (o : Op2 X.K T h r) (ha : SE T X a f) (hb : SE T X b g) : SE T X (.BinOp a op b pos) (eOp h f g) := fun W tk => PE.weak (pe_op ho (ha W tk) (hb W tk)) (rd_op o)
theorem se_cmp {op : CmpOp} {h : D2} {r : R2} (ho : OpR X (compareOp op) r) (o : Op2 X.K T h r) (ha : SE T X a f) (hb : SE T X b g) (hm : behindInMarks op b = false := by first | exact nomark _ | rfl) : SE T X (.Compare a [op] [b] pos) (eOp h f g) := fun W tk => PE.weak (pe_cmpR ho (ha W tk) (hb W tk) hm) (rd_op o)
end
end DL
set_option Elab.async false
set_option linter.all false
set_option autoImplicit false
set_option maxRecDepth 100000
set_option maxHeartbeats 4000000
/-! DL2: tests, statements, arguments, calls, defs. -/
namespace DL
open PySem PySem.Spec PyProof.Rows L2

/-! ### tests -/
def rdT (K : PySem.W.Frag) (T : Tb) (W : WX) (f : ES) : TT := fun s H Q => rdE K T W f s H fun v H' => ∃ b, v = .bl b ∧ Q b H'
def SC (T : Tb) (X : Cx) (e : Expr) (f : ES) : Prop := ∀ W : WX, Cz X W → PT X e (rdT X.K T W f)
def SW (T : Tb) (X : Cx) (e : Expr) (f : ES) : Prop := ∀ W : WX, Cz X W → PW X e (rdT X.K T W f)
theorem PW.weak {X : Cx} {e : Expr} {t t' : TT} (h : PW X e t) (i : ∀ s H Q, t' s H Q → t s H Q) : PW X e t' := ⟨fun wh pins s σ H Q I z => h.run wh pins s σ H Q I (i σ H Q z)⟩
/-- a truth value chooses -/
def chB (a b : Mu → Ro) : D → Mu → Ro := fun d mu => match d with
  | .bl true => a mu
  | .bl false => b mu
  | _ => none
def eAnd (f g : ES) : ES := fun rho mu => bnd (f rho mu) (chB (fun mu1 => g rho mu1) fun mu1 => some (.ok (.bl false), mu1))
def eOr (f g : ES) : ES := fun rho mu => bnd (f rho mu) (chB (fun mu1 => some (.ok (.bl true), mu1)) fun mu1 => g rho mu1)
def eNot (f : ES) : ES := fun rho mu => bnd (f rho mu) (chB (fun mu1 => some (.ok (.bl false), mu1)) fun mu1 => some (.ok (.bl true), mu1))
def eIf (c f g : ES) : ES := fun rho mu => bnd (c rho mu) (chB (fun mu1 => f rho mu1) fun mu1 => g rho mu1)
section
variable {T : Tb} {X : Cx} {pos : Pos} {a b c : Expr} {f g h : ES} {rest : List Expr}
theorem Wo.ch {K : PySem.W.Frag} {al : List Addr} {H : Hp} {Q P : VK} {E : XK} {r : Ro} {A B : Mu → Ro} (h : Wo K T al H Q E (DL.bnd r (chB A B)))
    (hk : ∀ b mu al' H', Gr al al' → Kp H H' → SR K T al' mu H' → Wo K T al' H' Q E (if b = true then A mu else B mu) → P (.bl b) H') : Wo K T al H P E r :=
  h.bnd fun d mu al' v H' _ g k s q p => by
    unfold chB at p
    match d with
    | .bl true =>
      unfold Rp at q; subst q
      exact hk true mu al' H' g k s (by rw [if_pos rfl]; exact p)
    | .bl false =>
      unfold Rp at q; subst q
      exact hk false mu al' H' g k s (by rw [if_neg Bool.false_ne_true]; exact p)
    | .non => exact p.elim
    | .int _ => exact p.elim
    | .str _ => exact p.elim
    | .ty _ => exact p.elim
    | .tup _ => exact p.elim
    | .cel _ => exact p.elim
    | .adr _ => exact p.elim
    | .fl _ => exact p.elim
theorem bl_rp {K : PySem.W.Frag} {al : List Addr} {H : Hp} (b : Bool) : Rp K al H (.bl b) (.bl b) := by unfold Rp; rfl
theorem sc_val (h : SE T X a f) (he : ∀ whole, isTrue a X.env whole = (do let v ← whole; standAt a.pos; holding [v] (truthy v)) := by intro _; rfl) : SC T X a f := fun W tk => PT.weak (pt_val (h W tk) he) fun s H Q z => z
theorem sc_cmp {op : CmpOp} {h : D2} {r : R2} (ho : OpR X (compareOp op) r) (o : Op2 X.K T h r) (ha : SE T X a f) (hb : SE T X b g) (hm : behindInMarks op b = false := by first | exact nomark _ | rfl) : SC T X (.Compare a [op] [b] pos) (eOp h f g) :=
  fun W tk => PT.weak (pt_cmpR ho (ha W tk) (hb W tk) hm) fun s H Q z => rd_op o s H _ z
theorem sc_w (h : SW T X a f) : SC T X a f := fun W tk => (h W tk).pt
theorem sw_and1 (ha : SC T X a f) : SW T X (.BoolOp .And [a] pos) f := fun W tk => pw_and1 (ha W tk)
theorem sw_or1 (ha : SC T X a f) : SW T X (.BoolOp .Or [a] pos) f := fun W tk => pw_or1 (ha W tk)
theorem sw_and (ha : SC T X a f) (hb : SW T X (.BoolOp .And (b :: rest) pos) g) : SW T X (.BoolOp .And (a :: b :: rest) pos) (eAnd f g) := fun W tk => PW.weak (pw_and (ha W tk) (hb W tk)) fun s H Q ⟨al, rho, mu, sl, sr, p⟩ =>
  ⟨al, rho, mu, sl, sr, p.ch fun b mu1 al1 H1 g1 k1 sr1 p1 => ⟨b, rfl, by
    cases b with
    | true => exact ⟨al1, rho, mu1, sl.mono k1 g1, sr1, p1⟩
    | false =>
      obtain ⟨b, e, q⟩ := Wo.now (d := .bl false) p1 sr1 (bl_rp false)
      cases e; exact q⟩⟩
theorem sw_or (ha : SC T X a f) (hb : SW T X (.BoolOp .Or (b :: rest) pos) g) : SW T X (.BoolOp .Or (a :: b :: rest) pos) (eOr f g) := fun W tk => PW.weak (pw_or (ha W tk) (hb W tk)) fun s H Q ⟨al, rho, mu, sl, sr, p⟩ =>
  ⟨al, rho, mu, sl, sr, p.ch fun b mu1 al1 H1 g1 k1 sr1 p1 => ⟨b, rfl, by
    cases b with
    | false => exact ⟨al1, rho, mu1, sl.mono k1 g1, sr1, p1⟩
    | true =>
      obtain ⟨b, e, q⟩ := Wo.now (d := .bl true) p1 sr1 (bl_rp true)
      cases e; exact q⟩⟩
theorem sc_not (ha : SC T X a f) : SC T X (.UnaryOp .Not a pos) (eNot f) := fun W tk => PT.weak (pt_not (ha W tk)) fun s H Q ⟨al, rho, mu, sl, sr, p⟩ =>
  ⟨al, rho, mu, sl, sr, p.ch fun b mu1 al1 H1 g1 k1 sr1 p1 => ⟨b, rfl, by
    cases b with
    | true =>
      obtain ⟨b, e, q⟩ := Wo.now (d := .bl false) p1 sr1 (bl_rp false)
      cases e; exact q
    | false =>
      obtain ⟨b, e, q⟩ := Wo.now (d := .bl true) p1 sr1 (bl_rp true)
      cases e; exact q⟩⟩
/-! the same as values -/
theorem se_one {op} (h : SE T X a f) : SE T X (.BoolOp op [a] pos) f := fun W tk => pe_one (h W tk)
theorem se_and (ha : SE T X a f) (hb : SE T X (.BoolOp .And (b :: rest) pos) g) : SE T X (.BoolOp .And (a :: b :: rest) pos) (eAnd f g) := fun W tk => PE.weak (pe_and (ha W tk) (hb W tk)) fun s H Q ⟨al, rho, mu, sl, sr, p⟩ =>
  ⟨al, rho, mu, sl, sr, p.ch fun b mu1 al1 H1 g1 k1 sr1 p1 => ⟨b, rfl, by
    cases b with
    | true => exact ⟨al1, rho, mu1, sl.mono k1 g1, sr1, p1⟩
    | false => exact Wo.now (d := .bl false) p1 sr1 (bl_rp false)⟩⟩
theorem se_or (ha : SE T X a f) (hb : SE T X (.BoolOp .Or (b :: rest) pos) g) : SE T X (.BoolOp .Or (a :: b :: rest) pos) (eOr f g) := fun W tk => PE.weak (pe_or (ha W tk) (hb W tk)) fun s H Q ⟨al, rho, mu, sl, sr, p⟩ =>
  ⟨al, rho, mu, sl, sr, p.ch fun b mu1 al1 H1 g1 k1 sr1 p1 => ⟨b, rfl, by
    cases b with
    | false => exact ⟨al1, rho, mu1, sl.mono k1 g1, sr1, p1⟩
    | true => exact Wo.now (d := .bl true) p1 sr1 (bl_rp true)⟩⟩
theorem se_not (ha : SE T X a f) : SE T X (.UnaryOp .Not a pos) (eNot f) := fun W tk => PE.weak (pe_not (ha W tk)) fun s H Q ⟨al, rho, mu, sl, sr, p⟩ =>
  ⟨al, rho, mu, sl, sr, p.ch fun b mu1 al1 H1 g1 k1 sr1 p1 => ⟨b, rfl, by
    cases b with
    | true => exact Wo.now (d := .bl false) p1 sr1 (bl_rp false)
    | false => exact Wo.now (d := .bl true) p1 sr1 (bl_rp true)⟩⟩
theorem se_if (hc : SC T X c h) (ha : SE T X a f) (hb : SE T X b g) : SE T X (.IfExp c a b pos) (eIf h f g) := fun W tk => PE.weak (pe_ifExp (hc W tk) (ha W tk) (hb W tk)) fun s H Q ⟨al, rho, mu, sl, sr, p⟩ =>
  ⟨al, rho, mu, sl, sr, p.ch fun b mu1 al1 H1 g1 k1 sr1 p1 => ⟨b, rfl, by
    cases b with
    | true => exact ⟨al1, rho, mu1, sl.mono k1 g1, sr1, p1⟩
    | false => exact ⟨al1, rho, mu1, sl.mono k1 g1, sr1, p1⟩⟩⟩
end

/-! ### arguments -/
def eArgs : List ES → Rho → Mu → (List D → Mu → Ro) → Ro
  | [], _, mu, k => k [] mu
  | f :: fs, rho, mu, k => bnd (f rho mu) fun d mu1 => eArgs fs rho mu1 fun ds mu2 => k (d :: ds) mu2
def rdA (K : PySem.W.Frag) (T : Tb) (W : WX) (fs : List ES) : TA := fun s H Q => ∃ al rho mu k Q0, SL K al H rho s ∧ SR K T al mu H ∧ Wo K T al H Q0 (fun c d H' => W c d s H') (eArgs fs rho mu k) ∧
  ∀ ds mu' al' vs H', ds.length = fs.length → Gr al al' → Kp H H' → SR K T al' mu' H' → Rps K al' H' ds vs → Wo K T al' H' Q0 (fun c d H' => W c d s H') (k ds mu') → Q vs H'
def SA (T : Tb) (X : Cx) (es : List Expr) (fs : List ES) : Prop := ∀ W : WX, Cz X W → PA X es (rdA X.K T W fs)
section
variable {T : Tb} {X : Cx} {pos : Pos} {e : Expr} {es : List Expr} {f : ES} {fs : List ES}
theorem sa_nil : SA T X [] [] := fun W tk => PA.weak pa_nil fun s H Q ⟨al, rho, mu, k, Q0, sl, sr, p, hk⟩ => hk [] mu al [] H rfl (Gr.refl _) (Kp.refl _) sr Rps.nil p
theorem sa_cons (ha : SE T X e f) (hr : SA T X es fs) (hs : starEach (e :: es) X.env = (false, eval e X.env) :: starEach es X.env := by rfl) : SA T X (e :: es) (f :: fs) := fun W tk => PA.weak (pa_cons (ha W tk) (hr W tk) hs) fun s H Q ⟨al, rho, mu, k, Q0, sl, sr, p, hk⟩ =>
  ⟨al, rho, mu, sl, sr, Wo.bnd p fun d mu1 al1 v H1 _ g1 k1 sr1 rv p1 =>
    ⟨al1, rho, mu1, fun ds mu2 => k (d :: ds) mu2, Q0, sl.mono k1 g1, sr1, p1, fun ds mu2 al2 vs H2 hl g2 k2 sr2 rvs p2 => hk (d :: ds) mu2 al2 (v :: vs) H2 (by simp [hl]) (g1.trans g2) (k1.trans k2) sr2 (Rps.cons (Rp.mono k2 g2 _ _ rv) rvs) p2⟩⟩
/-- a rule of a call by values, at data -/
abbrev FS := List D → Mu → Ro
def CallD (K : PySem.W.Frag) (T : Tb) (F : FS) (r : List V → Hp → VK → Prop) : Prop := ∀ (al : List Addr) (mu : Mu) (H : Hp) (ds : List D) (vs : List V) (Q : VK) (E : XK), SR K T al mu H → Rps K al H ds vs → Wo K T al H Q E (F ds mu) → r vs H Q
def eCall (F : FS) (fs : List ES) : ES := fun rho mu => eArgs fs rho mu F
theorem se_callB {x : Str} {id : String} {F : FS} {r : List V → Hp → VK → Prop} {p : Pos} (hc : CallR X (.builtin id) r) (o : CallD X.K T F r) (hg : Gl X x) (hm : X.mg x = none) (hv : bootBuiltins x = some (.builtin id)) (ha : SA T X (e :: es) fs)
    (hn : x ≠ "__name__" := by decide) (hdb : (x == ("__debug__" : Str)) = false := by decide)
    (he : starEach (e :: es) X.env = (false, eval e X.env) :: starEach es X.env := by rfl) (hpl : (backTo pos (starEach es X.env)).any (·.1) = false := by rfl) : SE T X (.Call (.Name x p) (e :: es) [] pos) (eCall F fs) := fun W tk =>
  PE.weak (pe_callB hc hg hm hv (ha W tk) hn hdb he hpl) fun s H Q ⟨al, rho, mu, sl, sr, w⟩ => ⟨al, rho, mu, F, Q, sl, sr, w, fun ds mu' al' vs H' _ g k sr' rv w' => o al' mu' H' ds vs Q _ sr' rv w'⟩
theorem se_callTy {x : Str} {id : String} {F : FS} {r : List V → Hp → VK → Prop} {p : Pos} (hc : CallR X (.type id) r) (o : CallD X.K T F r) (hg : Gl X x) (hm : X.mg x = none) (hv : bootBuiltins x = some (.type id)) (ha : SA T X (e :: es) fs)
    (hn : x ≠ "__name__" := by decide) (hdb : (x == ("__debug__" : Str)) = false := by decide)
    (he : starEach (e :: es) X.env = (false, eval e X.env) :: starEach es X.env := by rfl) (hpl : (backTo pos (starEach es X.env)).any (·.1) = false := by rfl) : SE T X (.Call (.Name x p) (e :: es) [] pos) (eCall F fs) := fun W tk =>
  PE.weak (pe_callTy hc hg hm hv (ha W tk) hn hdb he hpl) fun s H Q ⟨al, rho, mu, sl, sr, w⟩ => ⟨al, rho, mu, F, Q, sl, sr, w, fun ds mu' al' vs H' _ g k sr' rv w' => o al' mu' H' ds vs Q _ sr' rv w'⟩
end
/-! ### a def's promise by a partial function on data -/
def spD (K : PySem.W.Frag) (T : Tb) (n : Nat) (F : FS) : Sp := fun vs H Q E => vs.length = n ∧ ∃ al mu ds, SR K T al mu H ∧ Rps K al H ds vs ∧ Wo K T al H Q E (F ds mu)
/-- a promise that is kept where no repr runs around -/
structure FnG (P : Program) (w : World) (K : PySem.W.Frag) (mg : Str → Option Value) (base : Heap) (k : Nat) (f : Addr) (fd : FuncData) (ps : List Str) (sp : Sp) : Prop where
  len : ∀ vs H Q E, sp vs H Q E → vs.length = ps.length
  run : ∀ (A : Around) (outer : List Env) (s : Shared) (H : Hp) (args : Args) (us : List Value) (vs : List V) (Q : VK) (E : XK), Room k A → A.guards = some [] → Env0 P w K mg base A outer s H → BindsTo s fd args (ps.zip us) → Vals vs us → sp vs H Q E →
    codeAny (model P w) A (.call (.ref f) args) (CR (L2.CX P w) outer P w H s Q E) s
theorem FnG.imp {P : Program} {w : World} {K : PySem.W.Frag} {mg : Str → Option Value} {base : Heap} {k : Nat} {f : Addr} {fd : FuncData} {ps : List Str} {sp sp' : Sp} (F : FnG P w K mg base k f fd ps sp) (h : ∀ vs H Q E, sp' vs H Q E → sp vs H Q E) : FnG P w K mg base k f fd ps sp' where
  len := fun vs H Q E q => F.len vs H Q E (h vs H Q E q)
  run := fun A o s H args us vs Q E hr hg e0 b r q => F.run A o s H args us vs Q E hr hg e0 b r (h vs H Q E q)
theorem FnOk.toG {P : Program} {w : World} {K : PySem.W.Frag} {mg : Str → Option Value} {base : Heap} {k : Nat} {f : Addr} {fd : FuncData} {ps : List Str} {sp : Sp} (F : FnOk P w K mg base (L2.CX P w) k f fd ps sp) : FnG P w K mg base k f fd ps sp where
  len := F.len
  run := fun A o s H args us vs Q E hr _ => F.run A o s H args us vs Q E hr
/-- x is a def of the module, of n parameters, that is F -/
structure Fx (P : Program) (w : World) (K : PySem.W.Frag) (mg : Str → Option Value) (base : Heap) (T : Tb) (x : Str) (k n : Nat) (F : FS) : Prop where
  ex : ∃ f fd ps, FnG P w K mg base k f fd ps (spD K T n F) ∧ mg x = some (.ref f) ∧ PySem.W.keepIn K (.ref f) = true ∧ Binds K fd ps [] ∧ ps.length = n
section
variable {X : Cx} {W : WX} {k : Nat} {f : Addr} {fd : FuncData} {ps : List Str} {sp : Sp}
theorem run_G {pins : List (Addr × Obj)} {s : L2.St} {H : Hp} {s0 : Shared} {Q : VK} {us : List Value} {vs : List V} (F : FnG X.prog X.w X.K X.mg X.base k f fd ps sp) (hr : Room k X.A) (z : Cz X W) (hb : Binds X.K fd ps []) (I : Inv X pins s H s0) (r : Vals vs us) (h : sp vs H Q (WE W s)) :
    wpAny (model X.prog X.w) X.A (call (.ref f) us) (EP X pins s Q) X.xe s0 := by
  have b := hb s0 us I.kIn
  simp only [List.append_nil] at b
  refine wpAny_call (codeAny_mono (F.run X.A X.stack s0 H ⟨us, []⟩ us vs Q (WE W s) hr z.gd I.env0 (b (by rw [← r.length]; exact F.len _ _ _ _ h)) r h) fun o s' q => ?_)
  match o, q with
  | .error e, q => exact passAt z.tk s pins H s0 e s' I q
  | .ok (.ret u), q => exact I.after q
end
section
variable {T : Tb} {X : Cx} {pos : Pos} {e : Expr} {es : List Expr} {f : ES} {fs : List ES}
theorem se_call {x : Str} {j k n : Nat} {F : FS} {p : Pos} (c : Fx X.prog X.w X.K X.mg X.base T x k n F) (hr : Room j X.A) (hk : k ≤ j) (hg : Gl X x) (ha : SA T X (e :: es) fs) (hl : fs.length = n := by rfl) (hdb : (x == ("__debug__" : Str)) = false := by decide)
    (he : starEach (e :: es) X.env = (false, eval e X.env) :: starEach es X.env := by rfl) (hpl : (backTo pos (starEach es X.env)).any (·.1) = false := by rfl) : SE T X (.Call (.Name x p) (e :: es) [] pos) (eCall F fs) := fun W z => by
  obtain ⟨fa, fd, ps, G, m, kp, b, hn⟩ := c.ex
  refine ⟨fun pins s0 s H Q I ⟨al, rho, mu, sl, sr, w⟩ => wpAny_Call_Name_kw (ld_glob I hg m ?_ hdb)⟩
  refine PySem.W.callWith_K (h₀ := X.base) I.ok.mod.kin kp (thn ((ha W z).run pos pins s0 s H (fun vs H1 => spD X.K T n F vs H1 Q (WE W s)) I ⟨al, rho, mu, F, Q, sl, sr, w, fun ds mu' al' vs H' hd g q sr' rv w' => ?_⟩) fun us s1 ⟨vs, H1, I1, r, q⟩ => ⟨I1.kIn, run_G G (hr.mono hk) z b I1 r q⟩) he hpl
  exact ⟨by rw [rv.length, hd, hl], al', mu', ds, sr', rv, w'⟩
/-- f() -/
theorem se_call0 {x : Str} {j k : Nat} {F : FS} {p : Pos} (c : Fx X.prog X.w X.K X.mg X.base T x k 0 F) (hr : Room j X.A) (hk : k ≤ j) (hg : Gl X x) (hdb : (x == ("__debug__" : Str)) = false := by decide) : SE T X (.Call (.Name x p) [] [] pos) (eCall F []) := fun W z => by
  obtain ⟨fa, fd, ps, G, m, kp, b, hn⟩ := c.ex
  refine ⟨fun pins s0 s H Q I ⟨al, rho, mu, sl, sr, w⟩ => ?_⟩
  refine wpAny_Call_Name_kw (ld_glob I hg m ?_ hdb)
  exact PySem.W.callWith_K0 I.kIn kp (run_G (us := []) (vs := []) G (hr.mono hk) z b I .nil ⟨rfl, al, mu, [], sr, Rps.nil, w⟩)
end

/-! ### statements -/
inductive Fl where
  | nx | bk | ct
  | rt (d : D)
  | ex (C : Addr) (fs : List (Str × D))
abbrev So := Option (Fl × Rho × Mu)
abbrev SS := Rho → Mu → So
def WoS (K : PySem.W.Frag) (T : Tb) (al : List Addr) (H : Hp) (De : Ends) (W : WX) : So → Prop
  | none => False
  | some (.nx, rho, mu) => ∀ al' s' H', Gr al al' → Kp H H' → SL K al' H' rho s' → SR K T al' mu H' → De.nx s' H'
  | some (.bk, rho, mu) => ∀ al' s' H', Gr al al' → Kp H H' → SL K al' H' rho s' → SR K T al' mu H' → De.bk s' H'
  | some (.ct, rho, mu) => ∀ al' s' H', Gr al al' → Kp H H' → SL K al' H' rho s' → SR K T al' mu H' → De.ct s' H'
  | some (.rt d, _, mu) => ∀ al' v H', Gr al al' → Kp H H' → SR K T al' mu H' → Rp K al' H' d v → De.rt v H'
  | some (.ex C fs, rho, mu) => ∀ al' s' H' dd vs, Gr al al' → Kp H H' → SL K al' H' rho s' → SR K T al' mu H' → H' dd = some (.xd vs) → RpA K al' H' fs vs → W (.ref C) (some dd) s' H'
theorem WoS.mono {K : PySem.W.Frag} {T : Tb} {al al' : List Addr} {H H' : Hp} {De : Ends} {W : WX} {r : So} (h : WoS K T al H De W r) (g : Gr al al') (k : Kp H H') : WoS K T al' H' De W r := by
  match r with
  | none => exact h
  | some (.nx, rho, mu) => exact fun a s H2 g2 k2 => h a s H2 (g.trans g2) (k.trans k2)
  | some (.bk, rho, mu) => exact fun a s H2 g2 k2 => h a s H2 (g.trans g2) (k.trans k2)
  | some (.ct, rho, mu) => exact fun a s H2 g2 k2 => h a s H2 (g.trans g2) (k.trans k2)
  | some (.rt d, rho, mu) => exact fun a s H2 g2 k2 => h a s H2 (g.trans g2) (k.trans k2)
  | some (.ex C fs, rho, mu) => exact fun a s H2 dd vs g2 k2 => h a s H2 dd vs (g.trans g2) (k.trans k2)
/-- an expression's outcome within a statement -/
def bnS (r : Ro) (rho : Rho) (k : D → Mu → So) : So := match r with
  | some (.ok d, mu) => k d mu
  | some (.ex C fs, mu) => some (.ex C fs, rho, mu)
  | none => none
theorem WoS.bn {K : PySem.W.Frag} {T : Tb} {al : List Addr} {H : Hp} {De : Ends} {W : WX} {P : VK} {r : Ro} {rho : Rho} {s : L2.St} {k : D → Mu → So} (sl : SL K al H rho s) (h : WoS K T al H De W (bnS r rho k))
    (hk : ∀ d mu al' v H', r = some (.ok d, mu) → Gr al al' → Kp H H' → SR K T al' mu H' → Rp K al' H' d v → WoS K T al' H' De W (k d mu) → P v H') : Wo K T al H P (fun c d H' => W c d s H') r := by
  match r with
  | none => exact h
  | some (.ok d, mu) => exact fun a v H2 g2 k2 sr q => hk d mu a v H2 rfl g2 k2 sr q (WoS.mono (r := k d mu) h g2 k2)
  | some (.ex C fs, mu) => exact fun a H2 dd vs g2 k2 sr e q => h a s H2 dd vs g2 k2 (sl.mono k2 g2) sr e q
def rdS (K : PySem.W.Frag) (T : Tb) (W : WX) (f : SS) : TS := fun De s H => ∃ al rho mu, SL K al H rho s ∧ SR K T al mu H ∧ WoS K T al H De W (f rho mu)
def ST (T : Tb) (X : Cx) (st : Stmt) (f : SS) : Prop := ∀ W : WX, Cz X W → PassesOwn (model X.prog X.w) X.A X.env X.xe → PS X st (rdS X.K T W f)
def STs (T : Tb) (X : Cx) (st : List Stmt) (f : SS) : Prop := ∀ W : WX, Cz X W → PassesOwn (model X.prog X.w) X.A X.env X.xe → PSs X st (rdS X.K T W f)
def sNil : SS := fun rho mu => some (.nx, rho, mu)
def sSeq (f g : SS) : SS := fun rho mu => match f rho mu with
  | some (.nx, rho1, mu1) => g rho1 mu1
  | o => o
def sSet (i : Nat) (f : ES) : SS := fun rho mu => bnS (f rho mu) rho fun d mu1 => some (.nx, rho.set i (some d), mu1)
def sExpr (f : ES) : SS := fun rho mu => bnS (f rho mu) rho fun _ mu1 => some (.nx, rho, mu1)
def sRet (f : ES) : SS := fun rho mu => bnS (f rho mu) rho fun d mu1 => some (.rt d, rho, mu1)
def chS (a b : Mu → So) : D → Mu → So := fun d mu => match d with
  | .bl true => a mu
  | .bl false => b mu
  | _ => none
def sIf (c : ES) (f g : SS) : SS := fun rho mu => bnS (c rho mu) rho (chS (fun mu1 => f rho mu1) fun mu1 => g rho mu1)
section
variable {T : Tb} {X : Cx} {pos : Pos} {e : Expr} {st : Stmt} {sts ste : List Stmt} {f : ES} {m n : SS}
theorem sts_nil : STs T X [] sNil := fun W tk ps => PSs.weak pss_nil fun De s H ⟨al, rho, mu, sl, sr, w⟩ => w al s H (Gr.refl _) (Kp.refl _) sl sr
theorem sts_one (h : ST T X st m) : STs T X [st] m := fun W tk ps => pss_one (h W tk ps)
theorem sts_cons (h : ST T X st m) (h2 : STs T X sts n) : STs T X (st :: sts) (sSeq m n) := fun W tk ps => PSs.weak (pss_cons (h W tk ps) (h2 W tk ps)) fun De s H ⟨al, rho, mu, sl, sr, w⟩ => ⟨al, rho, mu, sl, sr, by
  unfold sSeq at w
  match q : m rho mu with
  | none => rw [q] at w; exact w
  | some (.nx, rho1, mu1) =>
    rw [q] at w
    exact fun al1 s1 H1 g1 k1 sl1 sr1 => ⟨al1, rho1, mu1, sl1, sr1, WoS.mono w g1 k1⟩
  | some (.bk, rho1, mu1) => rw [q] at w; exact w
  | some (.ct, rho1, mu1) => rw [q] at w; exact w
  | some (.rt d, rho1, mu1) => rw [q] at w; exact w
  | some (.ex C fs, rho1, mu1) => rw [q] at w; exact w⟩
theorem st_set {i : Nat} {x : Str} {pos' : Pos} (hN : X.N.Nodup) (he : SE T X e f) (hi : X.N[i]? = some x := by rfl) (hx : Loc X.env.scope x := by first | exact Or.inl rfl | exact Or.inr rfl) (hs : swapsWith e (some (.Name x pos')) pos.line X.env = pure false := by rfl)
    (hf : X.fn x = true ∨ X.env.scope.names.lookup x = some .local := by first | exact .inl rfl | exact .inr rfl | assumption) : ST T X (.Assign [.Name x pos'] e pos) (sSet i f) := fun W tk ps => PS.weak (ps_set hN hi hx (he W tk) hs hf) fun De s H ⟨al, rho, mu, sl, sr, w⟩ =>
  ⟨al, rho, mu, sl, sr, WoS.bn sl w fun d mu1 al1 v H1 _ g1 k1 sr1 rv w1 => w1 al1 _ H1 (Gr.refl _) (Kp.refl _) ((sl.mono k1 g1).set rv i) sr1⟩
theorem st_expr (he : SE T X e f) (hs : swapsWith e none pos.line X.env = pure false := by rfl) : ST T X (.Expr e pos) (sExpr f) := fun W tk ps => PS.weak (ps_expr (he W tk) hs) fun De s H ⟨al, rho, mu, sl, sr, w⟩ =>
  ⟨al, rho, mu, sl, sr, WoS.bn sl w fun d mu1 al1 v H1 _ g1 k1 sr1 rv w1 => w1 al1 _ H1 (Gr.refl _) (Kp.refl _) (sl.mono k1 g1) sr1⟩
theorem st_ret (he : SE T X e f) : ST T X (.Return (some e) pos) (sRet f) := fun W tk ps => PS.weak (ps_ret (he W tk)) fun De s H ⟨al, rho, mu, sl, sr, w⟩ =>
  ⟨al, rho, mu, sl, sr, WoS.bn sl w fun d mu1 al1 v H1 _ g1 k1 sr1 rv w1 => w1 al1 v H1 (Gr.refl _) (Kp.refl _) sr1 rv⟩
theorem st_pass : ST T X (.Pass pos) sNil := fun W tk ps => PS.weak ps_pass fun De s H ⟨al, rho, mu, sl, sr, w⟩ => w al s H (Gr.refl _) (Kp.refl _) sl sr
theorem st_if (hc : SC T X e f) (ha : STs T X sts m) (hb : STs T X ste n) : ST T X (.If e sts ste pos) (sIf f m n) := fun W tk ps => PS.weak (ps_if (hc W tk) (ha W tk ps) (hb W tk ps)) fun De s H ⟨al, rho, mu, sl, sr, w⟩ =>
  ⟨al, rho, mu, sl, sr, WoS.bn sl w fun d mu1 al1 v H1 _ g1 k1 sr1 rv w1 => by
    unfold chS at w1
    match d with
    | .bl true =>
      unfold Rp at rv; subst rv
      exact ⟨true, rfl, iteT ⟨al1, rho, mu1, sl.mono k1 g1, sr1, w1⟩⟩
    | .bl false =>
      unfold Rp at rv; subst rv
      exact ⟨false, rfl, iteF ⟨al1, rho, mu1, sl.mono k1 g1, sr1, w1⟩⟩
    | .non => exact w1.elim
    | .int _ => exact w1.elim
    | .str _ => exact w1.elim
    | .ty _ => exact w1.elim
    | .tup _ => exact w1.elim
    | .cel _ => exact w1.elim
    | .adr _ => exact w1.elim
    | .fl _ => exact w1.elim⟩
end
/-! ### a def -/
def fnS (n : Nat) (m : SS) : FS := fun ds mu => match m (ds.map some ++ List.replicate (n - ds.length) none) mu with
  | some (.nx, _, mu1) => some (.ok .non, mu1)
  | some (.rt d, _, mu1) => some (.ok d, mu1)
  | some (.ex C fs, _, mu1) => some (.ex C fs, mu1)
  | _ => none
theorem SL.start {K : PySem.W.Frag} {al : List Addr} {H : Hp} {N : List Str} : ∀ {ds : List D} {vs : List V}, Rps K al H ds vs → SL K al H (ds.map some ++ List.replicate (N.length - ds.length) none) (L2.start N vs) := fun {ds vs} r => by
  refine ⟨by unfold L2.start; simp [r.length], fun i d e => ?_⟩
  by_cases hi : i < ds.length
  · rw [List.getElem?_append_left (by simpa using hi)] at e
    rw [List.getElem?_map] at e
    obtain ⟨d', hd⟩ : ∃ d', ds[i]? = some d' := ⟨ds[i], by simp [hi]⟩
    rw [hd] at e
    cases e
    obtain ⟨v, e1, e2⟩ := r.get hd
    refine ⟨v, ?_, e2⟩
    unfold L2.start
    rw [List.getElem?_append_left (by rw [List.length_map, r.length]; exact hi), List.getElem?_map, e1]
    rfl
  · rw [List.getElem?_append_right (by simpa using hi), List.getElem?_replicate] at e
    split at e <;> cases e
section
variable {P : Program} {w : World} {K : PySem.W.Frag} {mg : Str → Option Value} {base : Heap} {T : Tb}
theorem fnD {x qual : Str} {st : Stmt} {f : Addr} {fd : FuncData} {N ps : List Str} {k : Nat} {m : SS} (F : Fun K x qual st f fd) (S : FnScope N ps (defScope st))
    (hb : ∀ (cdv : Value) (A : Around) (outer : List Env) (s : Shared) (H : Hp) (E : XK), Room k (A.deeper (envOfC qual (defScope st) s.heap.objs.size f cdv)) → STs T (cxOf (L2.CX P w) P w K mg base N qual (defScope st) f cdv A outer s H E) (defBody st) m) :
    FnG P w K mg base (k + 1) f fd ps (spD K T ps.length (fnS N.length m)) := by
  obtain ⟨oc, od, kV, doc, pm, an, cdv, ct, osl, rfl, lk, hcd⟩ := F.ex
  refine ⟨fun vs H Q E h => h.1, fun A outer s H args us vs Q E hr hg e0 b r h => LamX.run_ofS lk hcd S hr e0 b r h.1 fun hr' => ⟨_, hb cdv A outer s H E hr' (fun cls d _ H' => E cls d H') ⟨takes_of rfl rfl rfl rfl, hg⟩ (passes_of rfl), ?_⟩⟩
  obtain ⟨hl, al, mu, ds, sr, r, p⟩ := h
  refine ⟨al, _, mu, SL.start r, sr, ?_⟩
  unfold fnS at p
  match q : m (ds.map some ++ List.replicate (N.length - ds.length) none) mu with
  | none => rw [q] at p; exact p
  | some (.nx, rho1, mu1) =>
    rw [q] at p
    exact fun al1 s1 H1 g1 k1 sl1 sr1 => p al1 .non H1 g1 k1 sr1 (by unfold Rp; rfl)
  | some (.bk, rho1, mu1) => rw [q] at p; exact p.elim
  | some (.ct, rho1, mu1) => rw [q] at p; exact p.elim
  | some (.rt d, rho1, mu1) => rw [q] at p; exact p
  | some (.ex C fs, rho1, mu1) =>
    rw [q] at p
    exact fun al1 s1 H1 dd vs g1 k1 sl1 sr1 e1 e2 => p al1 H1 dd vs g1 k1 sr1 e1 e2
end
end DL
set_option Elab.async false
set_option linter.all false
set_option autoImplicit false
set_option maxRecDepth 100000
set_option maxHeartbeats 4000000
/-! DL3: operations on data. -/
namespace DL
open PySem PySem.Spec PyProof.Rows L2

section
variable {K : PySem.W.Frag} {al : List Addr} {H : Hp} {v : V}
theorem rp_non : Rp K al H .non v ↔ v = .non := by unfold Rp; exact Iff.rfl
theorem rp_bl {b : Bool} : Rp K al H (.bl b) v ↔ v = .bl b := by unfold Rp; exact Iff.rfl
theorem rp_int {i : Int} : Rp K al H (.int i) v ↔ v = .int i := by unfold Rp; exact Iff.rfl
theorem rp_str {x : Str} : Rp K al H (.str x) v ↔ v = .str x := by unfold Rp; exact Iff.rfl
theorem rp_ty {x : String} : Rp K al H (.ty x) v ↔ v = .ty x := by unfold Rp; exact Iff.rfl
theorem rp_adr {x : Addr} : Rp K al H (.adr x) v ↔ v = .ref x := by unfold Rp; exact Iff.rfl
theorem rp_tup {xs : List D} : Rp K al H (.tup xs) v ↔ ∃ a ys, v = .ref a ∧ SqT K H a ys ∧ Rps K al H xs ys := by unfold Rp; exact Iff.rfl
theorem rp_fl {xs : List D} : Rp K al H (.fl xs) v ↔ ∃ a ys, v = .ref a ∧ FzL K H a ys ∧ Rps K al H xs ys := by unfold Rp; exact Iff.rfl
theorem rp_cel {j : Nat} : Rp K al H (.cel j) v ↔ ∃ a, al[j]? = some a ∧ v = .ref a := by unfold Rp; exact Iff.rfl
theorem rps_nil {vs : List V} : Rps K al H [] vs ↔ vs = [] := by unfold Rps; exact Iff.rfl
theorem rps_cons {d : D} {ds : List D} {vs : List V} : Rps K al H (d :: ds) vs ↔ ∃ v r, vs = v :: r ∧ Rp K al H d v ∧ Rps K al H ds r := by
  conv => lhs; unfold Rps
theorem rps_one {d : D} {vs : List V} : Rps K al H [d] vs ↔ ∃ v, vs = [v] ∧ Rp K al H d v := by
  rw [rps_cons]
  constructor
  · rintro ⟨v, r, e, h, q⟩
    rw [rps_nil] at q
    exact ⟨v, by rw [e, q], h⟩
  · rintro ⟨v, e, h⟩
    exact ⟨v, [], e, h, rps_nil.mpr rfl⟩
theorem rps_two {d e : D} {vs : List V} : Rps K al H [d, e] vs ↔ ∃ v u, vs = [v, u] ∧ Rp K al H d v ∧ Rp K al H e u := by
  rw [rps_cons]
  constructor
  · rintro ⟨v, r, z, h, q⟩
    obtain ⟨u, z2, h2⟩ := rps_one.mp q
    exact ⟨v, u, by rw [z, z2], h, h2⟩
  · rintro ⟨v, u, z, h, h2⟩
    exact ⟨v, [u], z, h, rps_one.mpr ⟨u, rfl, h2⟩⟩
end
theorem line (n : Nat) (h : n ≤ 16777216) : n ≤ sizeLine := by rw [sizeLine_eq]; exact h
theorem line1 (n : Nat) (h : n < 16777216) : n < sizeLine := by rw [sizeLine_eq]; exact h
/-- a value -/
abbrev okD (d : D) (mu : Mu) : Ro := some (.ok d, mu)
/-- a new list in the store -/
abbrev newL (xs : List D) (mu : Mu) : Ro := some (.ok (.cel mu.length), mu ++ [.lst xs])
/-- the items of a list, frozen or not -/
def lstD : D → Mu → Option (List D)
  | .cel j, mu => match mu[j]? with
    | some (.lst xs) => some xs
    | _ => none
  | .fl xs, _ => some xs
  | _, _ => none
/-- .. or of a tuple -/
def seqD : D → Mu → Option (List D)
  | .tup xs, _ => some xs
  | d, mu => lstD d mu
section
variable {K : PySem.W.Frag} {T : Tb} {al : List Addr} {mu : Mu} {H : Hp} {Q : VK} {E : XK}
theorem lst_rp {d : D} {v : V} {xs : List D} (sr : SR K T al mu H) (r : Rp K al H d v) (h : lstD d mu = some xs) : ∃ a ys, v = .ref a ∧ SqL K H a ys ∧ Rps K al H xs ys := by
  unfold lstD at h
  split at h
  · split at h
    · rename_i j xs' e
      cases h
      obtain ⟨a, e1, rfl⟩ := rp_cel.mp r
      obtain ⟨vs, e2, r2⟩ := sr.ok _ _ a e e1
      exact ⟨a, vs, rfl, SqL.of e2, r2⟩
    · cases h
  · cases h
    obtain ⟨a, ys, e, q, r2⟩ := rp_fl.mp r
    exact ⟨a, ys, e, q.sq, r2⟩
  · cases h
theorem seq_rp {d : D} {v : V} {xs : List D} (sr : SR K T al mu H) (r : Rp K al H d v) (h : seqD d mu = some xs) : ∃ a ys, v = .ref a ∧ (SqL K H a ys ∨ SqT K H a ys) ∧ Rps K al H xs ys := by
  unfold seqD at h
  split at h
  · cases h
    obtain ⟨a, ys, e, q, r2⟩ := rp_tup.mp r
    exact ⟨a, ys, e, .inr q, r2⟩
  · obtain ⟨a, ys, e, q, r2⟩ := lst_rp sr r h
    exact ⟨a, ys, e, .inl q, r2⟩
/-- a cell that is a list: where it stands -/
theorem cel_lst {j : Nat} {v : V} {xs : List D} (sr : SR K T al mu H) (r : Rp K al H (.cel j) v) (h : mu[j]? = some (.lst xs)) : ∃ a ys, v = .ref a ∧ al[j]? = some a ∧ H a = some (.lst ys) ∧ Rps K al H xs ys := by
  obtain ⟨a, e1, rfl⟩ := rp_cel.mp r
  obtain ⟨vs, e2, r2⟩ := sr.ok _ _ a h e1
  exact ⟨a, vs, rfl, e1, e2, r2⟩
theorem Wo.tup {xs : List D} {vs : List V} (h : Wo K T al H Q E (okD (.tup xs) mu)) (sr : SR K T al mu H) (r : Rps K al H xs vs) (p : Addr) (n : H p = none) : Q (.ref p) (upd H p (.tup vs)) :=
  h al (.ref p) _ (Gr.refl _) (Kp.new n) (sr.fresh n) (rp_tup.mpr ⟨p, vs, rfl, SqT.of upd_same, Rps.mono (Kp.new n) (Gr.refl _) _ _ r⟩)
theorem Wo.lst {xs : List D} {vs : List V} (h : Wo K T al H Q E (newL xs mu)) (sr : SR K T al mu H) (r : Rps K al H xs vs) (p : Addr) (n : H p = none) : Q (.ref p) (upd H p (.lst vs)) :=
  h (al ++ [p]) (.ref p) _ (Gr.app _ _) (Kp.new n) (sr.alloc n ⟨vs, upd_same, Rps.mono (Kp.new n) (Gr.app _ _) _ _ r⟩) (rp_cel.mpr ⟨p, by rw [← sr.len]; simp, rfl⟩)
end
/-! ### + - * // % ** -/
def addD : D2
  | .int i, .int j, mu => okD (.int (i + j)) mu
  | .str a, .str b, mu => if a.length + b.length ≤ 16777216 then okD (.str (a ++ b)) mu else none
  | .tup a, .tup b, mu => if a.length + b.length ≤ 16777216 then okD (.tup (a ++ b)) mu else none
  | .cel i, .cel j, mu => match mu[i]?, mu[j]? with
    | some (.lst a), some (.lst b) => if a.length + b.length ≤ 16777216 then newL (a ++ b) mu else none
    | _, _ => none
  | _, _, _ => none
def subD : D2
  | .int i, .int j, mu => okD (.int (i - j)) mu
  | _, _, _ => none
instance cmulDec (i j : Int) : Decidable (CMul i j) := by unfold CMul; infer_instance
def mulD : D2
  | .int i, .int j, mu => if CMul i j then okD (.int (i * j)) mu else none
  | .cel i, .int k, mu => match mu[i]? with
    | some (.lst a) => if -(2 ^ 63) ≤ k ∧ k < 2 ^ 63 ∧ a.length * k.toNat ≤ 16777216 then newL (List.replicate k.toNat a).flatten mu else none
    | _ => none
  | _, _, _ => none
def modD : D2
  | .int i, .int j, mu => if 0 < j then okD (.int (i % j)) mu else none
  | _, _, _ => none
def fdivD : D2
  | .int i, .int j, mu => if 0 < j ∧ j < 1073741824 then okD (.int (i / j)) mu else none
  | _, _, _ => none
def powD : D2
  | .int i, .int j, mu => if 0 ≤ j ∧ j ≤ 1000000 ∧ i.natAbs < 2 ^ 64 then okD (.int (i ^ j.toNat)) mu else none
  | _, _, _ => none
section
variable {K : PySem.W.Frag} {T : Tb}
abbrev rAddD (K : PySem.W.Frag) : R2 := fun x y H Q => rI0 (fun i j => .int (i + j)) x y H Q ∨ (∃ i j, x = .str i ∧ y = .str j ∧ i.length + j.length ≤ sizeLine ∧ Q (.str (i ++ j)) H) ∨ rCatA K x y H Q ∨ rCat x y H Q
theorem o_add : Op2 K T addD (rAddD K) := fun al mu H dx dy x y Q E sr rx ry p => by
  unfold addD at p
  split at p
  · cases rp_int.mp rx; cases rp_int.mp ry
    exact .inl ⟨_, _, rfl, rfl, p.now sr (rp_int.mpr rfl)⟩
  · cases rp_str.mp rx; cases rp_str.mp ry
    split at p
    · rename_i h
      exact .inr (.inl ⟨_, _, rfl, rfl, line _ h, p.now sr (rp_str.mpr rfl)⟩)
    · exact p.elim
  · obtain ⟨a, xs, rfl, h1, r1⟩ := rp_tup.mp rx
    obtain ⟨b, ys, rfl, h2, r2⟩ := rp_tup.mp ry
    split at p
    · rename_i h
      refine .inr (.inr (.inl ⟨a, b, xs, ys, rfl, rfl, h1, h2, by rw [r1.length, r2.length]; exact line _ h, fun z => ?_, fun _ z => ?_, fun _ _ q n => p.tup sr (r1.app r2) q n⟩))
      · have e := r1.length
        rw [z] at e
        cases List.length_eq_zero_iff.mp e.symm
        exact p.now sr (rp_tup.mpr ⟨b, ys, rfl, h2, r2⟩)
      · have e := r2.length
        rw [z] at e
        cases List.length_eq_zero_iff.mp e.symm
        exact p.now sr (rp_tup.mpr ⟨a, xs, rfl, h1, by rw [List.append_nil]; exact r1⟩)
    · exact p.elim
  · split at p
    · rename_i e1 e2
      obtain ⟨a, xs, rfl, _, h1, r1⟩ := cel_lst sr rx e1
      obtain ⟨b, ys, rfl, _, h2, r2⟩ := cel_lst sr ry e2
      split at p
      · rename_i h
        exact .inr (.inr (.inr ⟨a, b, xs, ys, rfl, rfl, h1, h2, by rw [r1.length, r2.length]; exact line _ h, fun q n => p.lst sr (r1.app r2) q n⟩))
      · exact p.elim
    · exact p.elim
  · exact p.elim
theorem o_sub : Op2 K T subD (rI0 fun i j => .int (i - j)) := fun al mu H dx dy x y Q E sr rx ry p => by
  unfold subD at p
  split at p
  · cases rp_int.mp rx; cases rp_int.mp ry
    exact ⟨_, _, rfl, rfl, p.now sr (rp_int.mpr rfl)⟩
  · exact p.elim
theorem Rps.rep {al : List Addr} {H : Hp} {xs : List D} {vs : List V} (h : Rps K al H xs vs) : ∀ n : Nat, Rps K al H (List.replicate n xs).flatten (List.replicate n vs).flatten
  | 0 => Rps.nil
  | n + 1 => by
    rw [List.replicate_succ, List.replicate_succ, List.flatten_cons, List.flatten_cons]
    exact h.app (Rps.rep h n)
theorem o_mul : Op2 K T mulD (fun x y H Q => rI CMul (fun i j => .int (i * j)) x y H Q ∨ rRep x y H Q) := fun al mu H dx dy x y Q E sr rx ry p => by
  unfold mulD at p
  split at p
  · cases rp_int.mp rx; cases rp_int.mp ry
    split at p
    · rename_i h
      exact .inl ⟨_, _, rfl, rfl, h, p.now sr (rp_int.mpr rfl)⟩
    · exact p.elim
  · cases rp_int.mp ry
    split at p
    · rename_i e1
      obtain ⟨a, xs, rfl, _, h1, r1⟩ := cel_lst sr rx e1
      split at p
      · rename_i h
        exact .inr ⟨a, _, xs, rfl, rfl, h1, h.1, h.2.1, by rw [r1.length]; exact line _ h.2.2, fun q n => p.lst sr (r1.rep _) q n⟩
      · exact p.elim
    · exact p.elim
  · exact p.elim
theorem o_mod : Op2 K T modD (rI (fun _ j => 0 < j) fun i j => .int (i % j)) := fun al mu H dx dy x y Q E sr rx ry p => by
  unfold modD at p
  split at p
  · cases rp_int.mp rx; cases rp_int.mp ry
    split at p
    · rename_i h
      exact ⟨_, _, rfl, rfl, h, p.now sr (rp_int.mpr rfl)⟩
    · exact p.elim
  · exact p.elim
theorem o_fdiv : Op2 K T fdivD (rI CDiv fun i j => .int (i / j)) := fun al mu H dx dy x y Q E sr rx ry p => by
  unfold fdivD at p
  split at p
  · cases rp_int.mp rx; cases rp_int.mp ry
    split at p
    · rename_i h
      exact ⟨_, _, rfl, rfl, h, p.now sr (rp_int.mpr rfl)⟩
    · exact p.elim
  · exact p.elim
theorem o_pow : Op2 K T powD (rI CPow fun i j => .int (i ^ j.toNat)) := fun al mu H dx dy x y Q E sr rx ry p => by
  unfold powD at p
  split at p
  · cases rp_int.mp rx; cases rp_int.mp ry
    split at p
    · rename_i h
      exact ⟨_, _, rfl, rfl, h, p.now sr (rp_int.mpr rfl)⟩
    · exact p.elim
  · exact p.elim
end
section
variable {T : Tb} {X : Cx} {pos : Pos} {a b : Expr} {f g : ES}
theorem se_add (ha : SE T X a f) (hb : SE T X b g) : SE T X (.BinOp a .Add b pos) (eOp addD f g) := se_op (op_add.or (op_add_str.or (op_catA.or op_cat))) o_add ha hb
theorem se_sub (ha : SE T X a f) (hb : SE T X b g) : SE T X (.BinOp a .Sub b pos) (eOp subD f g) := se_op op_sub o_sub ha hb
theorem se_mul (ha : SE T X a f) (hb : SE T X b g) : SE T X (.BinOp a .Mult b pos) (eOp mulD f g) := se_op (op_mul.or op_rep) o_mul ha hb
theorem se_mod (ha : SE T X a f) (hb : SE T X b g) : SE T X (.BinOp a .Mod b pos) (eOp modD f g) := se_op op_mod o_mod ha hb
theorem se_fdiv (ha : SE T X a f) (hb : SE T X b g) : SE T X (.BinOp a .FloorDiv b pos) (eOp fdivD f g) := se_op op_fdiv o_fdiv ha hb
theorem se_pow (ha : SE T X a f) (hb : SE T X b g) : SE T X (.BinOp a .Pow b pos) (eOp powD f g) := se_op op_pow o_pow ha hb
end
end DL
set_option Elab.async false
set_option linter.all false
set_option autoImplicit false
set_option maxRecDepth 100000
set_option maxHeartbeats 4000000
/-! DL4: comparisons, subscripts, slices, displays, built-ins, methods. -/
namespace DL
open PySem PySem.Spec PyProof.Rows L2

/-! ### data as trees -/
mutual
def dP (rc : Nat → Option PyData) : D → Option PyData
  | .non => some .none
  | .bl b => some (.bool b)
  | .int i => some (.int i)
  | .str x => some (.str x)
  | .tup xs => (dPs rc xs).map .tuple
  | .fl xs => (dPs rc xs).map .list
  | .cel j => rc j
  | .ty _ => none
  | .adr _ => none
def dPs (rc : Nat → Option PyData) : List D → Option (List PyData)
  | [] => some []
  | x :: xs => match dP rc x, dPs rc xs with
    | some a, some b => some (a :: b)
    | _, _ => none
end
def cP (mu : Mu) : Nat → Nat → Option PyData
  | 0, _ => none
  | n + 1, j => match mu[j]? with
    | some (.lst xs) => (dPs (cP mu n) xs).map .list
    | some (.dct []) => some (.dict [])
    | _ => none
/-- a datum as a tree -/
def toP (mu : Mu) (d : D) : Option PyData := dP (cP mu 12) d
section
variable {K : PySem.W.Frag} {T : Tb} {al : List Addr} {mu : Mu} {H : Hp}
mutual
theorem rp_dp {rc : Nat → Option PyData} (hrc : ∀ j v p, rc j = some p → p.canLay0 = true → Rp K al H (.cel j) v → Dp K H v p) : ∀ (d : D) (v : V) (p : PyData), dP rc d = some p → p.canLay0 = true → Rp K al H d v → Dp K H v p
  | .non, v, p, h, _, r => by unfold dP at h; cases h; cases rp_non.mp r; exact .non
  | .bl b, v, p, h, _, r => by unfold dP at h; cases h; cases rp_bl.mp r; exact .bl b
  | .int i, v, p, h, _, r => by unfold dP at h; cases h; cases rp_int.mp r; exact .int i
  | .str x, v, p, h, _, r => by unfold dP at h; cases h; cases rp_str.mp r; exact .str x
  | .ty n, v, p, h, _, r => by unfold dP at h; cases h
  | .adr n, v, p, h, _, r => by unfold dP at h; cases h
  | .cel j, v, p, h, c, r => by unfold dP at h; exact hrc j v p h c r
  | .tup xs, v, p, h, c, r => by
    unfold dP at h
    obtain ⟨ps, h1, rfl⟩ := Option.map_eq_some_iff.mp h
    obtain ⟨a, ys, rfl, q, r2⟩ := rp_tup.mp r
    exact .tup q (rps_dp hrc xs ys ps h1 (by unfold PyData.canLay0 at c; exact c) r2)
  | .fl xs, v, p, h, c, r => by
    unfold dP at h
    obtain ⟨ps, h1, rfl⟩ := Option.map_eq_some_iff.mp h
    obtain ⟨a, ys, rfl, q, r2⟩ := rp_fl.mp r
    exact .lst q.sq (rps_dp hrc xs ys ps h1 (by unfold PyData.canLay0 at c; exact c) r2)
theorem rps_dp {rc : Nat → Option PyData} (hrc : ∀ j v p, rc j = some p → p.canLay0 = true → Rp K al H (.cel j) v → Dp K H v p) : ∀ (ds : List D) (vs : List V) (ps : List PyData), dPs rc ds = some ps → PyData.canLayAll0 ps = true → Rps K al H ds vs → DpAll K H vs ps
  | [], vs, ps, h, _, r => by unfold dPs at h; cases h; cases rps_nil.mp r; exact .nil
  | d :: ds, vs, ps, h, c, r => by
    unfold dPs at h
    split at h
    · rename_i p ps' e1 e2
      cases h
      obtain ⟨v, rr, rfl, r1, r2⟩ := rps_cons.mp r
      unfold PyData.canLayAll0 at c
      rw [Bool.and_eq_true] at c
      exact .cons (rp_dp hrc d v p e1 c.1 r1) (rps_dp hrc ds rr ps' e2 c.2 r2)
    · cases h
end
theorem cP_dp (sr : SR K T al mu H) : ∀ (n j : Nat) (v : V) (p : PyData), cP mu n j = some p → p.canLay0 = true → Rp K al H (.cel j) v → Dp K H v p
  | 0, j, v, p, h, _, _ => by unfold cP at h; cases h
  | n + 1, j, v, p, h, c, r => by
    unfold cP at h
    split at h
    · rename_i xs e
      obtain ⟨ps, h1, rfl⟩ := Option.map_eq_some_iff.mp h
      obtain ⟨a, ys, rfl, _, q, r2⟩ := cel_lst sr r e
      exact .lst (SqL.of q) (rps_dp (cP_dp sr n) xs ys ps h1 (by unfold PyData.canLay0 at c; exact c) r2)
    · cases h
      unfold PyData.canLay0 at c
      cases c
    · cases h
theorem toP_dp (sr : SR K T al mu H) {d : D} {v : V} {p : PyData} (h : toP mu d = some p) (c : p.canLay0 = true) (r : Rp K al H d v) : Dp K H v p := rp_dp (cP_dp sr 12) d v p h c r
end
/-! ### == != -/
def scV : D → Option V
  | .non => some .non
  | .bl b => some (.bl b)
  | .int i => some (.int i)
  | .str x => some (.str x)
  | _ => none
theorem scV_rp {K : PySem.W.Frag} {al : List Addr} {H : Hp} {d : D} {v x : V} (r : Rp K al H d v) (h : scV d = some x) : v = x := by
  unfold scV at h
  split at h
  · cases h; exact rp_non.mp r
  · cases h; exact rp_bl.mp r
  · cases h; exact rp_int.mp r
  · cases h; exact rp_str.mp r
  · cases h
def eqP (d e : D) (mu : Mu) : Option Bool := match toP mu d, toP mu e with
  | some p, some q => if SeqAt.shaped p = true ∧ SeqAt.shaped q = true then some (PyData.eqv p q) else none
  | _, _ => none
def eqB (d e : D) (mu : Mu) : Option Bool := match scV d, scV e with
  | some x, some y => if scal x y = true then some (decide (x = y)) else eqP d e mu
  | _, _ => eqP d e mu
def eqD : D2 := fun d e mu => match eqB d e mu with
  | some b => okD (.bl b) mu
  | none => none
def neD : D2 := fun d e mu => match eqB d e mu with
  | some b => okD (.bl (!b)) mu
  | none => none
section
variable {K : PySem.W.Frag} {T : Tb} {al : List Addr} {mu : Mu} {H : Hp}
theorem eqB_rp {d e : D} {x y : V} {b : Bool} (sr : SR K T al mu H) (rx : Rp K al H d x) (ry : Rp K al H e y) (h : eqB d e mu = some b) : (scal x y = true ∧ b = decide (x = y)) ∨ ∃ p q, Dp K H x p ∧ Dp K H y q ∧ SeqAt.shaped p = true ∧ SeqAt.shaped q = true ∧ b = PyData.eqv p q := by
  have gen : eqP d e mu = some b → (scal x y = true ∧ b = decide (x = y)) ∨ ∃ p q, Dp K H x p ∧ Dp K H y q ∧ SeqAt.shaped p = true ∧ SeqAt.shaped q = true ∧ b = PyData.eqv p q := fun h => by
    unfold eqP at h
    split at h
    · rename_i p q e1 e2
      split at h
      · rename_i c
        cases h
        exact .inr ⟨p, q, toP_dp sr e1 (SeqAt.canLay_of_shaped c.1) rx, toP_dp sr e2 (SeqAt.canLay_of_shaped c.2) ry, c.1, c.2, rfl⟩
      · cases h
    · cases h
  unfold eqB at h
  split at h
  · rename_i u w e1 e2
    cases scV_rp rx e1
    cases scV_rp ry e2
    split at h
    · rename_i c
      cases h
      exact .inl ⟨c, rfl⟩
    · exact gen h
  · exact gen h
theorem o_eq : Op2 K T eqD (fun x y H Q => rEq x y H Q ∨ rEqD K x y H Q) := fun al mu H dx dy x y Q E sr rx ry p => by
  unfold eqD at p
  split at p
  · rename_i b e
    have q := p.now sr (bl_rp b)
    rcases eqB_rp sr rx ry e with ⟨c, rfl⟩ | ⟨p1, p2, h1, h2, h3, h4, rfl⟩
    · exact .inl ⟨c, q⟩
    · exact .inr ⟨p1, p2, h1, h2, h3, h4, q⟩
  · exact p.elim
theorem o_ne : Op2 K T neD (fun x y H Q => rNe x y H Q ∨ rNeD K x y H Q) := fun al mu H dx dy x y Q E sr rx ry p => by
  unfold neD at p
  split at p
  · rename_i b e
    have q := p.now sr (bl_rp (!b))
    rcases eqB_rp sr rx ry e with ⟨c, rfl⟩ | ⟨p1, p2, h1, h2, h3, h4, rfl⟩
    · exact .inl ⟨c, q⟩
    · exact .inr ⟨p1, p2, h1, h2, h3, h4, q⟩
  · exact p.elim
end
/-! ### < <= > >= -/
def ordD (p : Int → Int → Bool) (q : List Nat → List Nat → Bool) : D2
  | .int i, .int j, mu => okD (.bl (p i j)) mu
  | .str a, .str b, mu => okD (.bl (q a.cps.toList b.cps.toList)) mu
  | _, _, _ => none
abbrev ltD : D2 := ordD (fun i j => decide (i < j)) fun a b => decide (a < b)
abbrev leD : D2 := ordD (fun i j => decide (i ≤ j)) fun a b => !decide (b < a)
abbrev gtD : D2 := ordD (fun i j => decide (j < i)) fun a b => decide (b < a)
abbrev geD : D2 := ordD (fun i j => decide (j ≤ i)) fun a b => !decide (a < b)
theorem o_ord {K : PySem.W.Frag} {T : Tb} {p : Int → Int → Bool} {q : List Nat → List Nat → Bool} : Op2 K T (ordD p q) (fun x y H Q => rI0 (fun i j => .bl (p i j)) x y H Q ∨ ∃ i j, x = .str i ∧ y = .str j ∧ Q (.bl (q i.cps.toList j.cps.toList)) H) := fun al mu H dx dy x y Q E sr rx ry p => by
  unfold ordD at p
  split at p
  · cases rp_int.mp rx; cases rp_int.mp ry
    exact .inl ⟨_, _, rfl, rfl, p.now sr (bl_rp _)⟩
  · cases rp_str.mp rx; cases rp_str.mp ry
    exact .inr ⟨_, _, rfl, rfl, p.now sr (bl_rp _)⟩
  · exact p.elim
/-! ### is None -/
def isN : D → Bool
  | .non => true
  | _ => false
def eIsN (f : ES) : ES := fun rho mu => bnd (f rho mu) fun d mu1 => okD (.bl (isN d)) mu1
def eNotN (f : ES) : ES := fun rho mu => bnd (f rho mu) fun d mu1 => okD (.bl (!isN d)) mu1
theorem isN_rp {K : PySem.W.Frag} {al : List Addr} {H : Hp} : ∀ {d : D} {v : V}, Rp K al H d v → decide (v = .non) = isN d
  | .non, v, r => by cases rp_non.mp r; rfl
  | .bl _, v, r => by cases rp_bl.mp r; rfl
  | .int _, v, r => by cases rp_int.mp r; rfl
  | .str _, v, r => by cases rp_str.mp r; rfl
  | .ty _, v, r => by cases rp_ty.mp r; rfl
  | .adr _, v, r => by cases rp_adr.mp r; rfl
  | .cel _, v, r => by obtain ⟨a, _, rfl⟩ := rp_cel.mp r; rfl
  | .tup _, v, r => by obtain ⟨a, _, rfl, _⟩ := rp_tup.mp r; rfl
  | .fl _, v, r => by obtain ⟨a, _, rfl, _⟩ := rp_fl.mp r; rfl
/-! ### in, not in -/
def flatD : D → Bool
  | .non => true
  | .bl _ => true
  | .int _ => true
  | .str _ => true
  | _ => false
def eqF : D → D → Bool
  | .non, .non => true
  | .bl a, .bl b => a == b
  | .bl a, .int b => (if a then 1 else 0) == b
  | .int a, .bl b => a == (if b then 1 else 0)
  | .int a, .int b => a == b
  | .str a, .str b => a == b
  | _, _ => false
def inB (x y : D) (mu : Mu) : Option Bool := match y with
  | .str s => match x with
    | .str t => some (!(Builtin.Str.occurrences s t 0 s.length 1).isEmpty)
    | _ => none
  | _ => match seqD y mu with
    | some xs => if flatD x = true ∧ xs.all flatD = true then some (xs.any fun z => eqF z x) else none
    | none => none
def inD : D2 := fun x y mu => match inB x y mu with
  | some b => okD (.bl b) mu
  | none => none
def notInD : D2 := fun x y mu => match inB x y mu with
  | some b => okD (.bl (!b)) mu
  | none => none
section
variable {K : PySem.W.Frag} {T : Tb} {al : List Addr} {mu : Mu} {H : Hp}
theorem flat_rp {d : D} {v : V} (r : Rp K al H d v) (h : flatD d = true) : flatV v = true := by
  unfold flatD at h
  split at h
  · cases rp_non.mp r; rfl
  · cases rp_bl.mp r; rfl
  · cases rp_int.mp r; rfl
  · cases rp_str.mp r; rfl
  · cases h
theorem eqF_rp {d e : D} {v u : V} (r : Rp K al H d v) (q : Rp K al H e u) (h : flatD d = true) (h2 : flatD e = true) : eqV v u = eqF d e := by
  cases d with
  | non => cases rp_non.mp r; cases e with
    | non => cases rp_non.mp q; rfl
    | bl _ => cases rp_bl.mp q; rfl
    | int _ => cases rp_int.mp q; rfl
    | str _ => cases rp_str.mp q; rfl
    | _ => cases h2
  | bl _ => cases rp_bl.mp r; cases e with
    | non => cases rp_non.mp q; rfl
    | bl _ => cases rp_bl.mp q; rfl
    | int _ => cases rp_int.mp q; rfl
    | str _ => cases rp_str.mp q; rfl
    | _ => cases h2
  | int _ => cases rp_int.mp r; cases e with
    | non => cases rp_non.mp q; rfl
    | bl _ => cases rp_bl.mp q; rfl
    | int _ => cases rp_int.mp q; rfl
    | str _ => cases rp_str.mp q; rfl
    | _ => cases h2
  | str _ => cases rp_str.mp r; cases e with
    | non => cases rp_non.mp q; rfl
    | bl _ => cases rp_bl.mp q; rfl
    | int _ => cases rp_int.mp q; rfl
    | str _ => cases rp_str.mp q; rfl
    | _ => cases h2
  | _ => cases h
theorem in_rps {x : D} {v : V} (r : Rp K al H x v) (hx : flatD x = true) : ∀ {xs : List D} {vs : List V}, Rps K al H xs vs → xs.all flatD = true → vs.all flatV = true ∧ inV v vs = xs.any fun z => eqF z x
  | [], vs, h, _ => by cases rps_nil.mp h; exact ⟨rfl, rfl⟩
  | d :: ds, vs, h, c => by
    obtain ⟨u, us, rfl, h1, h2⟩ := rps_cons.mp h
    rw [List.all_cons, Bool.and_eq_true] at c
    obtain ⟨q1, q2⟩ := in_rps r hx h2 c.2
    refine ⟨by rw [List.all_cons, flat_rp h1 c.1, q1]; rfl, ?_⟩
    unfold inV at q2 ⊢
    rw [List.any_cons, List.any_cons, eqF_rp h1 r c.1 hx, q2]
theorem inB_rp {d e : D} {x y : V} {b : Bool} (sr : SR K T al mu H) (rx : Rp K al H d x) (ry : Rp K al H e y) (h : inB d e mu = some b) :
    (∃ i j, x = .str i ∧ y = .str j ∧ b = !(Builtin.Str.occurrences j i 0 j.length 1).isEmpty) ∨ ∃ p vs, y = .ref p ∧ (SqL K H p vs ∨ SqT K H p vs) ∧ flatV x = true ∧ vs.all flatV = true ∧ b = inV x vs := by
  unfold inB at h
  split at h
  · split at h
    · cases h
      cases rp_str.mp rx; cases rp_str.mp ry
      exact .inl ⟨_, _, rfl, rfl, rfl⟩
    · cases h
  · split at h
    · rename_i xs e1
      split at h
      · rename_i c
        cases h
        obtain ⟨a, ys, rfl, q, r2⟩ := seq_rp sr ry e1
        obtain ⟨q1, q2⟩ := in_rps rx c.1 r2 c.2
        exact .inr ⟨a, ys, rfl, q, flat_rp rx c.1, q1, q2.symm⟩
      · cases h
    · cases h
theorem o_in : Op2 K T inD (fun x y H Q => (∃ i j, x = .str i ∧ y = .str j ∧ Q (.bl (!(Builtin.Str.occurrences j i 0 j.length 1).isEmpty)) H) ∨ rIn K false x y H Q) := fun al mu H dx dy x y Q E sr rx ry p => by
  unfold inD at p
  split at p
  · rename_i b e
    have q := p.now sr (bl_rp b)
    rcases inB_rp sr rx ry e with ⟨i, j, h1, h2, rfl⟩ | ⟨p1, vs, h1, h2, h3, h4, rfl⟩
    · exact .inl ⟨i, j, h1, h2, q⟩
    · exact .inr ⟨p1, vs, h1, h2, h3, h4, q⟩
  · exact p.elim
theorem o_notIn : Op2 K T notInD (fun x y H Q => (∃ i j, x = .str i ∧ y = .str j ∧ Q (.bl (!(!(Builtin.Str.occurrences j i 0 j.length 1).isEmpty))) H) ∨ rIn K true x y H Q) := fun al mu H dx dy x y Q E sr rx ry p => by
  unfold notInD at p
  split at p
  · rename_i b e
    have q := p.now sr (bl_rp (!b))
    rcases inB_rp sr rx ry e with ⟨i, j, h1, h2, rfl⟩ | ⟨p1, vs, h1, h2, h3, h4, rfl⟩
    · exact .inl ⟨i, j, h1, h2, q⟩
    · exact .inr ⟨p1, vs, h1, h2, h3, h4, q⟩
  · exact p.elim
end
section
variable {T : Tb} {X : Cx} {pos pos' : Pos} {a b c : Expr} {f g h : ES} {k : Nat}
theorem se_eq (hr : Room k X.A) (ha : SE T X a f) (hb : SE T X b g) : SE T X (.Compare a [.Eq] [b] pos) (eOp eqD f g) := se_cmp (op_eq.or (op_eqD hr.units)) o_eq ha hb (nomark _)
theorem se_ne (hr : Room k X.A) (ha : SE T X a f) (hb : SE T X b g) : SE T X (.Compare a [.NotEq] [b] pos) (eOp neD f g) := se_cmp (op_ne.or (op_neD hr.units)) o_ne ha hb (nomark _)
theorem sc_eq (hr : Room k X.A) (ha : SE T X a f) (hb : SE T X b g) : SC T X (.Compare a [.Eq] [b] pos) (eOp eqD f g) := sc_cmp (op_eq.or (op_eqD hr.units)) o_eq ha hb (nomark _)
theorem sc_ne (hr : Room k X.A) (ha : SE T X a f) (hb : SE T X b g) : SC T X (.Compare a [.NotEq] [b] pos) (eOp neD f g) := sc_cmp (op_ne.or (op_neD hr.units)) o_ne ha hb (nomark _)
theorem se_lt (ha : SE T X a f) (hb : SE T X b g) : SE T X (.Compare a [.Lt] [b] pos) (eOp ltD f g) := se_cmp (op_lt.or op_lt_str) o_ord ha hb (nomark _)
theorem sc_lt (ha : SE T X a f) (hb : SE T X b g) : SC T X (.Compare a [.Lt] [b] pos) (eOp ltD f g) := sc_cmp (op_lt.or op_lt_str) o_ord ha hb (nomark _)
theorem se_le (ha : SE T X a f) (hb : SE T X b g) : SE T X (.Compare a [.LtE] [b] pos) (eOp leD f g) := se_cmp (op_le.or op_le_str) o_ord ha hb (nomark _)
theorem sc_le (ha : SE T X a f) (hb : SE T X b g) : SC T X (.Compare a [.LtE] [b] pos) (eOp leD f g) := sc_cmp (op_le.or op_le_str) o_ord ha hb (nomark _)
theorem se_gt (ha : SE T X a f) (hb : SE T X b g) : SE T X (.Compare a [.Gt] [b] pos) (eOp gtD f g) := se_cmp (op_gt.or op_gt_str) o_ord ha hb (nomark _)
theorem sc_gt (ha : SE T X a f) (hb : SE T X b g) : SC T X (.Compare a [.Gt] [b] pos) (eOp gtD f g) := sc_cmp (op_gt.or op_gt_str) o_ord ha hb (nomark _)
theorem se_ge (ha : SE T X a f) (hb : SE T X b g) : SE T X (.Compare a [.GtE] [b] pos) (eOp geD f g) := se_cmp (op_ge.or op_ge_str) o_ord ha hb (nomark _)
theorem sc_ge (ha : SE T X a f) (hb : SE T X b g) : SC T X (.Compare a [.GtE] [b] pos) (eOp geD f g) := sc_cmp (op_ge.or op_ge_str) o_ord ha hb (nomark _)
theorem se_in (ha : SE T X a f) (hb : SE T X b g) (hm : behindInMarks .In b = false := by rfl) : SE T X (.Compare a [.In] [b] pos) (eOp inD f g) := se_cmp (op_in_str.or op_in_seq) o_in ha hb hm
theorem sc_in (ha : SE T X a f) (hb : SE T X b g) (hm : behindInMarks .In b = false := by rfl) : SC T X (.Compare a [.In] [b] pos) (eOp inD f g) := sc_cmp (op_in_str.or op_in_seq) o_in ha hb hm
theorem se_notIn (ha : SE T X a f) (hb : SE T X b g) (hm : behindInMarks .NotIn b = false := by rfl) : SE T X (.Compare a [.NotIn] [b] pos) (eOp notInD f g) := se_cmp (op_notin_str.or op_notIn_seq) o_notIn ha hb hm
theorem sc_notIn (ha : SE T X a f) (hb : SE T X b g) (hm : behindInMarks .NotIn b = false := by rfl) : SC T X (.Compare a [.NotIn] [b] pos) (eOp notInD f g) := sc_cmp (op_notin_str.or op_notIn_seq) o_notIn ha hb hm
theorem se_isN {j} (ha : SE T X a f) : SE T X (.Compare a [.Is] [.Constant .none j pos'] pos) (eIsN f) := fun W z => PE.weak (pe_cmp (pc_isN (ha W z))) fun s H Q ⟨al, rho, mu, sl, sr, p⟩ =>
  ⟨al, rho, mu, sl, sr, Wo.bnd p fun d mu1 al1 v H1 _ g1 k1 sr1 rv p1 => by rw [isN_rp rv]; exact p1.now sr1 (bl_rp _)⟩
theorem se_notN {j} (ha : SE T X a f) : SE T X (.Compare a [.IsNot] [.Constant .none j pos'] pos) (eNotN f) := fun W z => PE.weak (pe_cmp (pc_notN (ha W z))) fun s H Q ⟨al, rho, mu, sl, sr, p⟩ =>
  ⟨al, rho, mu, sl, sr, Wo.bnd p fun d mu1 al1 v H1 _ g1 k1 sr1 rv p1 => by rw [isN_rp rv]; exact p1.now sr1 (bl_rp _)⟩
end
end DL
set_option Elab.async false
set_option linter.all false
set_option autoImplicit false
set_option maxRecDepth 100000
set_option maxHeartbeats 4000000
/-! DL5: subscripts, slices, displays, stores, built-ins, methods. -/
namespace DL
open PySem PySem.Spec PyProof.Rows L2

/-! ### x[i] of a list, a tuple, a text -/
def ixD : D2 := fun d e mu => match e with
  | .int i => match d with
    | .str z => if z.length ≤ 16777216 then match atI z.cps.toList i with
        | some c => okD (.str ⟨#[c]⟩) mu
        | none => none
      else none
    | _ => match seqD d mu with
      | some xs => match atI xs i with
        | some x => okD x mu
        | none => none
      | none => none
  | _ => none
theorem Rps.atI {K : PySem.W.Frag} {al : List Addr} {H : Hp} {xs : List D} {vs : List V} {i : Int} {x : D} (r : Rps K al H xs vs) (h : L2.atI xs i = some x) : ∃ v, L2.atI vs i = some v ∧ Rp K al H x v := by
  unfold L2.atI at h ⊢
  rw [r.length]
  cases e : ixN xs.length i with
  | none => rw [e] at h; cases h
  | some j =>
    rw [e] at h
    obtain ⟨v, h1, h2⟩ := r.get (show xs[j]? = some x from h)
    exact ⟨v, h1, h2⟩
section
variable {K : PySem.W.Frag} {T : Tb}
theorem o_ix : Op2 K T ixD (rIx K) := fun al mu H dx dy x y Q E sr rx ry p => by
  unfold ixD at p
  split at p
  · cases rp_int.mp ry
    split at p
    · cases rp_str.mp rx
      split at p
      · rename_i hz
        split at p
        · rename_i c e
          exact .inr (.inr ⟨_, _, c, rfl, rfl, line _ hz, e, p.now sr (rp_str.mpr rfl)⟩)
        · exact p.elim
      · exact p.elim
    · split at p
      · rename_i xs e1
        split at p
        · rename_i z e2
          obtain ⟨a, ys, rfl, q, r⟩ := seq_rp sr rx e1
          obtain ⟨v, h1, h2⟩ := r.atI e2
          rcases q with q | q
          · exact .inl ⟨a, ys, _, v, rfl, rfl, q, h1, p.now sr h2⟩
          · exact .inr (.inl ⟨a, ys, _, v, rfl, rfl, q, h1, p.now sr h2⟩)
        · exact p.elim
      · exact p.elim
  · exact p.elim
end
/-! ### slices -/
def cutD (xs : List D) (lo hi : Option Int) : List D := (xs.drop (HT.sIx xs.length 0 lo)).take (HT.sIx xs.length xs.length hi - HT.sIx xs.length 0 lo)
theorem Rps.cut {K : PySem.W.Frag} {al : List Addr} {H : Hp} {xs : List D} {vs : List V} {lo hi : Option Int} (r : Rps K al H xs vs) : Rps K al H (cutD xs lo hi) (cutV vs lo hi) := by
  unfold cutD cutV
  rw [r.length]
  exact (r.drop _).take _
def slD (d : D) (lo hi : Option Int) (mu : Mu) : Ro := match d with
  | .str z => if z.length ≤ 16777216 then okD (.str (cutS z lo hi)) mu else none
  | .tup xs => okD (.tup (cutD xs lo hi)) mu
  | _ => match lstD d mu with
    | some xs => newL (cutD xs lo hi) mu
    | none => none
/-- an end of a slice -/
def ePart (f : Option ES) (rho : Rho) (mu : Mu) (k : Option Int → Mu → Ro) : Ro := match f with
  | none => k none mu
  | some f => bnd (f rho mu) fun d mu1 => match d with
    | .int i => k (some i) mu1
    | _ => none
def eSl (f : ES) (lo hi : Option ES) : ES := fun rho mu => bnd (f rho mu) fun d mu1 => ePart lo rho mu1 fun l mu2 => ePart hi rho mu2 fun u mu3 => slD d l u mu3
def rdO (K : PySem.W.Frag) (T : Tb) (W : WX) (f : Option ES) : TO := fun s H Q => ∃ al rho mu k Q0, SL K al H rho s ∧ SR K T al mu H ∧ Wo K T al H Q0 (fun c d H' => W c d s H') (ePart f rho mu k) ∧
  ∀ o mu' al' H', Gr al al' → Kp H H' → SR K T al' mu' H' → Wo K T al' H' Q0 (fun c d H' => W c d s H') (k o mu') → Q o H'
def SO (T : Tb) (X : Cx) (e : Option Expr) (f : Option ES) : Prop := ∀ W : WX, Cz X W → L2.PO X e (rdO X.K T W f)
theorem PO.weak {X : Cx} {e : Option Expr} {t t' : TO} (h : L2.PO X e t) (i : ∀ s H Q, t' s H Q → t s H Q) : L2.PO X e t' := ⟨fun pins s σ H Q I z => h.run pins s σ H Q I (i σ H Q z)⟩
section
variable {T : Tb} {X : Cx} {pos p2 : Pos} {a b e : Expr} {f g : ES} {lo hi : Option Expr} {fl fh : Option ES} {k : Nat}
theorem se_ix (ha : SE T X a f) (hb : SE T X b g) (hs : PlainIx b := by exact fun _ _ => rfl) : SE T X (.Subscript a b pos) (eOp ixD f g) := fun W z => PE.weak (pe_ix ix_seq (ha W z) (hb W z) hs) (rd_op o_ix)
theorem so_none : SO T X none none := fun W z => PO.weak po_none fun s H Q ⟨al, rho, mu, k, Q0, sl, sr, w, hk⟩ => hk none mu al H (Gr.refl _) (Kp.refl _) sr w
theorem so_some (h : SE T X e f) : SO T X (some e) (some f) := fun W z => PO.weak (po_some (h W z)) fun s H Q ⟨al, rho, mu, k, Q0, sl, sr, w, hk⟩ => ⟨al, rho, mu, sl, sr, Wo.bnd (k := fun d mu1 => match d with
    | .int i => k (some i) mu1
    | _ => none) w fun d mu1 al1 v H1 _ g1 k1 sr1 rv w1 => by
  match d with
  | .int i => cases rp_int.mp rv; exact ⟨i, rfl, hk (some i) mu1 al1 H1 g1 k1 sr1 w1⟩
  | .non => exact w1.elim
  | .bl _ => exact w1.elim
  | .str _ => exact w1.elim
  | .ty _ => exact w1.elim
  | .tup _ => exact w1.elim
  | .cel _ => exact w1.elim
  | .adr _ => exact w1.elim
  | .fl _ => exact w1.elim⟩
theorem slD_rp {K : PySem.W.Frag} {al : List Addr} {mu : Mu} {H : Hp} {Q : VK} {E : XK} {d : D} {x : V} {l u : Option Int} (sr : SR K T al mu H) (r : Rp K al H d x) (p : Wo K T al H Q E (slD d l u mu)) : rSlS x l u H Q ∨ rSlA K x l u H Q ∨ rSlL K x l u H Q := by
  unfold slD at p
  split at p
  · cases rp_str.mp r
    split at p
    · rename_i h
      exact .inl ⟨_, rfl, line _ h, p.now sr (rp_str.mpr rfl)⟩
    · exact p.elim
  · obtain ⟨a, ys, rfl, q, r2⟩ := rp_tup.mp r
    refine .inr (.inl ⟨a, ys, rfl, q, fun c => ?_, fun _ q n => p.tup sr r2.cut q n⟩)
    refine p.now sr (rp_tup.mpr ⟨a, ys, rfl, q, ?_⟩)
    have e := r2.cut (lo := l) (hi := u)
    have e2 : cutV ys l u = ys := by unfold cutV; rw [c.1, c.2]; simp
    rw [e2] at e
    exact e
  · split at p
    · rename_i xs e1
      obtain ⟨a, ys, rfl, q, r2⟩ := lst_rp sr r e1
      exact .inr (.inr ⟨a, ys, rfl, q, fun p' n => p.lst sr r2.cut p' n⟩)
    · exact p.elim
theorem se_sl (ha : SE T X a f) (hl : SO T X lo fl) (hh : SO T X hi fh) : SE T X (.Subscript a (.Slice lo hi none p2) pos) (eSl f fl fh) := fun W z => PE.weak (pe_slice (sl_str.or (sl_tupA.or sl_list)) (ha W z) (hl W z) (hh W z)) fun s H Q ⟨al, rho, mu, sl, sr, p⟩ =>
  ⟨al, rho, mu, sl, sr, Wo.bnd p fun d mu1 al1 v H1 _ g1 k1 sr1 rv p1 =>
    ⟨al1, rho, mu1, fun l mu2 => ePart fh rho mu2 fun u mu3 => slD d l u mu3, Q, sl.mono k1 g1, sr1, p1, fun l mu2 al2 H2 g2 k2 sr2 p2 =>
      ⟨al2, rho, mu2, fun u mu3 => slD d l u mu3, Q, (sl.mono k1 g1).mono k2 g2, sr2, p2, fun u mu3 al3 H3 g3 k3 sr3 p3 => slD_rp sr3 (Rp.mono k3 g3 _ _ (Rp.mono k2 g2 _ _ rv)) p3⟩⟩⟩
end
/-! ### displays -/
def tupF : FS := fun ds mu => if ds.length ≤ 16777216 then okD (.tup ds) mu else none
def lstF : FS := fun ds mu => if ds.length ≤ 16777216 then newL ds mu else none
section
variable {T : Tb} {X : Cx} {pos : Pos} {es : List Expr} {fs : List ES} {x1 : Nat}
theorem se_tup {x1} (h : SA T X es fs) : SE T X (.Tuple es x1 pos) (eCall tupF fs) := fun W z => PE.weak (pe_tup (h W z)) fun s H Q ⟨al, rho, mu, sl, sr, w⟩ =>
  ⟨al, rho, mu, tupF, Q, sl, sr, w, fun ds mu' al' vs H' _ g k sr' rv w' => by
    unfold tupF at w'
    split at w'
    · rename_i h
      exact ⟨by rw [rv.length]; exact line _ h, fun p n => w'.tup sr' rv p n⟩
    · exact w'.elim⟩
theorem se_lst (h : SA T X es fs) : SE T X (.List es pos) (eCall lstF fs) := fun W z => PE.weak (pe_lst (h W z)) fun s H Q ⟨al, rho, mu, sl, sr, w⟩ =>
  ⟨al, rho, mu, lstF, Q, sl, sr, w, fun ds mu' al' vs H' _ g k sr' rv w' => by
    unfold lstF at w'
    split at w'
    · rename_i h
      exact ⟨by rw [rv.length]; exact line _ h, fun p n => w'.lst sr' rv p n⟩
    · exact w'.elim⟩
end
/-! ### dicts with ints and texts for keys -/
def keyD : D → Option Key
  | .int i => some (.inl i)
  | .str x => some (.inr x)
  | _ => none
theorem key_rp {K : PySem.W.Frag} {al : List Addr} {H : Hp} {d : D} {v : V} {k : Key} (r : Rp K al H d v) (h : keyD d = some k) : v = kV k := by
  unfold keyD at h
  split at h
  · cases h; exact rp_int.mp r
  · cases h; exact rp_str.mp r
  · cases h
def valD (kvs : List (Key × D)) (k : Key) : Option D := (kvs.find? fun kv => decide (kv.1 = k)).map (·.2)
def putD (kvs : List (Key × D)) (k : Key) (d : D) : List (Key × D) := if (kvs.any fun kv => decide (kv.1 = k)) = true then kvs.map (fun kv => if kv.1 = k then (kv.1, d) else kv) else kvs ++ [(k, d)]
section
variable {K : PySem.W.Frag} {al : List Addr} {H : Hp}
theorem rpa_nil {k : Type} : RpA (k := k) K al H [] [] := ⟨rfl, Rps.nil⟩
theorem rpa_cons {k : Type} {x : k} {d : D} {kvs : List (k × D)} {vs : List (k × V)} (h : RpA K al H ((x, d) :: kvs) vs) : ∃ v r, vs = (x, v) :: r ∧ Rp K al H d v ∧ RpA K al H kvs r := by
  obtain ⟨h1, h2⟩ := h
  cases vs with
  | nil => cases h1
  | cons p r =>
    obtain ⟨y, v⟩ := p
    simp only [List.map_cons, List.cons.injEq] at h1 h2
    obtain ⟨rfl, h1⟩ := h1
    obtain ⟨u, r', e, h3, h4⟩ := rps_cons.mp h2
    simp only [List.map_cons, List.cons.injEq] at e
    obtain ⟨rfl, rfl⟩ := e
    exact ⟨v, r, rfl, h3, h1, h4⟩
theorem RpA.cons {k : Type} {x : k} {d : D} {v : V} {kvs : List (k × D)} {vs : List (k × V)} (h : Rp K al H d v) (r : RpA K al H kvs vs) : RpA K al H ((x, d) :: kvs) ((x, v) :: vs) := ⟨by simp [r.1], Rps.cons h r.2⟩
theorem RpA.val {k : Key} : ∀ {kvs : List (Key × D)} {vs : List (Key × V)} {d : D}, RpA K al H kvs vs → valD kvs k = some d → ∃ v, valV vs k = some v ∧ Rp K al H d v
  | [], vs, d, r, h => by cases h
  | (x, e) :: kvs, vs, d, r, h => by
    obtain ⟨v, rr, rfl, h1, h2⟩ := rpa_cons r
    by_cases hx : x = k
    · have e2 : valD ((x, e) :: kvs) k = some e := by simp [valD, List.find?_cons, hx]
      rw [e2] at h; cases h
      exact ⟨v, valV_pos hx, h1⟩
    · have e2 : valD ((x, e) :: kvs) k = valD kvs k := by simp [valD, List.find?_cons, hx]
      rw [e2] at h
      obtain ⟨u, q1, q2⟩ := RpA.val h2 h
      exact ⟨u, by rw [valV_neg hx]; exact q1, q2⟩
theorem RpA.any {k : Key} : ∀ {kvs : List (Key × D)} {vs : List (Key × V)}, RpA K al H kvs vs → (vs.any fun kv => decide (kv.1 = k)) = kvs.any fun kv => decide (kv.1 = k)
  | [], vs, r => by
    have e := r.1
    simp at e
    rw [e]; rfl
  | (x, e) :: kvs, vs, r => by
    obtain ⟨v, rr, rfl, h1, h2⟩ := rpa_cons r
    rw [List.any_cons, List.any_cons, RpA.any h2]
theorem RpA.app {k : Type} : ∀ {kvs kws : List (k × D)} {vs us : List (k × V)}, RpA K al H kvs vs → RpA K al H kws us → RpA K al H (kvs ++ kws) (vs ++ us) := fun r q => ⟨by simp [r.1, q.1], by rw [List.map_append, List.map_append]; exact r.2.app q.2⟩
theorem RpA.repl {k : Key} {d : D} {v : V} (q : Rp K al H d v) : ∀ {kvs : List (Key × D)} {vs : List (Key × V)}, RpA K al H kvs vs → RpA K al H (kvs.map fun kv => if kv.1 = k then (kv.1, d) else kv) (vs.map fun kv => if kv.1 = k then (kv.1, v) else kv)
  | [], vs, r => by
    have e := r.1
    simp at e
    rw [e]; exact rpa_nil
  | (x, e) :: kvs, vs, r => by
    obtain ⟨u, rr, rfl, h1, h2⟩ := rpa_cons r
    rw [List.map_cons, List.map_cons]
    by_cases hx : x = k
    · simp only [hx, if_true]
      exact RpA.cons q (by rw [← hx]; exact RpA.repl q h2)
    · simp only [hx, if_false]
      exact RpA.cons h1 (RpA.repl q h2)
theorem RpA.put {k : Key} {d : D} {v : V} (q : Rp K al H d v) {kvs : List (Key × D)} {vs : List (Key × V)} (r : RpA K al H kvs vs) : RpA K al H (putD kvs k d) (putK vs k v) := by
  unfold putD putK
  rw [r.any]
  by_cases h : (kvs.any fun kv => decide (kv.1 = k)) = true
  · rw [if_pos h, if_pos h]
    exact r.repl q
  · rw [if_neg h, if_neg h]
    exact r.app (RpA.cons q rpa_nil)
theorem RpA.length {k : Type} {kvs : List (k × D)} {vs : List (k × V)} (r : RpA K al H kvs vs) : vs.length = kvs.length := by
  have e := congrArg List.length r.1
  simpa using e
end
def dctD : D → Mu → Option (Nat × List (Key × D))
  | .cel j, mu => match mu[j]? with
    | some (.dct kvs) => some (j, kvs)
    | _ => none
  | _, _ => none
theorem dct_rp {K : PySem.W.Frag} {T : Tb} {al : List Addr} {mu : Mu} {H : Hp} {d : D} {v : V} {j : Nat} {kvs : List (Key × D)} (sr : SR K T al mu H) (r : Rp K al H d v) (h : dctD d mu = some (j, kvs)) :
    ∃ a vs, v = .ref a ∧ al[j]? = some a ∧ mu[j]? = some (.dct kvs) ∧ H a = some (.dK vs) ∧ RpA K al H kvs vs := by
  unfold dctD at h
  split at h
  · split at h
    · rename_i e
      cases h
      obtain ⟨a, e1, rfl⟩ := rp_cel.mp r
      obtain ⟨vs, e2, r2⟩ := sr.ok _ _ a e e1
      exact ⟨a, vs, rfl, e1, e, e2, r2⟩
    · cases h
  · cases h
/-- d[k] -/
def getD : D2 := fun d e mu => match dctD d mu, keyD e with
  | some (_, kvs), some k => match valD kvs k with
    | some x => okD x mu
    | none => none
  | _, _ => none
theorem o_get {K : PySem.W.Frag} {T : Tb} : Op2 K T getD (fun x y H Q => ∃ a v, x = .ref a ∧ DGet H a y (some v) ∧ Q v H) := fun al mu H dx dy x y Q E sr rx ry p => by
  unfold getD at p
  split at p
  · rename_i j kvs k e1 e2
    split at p
    · rename_i z e3
      obtain ⟨a, vs, rfl, _, _, h1, r1⟩ := dct_rp sr rx e1
      cases key_rp ry e2
      obtain ⟨v, h2, h3⟩ := r1.val e3
      exact ⟨a, v, rfl, by rw [← h2]; exact DGet.k h1, p.now sr h3⟩
    · exact p.elim
  · exact p.elim
/-- a cell written -/
theorem SR.setL {K : PySem.W.Frag} {T : Tb} {al : List Addr} {mu : Mu} {H : Hp} {j : Nat} {a : Addr} {xs xs' : List D} {vs vs' : List V} (sr : SR K T al mu H) (e : mu[j]? = some (.lst xs)) (ea : al[j]? = some a) (h : H a = some (.lst vs)) (r : Rps K al H xs' vs') :
    SR K T al (mu.set j (.lst xs')) (upd H a (.lst vs')) ∧ Kp H (upd H a (.lst vs')) := by
  have k : Kp H (upd H a (.lst vs')) := Kp.wr h (fun _ z => nomatch z) (fun _ _ z => nomatch z)
  exact ⟨sr.write e ea h (fun _ z => nomatch z) (fun _ _ z => nomatch z) (fun _ z => nomatch z) (fun _ z => nomatch z) (fun _ z => nomatch z) ⟨vs', upd_same, Rps.mono k (Gr.refl _) _ _ r⟩, k⟩
theorem SR.setD {K : PySem.W.Frag} {T : Tb} {al : List Addr} {mu : Mu} {H : Hp} {j : Nat} {a : Addr} {xs xs' : List (Key × D)} {vs vs' : List (Key × V)} (sr : SR K T al mu H) (e : mu[j]? = some (.dct xs)) (ea : al[j]? = some a) (h : H a = some (.dK vs)) (r : RpA K al H xs' vs') :
    SR K T al (mu.set j (.dct xs')) (upd H a (.dK vs')) ∧ Kp H (upd H a (.dK vs')) := by
  have k : Kp H (upd H a (.dK vs')) := Kp.wr h (fun _ z => nomatch z) (fun _ _ z => nomatch z)
  exact ⟨sr.write e ea h (fun _ z => nomatch z) (fun _ _ z => nomatch z) (fun _ z => nomatch z) (fun _ z => nomatch z) (fun _ z => nomatch z) ⟨vs', upd_same, r.mono k (Gr.refl _)⟩, k⟩
/-! ### o[i] = e -/
def putF (d e x : D) (mu : Mu) : Option Mu := match dctD d mu, keyD e with
  | some (j, kvs), some k => if kvs.length < 16777216 then some (mu.set j (.dct (putD kvs k x))) else none
  | _, _ => none
def setF (d e x : D) (mu : Mu) : Option Mu := match d, e with
  | .cel j, .int i => match mu[j]? with
    | some (.lst xs) => match ixN xs.length i with
      | some n => some (mu.set j (.lst (xs.set n x)))
      | none => none
    | _ => none
  | _, _ => none
def sPut (F : D → D → D → Mu → Option Mu) (fo fi fv : ES) : SS := fun rho mu => bnS (fv rho mu) rho fun x mu1 => bnS (fo rho mu1) rho fun d mu2 => bnS (fi rho mu2) rho fun e mu3 => match F d e x mu3 with
  | some mu4 => some (.nx, rho, mu4)
  | none => none
section
variable {T : Tb} {X : Cx} {pos pos' : Pos} {o i v e : Expr} {fo fi fv f g : ES} {k : Nat}
theorem se_get (hr : Room k X.A) (ha : SE T X o fo) (hb : SE T X i fi) (hs : NoSl i := by exact fun _ _ => rfl) : SE T X (.Subscript o i pos) (eOp getD fo fi) := fun W z => PE.weak (pe_dget (hu_of hr) (ha W z) (hb W z) hs) fun s H Q h => rd_op o_get s H Q h
theorem st_dput (hr : Room k X.A) (ho : SE T X o fo) (hi : SE T X i fi) (hv : SE T X v fv) (hs : swapsWith v (some (.Subscript o i pos')) pos.line X.env = pure false := by rfl) : ST T X (.Assign [.Subscript o i pos'] v pos) (sPut putF fo fi fv) := fun W z _ =>
  PS.weak (ps_dput (hu_of hr) (ho W z) (hi W z) (hv W z) hs) fun De s H ⟨al, rho, mu, sl, sr, w⟩ =>
    ⟨al, rho, mu, sl, sr, WoS.bn sl w fun x mu1 al1 xv H1 _ g1 k1 sr1 rx w1 =>
      ⟨al1, rho, mu1, sl.mono k1 g1, sr1, WoS.bn (sl.mono k1 g1) w1 fun d mu2 al2 dv H2 _ g2 k2 sr2 rd w2 =>
        ⟨al2, rho, mu2, (sl.mono k1 g1).mono k2 g2, sr2, WoS.bn ((sl.mono k1 g1).mono k2 g2) w2 fun e mu3 al3 ev H3 _ g3 k3 sr3 re w3 => by
          have slz := ((sl.mono k1 g1).mono k2 g2).mono k3 g3
          have rxz := Rp.mono k3 g3 _ _ (Rp.mono k2 g2 _ _ rx)
          have rdz := Rp.mono k3 g3 _ _ rd
          split at w3
          · rename_i mu4 e4
            unfold putF at e4
            split at e4
            · rename_i j kvs kk e1 e2
              split at e4
              · rename_i hl
                cases e4
                obtain ⟨a, vs, rfl, ea, em, h1, r1⟩ := dct_rp sr3 rdz e1
                cases key_rp re e2
                obtain ⟨q1, q2⟩ := sr3.setD em ea h1 (r1.put rxz)
                exact ⟨a, _, rfl, DPut.k h1 (by rw [r1.length]; exact line1 _ hl), w3 al3 s _ (Gr.refl _) q2 (slz.mono q2 (Gr.refl _)) q1⟩
              · cases e4
            · cases e4
          · exact w3.elim⟩⟩⟩
theorem st_lput (ho : SE T X o fo) (hi : SE T X i fi) (hv : SE T X v fv) (hs : swapsWithSole [.Subscript o i pos'] v pos.line X.env = pure false := by rfl) (hw : swappedStores [.Subscript o i pos'] v X.env = pure none := by rfl)
    (h1 : (assignEach [.Subscript o i pos'] X.env).map (·.2) = [assign (.Subscript o i pos') X.env] := by rfl)
    (ha : ∀ v, assign (.Subscript o i pos') X.env v = (do
      let ov ← holding [v] (eval o X.env)
      let iv ← holding [v, ov] (eval i X.env)
      standAt pos'
      holding [v, ov, iv] (setItem ov iv v)
      release [v, ov, iv] []) := by intro _; rfl) : ST T X (.Assign [.Subscript o i pos'] v pos) (sPut setF fo fi fv) := fun W z _ =>
  PS.weak (ps_asg (hv W z) (pg_sub (ho W z) (hi W z) set_list ha) hs hw h1) fun De s H ⟨al, rho, mu, sl, sr, w⟩ =>
    ⟨al, rho, mu, sl, sr, WoS.bn sl w fun x mu1 al1 xv H1 _ g1 k1 sr1 rx w1 =>
      ⟨al1, rho, mu1, sl.mono k1 g1, sr1, WoS.bn (sl.mono k1 g1) w1 fun d mu2 al2 dv H2 _ g2 k2 sr2 rd w2 =>
        ⟨al2, rho, mu2, (sl.mono k1 g1).mono k2 g2, sr2, WoS.bn ((sl.mono k1 g1).mono k2 g2) w2 fun e mu3 al3 ev H3 _ g3 k3 sr3 re w3 => by
          have slz := ((sl.mono k1 g1).mono k2 g2).mono k3 g3
          have rxz := Rp.mono k3 g3 _ _ (Rp.mono k2 g2 _ _ rx)
          have rdz := Rp.mono k3 g3 _ _ rd
          split at w3
          · rename_i mu4 e4
            unfold setF at e4
            split at e4
            · cases rp_int.mp re
              split at e4
              · rename_i em
                split at e4
                · rename_i n en
                  cases e4
                  obtain ⟨a, ys, rfl, ea, h1, r1⟩ := cel_lst sr3 rdz em
                  obtain ⟨q1, q2⟩ := sr3.setL em ea h1 (r1.set rxz n)
                  exact ⟨a, ys, _, n, rfl, rfl, h1, by rw [r1.length]; exact en, w3 al3 s _ (Gr.refl _) q2 (slz.mono q2 (Gr.refl _)) q1⟩
                · cases e4
              · cases e4
            · cases e4
          · exact w3.elim⟩⟩⟩
end
end DL
set_option Elab.async false
set_option linter.all false
set_option autoImplicit false
set_option maxRecDepth 100000
set_option maxHeartbeats 4000000
/-! DL6: built-in functions, methods of texts and lists. -/
namespace DL
open PySem PySem.Spec PyProof.Rows L2

/-! ### len, min, max, int, str, tuple, list, any, all -/
def lenF : FS
  | [.str z], mu => if z.length ≤ 16777216 then okD (.int z.length) mu else none
  | [d], mu => match seqD d mu with
    | some xs => okD (.int xs.length) mu
    | none => none
  | _, _ => none
def minF : FS
  | [.int i, .int j], mu => okD (.int (if j < i then j else i)) mu
  | _, _ => none
def maxF : FS
  | [.int i, .int j], mu => okD (.int (if j > i then j else i)) mu
  | _, _ => none
def intF : FS
  | [.int i], mu => okD (.int i) mu
  | [.bl k], mu => okD (.int (if k then 1 else 0)) mu
  | _, _ => none
def listF : FS
  | [d], mu => match seqD d mu with
    | some xs => newL xs mu
    | none => none
  | _, _ => none
def blsD : List D → Option (List Bool)
  | [] => some []
  | .bl b :: r => (blsD r).map (b :: ·)
  | _ => none
def strsD : List D → Option (List Str)
  | [] => some []
  | .str b :: r => (strsD r).map (b :: ·)
  | _ => none
def anyF : FS
  | [d], mu => match lstD d mu with
    | some xs => match blsD xs with
      | some bs => okD (.bl (bs.any id)) mu
      | none => none
    | none => none
  | _, _ => none
def allF : FS
  | [d], mu => match lstD d mu with
    | some xs => match blsD xs with
      | some bs => okD (.bl (bs.all id)) mu
      | none => none
    | none => none
  | _, _ => none
section
variable {K : PySem.W.Frag} {T : Tb} {al : List Addr} {mu : Mu} {H : Hp}
theorem bls_rp : ∀ {xs : List D} {bs : List Bool} {vs : List V}, blsD xs = some bs → Rps K al H xs vs → vs = bs.map V.bl
  | [], bs, vs, h, r => by unfold blsD at h; cases h; exact rps_nil.mp r
  | .bl b :: xs, bs, vs, h, r => by
    unfold blsD at h
    obtain ⟨bs', h1, rfl⟩ := Option.map_eq_some_iff.mp h
    obtain ⟨v, rr, rfl, r1, r2⟩ := rps_cons.mp r
    cases rp_bl.mp r1
    rw [bls_rp h1 r2]; rfl
  | .non :: _, _, _, h, _ => by unfold blsD at h; cases h
  | .int _ :: _, _, _, h, _ => by unfold blsD at h; cases h
  | .str _ :: _, _, _, h, _ => by unfold blsD at h; cases h
  | .ty _ :: _, _, _, h, _ => by unfold blsD at h; cases h
  | .tup _ :: _, _, _, h, _ => by unfold blsD at h; cases h
  | .cel _ :: _, _, _, h, _ => by unfold blsD at h; cases h
  | .adr _ :: _, _, _, h, _ => by unfold blsD at h; cases h
  | .fl _ :: _, _, _, h, _ => by unfold blsD at h; cases h
theorem strs_rp : ∀ {xs : List D} {bs : List Str} {vs : List V}, strsD xs = some bs → Rps K al H xs vs → vs = bs.map V.str
  | [], bs, vs, h, r => by unfold strsD at h; cases h; exact rps_nil.mp r
  | .str b :: xs, bs, vs, h, r => by
    unfold strsD at h
    obtain ⟨bs', h1, rfl⟩ := Option.map_eq_some_iff.mp h
    obtain ⟨v, rr, rfl, r1, r2⟩ := rps_cons.mp r
    cases rp_str.mp r1
    rw [strs_rp h1 r2]; rfl
  | .non :: _, _, _, h, _ => by unfold strsD at h; cases h
  | .int _ :: _, _, _, h, _ => by unfold strsD at h; cases h
  | .bl _ :: _, _, _, h, _ => by unfold strsD at h; cases h
  | .ty _ :: _, _, _, h, _ => by unfold strsD at h; cases h
  | .tup _ :: _, _, _, h, _ => by unfold strsD at h; cases h
  | .cel _ :: _, _, _, h, _ => by unfold strsD at h; cases h
  | .adr _ :: _, _, _, h, _ => by unfold strsD at h; cases h
  | .fl _ :: _, _, _, h, _ => by unfold strsD at h; cases h
theorem c_len : CallD K T lenF (fun xs H Q => ∃ x n, xs = [x] ∧ LenV K x H n ∧ Q (.int n) H) := fun al mu H ds vs Q E sr r p => by
  unfold lenF at p
  split at p
  · obtain ⟨v, rfl, r1⟩ := rps_one.mp r
    cases rp_str.mp r1
    split at p
    · rename_i h
      exact ⟨_, _, rfl, ⟨line _ h, rfl⟩, p.now sr (rp_int.mpr rfl)⟩
    · exact p.elim
  · obtain ⟨v, rfl, r1⟩ := rps_one.mp r
    split at p
    · rename_i xs e
      obtain ⟨a, ys, rfl, q, r2⟩ := seq_rp sr r1 e
      refine ⟨_, xs.length, rfl, ?_, p.now sr (rp_int.mpr rfl)⟩
      rcases q with q | q
      · exact .inl ⟨ys, q, r2.length.symm⟩
      · exact .inr ⟨ys, q, r2.length.symm⟩
    · exact p.elim
  · exact p.elim
theorem c_min : CallD K T minF (fun xs H Q => ∃ i j, xs = [.int i, .int j] ∧ Q (.int (if j < i then j else i)) H) := fun al mu H ds vs Q E sr r p => by
  unfold minF at p
  split at p
  · obtain ⟨v, u, rfl, r1, r2⟩ := rps_two.mp r
    cases rp_int.mp r1; cases rp_int.mp r2
    exact ⟨_, _, rfl, p.now sr (rp_int.mpr rfl)⟩
  · exact p.elim
theorem c_max : CallD K T maxF (fun xs H Q => ∃ i j, xs = [.int i, .int j] ∧ Q (.int (if j > i then j else i)) H) := fun al mu H ds vs Q E sr r p => by
  unfold maxF at p
  split at p
  · obtain ⟨v, u, rfl, r1, r2⟩ := rps_two.mp r
    cases rp_int.mp r1; cases rp_int.mp r2
    exact ⟨_, _, rfl, p.now sr (rp_int.mpr rfl)⟩
  · exact p.elim
theorem c_int : CallD K T intF (fun xs H Q => (∃ i, xs = [.int i] ∧ Q (.int i) H) ∨ ∃ k, xs = [.bl k] ∧ Q (.int (if k then 1 else 0)) H) := fun al mu H ds vs Q E sr r p => by
  unfold intF at p
  split at p
  · obtain ⟨v, rfl, r1⟩ := rps_one.mp r
    cases rp_int.mp r1
    exact .inl ⟨_, rfl, p.now sr (rp_int.mpr rfl)⟩
  · obtain ⟨v, rfl, r1⟩ := rps_one.mp r
    cases rp_bl.mp r1
    exact .inr ⟨_, rfl, p.now sr (rp_int.mpr rfl)⟩
  · exact p.elim
theorem c_any : CallD K T anyF (rAny K) := fun al mu H ds vs Q E sr r p => by
  unfold anyF at p
  split at p
  · obtain ⟨v, rfl, r1⟩ := rps_one.mp r
    split at p
    · rename_i xs e
      split at p
      · rename_i bs e2
        obtain ⟨a, ys, rfl, q, r2⟩ := lst_rp sr r1 e
        cases bls_rp e2 r2
        exact ⟨a, bs, rfl, q, p.now sr (bl_rp _)⟩
      · exact p.elim
    · exact p.elim
  · exact p.elim
theorem c_all : CallD K T allF (rAll K) := fun al mu H ds vs Q E sr r p => by
  unfold allF at p
  split at p
  · obtain ⟨v, rfl, r1⟩ := rps_one.mp r
    split at p
    · rename_i xs e
      split at p
      · rename_i bs e2
        obtain ⟨a, ys, rfl, q, r2⟩ := lst_rp sr r1 e
        cases bls_rp e2 r2
        exact ⟨a, bs, rfl, q, p.now sr (bl_rp _)⟩
      · exact p.elim
    · exact p.elim
  · exact p.elim
end
section
variable {T : Tb} {X : Cx} {pos p : Pos} {e : Expr} {es : List Expr} {fs : List ES} {f : ES}
theorem se_len (hm : X.mg "len" = none) (ha : SA T X (e :: es) fs) (hg : Gl X "len" := by rfl) (he : starEach (e :: es) X.env = (false, eval e X.env) :: starEach es X.env := by rfl) (hpl : (backTo pos (starEach es X.env)).any (·.1) = false := by rfl) :
    SE T X (.Call (.Name "len" p) (e :: es) [] pos) (eCall lenF fs) := se_callB call_len c_len hg hm PySem.boot_len ha (by decide) (by decide) he hpl
theorem se_min (hm : X.mg "min" = none) (ha : SA T X (e :: es) fs) (hc : X.calm = true := by rfl) (hg : Gl X "min" := by rfl) (he : starEach (e :: es) X.env = (false, eval e X.env) :: starEach es X.env := by rfl) (hpl : (backTo pos (starEach es X.env)).any (·.1) = false := by rfl) :
    SE T X (.Call (.Name "min" p) (e :: es) [] pos) (eCall minF fs) := se_callB (call_min2 hc) c_min hg hm (by decide +kernel) ha (by decide) (by decide) he hpl
theorem se_max (hm : X.mg "max" = none) (ha : SA T X (e :: es) fs) (hc : X.calm = true := by rfl) (hg : Gl X "max" := by rfl) (he : starEach (e :: es) X.env = (false, eval e X.env) :: starEach es X.env := by rfl) (hpl : (backTo pos (starEach es X.env)).any (·.1) = false := by rfl) :
    SE T X (.Call (.Name "max" p) (e :: es) [] pos) (eCall maxF fs) := se_callB (call_max2 hc) c_max hg hm (by decide +kernel) ha (by decide) (by decide) he hpl
theorem se_intc (hm : X.mg "int" = none) (ha : SA T X (e :: es) fs) (hg : Gl X "int" := by rfl) (he : starEach (e :: es) X.env = (false, eval e X.env) :: starEach es X.env := by rfl) (hpl : (backTo pos (starEach es X.env)).any (·.1) = false := by rfl) :
    SE T X (.Call (.Name "int" p) (e :: es) [] pos) (eCall intF fs) := se_callTy call_int1 c_int hg hm (by decide +kernel) ha (by decide) (by decide) he hpl
theorem se_anyc (hm : X.mg "any" = none) (ha : SA T X (e :: es) fs) (hc : X.calm = true := by rfl) (hg : Gl X "any" := by rfl) (he : starEach (e :: es) X.env = (false, eval e X.env) :: starEach es X.env := by rfl) (hpl : (backTo pos (starEach es X.env)).any (·.1) = false := by rfl) :
    SE T X (.Call (.Name "any" p) (e :: es) [] pos) (eCall anyF fs) := se_callB (cr_any hc) c_any hg hm (by decide +kernel) ha (by decide) (by decide) he hpl
theorem se_allc (hm : X.mg "all" = none) (ha : SA T X (e :: es) fs) (hc : X.calm = true := by rfl) (hg : Gl X "all" := by rfl) (he : starEach (e :: es) X.env = (false, eval e X.env) :: starEach es X.env := by rfl) (hpl : (backTo pos (starEach es X.env)).any (·.1) = false := by rfl) :
    SE T X (.Call (.Name "all" p) (e :: es) [] pos) (eCall allF fs) := se_callB (cr_all hc) c_all hg hm (by decide +kernel) ha (by decide) (by decide) he hpl
end
/-! ### isinstance(x, T), T a built-in type -/
def tyN (d : D) (mu : Mu) : Option String := match d with
  | .non => some "NoneType"
  | .bl _ => some "bool"
  | .int _ => some "int"
  | .str _ => some "str"
  | .tup _ => some "tuple"
  | .fl _ => none
  | .cel j => match mu[j]? with
    | some (.lst _) => some "list"
    | some (.dct _) => some "dict"
    | _ => none
  | _ => none
def isTyB (a b : String) : Bool := a == b || (a == "bool" && b == "int")
def isiF : FS
  | [d, .ty n], mu => match tyN d mu with
    | some t => if kitB t n = some (isTyB t n) then okD (.bl (isTyB t n)) mu else none
    | none => none
  | _, _ => none
theorem tyN_rp {K : PySem.W.Frag} {T : Tb} {al : List Addr} {mu : Mu} {H : Hp} {d : D} {v : V} {t : String} (sr : SR K T al mu H) (r : Rp K al H d v) (h : tyN d mu = some t) : TyX K H v (.type t) := by
  unfold tyN at h
  split at h
  · cases h; cases rp_non.mp r; exact .base .non
  · cases h; cases rp_bl.mp r; exact .base (.bl _)
  · cases h; cases rp_int.mp r; exact .base (.int _)
  · cases h; cases rp_str.mp r; exact .base (.str _)
  · cases h
    obtain ⟨a, ys, rfl, q, r2⟩ := rp_tup.mp r
    rcases q with (q | ⟨o, q⟩) | ⟨o, its, n, q, c, _⟩
    · exact .base (.tup q)
    · exact .fTuple q
    · exact .kTuple q c
  · cases h
  · split at h
    · rename_i e
      cases h
      obtain ⟨a, ys, rfl, _, q, _⟩ := cel_lst sr r e
      exact .base (.lst q)
    · rename_i e
      cases h
      obtain ⟨a, e1, rfl⟩ := rp_cel.mp r
      obtain ⟨vs, e2, r2⟩ := sr.ok _ _ a e e1
      exact .base (.dK e2)
    · cases h
  · cases h
theorem c_isi {K : PySem.W.Frag} {T : Tb} : CallD K T isiF (rIsi K) := fun al mu H ds vs Q E sr r p => by
  unfold isiF at p
  split at p
  · obtain ⟨v, u, rfl, r1, r2⟩ := rps_two.mp r
    cases rp_ty.mp r2
    split at p
    · rename_i t e
      split at p
      · rename_i h
        exact ⟨v, _, .type t, _, _, rfl, .ty _, tyN_rp sr r1 e, kit_ty h, p.now sr (bl_rp _)⟩
      · exact p.elim
    · exact p.elim
  · exact p.elim
section
variable {T : Tb} {X : Cx} {pos p : Pos} {e : Expr} {es : List Expr} {fs : List ES} {f : ES}
theorem se_isi (hm : X.mg "isinstance" = none) (ha : SA T X (e :: es) fs) (hg : Gl X "isinstance" := by rfl) (he : starEach (e :: es) X.env = (false, eval e X.env) :: starEach es X.env := by rfl) (hpl : (backTo pos (starEach es X.env)).any (·.1) = false := by rfl) :
    SE T X (.Call (.Name "isinstance" p) (e :: es) [] pos) (eCall isiF fs) := se_callB call_isi c_isi hg hm (by decide +kernel) ha (by decide) (by decide) he hpl
/-- a built-in type's name -/
theorem se_tyn {x : Str} {n : String} (hm : X.mg x = none) (hv : bootBuiltins x = some (.type n)) (hg : Gl X x := by rfl) (hn : x ≠ "__name__" := by decide) (hd : (x == ("__debug__" : Str)) = false := by decide) : SE T X (.Name x pos) (eC (.ty n)) :=
  se_bltn (v := .ty n) hg hm hv rfl (fun _ _ => rp_ty.mpr rfl) hn hd
end
/-! ### tuple(x), list(x) -/
section
variable {T : Tb} {X : Cx} {pos p : Pos} {e : Expr} {f : ES}
def tup1 (d : D) (mu : Mu) : Ro := match d with
  | .tup xs => okD (.tup xs) mu
  | _ => match lstD d mu with
    | some xs => okD (.tup xs) mu
    | none => none
def eTuple (f : ES) : ES := fun rho mu => bnd (f rho mu) tup1
theorem se_tuplec (hm : X.mg "tuple" = none) (ha : SE T X e f) (hg : Gl X "tuple" := by rfl) (hs : starEach [e] X.env = [(false, eval e X.env)] := by rfl) : SE T X (.Call (.Name "tuple" p) [e] [] pos) (eTuple f) := fun W z =>
  PE.weak (pe_tupleOf hg hm (ha W z) hs) fun s H Q ⟨al, rho, mu, sl, sr, w⟩ => ⟨al, rho, mu, sl, sr, Wo.bnd w fun d mu1 al1 v H1 _ g1 k1 sr1 rv w1 => by
    unfold tup1 at w1
    split at w1
    · obtain ⟨a, ys, rfl, q, r⟩ := rp_tup.mp rv
      exact .inr ⟨a, ys, rfl, q, w1.now sr1 (rp_tup.mpr ⟨a, ys, rfl, q, r⟩)⟩
    · split at w1
      · rename_i xs e2
        obtain ⟨a, ys, rfl, q, r⟩ := lst_rp sr1 rv e2
        exact .inl ⟨a, ys, rfl, q, fun p n => w1.tup sr1 r p n⟩
      · exact w1.elim⟩
end
/-! ### methods -/
def eMth (chk : D → Mu → Bool) (M : D → List D → Mu → Ro) (f : ES) (fs : List ES) : ES := fun rho mu => bnd (f rho mu) fun d mu1 => if chk d mu1 = true then eArgs fs rho mu1 (M d) else none
def isSB (d : D) (_ : Mu) : Bool := match d with
  | .str _ => true
  | _ => false
def isLB (d : D) (mu : Mu) : Bool := (lstD d mu).isSome
/-- a method by values, at data -/
def MthD (K : PySem.W.Frag) (T : Tb) (M : D → List D → Mu → Ro) (r : V → List V → Hp → VK → Prop) : Prop := ∀ (al : List Addr) (mu : Mu) (H : Hp) (d : D) (ds : List D) (v : V) (vs : List V) (Q : VK) (E : XK), SR K T al mu H → Rp K al H d v → Rps K al H ds vs → Wo K T al H Q E (M d ds mu) → r v vs H Q
section
variable {K : PySem.W.Frag} {T : Tb} {X : Cx} {o e : Expr} {es : List Expr} {name : Str} {apos cpos : Pos} {Ty id : String} {r : V → List V → Hp → VK → Prop} {f : ES} {fs : List ES} {M : D → List D → Mu → Ro} {chk : D → Mu → Bool}
theorem se_bm (pa : PlainAttrs Ty) (slot : Slot Ty name id) (hty : typeOf (.builtin id) = pure (.type "method_descriptor")) (hm : MtR X id r) (oM : MthD X.K T M r) (hk : ∀ al mu H d v, SR X.K T al mu H → Rp X.K al H d v → chk d mu = true → tyV X.K Ty v H) (ho : SE T X o f) (ha : SA T X (e :: es) fs)
    (hbase : attributeBase o name X.env (eval o X.env) = eval o X.env := by rfl)
    (hfew : ((backTo cpos (starEach (e :: es) X.env)).all (fun x => !x.1) && (backToKw cpos (keywordEach [] X.env)).all (fun x => x.1.isSome)
      && decide ((e :: es).length + ([] : List Keyword).length + (if ([] : List Keyword).isEmpty then 0 else 1) < 30)) = true := by rfl)
    (hline : (apos.endLine == cpos.line) = true := by rfl) (hs : starEach (e :: es) X.env = (false, eval e X.env) :: starEach es X.env := by rfl) (hplain : (backTo cpos (starEach es X.env)).any (·.1) = false := by rfl) :
    SE T X (.Call (.Attribute o name apos) (e :: es) [] cpos) (eMth chk M f fs) := fun W z => PE.weak (pe_bm pa slot hty hm (ho W z) (ha W z) hbase hfew hline hs hplain) fun s H Q ⟨al, rho, mu, sl, sr, w⟩ =>
  ⟨al, rho, mu, sl, sr, Wo.bnd w fun d mu1 al1 v H1 _ g1 k1 sr1 rv w1 => by
    split at w1
    · rename_i hc
      exact ⟨hk al1 mu1 H1 d v sr1 rv hc, al1, rho, mu1, M d, Q, sl.mono k1 g1, sr1, w1, fun ds mu2 al2 vs H2 _ g2 k2 sr2 rvs w2 => oM al2 mu2 H2 d ds v vs Q _ sr2 (Rp.mono k2 g2 _ _ rv) rvs w2⟩
    · exact w1.elim⟩
theorem se_bm0 (pa : PlainAttrs Ty) (slot : Slot Ty name id) (hty : typeOf (.builtin id) = pure (.type "method_descriptor")) (hm : MtR X id r) (oM : MthD X.K T M r) (hk : ∀ al mu H d v, SR X.K T al mu H → Rp X.K al H d v → chk d mu = true → tyV X.K Ty v H) (ho : SE T X o f)
    (hbase : attributeBase o name X.env (eval o X.env) = eval o X.env := by rfl) (hline : (apos.endLine == cpos.line) = true := by rfl) :
    SE T X (.Call (.Attribute o name apos) [] [] cpos) (eMth chk M f []) := fun W z => PE.weak (pe_bm0 pa slot hty hm (ho W z) hbase hline) fun s H Q ⟨al, rho, mu, sl, sr, w⟩ =>
  ⟨al, rho, mu, sl, sr, Wo.bnd w fun d mu1 al1 v H1 _ g1 k1 sr1 rv w1 => by
    split at w1
    · rename_i hc
      exact ⟨hk al1 mu1 H1 d v sr1 rv hc, oM al1 mu1 H1 d [] v [] Q _ sr1 rv Rps.nil w1⟩
    · exact w1.elim⟩
theorem chk_s {al : List Addr} {mu : Mu} {H : Hp} {d : D} {v : V} (sr : SR K T al mu H) (r : Rp K al H d v) (h : isSB d mu = true) : tyV K "str" v H := by
  unfold isSB at h
  split at h
  · cases rp_str.mp r; rfl
  · cases h
theorem chk_l {al : List Addr} {mu : Mu} {H : Hp} {d : D} {v : V} (sr : SR K T al mu H) (r : Rp K al H d v) (h : isLB d mu = true) : tyV K "list" v H := by
  obtain ⟨xs, e⟩ := Option.isSome_iff_exists.mp h
  obtain ⟨a, ys, rfl, q, _⟩ := lst_rp sr r e
  exact .inl ⟨rfl, ys, q⟩
/-! lists -/
def appM : D → List D → Mu → Ro
  | .cel j, [x], mu => match mu[j]? with
    | some (.lst xs) => if xs.length < 16777216 then some (.ok .non, mu.set j (.lst (xs ++ [x]))) else none
    | _ => none
  | _, _, _ => none
def popAtM : D → List D → Mu → Ro
  | .cel j, [.int i], mu => match mu[j]? with
    | some (.lst xs) => match ixN xs.length i with
      | some n => match xs[n]? with
        | some x => if -(2 ^ 63) ≤ i ∧ i < 2 ^ 63 then some (.ok x, mu.set j (.lst (xs.eraseIdx n))) else none
        | none => none
      | none => none
    | _ => none
  | _, _, _ => none
theorem Rps.erase {al : List Addr} {H : Hp} : ∀ {ds : List D} {vs : List V} (i : Nat), Rps K al H ds vs → Rps K al H (ds.eraseIdx i) (vs.eraseIdx i)
  | [], vs, i, h => by cases rps_nil.mp h; exact Rps.nil
  | d :: ds, vs, 0, h => by
    obtain ⟨v, r, rfl, h1, h2⟩ := rps_cons.mp h
    exact h2
  | d :: ds, vs, i + 1, h => by
    obtain ⟨v, r, rfl, h1, h2⟩ := rps_cons.mp h
    exact Rps.cons h1 (Rps.erase i h2)
theorem m_append : MthD K T appM rAppend := fun al mu H d ds v vs Q E sr r rs p => by
  unfold appM at p
  split at p
  · obtain ⟨u, rfl, r1⟩ := rps_one.mp rs
    split at p
    · rename_i e
      split at p
      · rename_i h
        obtain ⟨a, ys, rfl, ea, q, r2⟩ := cel_lst sr r e
        obtain ⟨q1, q2⟩ := sr.setL e ea q (r2.app (Rps.one r1))
        exact ⟨a, ys, u, rfl, rfl, q, by rw [r2.length]; exact line1 _ h, p al .non _ (Gr.refl _) q2 q1 (rp_non.mpr rfl)⟩
      · exact p.elim
    · exact p.elim
  · exact p.elim
theorem m_popAt : MthD K T popAtM rPopAt := fun al mu H d ds v vs Q E sr r rs p => by
  unfold popAtM at p
  split at p
  · obtain ⟨u, rfl, r1⟩ := rps_one.mp rs
    cases rp_int.mp r1
    split at p
    · rename_i e
      split at p
      · rename_i n en
        split at p
        · rename_i x ex
          obtain ⟨a, ys, rfl, ea, q, r2⟩ := cel_lst sr r e
          obtain ⟨q1, q2⟩ := sr.setL e ea q (r2.erase n)
          obtain ⟨y, h1, h2⟩ := r2.get ex
          split at p
          · rename_i hb
            obtain ⟨z1, _⟩ := ixN_seq (by rw [← r2.length] at en; exact en)
            exact ⟨a, ys, _, n, y, rfl, rfl, q, hb.1, hb.2, z1, h1, p al y _ (Gr.refl _) q2 q1 (Rp.mono q2 (Gr.refl _) _ _ h2)⟩
          · exact p.elim
        · exact p.elim
      · exact p.elim
    · exact p.elim
  · exact p.elim
/-! texts -/
def upM : D → List D → Mu → Ro
  | .str a, [], mu => if a.length ≤ 5592405 then okD (.str (Txt.upper a)) mu else none
  | _, _, _ => none
def lowM : D → List D → Mu → Ro
  | .str a, [], mu => if a.length ≤ 5592405 then okD (.str (Txt.lower a)) mu else none
  | _, _, _ => none
def sindexM : D → List D → Mu → Ro
  | .str a, [.str b], mu => match Builtin.Str.occurrences a b 0 a.length 1 with
    | i :: _ => okD (.int (i : Nat)) mu
    | [] => none
  | _, _, _ => none
def joinM : D → List D → Mu → Ro
  | .str a, [d], mu => match seqD d mu with
    | some xs => match strsD xs with
      | some ys => if (ys.map (·.length)).sum + ys.length * a.length ≤ 16777216 then okD (.str (Txt.join a ys)) mu else none
      | none => none
    | none => none
  | _, _, _ => none
theorem m_upper : MthD K T upM (fun x xs H Q => ∃ a, x = .str a ∧ xs = [] ∧ a.length ≤ 5592405 ∧ Q (.str (Txt.upper a)) H) := fun al mu H d ds v vs Q E sr r rs p => by
  unfold upM at p
  split at p
  · cases rp_str.mp r; cases rps_nil.mp rs
    split at p
    · rename_i h
      exact ⟨_, rfl, rfl, h, p.now sr (rp_str.mpr rfl)⟩
    · exact p.elim
  · exact p.elim
theorem m_lower : MthD K T lowM (fun x xs H Q => ∃ a, x = .str a ∧ xs = [] ∧ a.length ≤ 5592405 ∧ Q (.str (Txt.lower a)) H) := fun al mu H d ds v vs Q E sr r rs p => by
  unfold lowM at p
  split at p
  · cases rp_str.mp r; cases rps_nil.mp rs
    split at p
    · rename_i h
      exact ⟨_, rfl, rfl, h, p.now sr (rp_str.mpr rfl)⟩
    · exact p.elim
  · exact p.elim
theorem m_sindex : MthD K T sindexM (fun x xs H Q => ∃ a b i rest, x = .str a ∧ xs = [.str b] ∧ Builtin.Str.occurrences a b 0 a.length 1 = i :: rest ∧ Q (.int (i : Nat)) H) := fun al mu H d ds v vs Q E sr r rs p => by
  unfold sindexM at p
  split at p
  · obtain ⟨u, rfl, r1⟩ := rps_one.mp rs
    cases rp_str.mp r; cases rp_str.mp r1
    split at p
    · rename_i i rest e
      exact ⟨_, _, i, rest, rfl, rfl, e, p.now sr (rp_int.mpr rfl)⟩
    · exact p.elim
  · exact p.elim
theorem m_join : MthD K T joinM (fun x xs H Q => ∃ a p, ∃ ys : List Str, x = .str a ∧ xs = [.ref p] ∧ (SqL K H p (ys.map V.str) ∨ SqT K H p (ys.map V.str)) ∧
    (ys.map (·.length)).sum + ys.length * a.length ≤ 16777216 ∧ Q (.str (Txt.join a ys)) H) := fun al mu H d ds v vs Q E sr r rs p => by
  unfold joinM at p
  split at p
  · obtain ⟨u, rfl, r1⟩ := rps_one.mp rs
    cases rp_str.mp r
    split at p
    · rename_i xs e
      split at p
      · rename_i ys e2
        split at p
        · rename_i h
          obtain ⟨a, zs, rfl, q, r2⟩ := seq_rp sr r1 e
          cases strs_rp e2 r2
          exact ⟨_, a, ys, rfl, rfl, q, h, p.now sr (rp_str.mpr rfl)⟩
        · exact p.elim
      · exact p.elim
    · exact p.elim
  · exact p.elim
end
end DL
set_option Elab.async false
set_option linter.all false
set_option autoImplicit false
set_option maxRecDepth 100000
set_option maxHeartbeats 4000000
/-! DL7: targets, loops, comprehensions. -/
namespace DL
open PySem PySem.Spec PyProof.Rows L2

/-! ### targets: a name, a tuple of names -/
inductive Tg where
  | nm (i : Nat)
  | tp (is : List Nat)
def Tg.slots : Tg → List Nat
  | .nm i => [i]
  | .tp is => is
def setsR : List Nat → List D → Rho → Rho
  | i :: is, d :: ds, rho => setsR is ds (rho.set i (some d))
  | _, _, rho => rho
def setsV : List Nat → List V → L2.St → L2.St
  | i :: is, d :: ds, s => setsV is ds (s.set i (some d))
  | _, _, s => s
def asgD (t : Tg) (d : D) (rho : Rho) : Option Rho := match t with
  | .nm i => some (rho.set i (some d))
  | .tp is => match d with
    | .tup ds => if ds.length = is.length then some (setsR is ds rho) else none
    | _ => none
def gT (K : PySem.W.Frag) : Tg → TG
  | .nm i => gName i
  | .tp is => fun v s H Q => ∃ a xs, v = .ref a ∧ SqT K H a xs ∧ xs.length = is.length ∧ Q (setsV is xs s) H
theorem setsV_wipe (vs : List Nat) : ∀ (is : List Nat) (xs : List V) (s : L2.St), (∀ i ∈ is, i ∈ vs) → wipe (setsV is xs s) vs = wipe s vs
  | [], xs, s, _ => by cases xs <;> rfl
  | i :: is, [], s, _ => rfl
  | i :: is, x :: xs, s, h => by
    show wipe (setsV is xs (s.set i (some x))) vs = wipe s vs
    rw [setsV_wipe vs is xs _ fun j hj => h j (List.mem_cons_of_mem _ hj)]
    have hi := h i (List.mem_cons_self ..)
    clear h
    induction vs with
    | nil => cases hi
    | cons v vs ih =>
      unfold wipe
      by_cases e : i = v
      · subst e
        have key : ∀ (l : List Nat) (s : L2.St), (wipe (s.set i (some x)) l).set i none = (wipe s l).set i none := by
          intro l
          induction l with
          | nil => intro s; unfold wipe; rw [List.set_set]
          | cons w l ih2 =>
            intro s
            unfold wipe
            by_cases e2 : w = i
            · subst e2
              rw [List.set_set, List.set_set]
              exact ih2 s
            · rw [List.set_comm _ _ e2, ih2 s, List.set_comm _ _ e2]
        exact key vs s
      · have hv : i ∈ vs := by
          rcases List.mem_cons.mp hi with z | z
          · exact absurd z e
          · exact z
        rw [ih hv]
theorem sets_sl {K : PySem.W.Frag} {al : List Addr} {H : Hp} : ∀ {is : List Nat} {ds : List D} {xs : List V} {rho : Rho} {s : L2.St}, Rps K al H ds xs → SL K al H rho s → SL K al H (setsR is ds rho) (setsV is xs s)
  | [], ds, xs, rho, s, _, h => by
    cases ds <;> cases xs <;> exact h
  | i :: is, [], xs, rho, s, r, h => by cases rps_nil.mp r; exact h
  | i :: is, d :: ds, xs, rho, s, r, h => by
    obtain ⟨v, rr, rfl, r1, r2⟩ := rps_cons.mp r
    show SL K al H (setsR is ds (rho.set i (some d))) (setsV is rr (s.set i (some v)))
    exact sets_sl r2 (h.set r1 i)
theorem gT_of {K : PySem.W.Frag} {al : List Addr} {H : Hp} {t : Tg} {d : D} {v : V} {rho rho' : Rho} {s : L2.St} {Q : L2.St → Hp → Prop} (h : asgD t d rho = some rho') (r : Rp K al H d v) (sl : SL K al H rho s)
    (hq : ∀ s', SL K al H rho' s' → (∀ vs : List Nat, (∀ i ∈ t.slots, i ∈ vs) → wipe s' vs = wipe s vs) → Q s' H) : gT K t v s H Q := by
  unfold asgD at h
  split at h
  · cases h
    exact hq _ (sl.set r _) fun vs hv => setsV_wipe vs [_] [v] s hv
  · split at h
    · split at h
      · rename_i hl
        cases h
        obtain ⟨a, ys, rfl, q, r2⟩ := rp_tup.mp r
        exact ⟨a, ys, rfl, q, by rw [r2.length]; exact hl, hq _ (sets_sl r2 sl) fun vs hv => setsV_wipe vs _ ys s hv⟩
      · cases h
    · cases h
def SG (X : Cx) (tg : Expr) (t : Tg) : Prop := PG X tg (gT X.K t)
def gNs : List Nat → TGs
  | [] => gNil
  | i :: is => gCons (gName i) (gNs is)
theorem gNs_of : ∀ (is : List Nat) (vs : List V) (s : L2.St) (H : Hp) (Q : L2.St → Hp → Prop), vs.length = is.length → Q (setsV is vs s) H → gNs is vs s H Q
  | [], vs, s, H, Q, hl, q => by
    cases vs with
    | nil => exact ⟨rfl, q⟩
    | cons _ _ => cases hl
  | i :: is, vs, s, H, Q, hl, q => by
    cases vs with
    | nil => cases hl
    | cons v vs => exact ⟨v, vs, rfl, gNs_of is vs _ H Q (Nat.succ.inj hl) q⟩
section
variable {X : Cx} {pos : Pos}
theorem sg_name {i : Nat} {x : Str} (hN : X.N.Nodup) (hi : X.N[i]? = some x := by rfl) (hx : Loc X.env.scope x := by first | exact Or.inl rfl | exact Or.inr rfl) (hf : X.fn x = true ∨ X.env.scope.names.lookup x = some .local := by first | exact .inl rfl | exact .inr rfl | assumption) : SG X (.Name x pos) (.nm i) := pg_name hN hi hx hf
theorem PG.weak {tg : Expr} {t t' : TG} (h : PG X tg t) (i : ∀ v s H Q, t' v s H Q → t v s H Q) : PG X tg t' := ⟨fun pins s σ H v u Q I r z => h.run pins s σ H v u Q I r (i v σ H Q z)⟩
theorem sg_tup {es : List Expr} {k : Nat} {is : List Nat} (h : PGs X es (gNs is)) (hc : X.calm = true := by rfl) (hn : (assignEach es X.env).length = is.length := by rfl) (hst : (assignEach es X.env).findIdx? (·.1) = none := by rfl) : SG X (.Tuple es k pos) (.tp is) :=
  PG.weak (pg_tup hc h hn hst) fun v s H Q ⟨a, xs, e, q, hl, z⟩ => ⟨a, xs, e, q, hl, gNs_of is xs s H Q hl z⟩
theorem sgs_nil : PGs X [] (gNs []) := pgs_nil
theorem sgs_cons {i : Nat} {x : Str} {is : List Nat} {es : List Expr} {p : Pos} (hN : X.N.Nodup) (h2 : PGs X es (gNs is)) (hi : X.N[i]? = some x := by rfl) (hx : Loc X.env.scope x := by first | exact Or.inl rfl | exact Or.inr rfl) (hf : X.fn x = true ∨ X.env.scope.names.lookup x = some .local := by first | exact .inl rfl | exact .inr rfl | assumption)
    (hs : (assignEach (.Name x p :: es) X.env).map (·.2) = assign (.Name x p) X.env :: (assignEach es X.env).map (·.2) := by rfl) : PGs X (.Name x p :: es) (gNs (i :: is)) := pgs_cons (pg_name hN hi hx hf) h2 hs
end
/-! ### sources -/
/-- items, and a list that must stay as it is -/
inductive Sc where
  | ok (items : List D) (g : Option (Nat × List D))
  | ex (C : Addr) (fs : List (Str × D))
abbrev Io := Option (Sc × Mu)
abbrev IS := Rho → Mu → Io
def grdOk (g : Option (Nat × List D)) (mu : Mu) : Prop := match g with
  | none => True
  | some (j, xs) => mu[j]? = some (.lst xs)
/-- a walk at data -/
def WkD (K : PySem.W.Frag) (T : Tb) (J : It) (al : List Addr) (H : Hp) (items : List D) (g : Option (Nat × List D)) : Prop := ∃ (G : Hp → Prop) (Y : Nat → Hp → V → Hp → Prop), Walk J items.length G Y ∧
  (∀ al2 mu2 H2, Gr al al2 → Kp H H2 → SR K T al2 mu2 H2 → grdOk g mu2 → G H2) ∧
  ∀ (i : Nat) (al2 : List Addr) (mu2 : Mu) (H2 : Hp) (x : V) (H3 : Hp), i < items.length → Gr al al2 → Kp H H2 → SR K T al2 mu2 H2 → grdOk g mu2 → Y i H2 x H3 → Same H2 H3 ∧ ∃ d, items[i]? = some d ∧ Rp K al2 H3 d x
def rdI (K : PySem.W.Frag) (T : Tb) (W : WX) (f : IS) : TI := fun s H R => ∃ al rho mu, SL K al H rho s ∧ SR K T al mu H ∧ match f rho mu with
  | none => False
  | some (.ex C fs, mu') => ∀ al' H' dd vs, Gr al al' → Kp H H' → SR K T al' mu' H' → H' dd = some (.xd vs) → RpA K al' H' fs vs → W (.ref C) (some dd) s H'
  | some (.ok items g, mu') => ∀ J al' H', Gr al al' → Kp H H' → SR K T al' mu' H' → WkD K T J al' H' items g → R J H'
def SI (T : Tb) (X : Cx) (tg iter : Expr) (f : IS) : Prop := ∀ W : WX, Cz X W → PI X tg iter (rdI X.K T W f)
theorem PI.weak {X : Cx} {tg e : Expr} {t t' : TI} (h : PI X tg e t) (i : ∀ s H R, t' s H R → t s H R) : PI X tg e t' := ⟨fun pins s σ H R I z => h.run pins s σ H R I (i σ H R z)⟩
theorem PI.or {X : Cx} {tg e : Expr} {t t' : TI} (h : PI X tg e t) (h' : PI X tg e t') : PI X tg e (fun s H R => t s H R ∨ t' s H R) := ⟨fun pins s σ H R I z => z.elim (h.run pins s σ H R I) (h'.run pins s σ H R I)⟩
/-- what a value gives when it is walked -/
def srcV (d : D) (mu : Mu) : Option (List D × Option (Nat × List D)) := match d with
  | .tup xs => some (xs, none)
  | .fl xs => some (xs, none)
  | .str z => some (z.cps.toList.map fun c => D.str ⟨#[c]⟩, none)
  | .cel j => match mu[j]? with
    | some (.lst xs) => some (xs, some (j, xs))
    | _ => none
  | _ => none
def iV (f : ES) : IS := fun rho mu => match f rho mu with
  | some (.ok d, mu1) => match srcV d mu1 with
    | some (xs, g) => some (.ok xs g, mu1)
    | none => none
  | some (.ex C fs, mu1) => some (.ex C fs, mu1)
  | none => none
/-- range(n) -/
def iRg (f : ES) : IS := fun rho mu => match f rho mu with
  | some (.ok (.int n), mu1) => if -(2 ^ 62) ≤ n ∧ n < 2 ^ 62 then some (.ok ((List.range n.toNat).map fun k => D.int (k : Nat)) none, mu1) else none
  | some (.ok _, _) => none
  | some (.ex C fs, mu1) => some (.ex C fs, mu1)
  | none => none
theorem walk_seq {K : PySem.W.Frag} {T : Tb} {a : Addr} {al : List Addr} {H : Hp} {xs : List D} {ys : List V} (q : SqT K H a ys) (r : Rps K al H xs ys) : WkD K T (Itt K a) al H xs none :=
  ⟨fun H => SqT K H a ys, YAt ys, by rw [← r.length]; exact walk_tup, fun al2 mu2 H2 _ k _ _ => SqT.kp k q, fun i al2 mu2 H2 x H3 _ g k sr _ y => by
    obtain ⟨rfl, e⟩ := y
    refine ⟨Same.refl _, ?_⟩
    have hi : i < xs.length := by rw [← r.length]; exact (List.getElem?_eq_some_iff.mp e).1
    obtain ⟨v, h1, h2⟩ := r.get (d := xs[i]) (i := i) (by simp [hi])
    rw [e] at h1; cases h1
    exact ⟨_, by simp [hi], Rp.mono k g _ _ h2⟩⟩
theorem walk_fz {K : PySem.W.Frag} {T : Tb} {a : Addr} {al : List Addr} {H : Hp} {xs : List D} {ys : List V} (q : FzL K H a ys) (r : Rps K al H xs ys) : WkD K T (Itl K a) al H xs none :=
  ⟨fun H => SqL K H a ys, YAt ys, by rw [← r.length]; exact walk_list, fun al2 mu2 H2 _ k _ _ => (q.kp k).sq, fun i al2 mu2 H2 x H3 _ g k sr _ y => by
    obtain ⟨rfl, e⟩ := y
    refine ⟨Same.refl _, ?_⟩
    have hi : i < xs.length := by rw [← r.length]; exact (List.getElem?_eq_some_iff.mp e).1
    obtain ⟨v, h1, h2⟩ := r.get (d := xs[i]) (i := i) (by simp [hi])
    rw [e] at h1; cases h1
    exact ⟨_, by simp [hi], Rp.mono k g _ _ h2⟩⟩
theorem walk_cel {K : PySem.W.Frag} {T : Tb} {a : Addr} {j : Nat} {al : List Addr} {H : Hp} {xs : List D} (ea : al[j]? = some a) : WkD K T (Itl K a) al H xs (some (j, xs)) := by
  refine ⟨fun H => ∃ ys, H a = some (.lst ys) ∧ ys.length = xs.length, fun i H x H' => H' = H ∧ ∀ ys, H a = some (.lst ys) → ys[i]? = some x, ⟨fun i H hi ⟨ys, q, e⟩ => ⟨ys, ys[i]'(by omega), SqL.of q, by simp [show i < ys.length by omega]⟩, fun H ⟨ys, q, e⟩ => ⟨ys, SqL.of q, by omega⟩, fun i H x H' hi ⟨ys, q, e⟩ y => ⟨y.1, fun zs hz => y.2 zs (SqL.of hz)⟩⟩, ?_, ?_⟩
  · intro al2 mu2 H2 g k sr hg
    obtain ⟨vs, e2, r2⟩ := sr.ok _ _ a hg (g _ _ ea)
    exact ⟨vs, e2, r2.length⟩
  · intro i al2 mu2 H2 x H3 hil g k sr hg y
    obtain ⟨rfl, y⟩ := y
    obtain ⟨vs, e2, r2⟩ := sr.ok _ _ a hg (g _ _ ea)
    have e := y vs e2
    have hi : i < xs.length := by rw [← r2.length]; exact (List.getElem?_eq_some_iff.mp e).1
    obtain ⟨v, h1, h2⟩ := r2.get (d := xs[i]) (i := i) (by simp [hi])
    rw [e] at h1; cases h1
    exact ⟨Same.refl _, _, by simp [hi], h2⟩
theorem walk_st {K : PySem.W.Frag} {T : Tb} {z : Str} {al : List Addr} {H : Hp} : WkD K T (Its z) al H (z.cps.toList.map fun c => D.str ⟨#[c]⟩) none := by
  refine ⟨fun _ => True, _, by rw [List.length_map, Array.length_toList]; exact walk_str, fun _ _ _ _ _ _ _ => trivial, ?_⟩
  intro i al2 mu2 H2 x H3 hil g k sr hg y
  obtain ⟨rfl, c, e, rfl⟩ := y
  exact ⟨Same.refl _, .str ⟨#[c]⟩, by rw [List.getElem?_map, Array.getElem?_toList, e]; rfl, rp_str.mpr rfl⟩
theorem walk_rg {K : PySem.W.Frag} {T : Tb} {n : Nat} {al : List Addr} {H : Hp} : WkD K T (Itr 0 n) al H ((List.range n).map fun k => D.int (k : Nat)) none := by
  refine ⟨fun _ => True, _, by rw [List.length_map, List.length_range]; exact walk_range, fun _ _ _ _ _ _ _ => trivial, ?_⟩
  intro i al2 mu2 H2 x H3 hil g k sr hg y
  obtain ⟨rfl, rfl⟩ := y
  rw [List.length_map, List.length_range] at hil
  exact ⟨Same.refl _, .int (i : Nat), by rw [List.getElem?_map, List.getElem?_range hil]; rfl, rp_int.mpr (by simp)⟩
section
variable {T : Tb} {X : Cx} {tg e : Expr} {f : ES} {pos p : Pos}
theorem si_val (h : SE T X e f) : SI T X tg e (iV f) := fun W z => PI.weak (PI.or (pi_tup (h W z)) (PI.or (pi_list (h W z)) (pi_str (h W z)))) fun s H R ⟨al, rho, mu, sl, sr, w⟩ => by
  unfold iV at w
  match q : f rho mu with
  | none => rw [q] at w; exact w.elim
  | some (.ex C fs, mu1) =>
    rw [q] at w
    exact .inl ⟨al, rho, mu, sl, sr, by rw [q]; exact fun al' H' dd vs g k sr' e r => w al' H' dd vs g k sr' e r⟩
  | some (.ok d, mu1) =>
    rw [q] at w
    dsimp only at w
    have fin : ∀ {P : VK}, (∀ al' v H', Gr al al' → Kp H H' → SR X.K T al' mu1 H' → Rp X.K al' H' d v → P v H') → rdE X.K T W f s H P := fun {P} h => ⟨al, rho, mu, sl, sr, by rw [q]; exact h⟩
    match hd : srcV d mu1 with
    | none => rw [hd] at w; exact w.elim
    | some (xs, g) =>
      rw [hd] at w
      unfold srcV at hd
      split at hd
      · cases hd
        exact .inl (fin fun al' v H' g k sr' r => by
          obtain ⟨a, ys, rfl, q, r2⟩ := rp_tup.mp r
          exact ⟨a, rfl, ⟨ys, q⟩, w _ al' H' g k sr' (walk_seq q r2)⟩)
      · cases hd
        exact .inr (.inl (fin fun al' v H' g k sr' r => by
          obtain ⟨a, ys, rfl, q, r2⟩ := rp_fl.mp r
          exact ⟨a, rfl, ⟨ys, q.sq⟩, w _ al' H' g k sr' (walk_fz q r2)⟩))
      · cases hd
        exact .inr (.inr (fin fun al' v H' g k sr' r => by
          cases rp_str.mp r
          exact ⟨_, rfl, w _ al' H' g k sr' walk_st⟩))
      · split at hd
        · rename_i em
          cases hd
          exact .inr (.inl (fin fun al' v H' g k sr' r => by
            obtain ⟨a, ys, rfl, ea, q, r2⟩ := cel_lst sr' r em
            exact ⟨a, rfl, ⟨ys, SqL.of q⟩, w _ al' H' g k sr' (walk_cel ea)⟩))
        · cases hd
      · cases hd
theorem si_range (hm : X.mg "range" = none) (h : SE T X e f) (hg : Gl X "range" := by rfl) (hs : starEach [e] X.env = [(false, eval e X.env)] := by rfl) : SI T X tg (.Call (.Name "range" p) [e] [] pos) (iRg f) := fun W z =>
  PI.weak (pi_range1 hg hm (pa_cons (h W z) pa_nil hs) hs) fun s H R ⟨al, rho, mu, sl, sr, w⟩ => by
    unfold iRg at w
    refine ⟨al, rho, mu, sl, sr, ?_⟩
    match q : f rho mu with
    | none => rw [q] at w; exact w.elim
    | some (.ex C fs, mu1) =>
      rw [q] at w
      exact fun al' H' dd vs g k sr' e r => w al' H' dd vs g k sr' e r
    | some (.ok d, mu1) =>
      rw [q] at w
      cases d with
      | int n =>
        dsimp only at w
        by_cases hb : -(2 ^ 62) ≤ n ∧ n < 2 ^ 62
        · rw [if_pos hb] at w
          exact fun al' v H' g k sr' r => by
            cases rp_int.mp r
            exact ⟨n, rfl, hb.1, hb.2, w _ al' H' g k sr' walk_rg⟩
        · rw [if_neg hb] at w
          exact w.elim
      | _ => exact w.elim
end
/-! ### for -/
open Classical in
noncomputable def forL (g : Option (Nat × List D)) (t : Tg) (b : SS) : List D → Rho → Mu → So
  | [], rho, mu => if grdOk g mu then some (.nx, rho, mu) else none
  | x :: r, rho, mu => if grdOk g mu then match asgD t x rho with
      | none => none
      | some rho1 => match b rho1 mu with
        | some (.nx, rho2, mu2) => forL g t b r rho2 mu2
        | some (.ct, rho2, mu2) => forL g t b r rho2 mu2
        | some (.bk, rho2, mu2) => some (.nx, rho2, mu2)
        | o => o
    else none
noncomputable def sFor (f : IS) (t : Tg) (b : SS) : SS := fun rho mu => match f rho mu with
  | some (.ok xs g, mu1) => forL g t b xs rho mu1
  | some (.ex C fs, mu1) => some (.ex C fs, rho, mu1)
  | none => none
section
variable {T : Tb} {X : Cx} {tg iter : Expr} {body : List Stmt} {f : IS} {t : Tg} {b : SS} {pos : Pos}
theorem st_for (hi : SI T X tg iter f) (hg : SG X tg t) (hb : STs T X body b) (hc : X.calm = true := by rfl) (hs : ∀ x, foldedSetIterable iter X.env x = pure x := by intro _; rfl) : ST T X (.For tg iter body [] pos) (sFor f t b) := fun W z ps =>
  PS.weak (ps_for ps hc (hi W z) hg (hb W z ps) hs) fun De s H ⟨al, rho, mu, sl, sr, w⟩ => by
    refine ⟨al, rho, mu, sl, sr, ?_⟩
    unfold sFor at w
    match q : f rho mu with
    | none => rw [q] at w; exact w.elim
    | some (.ex C fs, mu1) =>
      rw [q] at w
      exact fun al' H' dd vs g k sr' e r => w al' s H' dd vs g k (sl.mono k g) sr' e r
    | some (.ok xs g, mu1) =>
      rw [q] at w
      dsimp only at w
      intro J al1 H1 g1 k1 sr1 wk
      obtain ⟨G, Y, wl, hG, hY⟩ := wk
      refine for_it wl (fun i s' H' => ∃ al' rho' mu', Gr al1 al' ∧ Kp H1 H' ∧ SL X.K al' H' rho' s' ∧ SR X.K T al' mu' H' ∧ WoS X.K T al' H' De W (forL g t b (xs.drop i) rho' mu')) ?_ ?_ ?_ ?_
      · exact ⟨al1, rho, mu1, Gr.refl _, Kp.refl _, sl.mono k1 g1, sr1, WoS.mono (r := forL g t b xs rho mu1) w g1 k1⟩
      · rintro i s' H' hil ⟨al', rho', mu', g', k', sl', sr', w'⟩
        refine hG al' mu' H' g' k' sr' ?_
        cases e : xs.drop i with
        | nil =>
          rw [e] at w'
          unfold forL at w'
          split at w'
          · assumption
          · exact w'.elim
        | cons x r =>
          rw [e] at w'
          unfold forL at w'
          split at w'
          · assumption
          · exact w'.elim
      · rintro i x s' H' H3 hil ⟨al', rho', mu', g', k', sl', sr', w'⟩ y
        have e : xs.drop i = xs[i] :: xs.drop (i + 1) := List.drop_eq_getElem_cons hil
        rw [e] at w'
        unfold forL at w'
        split at w'
        · rename_i gk
          obtain ⟨same, d, ed, rd⟩ := hY i al' mu' H' x H3 hil g' k' sr' gk y
          have ed' : d = xs[i] := by
            rw [List.getElem?_eq_getElem hil] at ed
            exact (Option.some.inj ed).symm
          subst ed'
          have k3 : Kp H' H3 := Kp.same same
          split at w'
          · exact w'.elim
          · rename_i rho1 er
            refine gT_of er rd (sl'.mono k3 (Gr.refl _)) fun s2 sl2 _ => ?_
            refine ⟨al', rho1, mu', sl2, sr'.same same, ?_⟩
            match qb : b rho1 mu' with
            | none => rw [qb] at w'; exact w'
            | some (.nx, rho2, mu2) =>
              rw [qb] at w'
              exact fun al2 s3 H4 g2 k2 sl3 sr3 => ⟨al2, rho2, mu2, g'.trans g2, (k'.trans k3).trans k2, sl3, sr3, WoS.mono w' g2 (k3.trans k2)⟩
            | some (.ct, rho2, mu2) =>
              rw [qb] at w'
              exact fun al2 s3 H4 g2 k2 sl3 sr3 => ⟨al2, rho2, mu2, g'.trans g2, (k'.trans k3).trans k2, sl3, sr3, WoS.mono w' g2 (k3.trans k2)⟩
            | some (.bk, rho2, mu2) =>
              rw [qb] at w'
              exact fun al2 s3 H4 g2 k2 sl3 sr3 => w' al2 s3 H4 g2 (k3.trans k2) sl3 sr3
            | some (.rt d, rho2, mu2) =>
              rw [qb] at w'
              exact fun al2 s3 H4 g2 k2 => w' al2 s3 H4 g2 (k3.trans k2)
            | some (.ex C fs, rho2, mu2) =>
              rw [qb] at w'
              exact fun al2 s3 H4 dd vs g2 k2 => w' al2 s3 H4 dd vs g2 (k3.trans k2)
        · exact w'.elim
      · rintro s' H' ⟨al', rho', mu', g', k', sl', sr', w'⟩
        rw [List.drop_length] at w'
        unfold forL at w'
        split at w'
        · exact w' al' s' H' (Gr.refl _) (Kp.refl _) sl' sr'
        · exact w'.elim
end
/-! ### while -/
def whl (c : ES) (b : SS) : Nat → Rho → Mu → So
  | 0, _, _ => none
  | n + 1, rho, mu => bnS (c rho mu) rho (chS (fun mu1 => match b rho mu1 with
      | some (.nx, rho2, mu2) => whl c b n rho2 mu2
      | some (.ct, rho2, mu2) => whl c b n rho2 mu2
      | some (.bk, rho2, mu2) => some (.nx, rho2, mu2)
      | o => o) fun mu1 => some (.nx, rho, mu1))
open Classical in
noncomputable def sWhl (c : ES) (b : SS) : SS := fun rho mu => if h : ∃ n, (whl c b n rho mu).isSome = true then whl c b (choose h) rho mu else none
section
variable {T : Tb} {X : Cx} {c : Expr} {body : List Stmt} {f : ES} {b : SS} {pos : Pos}
theorem st_while (hc : SC T X c f) (hb : STs T X body b) : ST T X (.While c body [] pos) (sWhl f b) := fun W z ps =>
  PS.weak (ps_while ps (hc W z) (hb W z ps)) fun De s H ⟨al, rho, mu, sl, sr, w⟩ => by
    obtain ⟨n, wn⟩ : ∃ n, WoS X.K T al H De W (whl f b n rho mu) := by
      unfold sWhl at w
      split at w
      · exact ⟨_, w⟩
      · exact w.elim
    refine ⟨fun m s' H' => ∃ al' rho' mu', SL X.K al' H' rho' s' ∧ SR X.K T al' mu' H' ∧ WoS X.K T al' H' De W (whl f b m rho' mu'), ⟨n, al, rho, mu, sl, sr, wn⟩, ?_⟩
    rintro m s' H' ⟨al', rho', mu', sl', sr', w'⟩
    cases m with
    | zero => exact w'.elim
    | succ m =>
      unfold whl at w'
      refine ⟨al', rho', mu', sl', sr', WoS.bn sl' w' fun d mu1 al1 v H1 _ g1 k1 sr1 rv w1 => ?_⟩
      unfold chS at w1
      match d with
      | .bl true =>
        cases rp_bl.mp rv
        refine ⟨true, rfl, iteT ⟨fun s2 H2 => ∃ al' rho' mu', SL X.K al' H2 rho' s2 ∧ SR X.K T al' mu' H2 ∧ WoS X.K T al' H2 De W (whl f b m rho' mu'), fun s2 H2 q => ⟨m, Nat.lt_succ_self _, q⟩, al1, rho', mu1, sl'.mono k1 g1, sr1, ?_⟩⟩
        dsimp only at w1
        match qb : b rho' mu1 with
        | none => rw [qb] at w1; exact w1
        | some (.nx, rho2, mu2) =>
          rw [qb] at w1
          exact fun al2 s3 H4 g2 k2 sl3 sr3 => ⟨al2, rho2, mu2, sl3, sr3, WoS.mono w1 g2 k2⟩
        | some (.ct, rho2, mu2) =>
          rw [qb] at w1
          exact fun al2 s3 H4 g2 k2 sl3 sr3 => ⟨al2, rho2, mu2, sl3, sr3, WoS.mono w1 g2 k2⟩
        | some (.bk, rho2, mu2) => rw [qb] at w1; exact w1
        | some (.rt d, rho2, mu2) => rw [qb] at w1; exact w1
        | some (.ex C fs, rho2, mu2) => rw [qb] at w1; exact w1
      | .bl false =>
        cases rp_bl.mp rv
        exact ⟨false, rfl, iteF (w1 al1 s' H1 (Gr.refl _) (Kp.refl _) (sl'.mono k1 g1) sr1)⟩
      | .non => exact w1.elim
      | .int _ => exact w1.elim
      | .str _ => exact w1.elim
      | .ty _ => exact w1.elim
      | .tup _ => exact w1.elim
      | .cel _ => exact w1.elim
      | .adr _ => exact w1.elim
      | .fl _ => exact w1.elim
end
end DL
set_option Elab.async false
set_option linter.all false
set_option autoImplicit false
set_option maxRecDepth 100000
set_option maxHeartbeats 4000000
/-! DL8: list comprehensions, dict displays. -/
namespace DL
open PySem PySem.Spec PyProof.Rows L2

def wipeR (rho : Rho) : List Nat → Rho
  | [] => rho
  | v :: vs => (wipeR rho vs).set v none
theorem wipe_mem {s : L2.St} {i : Nat} : ∀ {vs : List Nat}, i ∈ vs → (wipe s vs)[i]? = none ∨ (wipe s vs)[i]? = some none
  | [], h => by cases h
  | v :: vs, h => by
    unfold wipe
    by_cases e : v = i
    · subst e
      by_cases hl : v < (wipe s vs).length
      · rw [List.getElem?_set_self hl]; exact .inr rfl
      · rw [List.getElem?_eq_none (by simpa using hl)]; exact .inl rfl
    · rw [List.getElem?_set_ne e]
      rcases List.mem_cons.mp h with z | z
      · exact absurd z.symm e
      · exact wipe_mem z
theorem wipe_wipe (s : L2.St) (vs : List Nat) : wipe (wipe s vs) vs = wipe s vs := by
  apply List.ext_getElem?
  intro i
  by_cases h : i ∈ vs
  · have l1 : (wipe (wipe s vs) vs).length = (wipe s vs).length := by rw [wipe_length]
    rcases wipe_mem (s := wipe s vs) h with a | a <;> rcases wipe_mem (s := s) h with b | b
    · rw [a, b]
    · have z := List.getElem?_eq_none_iff.mp a
      have y := (List.getElem?_eq_some_iff.mp b).1
      omega
    · have z := List.getElem?_eq_none_iff.mp b
      have y := (List.getElem?_eq_some_iff.mp a).1
      omega
    · rw [a, b]
  · rw [wipe_out h, wipe_out h]
theorem SL.wipe {K : PySem.W.Frag} {al : List Addr} {H : Hp} {rho : Rho} {s : L2.St} (h : SL K al H rho s) : ∀ vs : List Nat, SL K al H (wipeR rho vs) (L2.wipe s vs)
  | [] => h
  | v :: vs => by
    have ih := SL.wipe h vs
    refine ⟨by show ((wipeR rho vs).set v none).length = ((L2.wipe s vs).set v none).length; simp [ih.len], fun i d e => ?_⟩
    have e' : ((wipeR rho vs).set v none)[i]? = some (some d) := e
    by_cases hv : v = i
    · subst hv
      by_cases hl : v < (wipeR rho vs).length
      · rw [List.getElem?_set_self hl] at e'; cases e'
      · rw [List.getElem?_eq_none (by simpa using hl)] at e'; cases e'
    · rw [List.getElem?_set_ne hv] at e'
      obtain ⟨w, e1, e2⟩ := ih.ok i d e'
      exact ⟨w, by show ((L2.wipe s vs).set v none)[i]? = _; rw [List.getElem?_set_ne hv]; exact e1, e2⟩
/-! ### the turns -/
open Classical in
noncomputable def compL (n : Nat) (g : Option (Nat × List D)) (t : Tg) (tt te : ES) : List D → Rho → Mu → Option Mu
  | [], _, mu => if grdOk g mu then some mu else none
  | x :: r, rho, mu => if grdOk g mu then match asgD t x rho with
      | none => none
      | some rho1 => match tt rho1 mu with
        | some (.ok (.bl true), mu1) => match te rho1 mu1 with
          | some (.ok y, mu2) => match mu2[n]? with
            | some (.lst acc) => if acc.length < 16777216 then compL n g t tt te r rho (mu2.set n (.lst (acc ++ [y]))) else none
            | _ => none
          | _ => none
        | some (.ok (.bl false), mu1) => compL n g t tt te r rho mu1
        | _ => none
    else none
noncomputable def eComp (f : IS) (t : Tg) (vs : List Nat) (tt te : ES) : ES := fun rho mu => match f rho mu with
  | some (.ok xs g, mu1) => match compL mu1.length g t tt te xs (wipeR rho vs) (mu1 ++ [.lst []]) with
    | some mu2 => some (.ok (.cel mu1.length), mu2)
    | none => none
  | some (.ex C fs, mu1) => some (.ex C fs, mu1)
  | none => none
abbrev WF : WX := fun _ _ _ _ => False
/-- the tests of a comprehension -/
def SP (T : Tb) (X : Cx) (ifs : List Expr) (f : ES) : Prop := Cz X WF → PTs X ifs (rdT X.K T WF f)
section
variable {T : Tb} {X : Cx}
theorem sp_nil : SP T X [] (eC (.bl true)) := fun z => ⟨fun pins s σ H Q I ⟨al, rho, mu, sl, sr, w⟩ => pts_nil.run pins s σ H Q I (by
  obtain ⟨b, e, q⟩ := Wo.now (d := .bl true) w sr (bl_rp true)
  cases e; exact q)⟩
theorem sp_one {c : Expr} {f : ES} (h : SC T X c f) : SP T X [c] f := fun z => pts_one (h WF z)
theorem rd_comp {W : WX} {K : PySem.W.Frag} {f : IS} {t : Tg} {vs : List Nat} {tt te : ES} (hv : ∀ i ∈ t.slots, i ∈ vs) (s : L2.St) (H : Hp) (Q : VK) (h : rdE K T W (eComp f t vs tt te) s H Q) : tLc (rdI K T W f) (gT K t) (rdT K T WF tt) (rdE K T WF te) vs s H Q := by
  obtain ⟨al, rho, mu, sl, sr, w⟩ := h
  refine ⟨al, rho, mu, sl, sr, ?_⟩
  unfold eComp at w
  match q : f rho mu with
  | none => rw [q] at w; exact w.elim
  | some (.ex C fs, mu1) =>
    rw [q] at w
    exact fun al' H' dd vs g k sr' e r => w al' H' dd vs g k sr' e r
  | some (.ok xs g, mu1) =>
    rw [q] at w
    dsimp only at w
    intro J al1 H1 g1 k1 sr1 wk D hD
    have srD : SR K T (al1 ++ [D]) (mu1 ++ [.lst []]) (upd H1 D (.lst [])) := sr1.alloc hD ⟨[], upd_same, Rps.nil⟩
    have kD : Kp H1 (upd H1 D (.lst [])) := Kp.new hD
    have eD : (al1 ++ [D])[mu1.length]? = some D := by rw [← sr1.len]; simp
    obtain ⟨G, Y, wl, hG, hY⟩ := wk
    refine lc_it wl (fun i H' => ∃ al' mu' mu2, Gr (al1 ++ [D]) al' ∧ Kp (upd H1 D (.lst [])) H' ∧ SR K T al' mu' H' ∧ compL mu1.length g t tt te (xs.drop i) (wipeR rho vs) mu' = some mu2 ∧ Wo K T al' H' Q (fun c d H' => W c d s H') (some (.ok (.cel mu1.length), mu2))) ?_ ?_ ?_ ?_
    · match hc : compL mu1.length g t tt te xs (wipeR rho vs) (mu1 ++ [.lst []]) with
      | none => rw [hc] at w; exact w.elim
      | some mu2 =>
        rw [hc] at w
        exact ⟨_, _, mu2, Gr.refl _, Kp.refl _, srD, hc, Wo.mono (r := some (.ok (.cel mu1.length), mu2)) w (g1.trans (Gr.app _ _)) (k1.trans kD)⟩
    · rintro i H' hil ⟨al', mu', mu2, g', k', sr', hc, w'⟩
      refine hG al' mu' H' ((Gr.app _ _).trans g') (kD.trans k') sr' ?_
      cases e : xs.drop i with
      | nil =>
        rw [e] at hc
        unfold compL at hc
        split at hc
        · assumption
        · cases hc
      | cons x r =>
        rw [e] at hc
        unfold compL at hc
        split at hc
        · assumption
        · cases hc
    · rintro i x H' H3 hil ⟨al', mu', mu2, g', k', sr', hc, w'⟩ y
      have e : xs.drop i = xs[i] :: xs.drop (i + 1) := List.drop_eq_getElem_cons hil
      rw [e] at hc
      unfold compL at hc
      split at hc
      · rename_i gk
        obtain ⟨same, d, ed, rd⟩ := hY i al' mu' H' x H3 hil ((Gr.app _ _).trans g') (kD.trans k') sr' gk y
        have ed' : d = xs[i] := by
          rw [List.getElem?_eq_getElem hil] at ed
          exact (Option.some.inj ed).symm
        subst ed'
        have k3 : Kp H' H3 := Kp.same same
        have slw : SL K al' H3 (wipeR rho vs) (L2.wipe s vs) := (sl.wipe vs).mono (((k1.trans kD).trans k').trans k3) (g1.trans ((Gr.app _ _).trans g'))
        split at hc
        · cases hc
        · rename_i rho1 er
          refine gT_of er rd slw fun s2 sl2 hw => ⟨by rw [hw vs hv, wipe_wipe], ?_⟩
          have sr3 := sr'.same same
          refine ⟨al', rho1, mu', sl2, sr3, ?_⟩
          split at hc
          · rename_i mu3 et
            rw [et]
            intro al4 v4 H4 g4 k4 sr4 r4
            cases rp_bl.mp r4
            refine ⟨true, rfl, iteT ⟨al4, rho1, mu3, sl2.mono k4 g4, sr4, ?_⟩⟩
            split at hc
            · rename_i y5 mu5 ey
              rw [ey]
              intro al6 v6 H6 g6 k6 sr6 r6
              split at hc
              · rename_i acc ea
                split at hc
                · rename_i hz
                  have eA : al6[mu1.length]? = some D := g6 _ _ (g4 _ _ (g' _ _ eD))
                  obtain ⟨ys, e2, r2⟩ := sr6.ok _ _ D ea eA
                  obtain ⟨q1, q2⟩ := sr6.setL ea eA e2 (r2.app (Rps.one r6))
                  refine ⟨ys, e2, by rw [r2.length]; exact line1 _ hz, al6, _, mu2, ((g'.trans g4).trans g6), (((k'.trans k3).trans k4).trans k6).trans q2, q1, hc, ?_⟩
                  exact w'.mono (g4.trans g6) (((k3.trans k4).trans k6).trans q2)
                · cases hc
              · cases hc
            · cases hc
          · rename_i mu3 et
            rw [et]
            intro al4 v4 H4 g4 k4 sr4 r4
            cases rp_bl.mp r4
            exact ⟨false, rfl, iteF ⟨al4, mu3, mu2, g'.trans g4, (k'.trans k3).trans k4, sr4, hc, w'.mono g4 (k3.trans k4)⟩⟩
          · cases hc
      · cases hc
    · rintro H' ⟨al', mu', mu2, g', k', sr', hc, w'⟩
      rw [List.drop_length] at hc
      unfold compL at hc
      split at hc
      · cases hc
        exact w' al' (.ref D) H' (Gr.refl _) (Kp.refl _) sr' (rp_cel.mpr ⟨D, g' _ _ eD, rfl⟩)
      · cases hc
variable {elt tg iter : Expr} {ifs : List Expr} {scope : Scope} {own : List (Str × Nat)} {pos : Pos} {f : IS} {t : Tg} {tt te : ES}
theorem se_comp (own : List (Str × Nat)) (hN : X.N.Nodup) (hi : SI T X tg iter f) (ok : BlkOk X.N X.env.scope scope own)
    (hg : ∀ (s : Shared) (H : Hp) (C : Addr) (cl : List (Str × Addr)) (fp : List Addr), SG (X.blk s H scope (compEnvC scope cl C X.env) fp) tg t) (ht : ∀ (s : Shared) (H : Hp) (C : Addr) (cl : List (Str × Addr)) (fp : List Addr), SP T (X.blk s H scope (compEnvC scope cl C X.env) fp) ifs tt)
    (he : ∀ (s : Shared) (H : Hp) (C : Addr) (cl : List (Str × Addr)) (fp : List Addr), SE T (X.blk s H scope (compEnvC scope cl C X.env) fp) elt te) (hv : ∀ i ∈ t.slots, i ∈ own.map (·.2) := by decide) (hc : X.calm = true := by rfl) (hs : ∀ x, foldedSetIterable iter X.env x = pure x := by intro _; rfl) :
    SE T X (.ListComp elt [⟨tg, iter, ifs, 0⟩] scope pos) (eComp f t (own.map (·.2)) tt te) := fun W z =>
  PE.weak (pe_lc (g := gT X.K t) hc hN (hi W z) ok (fun s H C cl fp => hg s H C cl fp) (fun s H C cl fp => ht s H C cl fp ⟨L2.takes0, z.gd⟩) (fun s H C cl fp => he s H C cl fp WF ⟨L2.takes0, z.gd⟩) hs) fun s H Q h => rd_comp hv s H Q h
/-- y = [e for ..] -/
theorem st_setComp {i : Nat} {y : Str} {py spos : Pos} (own : List (Str × Nat)) (hN : X.N.Nodup) (hsw : swapsWith (.ListComp elt [⟨tg, iter, ifs, 0⟩] scope pos) (some (.Name y py)) spos.line X.env = pure true) (hi : SI T X tg iter f) (ok : BlkOk X.N X.env.scope scope own)
    (hg : ∀ (s : Shared) (H : Hp) (C : Addr) (cl : List (Str × Addr)) (fp : List Addr), SG (X.blk s H scope (compEnvC scope cl C X.env) fp) tg t) (ht : ∀ (s : Shared) (H : Hp) (C : Addr) (cl : List (Str × Addr)) (fp : List Addr), SP T (X.blk s H scope (compEnvC scope cl C X.env) fp) ifs tt)
    (he : ∀ (s : Shared) (H : Hp) (C : Addr) (cl : List (Str × Addr)) (fp : List Addr), SE T (X.blk s H scope (compEnvC scope cl C X.env) fp) elt te) (hv : ∀ i ∈ t.slots, i ∈ own.map (·.2) := by decide) (hc : X.calm = true := by rfl) (hy : X.N[i]? = some y := by rfl) (hyl : X.env.scope.names.lookup y = some .local := by rfl)
    (hs : ∀ x, foldedSetIterable iter X.env x = pure x := by intro _; rfl) :
    ST T X (.Assign [.Name y py] (.ListComp elt [⟨tg, iter, ifs, 0⟩] scope pos) spos) (sSet i (eComp f t (own.map (·.2)) tt te)) := fun W z _ =>
  PS.weak (ps_setLc (g := gT X.K t) hc hN hy hyl hsw (hi W z) ok (fun s H C cl fp => hg s H C cl fp) (fun s H C cl fp => ht s H C cl fp ⟨L2.takes0, z.gd⟩) (fun s H C cl fp => he s H C cl fp WF ⟨L2.takes0, z.gd⟩) hs) fun De s H ⟨al, rho, mu, sl, sr, w⟩ => rd_comp hv s H _
    ⟨al, rho, mu, sl, sr, WoS.bn sl w fun d mu1 al1 v H1 _ g1 k1 sr1 rv w1 => w1 al1 _ H1 (Gr.refl _) (Kp.refl _) ((sl.mono k1 g1).set rv i) sr1⟩
end
/-! ### dict displays -/
def prs : List (ES × ES) → Rho → Mu → (List (Key × D) → Mu → Ro) → Ro
  | [], _, mu, k => k [] mu
  | (fk, fv) :: r, rho, mu, k => bnd (fk rho mu) fun x mu1 => bnd (fv rho mu1) fun y mu2 => prs r rho mu2 fun kvs mu3 => match keyD x with
    | some c => k ((c, y) :: kvs) mu3
    | none => none
def mergeD (kvs more : List (Key × D)) : List (Key × D) := more.foldl (fun acc kv => putD acc kv.1 kv.2) kvs
def eDisp (fs : List (ES × ES)) : ES := fun rho mu => prs fs rho (mu ++ [.dct []]) fun kvs mu1 => match mu1[mu.length]? with
  | some (.dct []) => if kvs.length ≤ 15 then some (.ok (.cel mu.length), mu1.set mu.length (.dct (mergeD [] kvs))) else none
  | _ => none
def SD (T : Tb) (X : Cx) (pos : Pos) (keys : List (Option Expr)) (vals : List Expr) (fs : List (ES × ES)) : Prop := ∀ W : WX, Cz X W → PPs X pos keys vals (fs.map fun p => (rdE X.K T W p.1, rdE X.K T W p.2))
section
variable {T : Tb} {X : Cx} {pos : Pos} {k v : Expr} {keys : List (Option Expr)} {vals : List Expr} {fs : List (ES × ES)} {fk fv : ES}
theorem sd_nil : SD T X pos [] [] [] := fun W z => pps_nil
theorem sd_cons (hk : SE T X k fk) (hv : SE T X v fv) (hr : SD T X pos keys vals fs) : SD T X pos (some k :: keys) (v :: vals) ((fk, fv) :: fs) := fun W z => pps_cons (hk W z) (hv W z) (hr W z)
theorem merge_rp {K : PySem.W.Frag} {al : List Addr} {H : Hp} : ∀ {more : List (Key × D)} {kvs : List (Key × D)} {us vs : List (Key × V)}, RpA K al H kvs vs → RpA K al H more us → RpA K al H (mergeD kvs more) (mergeK vs us)
  | [], kvs, us, vs, r, q => by
    have e := q.1
    simp at e
    subst e
    exact r
  | (x, d) :: more, kvs, us, vs, r, q => by
    obtain ⟨u, rr, rfl, h1, h2⟩ := rpa_cons q
    show RpA K al H (mergeD (putD kvs x d) more) (mergeK (putK vs x u) rr)
    exact merge_rp (more := more) (r.put h1) h2
theorem prs_rp {W : WX} {s : L2.St} : ∀ {fs : List (ES × ES)} {al : List Addr} {rho : Rho} {mu : Mu} {H : Hp} {Q0 : VK} {kk : List (Key × D) → Mu → Ro} {P : List (V × V) → Hp → Prop}, SL X.K al H rho s → SR X.K T al mu H → Wo X.K T al H Q0 (fun c d H' => W c d s H') (prs fs rho mu kk) →
    (∀ kvs mu' al' (us : List (Key × V)) H', Gr al al' → Kp H H' → SR X.K T al' mu' H' → RpA X.K al' H' kvs us → Wo X.K T al' H' Q0 (fun c d H' => W c d s H') (kk kvs mu') → P (us.map fun kv => (kV kv.1, kv.2)) H') → tPairs (fs.map fun p => (rdE X.K T W p.1, rdE X.K T W p.2)) s H P
  | [], al, rho, mu, H, Q0, kk, P, sl, sr, w, h => h [] mu al [] H (Gr.refl _) (Kp.refl _) sr rpa_nil w
  | (fk, fv) :: fs, al, rho, mu, H, Q0, kk, P, sl, sr, w, h => by
    refine ⟨al, rho, mu, sl, sr, Wo.bnd w fun x mu1 al1 xv H1 _ g1 k1 sr1 rx w1 => ?_⟩
    refine ⟨al1, rho, mu1, sl.mono k1 g1, sr1, Wo.bnd w1 fun y mu2 al2 yv H2 _ g2 k2 sr2 ry w2 => ?_⟩
    refine prs_rp ((sl.mono k1 g1).mono k2 g2) sr2 w2 fun kvs mu3 al3 us H3 g3 k3 sr3 ru w3 => ?_
    split at w3
    · rename_i c ec
      cases key_rp (Rp.mono k3 g3 _ _ (Rp.mono k2 g2 _ _ rx)) ec
      exact h ((c, y) :: kvs) mu3 al3 ((c, yv) :: us) H3 ((g1.trans g2).trans g3) ((k1.trans k2).trans k3) sr3 (RpA.cons (Rp.mono k3 g3 _ _ ry) ru) w3
    · exact w3.elim
theorem se_disp (h : SD T X pos keys vals fs) (hall : keys.all (·.isSome) = true := by rfl) (hl : keys.length = vals.length := by rfl) (h0 : keys ≠ [] := by exact fun z => by cases z) (h15 : keys.length ≤ 15 := by decide) : SE T X (.Dict keys vals pos) (eDisp fs) := fun W z =>
  PE.weak (pe_disp (h W z) hall hl h0 h15) fun s H Q ⟨al, rho, mu, sl, sr, w⟩ p hp => by
    have sr1 : SR X.K T (al ++ [p]) (mu ++ [.dct []]) (upd H p (.dK [])) := sr.alloc hp ⟨[], upd_same, rpa_nil⟩
    have kp : Kp H (upd H p (.dK [])) := Kp.new hp
    have ep : (al ++ [p])[mu.length]? = some p := by rw [← sr.len]; simp
    refine prs_rp (sl.mono kp (Gr.app _ _)) sr1 (Wo.mono w (Gr.app _ _) kp) fun kvs mu1 al1 us H1 g1 k1 sr2 ru w1 => ?_
    split at w1
    · rename_i em
      split at w1
      · rename_i hk
        have ea := g1 _ _ ep
        obtain ⟨vs, e2, r2⟩ := sr2.ok _ _ p em ea
        have ev : vs = [] := by
          have e := r2.1
          simpa using e
        subst ev
        obtain ⟨q1, q2⟩ := sr2.setD em ea e2 (merge_rp rpa_nil ru)
        exact ⟨e2, us, rfl, by rw [ru.length]; exact hk, w1 al1 (.ref p) _ (Gr.refl _) q2 q1 (rp_cel.mpr ⟨p, ea, rfl⟩)⟩
      · exact w1.elim
    · exact w1.elim
/-- {} -/
def eDict0 : ES := fun _ mu => some (.ok (.cel mu.length), mu ++ [.dct []])
theorem se_dict0 : SE T X (.Dict [] [] pos) eDict0 := fun W z => PE.weak pe_dnewK fun s H Q ⟨al, rho, mu, sl, sr, w⟩ p hp =>
  w (al ++ [p]) (.ref p) _ (Gr.app _ _) (Kp.new hp) (sr.alloc hp ⟨[], upd_same, rpa_nil⟩) (rp_cel.mpr ⟨p, by rw [← sr.len]; simp, rfl⟩)
end
end DL
set_option Elab.async false
set_option linter.all false
set_option autoImplicit false
set_option maxRecDepth 100000
set_option maxHeartbeats 4000000
/-! DL9: enumerate of tuples, texts, lists. -/
namespace DL
open PySem PySem.Spec PyProof.Rows L2

/-! ### enumerate(v) is made -/
theorem enum_made {v : Value} {o : Obj} {Hh : Heap → Prop} (B : Begins v o Hh) :
    Meets (Builtin.«enumerate.__new__» ⟨[.type "enumerate", v], []⟩) (fun _ R s => Hh s.heap ∧
      R (.ok (.ret (.ref (s.heap.push o).objs.size))) { s with heap := (s.heap.push o).push { cls := .type "enumerate", data := .fields #[.none, .bool false, .ref s.heap.objs.size, rawInt 0, .none, .none] } }) :=
  .of_wp fun prog w A R s h => by
    obtain ⟨hp, g, d, tk, os⟩ := s
    obtain ⟨h1, h⟩ := h
    have hsub := sub_enumerate
    have go : ∀ {A' : Around} {E : Value → Shared → Prop} {Q : Value → Shared → Prop}, Q (.ref hp.objs.size) ⟨hp.push o, g, d, tk, os⟩ → wpAny (model prog w) A' (pyIter v) Q E ⟨hp, g, d, tk, os⟩ := fun q => B.iter prog w _ _ ⟨hp, g, d, tk, os⟩ _ h1 q
    wp_walk using go
    refine wpAny_stack_any fun st => wpAny_pure ?_
    split
    · rename_i c _ _ _ _ _
      cases (c == Value.type "enumerate") <;> (wp_walk using go; exact ⟨_, rfl, h⟩)
    · wp_walk using go
      exact ⟨_, rfl, h⟩
theorem enum_call {prog : Program} {w : World} {A : Around} {E : Value → Shared → Prop} {s : Shared} {v : Value} {o : Obj} {Hh : Heap → Prop} {Q : Value → Shared → Prop} (B : Begins v o Hh) (h1 : Hh s.heap)
    (h : ∀ h', IsEnum h' (s.heap.objs.size + 1) s.heap.objs.size 0 .none → h'.get? s.heap.objs.size = some o → (∀ b u, s.heap.get? b = some u → h'.get? b = some u) → Q (.ref (s.heap.objs.size + 1)) { s with heap := h' }) :
    wpAny (model prog w) A (call (.type "enumerate") [v]) Q E s := by
  refine callType_new F.called_enumerate (by decide) (F.typeCall_enumerate_1 _) (F.newCall_enumerate_1 _) (fun obj => F.args_object_init_2 obj _) F.entry_enumerate_new (enum_made B) ⟨h1, ?_⟩
  have hz : (s.heap.push o).objs.size = s.heap.objs.size + 1 := Heap.size_push ..
  have he := Heap.get?_push_size (s.heap.push o) (o := { cls := .type "enumerate", data := .fields #[.none, .bool false, .ref s.heap.objs.size, rawInt 0, .none, .none] }) rfl
  rw [hz] at he
  show _ ∧ _
  rw [hz]
  exact ⟨⟨_, he, rfl⟩, h _ he (Heap.get?_push_of_some _ (Heap.get?_push_size _ B.free)) fun b u x => Heap.get?_push_of_some _ (Heap.get?_push_of_some _ x)⟩
/-! ### its turns, over any draws -/
/-- a new pair of the number and what xs tells -/
def Itn (go : Nat → Hp → Prop) (is : Nat → Hp → V → Prop) (stop : Nat → Hp → Prop) : It :=
  ⟨go, fun i H v H' => ∃ T x, v = .ref T ∧ H T = none ∧ H' = upd H T (.tup [.int (i : Nat), x]) ∧ is i H x, stop⟩
/-- one turn of an enumerate whose inner iterator draws -/
theorem enum_turn {X : Cx} {elts : List Expr} {kk : Nat} {tpos : Pos} {e it : Addr} {fp : List Addr} {n i : Nat} {Pd : Nat → Value → Prop} {St : Nat → Heap → Prop} {old : Value} {is : Nat → Hp → V → Prop} {tn : Nat → Heap → Prop} {go stop : Nat → Hp → Prop}
    {pins : List (Addr × Obj)} {s : Shared} {σ : L2.St} {H : Hp} {E : Value → Shared → Prop} (I : Inv X pins σ H s) (hf : ∀ b ∈ [e, it], FpOk X pins H b) (D : Draws X.prog X.w X.A.in1 it fp n Pd St) (he : IsEnum s.heap e it ((i : Nat) : Int) old) (hst : St i s.heap) (hlt : i < n) (hne : e ≠ it) (hef : e ∉ fp)
    (hx : ∀ u, Pd i u → ∃ x, RelV x u ∧ is i H x) (ht : ∀ h' u, IsEnum h' e it (((i + 1 : Nat) : Nat) : Int) u → St (i + 1) h' → tn (i + 1) h') :
    wpAny (model X.prog X.w) X.A (pyNext (.ref e)) (fun r s1 => ∃ u, r = some u ∧
      wpAny (model X.prog X.w) X.A (letOwnedTupleGo (.Tuple elts kk tpos) (.ref e) u) (fun _ s2 => ∃ x H', Inv X pins σ H' s2 ∧ RelV x u ∧ (Itn go is stop).yld i H x H' ∧ tn (i + 1) s2.heap ∧ ∀ b ∈ [e, it], H' b = none) E s1) E s := by
  have hel : e < s.heap.objs.size := Heap.lt_size he
  have hil : it < s.heap.objs.size := by obtain ⟨o, q⟩ := D.live _ _ hst; exact Heap.lt_size q
  refine wpAny_pyNext_enum_itemD D he hst hlt hne hef fun u h' tk hP ho hst' hT hsz hk => ?_
  refine ⟨_, rfl, wpAny_letOwnedTupleGo_enum (s := { s with heap := h', toks := tk + 1 }) ho fun h'' he' sb => ?_⟩
  obtain ⟨x, rx, ix⟩ := hx u hP
  have hT2 : h''.get? s.heap.objs.size = some { cls := .type "tuple", data := .seq #[.int i tk, u] } := (sb.2 _ (Nat.ne_of_gt hel)).trans hT
  have new : ObjOk X.prog X.w (upd H s.heap.objs.size (.tup [.int (i : Nat), x])) h'' s.heap.objs.size (.tup [.int (i : Nat), x]) :=
    ⟨by rw [sizeLine_eq]; show 2 ≤ 16777216; decide, [.int i tk, u], .cons ⟨_, rfl⟩ (.cons rx .nil), ⟨_, hT2, rfl, _, rfl⟩⟩
  have I1 : Inv X pins σ (upd H s.heap.objs.size (.tup [.int (i : Nat), x])) { s with heap := h'', toks := tk + 1 } :=
    I.turnedNew (ch := [e, it]) (fun b ob hb q => (sb.2 b (fun z => hb (by simp [z]))).trans (hk b ob (fun z => hb (by simp [z])) (fun z => hb (by simp [z])) q)) hf (Nat.le_refl _) new
  refine ⟨.ref s.heap.objs.size, _, I1, rfl, ⟨_, x, rfl, I.hok.fresh (Nat.le_refl _), rfl, ix⟩, ht h'' u ?_ (D.frame _ _ _ hst' fun b hb o y => (sb.2 b fun z => hef (z ▸ hb)).trans y), fun b hb => ?_⟩
  · have e1 : ((i + 1 : Nat) : Int) = (i : Int) + 1 := by omega
    rw [e1]; exact he'
  · have hb' : b < s.heap.objs.size := by
      rcases List.mem_cons.mp hb with z | z
      · rw [z]; exact hel
      · rw [List.mem_singleton.mp z]; exact hil
    rw [upd_ne (Nat.ne_of_lt hb')]
    exact (hf b hb).1
theorem enum_obj {e it : Addr} {i : Nat} {h : Heap} {old : Value} {o : Obj} {vs : Array Value} (he : IsEnum h e it ((i : Nat) : Int) old) (ho : h.get? it = some o) (hd : o.data = .fields vs) : ∀ b ∈ [e, it], ∃ o, h.get? b = some o ∧ ∀ v, o.data ≠ .cell v := fun b hb => by
  rcases List.mem_cons.mp hb with z | z
  · rw [z]; exact ⟨_, he, fun v q => nomatch q⟩
  · rw [List.mem_singleton.mp z]; exact ⟨o, ho, fun v q => by rw [hd] at q; cases q⟩
/-! ### over a tuple -/
def Itet (K : PySem.W.Frag) (a : Addr) : It := Itn (fun i H => ∃ xs x, SqT K H a xs ∧ xs[i]? = some x) (fun i H x => ∀ xs, SqT K H a xs → xs[i]? = some x) (fun i H => ∃ xs, SqT K H a xs ∧ xs.length = i)
theorem tup_ne {h : Heap} {a b : Addr} {its : Array Value} {o : Obj} {vs : Array Value} (ht : h.IsTuple a its) (ho : h.get? b = some o) (hd : o.data = .fields vs) : a ≠ b := fun z => by
  obtain ⟨o', e, _, n, d⟩ := ht
  rw [z, ho] at e
  cases e
  rw [hd] at d
  cases d
theorem turn_enumT {P : Program} {w : World} {K : PySem.W.Frag} {elts : List Expr} {kk : Nat} {tpos : Pos} (a e it : Addr) :
    Turn P w K (.Tuple elts kk tpos) (Itet K a) [e, it] e (fun i h => (∃ old, IsEnum h e it ((i : Nat) : Int) old) ∧ h.IsTupleIter it a i ∧ e ≠ it) where
  mem := List.mem_cons_self ..
  obj := fun i h ⟨⟨old, he⟩, ⟨o, ho, _, hd⟩, _⟩ => enum_obj he ho hd
  keep := fun i h h' ⟨⟨old, he⟩, hi, hne⟩ k => ⟨⟨old, k e (List.mem_cons_self ..) _ he⟩, hi.at fun o q => k it (by simp) o q, hne⟩
  item := by
    intro X hP hw hK hc i pins s σ H E I hf st hg
    subst hP hw hK
    obtain ⟨⟨old, he⟩, hit, hne⟩ := st
    obtain ⟨xs, x, hq, hx⟩ := hg
    obtain ⟨its, rv, p, hz⟩ := I.tuple hq
    obtain ⟨u, hu, ru⟩ := rv.get hx
    obtain ⟨oi, hoi, _, hdi⟩ := id hit
    have ht : s.heap.IsTuple a its.toArray := p
    have h1 : a ≠ it := tup_ne ht hoi hdi
    have h2 : a ≠ e := tup_ne ht he rfl
    refine enum_turn (n := its.toArray.size) (is := fun i H x => ∀ xs, SqT X.K H a xs → xs[i]? = some x) (tn := fun i h => (∃ old, IsEnum h e it ((i : Nat) : Int) old) ∧ h.IsTupleIter it a i ∧ e ≠ it) I hf (Draws.tuple (show X.A.in1.handled = none from I.ok.hd hc) it a h1 its.toArray) he ⟨hit, ht⟩ ?_ hne (by simp [hne, Ne.symm h2]) (fun u' hu' => ⟨x, ?_, fun ys hy => by rw [I.tuple_inj hy hq]; exact hx⟩) fun h' u' he' st' => ⟨⟨u', he'⟩, st'.1, hne⟩
    · have := (List.getElem?_eq_some_iff.mp hu).1
      simpa using this
    · have e1 : its[i]? = some u' := by simpa using hu'
      rw [hu] at e1
      cases e1
      exact ru
  done := by
    intro X hP hw hK hc i pins s σ H E I hf st hg
    subst hP hw hK
    obtain ⟨⟨old, he⟩, hit, hne⟩ := st
    obtain ⟨xs, hq, hx⟩ := hg
    obtain ⟨its, rv, p, hz⟩ := I.tuple hq
    obtain ⟨f0, f1, f2, f3, f4, f5⟩ := hf it (by simp)
    have hl := rv.length
    obtain ⟨oi, hoi, _, hdi⟩ := id hit
    have ht : s.heap.IsTuple a its.toArray := p
    have hn : i = its.toArray.size := by simp; omega
    subst hn
    exact wpAny_pyNext_enum_endD (Draws.tuple (show X.A.in1.handled = none from I.ok.hd hc) it a (tup_ne ht hoi hdi) its.toArray) he ⟨hit, ht⟩ fun h' eb => ⟨rfl, I.turned (t' := s.toks) (fun b o hb q => eb b o hb q) f0 f1 f3 f4 f5⟩
  self := fun A i s Q E ⟨⟨_, he⟩, _⟩ h => wpAny_pyIter_enum he h
/-! ### over a text -/
def Ites (z : Str) : It := Itn (fun i _ => i < z.cps.size) (fun i _ x => ∃ c, z.cps[i]? = some c ∧ x = .str ⟨#[c]⟩) (fun i _ => z.cps.size = i)
theorem turn_enumS {P : Program} {w : World} {K : PySem.W.Frag} {elts : List Expr} {kk : Nat} {tpos : Pos} (z : Str) (t : Tok) (e it : Addr) :
    Turn P w K (.Tuple elts kk tpos) (Ites z) [e, it] e (fun i h => (∃ old, IsEnum h e it ((i : Nat) : Int) old) ∧ h.IsStrIter it (strIterType z) z t i ∧ e ≠ it) where
  mem := List.mem_cons_self ..
  obj := fun i h ⟨⟨old, he⟩, ⟨o, ho, _, hd⟩, _⟩ => enum_obj he ho hd
  keep := fun i h h' ⟨⟨old, he⟩, ⟨o, ho, r⟩, hne⟩ k => ⟨⟨old, k e (List.mem_cons_self ..) _ he⟩, ⟨o, k it (by simp) o ho, r⟩, hne⟩
  item := by
    intro X hP hw hK hc i pins s σ H E I hf st hg
    subst hP hw hK
    obtain ⟨⟨old, he⟩, hit, hne⟩ := st
    refine enum_turn (n := z.cps.size) (is := fun i _ x => ∃ c, z.cps[i]? = some c ∧ x = .str ⟨#[c]⟩) (tn := fun i h => (∃ old, IsEnum h e it ((i : Nat) : Int) old) ∧ h.IsStrIter it (strIterType z) z t i ∧ e ≠ it) I hf (Draws.text (show X.A.in1.handled = none from I.ok.hd hc) it z t) he hit hg hne (by simp [hne])
      (fun u' hu' => ?_) fun h' u' he' st' => ⟨⟨u', he'⟩, st', hne⟩
    obtain ⟨c, tk, e1, rfl⟩ := hu'
    exact ⟨.str ⟨#[c]⟩, ⟨tk, rfl⟩, c, e1, rfl⟩
  done := by
    intro X hP hw hK hc i pins s σ H E I hf st hg
    subst hP hw hK
    obtain ⟨⟨old, he⟩, hit, hne⟩ := st
    obtain ⟨f0, f1, f2, f3, f4, f5⟩ := hf it (by simp)
    have hn : z.cps.size = i := hg
    subst hn
    exact wpAny_pyNext_enum_endD (Draws.text (show X.A.in1.handled = none from I.ok.hd hc) it z t) he hit fun h' eb => ⟨rfl, I.turned (t' := s.toks) (fun b o hb q => eb b o hb q) f0 f1 f3 f4 f5⟩
  self := fun A i s Q E ⟨⟨_, he⟩, _⟩ h => wpAny_pyIter_enum he h
/-! ### the rules -/
section
variable {X : Cx} {e : Expr} {te : TE} {p pos tpos : Pos} {elts : List Expr} {kk : Nat}
theorem new_pair {pins : List (Addr × Obj)} {σ : L2.St} {H : Hp} {s : Shared} (I : Inv X pins σ H s) : ∀ b ∈ [s.heap.objs.size + 1, s.heap.objs.size], FpOk X pins H b := fun b hb => by
  have hle : s.heap.objs.size ≤ b := by
    rcases List.mem_cons.mp hb with z | z
    · rw [z]; exact Nat.le_succ _
    · rw [List.mem_singleton.mp z]; exact Nat.le_refl _
  exact I.fpOk hle (I.hok.fresh hle)
def iEnT (K : PySem.W.Frag) (ta : TA) : TI := fun σ H R => ta σ H fun vs H1 => ∃ a xs, vs = [.ref a] ∧ SqT K H1 a xs ∧ R (Itet K a) H1
def iEnS (ta : TA) : TI := fun σ H R => ta σ H fun vs H1 => ∃ z, vs = [.str z] ∧ R (Ites z) H1
theorem pi_enumT {ta : TA} (hg : Gl X "enumerate") (hm : X.mg "enumerate" = none) (ha : PA X [e] ta) (hs : starEach [e] X.env = [(false, eval e X.env)] := by rfl) : PI X (.Tuple elts kk tpos) (.Call (.Name "enumerate" p) [e] [] pos) (iEnT X.K ta) := by
  refine ⟨fun pins s σ H R I h => Call_ (ld_blt I hg hm boot_enumerate (PyProof.Rows.callWith_type1 (thn (ha.run pos pins s σ H _ I h) fun us s1 ⟨vs, H1, I1, r1, a, xs, ev, hq, q⟩ => ?_) hs rfl))⟩
  subst ev
  obtain ⟨u, rfl, ru⟩ := vals1 r1
  cases (show u = Value.ref a from ru)
  obtain ⟨its, rv, p', hz⟩ := I1.tuple hq
  refine enum_call (begins_tuple a its.toArray) p' fun h' he hit hk => wpAny_pyIter_enum he ?_
  exact ⟨s1.heap.objs.size + 1, [s1.heap.objs.size + 1, s1.heap.objs.size], _, _, H1, rfl, I1.kept (t' := s1.toks) hk, turn_enumT a _ _, ⟨⟨.none, he⟩, ⟨_, hit, rfl, rfl⟩, Nat.succ_ne_self _⟩, new_pair I1, q⟩
theorem pi_enumS {ta : TA} (hg : Gl X "enumerate") (hm : X.mg "enumerate" = none) (ha : PA X [e] ta) (hs : starEach [e] X.env = [(false, eval e X.env)] := by rfl) : PI X (.Tuple elts kk tpos) (.Call (.Name "enumerate" p) [e] [] pos) (iEnS ta) := by
  refine ⟨fun pins s σ H R I h => Call_ (ld_blt I hg hm boot_enumerate (PyProof.Rows.callWith_type1 (thn (ha.run pos pins s σ H _ I h) fun us s1 ⟨vs, H1, I1, r1, z, ev, q⟩ => ?_) hs rfl))⟩
  subst ev
  obtain ⟨u, rfl, t, rfl⟩ := vals1 r1
  refine enum_call (begins_text z t) trivial fun h' he hit hk => wpAny_pyIter_enum he ?_
  exact ⟨s1.heap.objs.size + 1, [s1.heap.objs.size + 1, s1.heap.objs.size], _, _, H1, rfl, I1.kept (t' := s1.toks) hk, turn_enumS z t _ _, ⟨⟨.none, he⟩, ⟨_, hit, rfl, rfl⟩, Nat.succ_ne_self _⟩, new_pair I1, q⟩
end
/-! ### at data -/
def enumD (xs : List D) : List D := xs.zipIdx.map fun p => D.tup [.int (p.2 : Nat), p.1]
def iEn (f : ES) : IS := fun rho mu => match f rho mu with
  | some (.ok d, mu1) => match srcV d mu1 with
    | some (xs, g) => some (.ok (enumD xs) g, mu1)
    | none => none
  | some (.ex C fs, mu1) => some (.ex C fs, mu1)
  | none => none
theorem enumD_length (xs : List D) : (enumD xs).length = xs.length := by simp [enumD]
theorem enumD_get (xs : List D) (i : Nat) : (enumD xs)[i]? = xs[i]?.map fun x => D.tup [.int (i : Nat), x] := by
  unfold enumD
  rw [List.getElem?_map, List.getElem?_zipIdx]
  cases xs[i]? <;> simp
/-- the new pair as a datum -/
theorem pair_rp {K : PySem.W.Frag} {al : List Addr} {H : Hp} {Tt : Addr} {i : Nat} {x : V} {d : D} (hn : H Tt = none) (r : Rp K al H d x) : Rp K al (upd H Tt (.tup [.int (i : Nat), x])) (.tup [.int (i : Nat), d]) (.ref Tt) :=
  rp_tup.mpr ⟨Tt, _, rfl, SqT.of upd_same, rps_two.mpr ⟨_, _, rfl, rp_int.mpr rfl, Rp.mono (Kp.new hn) (Gr.refl _) _ _ r⟩⟩
section
variable {K : PySem.W.Frag} {T : Tb} {a : Addr} {al : List Addr} {H : Hp} {xs : List D} {ys : List V}
theorem wk_enT (q : SqT K H a ys) (r : Rps K al H xs ys) : WkD K T (Itet K a) al H (enumD xs) none := by
  refine ⟨fun H => SqT K H a ys, fun i H v H' => ∃ Tt x, v = .ref Tt ∧ H Tt = none ∧ H' = upd H Tt (.tup [.int (i : Nat), x]) ∧ ys[i]? = some x, ⟨fun i H hi q => ?_, fun H q => ⟨ys, q, by rw [enumD_length, r.length]⟩, fun i H x H' hi q ⟨Tt, x', e1, e2, e3, e4⟩ => ⟨Tt, x', e1, e2, e3, e4 ys q⟩⟩, fun al2 mu2 H2 _ k _ _ => SqT.kp k q, ?_⟩
  · rw [enumD_length, ← r.length] at hi
    exact ⟨ys, ys[i], q, by simp [hi]⟩
  · rintro i al2 mu2 H2 v H3 hi g k sr _ ⟨Tt, x, rfl, hn, rfl, e⟩
    refine ⟨same_new hn, ?_⟩
    have hi' : i < xs.length := by rw [enumD_length] at hi; exact hi
    obtain ⟨v, h1, h2⟩ := r.get (d := xs[i]) (i := i) (by simp [hi'])
    rw [e] at h1; cases h1
    exact ⟨_, by rw [enumD_get, List.getElem?_eq_getElem hi']; rfl, pair_rp hn (Rp.mono k g _ _ h2)⟩
theorem wk_enS {z : Str} : WkD K T (Ites z) al H (enumD (z.cps.toList.map fun c => D.str ⟨#[c]⟩)) none := by
  have hl : (enumD (z.cps.toList.map fun c => D.str ⟨#[c]⟩)).length = z.cps.size := by rw [enumD_length, List.length_map, Array.length_toList]
  refine ⟨fun _ => True, fun i H v H' => ∃ Tt x, v = .ref Tt ∧ H Tt = none ∧ H' = upd H Tt (.tup [.int (i : Nat), x]) ∧ ∃ c, z.cps[i]? = some c ∧ x = .str ⟨#[c]⟩, ⟨fun i H hi _ => by rw [hl] at hi; exact hi, fun H _ => hl.symm, fun i H x H' hi _ y => y⟩, fun _ _ _ _ _ _ _ => trivial, ?_⟩
  rintro i al2 mu2 H2 v H3 hi g k sr _ ⟨Tt, x, rfl, hn, rfl, c, e, rfl⟩
  exact ⟨same_new hn, _, by rw [enumD_get, List.getElem?_map, Array.getElem?_toList, e]; rfl, pair_rp hn (rp_str.mpr rfl)⟩
theorem wk_enL (q : FzL K H a ys) (r : Rps K al H xs ys) : WkD K T (Ite K a) al H (enumD xs) none := by
  refine ⟨fun H => SqL K H a ys, _, by rw [enumD_length, ← r.length]; exact walk_enum, fun al2 mu2 H2 _ k _ _ => (q.kp k).sq, ?_⟩
  rintro i al2 mu2 H2 v H3 hi g k sr _ ⟨Tt, x, y, rfl, hn, rfl, e1, e⟩
  cases e1
  refine ⟨same_new hn, ?_⟩
  have hi' : i < xs.length := by rw [enumD_length] at hi; exact hi
  obtain ⟨v, h1, h2⟩ := r.get (d := xs[i]) (i := i) (by simp [hi'])
  have e' : ys[i]? = some y := e
  rw [e'] at h1; cases h1
  exact ⟨_, by rw [enumD_get, List.getElem?_eq_getElem hi']; rfl, pair_rp hn (Rp.mono k g _ _ h2)⟩
theorem wk_enC {j : Nat} (ea : al[j]? = some a) : WkD K T (Ite K a) al H (enumD xs) (some (j, xs)) := by
  refine ⟨fun H => ∃ ys, H a = some (.lst ys) ∧ ys.length = xs.length, fun i H v H' => ∃ Tt x, v = .ref Tt ∧ H Tt = none ∧ H' = upd H Tt (.tup [.int (i : Nat), x]) ∧ ∀ ys, H a = some (.lst ys) → ys[i]? = some x, ⟨fun i H hi ⟨ys, q, e⟩ => ?_, fun H ⟨ys, q, e⟩ => ⟨ys, SqL.of q, by rw [enumD_length]; omega⟩, ?_⟩, ?_, ?_⟩
  · rw [enumD_length] at hi
    exact ⟨ys, ys[i]'(by omega), SqL.of q, by simp [show i < ys.length by omega]⟩
  · rintro i H v H' hi ⟨ys, q, e⟩ ⟨Tt, x, h1, h2, h3, h4⟩
    exact ⟨Tt, x, h1, h2, h3, fun zs hz => h4 zs (SqL.of hz)⟩
  · intro al2 mu2 H2 g k sr hg
    obtain ⟨vs, e2, r2⟩ := sr.ok _ _ a hg (g _ _ ea)
    exact ⟨vs, e2, r2.length⟩
  · rintro i al2 mu2 H2 v H3 hi g k sr hg ⟨Tt, x, rfl, hn, rfl, y⟩
    obtain ⟨vs, e2, r2⟩ := sr.ok _ _ a hg (g _ _ ea)
    have e := y vs e2
    have hi' : i < xs.length := by rw [enumD_length] at hi; exact hi
    obtain ⟨v, h1, h2⟩ := r2.get (d := xs[i]) (i := i) (by simp [hi'])
    rw [e] at h1; cases h1
    exact ⟨same_new hn, _, by rw [enumD_get, List.getElem?_eq_getElem hi']; rfl, pair_rp hn h2⟩
end
theorem si_enum {T : Tb} {X : Cx} {e : Expr} {f : ES} {p pos tpos : Pos} {elts : List Expr} {kk : Nat} (hm : X.mg "enumerate" = none) (h : SE T X e f) (hg : Gl X "enumerate" := by rfl) (hs : starEach [e] X.env = [(false, eval e X.env)] := by rfl) :
    SI T X (.Tuple elts kk tpos) (.Call (.Name "enumerate" p) [e] [] pos) (iEn f) := fun W z => by
  have pa := pa_cons (h W z) pa_nil hs
  refine PI.weak (PI.or (pi_enumT hg hm pa hs) (PI.or (pi_enum hg hm pa hs) (pi_enumS hg hm pa hs))) fun s H R ⟨al, rho, mu, sl, sr, w⟩ => ?_
  unfold iEn at w
  match q : f rho mu with
  | none => rw [q] at w; exact w.elim
  | some (.ex C fs, mu1) =>
    rw [q] at w
    exact .inl ⟨al, rho, mu, sl, sr, by rw [q]; exact fun al' H' dd vs g k sr' e r => w al' H' dd vs g k sr' e r⟩
  | some (.ok d, mu1) =>
    rw [q] at w
    dsimp only at w
    have fin : ∀ {P : VK}, (∀ al' v H', Gr al al' → Kp H H' → SR X.K T al' mu1 H' → Rp X.K al' H' d v → P v H') → rdE X.K T W f s H P := fun {P} h => ⟨al, rho, mu, sl, sr, by rw [q]; exact h⟩
    match hd : srcV d mu1 with
    | none => rw [hd] at w; exact w.elim
    | some (xs, g) =>
      rw [hd] at w
      unfold srcV at hd
      split at hd
      · cases hd
        exact .inl (fin fun al' v H' g k sr' r => by
          obtain ⟨a, ys, rfl, q, r2⟩ := rp_tup.mp r
          exact ⟨a, ys, rfl, q, w _ al' H' g k sr' (wk_enT q r2)⟩)
      · cases hd
        exact .inr (.inl (fin fun al' v H' g k sr' r => by
          obtain ⟨a, ys, rfl, q, r2⟩ := rp_fl.mp r
          exact ⟨a, ys, rfl, q.sq, w _ al' H' g k sr' (wk_enL q r2)⟩))
      · cases hd
        exact .inr (.inr (fin fun al' v H' g k sr' r => by
          cases rp_str.mp r
          exact ⟨_, rfl, w _ al' H' g k sr' wk_enS⟩))
      · split at hd
        · rename_i em
          cases hd
          exact .inr (.inl (fin fun al' v H' g k sr' r => by
            obtain ⟨a, ys, rfl, ea, q, r2⟩ := cel_lst sr' r em
            exact ⟨a, ys, rfl, SqL.of q, w _ al' H' g k sr' (wk_enC ea)⟩))
        · cases hd
      · cases hd
end DL
set_option Elab.async false
set_option linter.all false
set_option autoImplicit false
set_option maxRecDepth 100000
set_option maxHeartbeats 4000000
/-! DL10: exceptions: raised, caught and held, asked. -/
/-! ### isinstance of a held exception -/
namespace DLX
open PySem PySem.Spec PySem.W PySem.Calls PyProof.Rows
section
variable {prog : Program} {w : World} {A : Around} {E : Value → Shared → Prop} {s : Shared} {K : Frag} {x D : Addr} {ox : Obj} {od : Obj}
/-- x.__class__ for an own exception with fields -/
theorem exc_class {Q : Option Value → Shared → Prop} (c : L2.ExcC K D) (kin : K.In s.heap) (J : InstAt s.heap x ox D (some od)) (q : Q (some (.ref D)) { s with toks := s.toks + 1 }) :
    wpAny (model prog w) A (getAttr? (.ref x) "__class__") Q E s := by
  obtain ⟨gt, gn, su, di, ca, cn, ct, cm⟩ := c
  have fo : findObj K D (some od) "__class__" = some (.bind (.builtin "getset_descriptor.__get__") (.builtin "object.__class__")) := findObj_data (by obtain ⟨cd, e, _⟩ := any_some di; rw [e]; rfl) ca cn ct
  obtain ⟨hp, gs, dr, tk, os⟩ := s
  have T0 := J.type (M := model prog w)
  have T1 := looks_findIn (M := model prog w) kin gt
  have T2 := looks_findIn (M := model prog w) kin gn
  have T3 := looks_find (M := model prog w) kin J fo
  have ins : Looks (model prog w) hp (isInstance (.ref x) (.type "BaseException")) true := T0.andThen (looks_subIn kin su)
  have n0 : (Value.builtin "BaseException.__getattribute__" == Value.builtin "object.__getattribute__") = false := by decide +kernel
  have n1 : (onTheHeap (Value.ref D) && Value.builtin "BaseException.__getattribute__" == Value.builtin "object.__getattribute__") = false := by rw [n0]; rfl
  have n2 : (false && onTheHeap (Value.builtin "BaseException.__getattribute__")) = false := rfl
  unfold getAttr? getAttrBy? getAttrBy
  refine wpAny_bind (wpAny_mkText (wpAny_bind (wpAny_attempt (wpAny_holding (wpAny_bind (T0.at (wpAny_bind (T1.at ?_))))))))
  show wpAny _ _ (if (onTheHeap (Value.ref D) && Value.builtin "BaseException.__getattribute__" == Value.builtin "object.__getattribute__") = true then _ else _) _ _ (_ : Shared)
  rw [n1, if_neg Bool.false_ne_true]
  unfold getAttrByItsOwn hookBefore
  refine wpAny_bind ?_
  rw [if_pos (show onTheHeap (Value.ref D) = true by rfl)]
  refine T2.at (wpAny_bind (wpAny_attempt (wpAny_holding ?_)))
  unfold callGetattribute
  rw [n2, if_neg Bool.false_ne_true]
  unfold boundAndCalled
  rw [PySem.F.excAttr_ValueError.ga.bind (.ref x)]
  refine wpAny_bind (wpAny_pure ?_)
  show wpAny _ _ (call (.builtin "BaseException.__getattribute__") [.ref x, .str "__class__" tk]) _ _ (_ : Shared)
  refine wpAny_call (codeAny_call_builtin PySem.F.excAttr_ValueError.ga.plain PySem.F.entry_bexc_ga ?_)
  refine @check_slot (model prog w) _ _ ⟨hp, gs, dr, tk + 1, os⟩ "BaseException.__getattribute__" "BaseException" "__getattribute__" (.ref x) [.str "__class__" tk] [] _ (by decide +kernel) (by decide +kernel) ins (PySem.F.args_bexc_ga (.ref x) (.str "__class__" tk)) ?_
  unfold Builtin.«object.__getattribute__»
  refine wpAny_bind (wpAny_of_eq (a := ((Value.ref x : Value), [Value.str "__class__" tk])) (by first | rfl | (simp only [slotArgs]; rfl)) ?_)
  refine wpAny_bind (wpAny_pure (wpAny_bind (T0.at (wpAny_bind (T3.at ?_)))))
  show wpAny _ _ (holding [Value.builtin "object.__class__"] (call (.builtin "getset_descriptor.__get__") [.builtin "object.__class__", .ref x, .ref D]) >>= ret) _ _ (_ : Shared)
  refine wpAny_bind (wpAny_holding (wpAny_call (class_get (s := ⟨hp, gs, dr, tk + 1, os⟩) (ox := ox) (od := some od) kin J cm (wpAny_pure ?_))))
  show wpAny _ _ (handedOut (.ref D)) _ _ (_ : Shared)
  rw [handedOut_of (v := .ref D) rfl]
  first
    | exact wpAny_pure (wpAny_pure q)
    | exact wpAny_pure q
    | exact wpAny_pure (wpAny_bind (wpAny_pure (wpAny_pure q)))
theorem kitx_held (c : L2.ExcC K D) : KitX K (.ref x) (.ref D) (fun h => ∃ ox od, InstAt h x ox D (some od)) where
  ty := fun _ _ _ ⟨_, _, I⟩ => I.type
  it := fun _ _ X _ => by
    obtain ⟨cd, e, _⟩ := any_some c.hd
    unfold clsIn at e
    split at e
    · rename_i _ _ _ _ ho
      intro A' Q' E' s' k q
      unfold isType loadHead
      exact wpAny_bind (wpAny_loadPart (k _ _ (X _ _ ho)) (wpAny_pure q))
    · cases e
  ne := fun h tp dd its n sl X htp => by
    obtain ⟨cd, e, _⟩ := any_some c.hd
    refine Bool.eq_false_iff.mpr fun q => ?_
    have z : D = tp := Value.ref.inj (beq_iff_eq.mp q)
    subst z
    unfold clsIn at e
    split at e
    · rename_i _ _ _ _ ho
      have z := (X _ _ ho).symm.trans htp
      cases z
    · cases e
  ca := fun X ⟨_, _, I⟩ k => exc_class c X I k
end
end DLX
namespace DL
open PySem PySem.Spec PyProof.Rows L2
/-! ### a new address is tracked -/
theorem _root_.L2.Inv.track {X : Cx} {pins : List (Addr × Obj)} {s1 s2 : L2.St} {H : Hp} {sI s : Shared} {a : Addr} {o : HO} (J : Inv X pins s1 H sI) (I : Inv X pins s2 H s) (hn : sI.heap.get? a = none) (na : H a = none) (ok : ObjOk X.prog X.w (upd H a o) s.heap a o) : Inv X pins s2 (upd H a o) s := by
  have ne : ∀ {b : Addr} {u : Obj}, sI.heap.get? b = some u → b ≠ a := fun e z => by rw [z, hn] at e; cases e
  have neL : X.env.locals ≠ a := by
    obtain ⟨m, ⟨o, _, _, e, _⟩, _⟩ := J.loc
    exact ne e
  have neC : ∀ x c, X.env.cells.lookup x = some c → c ≠ a := fun x c e => by
    obtain ⟨v, z⟩ := J.cell x c e
    obtain ⟨o, z1, _⟩ := z
    exact ne z1
  refine ⟨I.ok, I.os, I.bare, ⟨I.base.keep, I.base.slot, fun b u e n hx => ?_, I.base.there, fun b xs e => ?_, fun b u xs e => ?_, fun b ps e => ?_⟩, I.loc, I.cell, by rw [upd_ne neL]; exact I.free, fun x c e => by rw [upd_ne (neC x c e)]; exact I.freeC x c e, fun p hp => ?_, fun b u e => ?_, I.len⟩
  · obtain ⟨u', e'⟩ := J.base.there b u e hx
    rw [upd_ne (ne e')]; exact I.base.free b u e n hx
  · have z := I.base.tups b xs e
    rw [upd_ne (ne_of_none z na)]; exact z
  · have z := I.base.frzs b u xs e
    rw [upd_ne (ne_of_none z na)]; exact z
  · obtain ⟨more, z⟩ := I.base.tbls b ps e
    exact ⟨more, by rw [upd_ne (ne_of_none z na)]; exact z⟩
  · obtain ⟨e, n, nl, nf, d⟩ := I.pin p hp
    exact ⟨e, by rw [upd_ne (ne (J.pin p hp).1)]; exact n, nl, nf, d⟩
  · by_cases hb : b = a
    · subst hb
      rw [upd_same] at e
      cases e
      exact ok
    · rw [upd_ne hb] at e
      exact (I.hok b u e).stay (fun c v _ q => q) (fun c q => by rw [upd_ne (ne_of_none q na)]; exact q) fun c xs q => by rw [upd_ne (ne_of_none q na)]; exact q
theorem exH_ok {P : Program} {w : World} {H : Hp} {h : Heap} {a C dd : Addr} {oe : Obj} {vs : Array Value} (e : h.get? a = some oe) (z : Zc (.ref C) (some dd) oe) (d : oe.data = .fields vs) : ObjOk P w H h a (ExH a C dd) :=
  ⟨⟨oe, vs, e, z.1, z.2, d⟩, ⟨_, e⟩, fun h1 h2 ⟨o, v, e1, e2, e3, e4⟩ k => ⟨o, v, k _ e1, e2, e3, e4⟩⟩
/-! ### the test of a clause -/
/-- the clause's expression t catches what f says -/
def Tst (X : Cx) (t : Expr) (f : Addr → Option Bool) : Prop := ∀ (a : Addr) (oe : Obj) (pn : List (Addr × Obj)) (st : L2.St) (H : Hp) (s : Shared) (C : Addr) (b : Bool) (Q : Bool → Shared → Prop) (E : Value → Shared → Prop), Inv (X.suite a ((a, oe) :: pn)) [] st H s → s.heap.get? a = some oe → oe.cls = .ref C → f C = some b →
  (∀ h', (h' = s.heap ∨ ∃ o, o.isFreed = false ∧ h' = s.heap.push o) → Q b { s with heap := h' }) → wpAny (model X.prog X.w) (X.A.mark (some (.ref a))) (eval t X.env) (fun c s1 => wpAny (model X.prog X.w) (X.A.mark (some (.ref a))) (excMatches (.ref a) c) Q E s1) E s
theorem tst_name {X : Cx} {x : Str} {c : Value} {f : Addr → Option Bool} {np : Pos} (hc : Names X x c) (hf : ∀ C b, f C = some b → PySem.W.exmOne X.K (.ref C) c = some b) : Tst X (.Name x np) f := fun a oe pn st H s C b Q E I ea ec ef q => by
  have LT : PySem.W.Looks (model X.prog X.w) s.heap (typeOf (.ref a)) (.ref C) := fun A Q E s k q => wpAny_typeOf_ref (k _ _ ea) (by rw [ec]; exact q)
  have LM := PySem.W.exm_one (M := model X.prog X.w) I.kIn LT (hf C b ef)
  obtain ⟨hg, hdbg, hm | ⟨hm, hv, hnn⟩⟩ := hc
  · exact ld_glob (X := X.suite a ((a, oe) :: pn)) I hg hm (LM.here (q _ (.inl rfl))) hdbg
  · exact ld_blt (X := X.suite a ((a, oe) :: pn)) I hg hm hv (LM.here (q _ (.inl rfl))) hnn hdbg
theorem tst_tup2 {X : Cx} {x1 x2 : Str} {c1 c2 : Addr} {f : Addr → Option Bool} {k : Nat} {p1 p2 tp : Pos} (h1 : Gl X x1) (h2 : Gl X x2) (m1 : X.mg x1 = some (.ref c1)) (m2 : X.mg x2 = some (.ref c2)) (hf : ∀ C b, f C = some b → PySem.W.exmAny X.K (.ref C) [.ref c1, .ref c2] = some b)
    (d1 : (x1 == ("__debug__" : Str)) = false := by decide) (d2 : (x2 == ("__debug__" : Str)) = false := by decide)
    (he : starEach [.Name x1 p1, .Name x2 p2] X.env = [(false, eval (.Name x1 p1) X.env), (false, eval (.Name x2 p2) X.env)] := by rfl) : Tst X (.Tuple [.Name x1 p1, .Name x2 p2] k tp) f := fun a oe pn st H s C b Q E I ea ec ef q => by
  have LT : PySem.W.Looks (model X.prog X.w) s.heap (typeOf (.ref a)) (.ref C) := fun A Q E s k q => wpAny_typeOf_ref (k _ _ ea) (by rw [ec]; exact q)
  refine wpAny_Tuple_spliced ?_
  rw [he]
  refine Calls.spliced_cons (ld_glob (X := X.suite a ((a, oe) :: pn)) I h1 m1 (Calls.spliced_cons (ld_glob (X := X.suite a ((a, oe) :: pn)) I h2 m2 (Calls.spliced_nil ?_) d2)) d1)
  have kk : ∀ b o, s.heap.get? b = some o → (s.heap.push { cls := .type "tuple", data := .seq [Value.ref c1, Value.ref c2].toArray }).get? b = some o := fun b o e => Heap.get?_push_of_some _ e
  exact ⟨by show 2 ≤ sizeLine; rw [sizeLine_eq]; omega, (PySem.W.exm_tup2 (M := model X.prog X.w) (I.kIn.keeps kk) (LT.keeps kk) (Heap.get?_push_size _ rfl) (hf C b ef)).here (q _ (.inr ⟨_, rfl, rfl⟩))⟩
theorem tst_tup3 {X : Cx} {x1 x2 x3 : Str} {c1 c2 c3 : Addr} {f : Addr → Option Bool} {k : Nat} {p1 p2 p3 tp : Pos} (h1 : Gl X x1) (h2 : Gl X x2) (h3 : Gl X x3) (m1 : X.mg x1 = some (.ref c1)) (m2 : X.mg x2 = some (.ref c2)) (m3 : X.mg x3 = some (.ref c3)) (hf : ∀ C b, f C = some b → PySem.W.exmAny X.K (.ref C) [.ref c1, .ref c2, .ref c3] = some b)
    (d1 : (x1 == ("__debug__" : Str)) = false := by decide) (d2 : (x2 == ("__debug__" : Str)) = false := by decide) (d3 : (x3 == ("__debug__" : Str)) = false := by decide)
    (he : starEach [.Name x1 p1, .Name x2 p2, .Name x3 p3] X.env = [(false, eval (.Name x1 p1) X.env), (false, eval (.Name x2 p2) X.env), (false, eval (.Name x3 p3) X.env)] := by rfl) : Tst X (.Tuple [.Name x1 p1, .Name x2 p2, .Name x3 p3] k tp) f := fun a oe pn st H s C b Q E I ea ec ef q => by
  have LT : PySem.W.Looks (model X.prog X.w) s.heap (typeOf (.ref a)) (.ref C) := fun A Q E s k q => wpAny_typeOf_ref (k _ _ ea) (by rw [ec]; exact q)
  refine wpAny_Tuple_spliced ?_
  rw [he]
  refine Calls.spliced_cons (ld_glob (X := X.suite a ((a, oe) :: pn)) I h1 m1 (Calls.spliced_cons (ld_glob (X := X.suite a ((a, oe) :: pn)) I h2 m2 (Calls.spliced_cons (ld_glob (X := X.suite a ((a, oe) :: pn)) I h3 m3 (Calls.spliced_nil ?_) d3)) d2)) d1)
  have kk : ∀ b o, s.heap.get? b = some o → (s.heap.push { cls := .type "tuple", data := .seq [Value.ref c1, Value.ref c2, Value.ref c3].toArray }).get? b = some o := fun b o e => Heap.get?_push_of_some _ e
  exact ⟨by show 3 ≤ sizeLine; rw [sizeLine_eq]; omega, (PySem.W.exm_tup3 (M := model X.prog X.w) (I.kIn.keeps kk) (LT.keeps kk) (Heap.get?_push_size _ rfl) (hf C b ef)).here (q _ (.inr ⟨_, rfl, rfl⟩))⟩
end DL
set_option Elab.async false
set_option linter.all false
set_option autoImplicit false
set_option maxRecDepth 100000
set_option maxHeartbeats 4000000
/-! DL11: try .. except .. as e: y = e; isinstance and fields of what was caught. -/
namespace DL
open PySem PySem.Spec PyProof.Rows L2
theorem stays_push {h h' : Heap} {B : Heap} (st : B.StaysIn h) (k : ∀ b o, h.get? b = some o → h'.get? b = some o) : B.StaysIn h' := fun b o e => k b o (st b o e)
theorem fly_push {B h h' : Heap} {l : List Env} {a : Addr} {Z : Obj → Prop} (f : HandSPX.FlyingZ B l a Z h) (k : ∀ b o, h.get? b = some o → h'.get? b = some o) : HandSPX.FlyingZ B l a Z h' := by
  obtain ⟨k1, k2, k3, oe, vs, T, oT, ts, he, hz, hd, h1, hnT, hTe, hT, hdT, h3⟩ := f
  exact ⟨stays_push k1 k, k2, k3.of_keeps fun b o e _ => ⟨o, k b o e, rfl⟩, oe, vs, T, oT, ts, k _ _ he, hz, hd, h1, hnT, hTe, k _ _ hT, hdT, h3⟩
theorem upto_push {g h h' : Heap} (u : g.UpToSlots h) (k : ∀ b o, h.get? b = some o → h'.get? b = some o) : g.UpToSlots h' := fun b o e n => by
  obtain ⟨sl, q⟩ := u b o e n
  exact ⟨sl, k _ _ q⟩
theorem push_keep {h h' : Heap} (q : h' = h ∨ ∃ o, o.isFreed = false ∧ h' = h.push o) : ∀ b o, h.get? b = some o → h'.get? b = some o := by
  rcases q with rfl | ⟨o, _, rfl⟩
  · exact fun _ _ e => e
  · exact fun b u e => Heap.get?_push_of_some _ e
/-- what is caught is kept -/
def sTryK (i j : Nat) (f : Addr → Option Bool) (m : SS) : SS := fun rho mu => match m rho mu with
  | some (.ex C fs, rho1, mu1) => match f C with
    | some true => some (.nx, ((rho1.set i none).set j (some (.cel mu1.length))), mu1 ++ [.exc C fs])
    | some false => some (.ex C fs, rho1, mu1)
    | none => none
  | o => o
theorem SL.unset {K : PySem.W.Frag} {al : List Addr} {H : Hp} {rho : Rho} {s : L2.St} (h : SL K al H rho s) (i : Nat) : SL K al H (rho.set i none) (s.set i none) := by
  refine ⟨by simp [h.len], fun k d e => ?_⟩
  by_cases hk : k = i
  · subst hk
    by_cases hl : k < rho.length
    · rw [List.getElem?_set_self hl] at e; cases e
    · rw [List.getElem?_eq_none (by simpa using hl)] at e; cases e
  · rw [List.getElem?_set_ne (Ne.symm hk)] at e
    obtain ⟨v, e1, e2⟩ := h.ok k d e
    exact ⟨v, by rw [List.getElem?_set_ne (Ne.symm hk)]; exact e1, e2⟩
section
variable {T : Tb} {X : Cx} {pos pos' sp np np' : Pos} {t : Expr} {body : List Stmt} {m : SS} {f : Addr → Option Bool} {n y : Str} {i j : Nat}
theorem st_tryK (hs : X.stack = X.env :: X.outer) (hf : X.env.frame = some X.env.locals) (hN : X.N.Nodup) (hi : X.N[i]? = some n) (hj : X.N[j]? = some y) (hln : X.env.kindOf n = some .local) (hly : X.env.kindOf y = some .local) (hij : j ≠ i) (ht : Tst X t f)
    (hb : ∀ (pn : List (Addr × Obj)) (xe : Value → Shared → Prop), STs T (X.tr pn xe) body m) (hd1 : (n == ("__debug__" : Str)) = false := by decide) (hd2 : (n == ("__classdict__" : Str)) = false := by decide) (hsw : swapsWith (.Name n np') (some (.Name y np)) sp.line X.env = pure false := by rfl) :
    ST T X (.Try body [.ExceptHandler (some t) (some n) [.Assign [.Name y np] (.Name n np') sp] pos'] [] [] pos) (sTryK i j f m) := fun W z ps => by
  refine ⟨fun pins s0 s H De I h => ?_⟩
  obtain ⟨al, rho, mu, sl, sr, w⟩ := h
  have ok := I.ok
  have hfr : X.A.frames = some (X.env :: X.outer) := by rw [ok.frames, hs]
  have hloc : Loc X.env.scope n := .inl hln
  -- the wish for the body
  let Wb : WX := fun cls d s' H' => ∃ C dd vs rho1 mu1 fs al', cls = .ref C ∧ d = some dd ∧ Gr al al' ∧ Kp H H' ∧ SL X.K al' H' rho1 s' ∧ SR X.K T al' mu1 H' ∧ H' dd = some (.xd vs) ∧ RpA X.K al' H' fs vs ∧ m rho mu = some (.ex C fs, rho1, mu1)
  refine wpAny_Try_except ?_
  have hz : ∀ xe, Takes (X.tr (X.pn ++ pins) xe) Wb → Cz (X.tr (X.pn ++ pins) xe) Wb := fun xe tk => ⟨tk, z.gd⟩
  have run := fun xe tk po => (hb (X.pn ++ pins) xe Wb (hz xe tk) po).run [] s0 s H De (I.toTry xe)
  have rd : rdS X.K T Wb m De s H := by
    refine ⟨al, rho, mu, sl, sr, ?_⟩
    unfold sTryK at w
    match q : m rho mu with
    | none => rw [q] at w; exact w
    | some (.nx, rho1, mu1) => rw [q] at w; exact w
    | some (.bk, rho1, mu1) => rw [q] at w; exact w
    | some (.ct, rho1, mu1) => rw [q] at w; exact w
    | some (.rt d, rho1, mu1) => rw [q] at w; exact w
    | some (.ex C fs, rho1, mu1) => exact fun al' s' H' dd vs g k sl' sr' e r => ⟨C, dd, vs, rho1, mu1, fs, al', rfl, rfl, g, k, sl', sr', e, r, q⟩
  refine wpAny_mono (run (fun e s1 => wpAny (model X.prog X.w) X.A (noteFrame e X.env) (fun _ s2 => wpAny (model X.prog X.w) X.A (setFlight e none) (fun _ s3 =>
    wpAny (model X.prog X.w) X.A (handleBy e X.env [.ExceptHandler (some t) (some n) [.Assign [.Name y np] (.Name n np') sp] pos']) (L2.SP X pins De) X.xe s3) X.xe s2) X.xe s1) (fun u s' xx => ?_) PassesOwn.looking rd) (fun fl s1 hsp => ?_) (fun e s1 he => he)
  · obtain ⟨a, B, sI, pins', st', H', cls, d, rfl, J', nb, up, sky, na, os, ag, C, dd, vs, rho1, mu1, fs, al', rfl, rfl, g1, k1, sl1, sr1, edd, rfs, em⟩ := xx
    have J : Inv X pins st' H' sI := J'.ofTry ok
    have sky' : Sky B (X.env :: X.outer) a (Zc (.ref C) (some dd)) X.env.locals s'.heap := by rw [← hs]; exact sky
    show wpAny (model X.prog X.w) X.A (noteFrame (.ref a) X.env) _ _ (_ : Shared)
    refine Sky.land Zc.steady hfr hf sky' fun h3 fl3 up3 => ?_
    have J3 : Inv X pins st' H' { s' with heap := h3 } := J.landed nb fl3.1 (up.trans up3) os ag
    obtain ⟨oe3, vs3, he3, hz3, hd3⟩ := fl3.there
    have nfr : a ∉ frs (X.env :: X.outer) := fun hm => by
      obtain ⟨_, o', e', hnf⟩ := fl3.2.2.1.mem hm
      rw [he3] at e'; cases e'
      exact hnf _ hd3
    have nL : a ≠ X.env.locals := fun z => nfr (List.mem_filterMap.mpr ⟨X.env, List.mem_cons_self, by rw [hf, z]⟩)
    have nF : a ∉ X.fs := fun hm => by
      obtain ⟨e, he, q⟩ := List.mem_filterMap.mp hm
      exact nfr (List.mem_filterMap.mpr ⟨e, List.mem_cons_of_mem _ he, q⟩)
    have hnI : sI.heap.get? a = none := by
      cases e : sI.heap.get? a with
      | none => rfl
      | some o =>
        have z1 := nb a o e (by rw [hs]; exact nfr)
        rw [fl3.2.1] at z1; cases z1
    have S3 := J3.suite he3 hd3 na nL nF
    unfold sTryK at w
    rw [em] at w
    dsimp only at w
    refine wpAny_handleBy_cons (codeAny_handlers_test ?_) (by intro q; cases q)
    cases hfc : f C with
    | none => rw [hfc] at w; exact w.elim
    | some b =>
      rw [hfc] at w
      refine ht a oe3 _ _ _ _ C b _ _ S3 he3 hz3.1 hfc fun h4 hh4 => ?_
      have kk := push_keep hh4
      have fl4 := fly_push fl3 kk
      have up4 := upto_push (up.trans up3) kk
      cases b with
      | true =>
        refine codeAny_handlers_suite_as ?_
        refine HandSPX.lands_againZ fl4 fun h5 fl5 up5 => ?_
        have J5 : Inv X pins st' H' { s' with heap := h5 } := J.landed nb fl5.1 (up4.trans up5) os ag
        obtain ⟨oe5, vs5, he5, hz5, hd5⟩ := fl5.there
        have S5 := J5.suite he5 hd5 na nL nF
        refine store_ok (X := X.suite a ((a, oe5) :: (X.pn ++ pins))) (v := .ref a) S5 hN hi hloc rfl (fun s6 S6 => ?_) (.inr hln)
        have rule := ps_set (X := X.suite a ((a, oe5) :: (X.pn ++ pins))) (pos := sp) (pos' := np) hN hj (.inl hly) (pe_var (X := X.suite a ((a, oe5) :: (X.pn ++ pins))) (pos := np') hi (.inl hln) hd1 hd2) hsw (.inr hly)
        have lt : i < st'.length := by rw [J.len]; exact (List.getElem?_eq_some_iff.mp hi).1
        have ndd : dd ≠ a := fun z => by rw [z, na] at edd; cases edd
        refine wpAny_mono ((pss_one rule).run [] s6 _ H' { nx := fun s7 H7 => H7 = H' ∧ s7 = (st'.set i (some (.ref a))).set j (some (.ref a)), rt := fun _ _ => False, bk := fun _ _ => False, ct := fun _ _ => False } S6 ⟨.ref a, List.getElem?_set_self lt, rfl, rfl⟩) (fun fl s7 hsp => ?_) (fun _ _ z => False.elim z)
        cases fl with
        | next =>
          obtain ⟨s8, H8, S8, rfl, rfl⟩ := hsp
          refine gone_ok (X := X.suite a ((a, oe5) :: (X.pn ++ pins))) S8 hN hi hln fun s9 S9 => ?_
          obtain ⟨eb, _⟩ := S9.pin (a, oe5) (List.mem_append_left _ List.mem_cons_self)
          have J9 : Inv X pins _ H8 s9 := S9.unsuite ok
          have J10 := J.track (o := ExH a C dd) J9 hnI na (exH_ok eb hz5 hd5)
          have r1 : SR X.K T (al' ++ [a]) (mu1 ++ [.exc C fs]) (upd H8 a (ExH a C dd)) := sr1.alloc na ⟨dd, vs, upd_same, by rw [upd_ne ndd]; exact edd, rfs.mono (Kp.new na) (Gr.app _ _)⟩
          refine ⟨_, _, J10, w (al' ++ [a]) _ _ (g1.trans (Gr.app _ _)) (k1.trans (Kp.new na)) ?_ r1⟩
          have e1 : ((st'.set i (some (V.ref a))).set j (some (V.ref a))).set i none = (st'.set i none).set j (some (V.ref a)) := by
            rw [List.set_comm _ _ hij, List.set_set]
          rw [e1]
          exact ((sl1.mono (Kp.new na) (Gr.app _ _)).unset i).set (by unfold Rp; exact ⟨a, by rw [← sr1.len]; simp, rfl⟩) j
        | brk =>
          obtain ⟨s8, H8, S8, q⟩ := hsp
          exact q.elim
        | cont =>
          obtain ⟨s8, H8, S8, q⟩ := hsp
          exact q.elim
        | ret u =>
          obtain ⟨v8, s8, H8, S8, r8, q⟩ := hsp
          exact q.elim
      | false =>
        show wpAny _ X.A (handleBy (.ref a) X.env []) _ _ (_ : Shared)
        refine wpAny_handleBy_nil ?_
        obtain ⟨k1', k2', k3', oe, vs', TT, oT, ts', he, hz', hd, h1, hr⟩ := id fl4
        unfold PySem.passOn
        refine wpAny_bind (wpAny_field he hd h1 ?_)
        rw [if_neg (show ¬ ((Value.ref TT == Value.none) = true) by simp)]
        have fin : wpAny (model X.prog X.w) X.A (setFlight (.ref a) X.env.frame) (fun _ s4 => wpAny (model X.prog X.w) X.A (throw (.ref a) : Sem Flow) (L2.SP X pins De) X.xe s4) X.xe { s' with heap := h4 } := by
          rw [hf]
          refine HandSPX.setFlight_upZ fl4 fun h5 hh5 up5 => wpAny_throw (z.tk _ _ ?_)
          exact ⟨a, B, sI, pins, st', H', .ref C, some dd, rfl, J, nb, up4.trans up5, .inr (.inr (by rw [hs]; exact hh5)), na, os, ag, w al' st' H' dd vs g1 k1 sl1 sr1 edd rfs⟩
        first
          | exact wpAny_bind (wpAny_pure (wpAny_bind fin))
          | exact wpAny_bind fin
  · cases fl with
    | next =>
      obtain ⟨st', H', J', q⟩ := hsp
      exact wpAny_execs_nil ⟨st', H', J'.ofTry ok, q⟩
    | brk =>
      obtain ⟨st', H', J', q⟩ := hsp
      exact ⟨st', H', J'.ofTry ok, q⟩
    | cont =>
      obtain ⟨st', H', J', q⟩ := hsp
      exact ⟨st', H', J'.ofTry ok, q⟩
    | ret u =>
      obtain ⟨v, st', H', J', r, q⟩ := hsp
      exact ⟨v, st', H', J'.ofTry ok, r, q⟩
/-! ### isinstance(e, C), C an own class -/
def isO (c : Addr) (f : Addr → Option Bool) : FS
  | [.cel j, .adr a], mu => if a = c then (match mu[j]? with
    | some (.exc C _) => (f C).bind fun b => some (.ok (.bl b), mu)
    | _ => none) else none
  | _, _ => none
/-- isinstance(x, c), x a held exception -/
def rIsX (K : PySem.W.Frag) : List V → Hp → VK → Prop := fun xs H Q => ∃ (a D dd : Addr) (fs : List (Str × V)) (c : Addr) (b : Bool), xs = [.ref a, .ref c] ∧ H a = some (ExH a D dd) ∧ H dd = some (.xd fs) ∧ L2.ExcC K D ∧ PySem.W.kitOne K (.ref D) (.ref c) = some b ∧ Q (.bl b) H
theorem call_isX {X : Cx} : CallR X (.builtin "isinstance") (rIsX X.K) := by
  intro pins s st H xs us Q I r h
  obtain ⟨a, D, dd, fs, c, b, rfl, ea, ed, C, e, q⟩ := h
  cases r with
  | cons rx rr =>
    cases rr with
    | cons rt rr =>
      cases rr
      cases rx
      cases rt
      have x1 : ObjOk X.prog X.w H s.heap a (ExH a D dd) := I.hok a _ ea
      obtain ⟨⟨oe, vs, h1, h2, h3, h4⟩, _⟩ := x1
      have x2 : ObjOk X.prog X.w H s.heap dd (.xd fs) := I.hok dd _ ed
      obtain ⟨mA, hns, hr⟩ := x2
      obtain ⟨od, ho, hl⟩ := lookIn_ns hns
      have J : PySem.W.InstAt s.heap a oe D (some od) := ⟨h1, h2, by unfold PySem.W.notCls; rw [h4] <;> rfl, by rw [h3]; exact ho⟩
      exact PySem.W.kia_one (DLX.kitx_held C) I.kIn ⟨oe, od, J⟩ e (fun z => nomatch z) fun tk => ⟨.bl b, H, I.kept (t' := tk) fun _ _ z => z, rfl, q⟩
theorem c_isX {K : PySem.W.Frag} {T : Tb} {f : Addr → Option Bool} {c : Addr} (hf : ∀ C b, f C = some b → L2.ExcC K C ∧ PySem.W.kitOne K (.ref C) (.ref c) = some b) : CallD K T (isO c f) (rIsX K) := fun al mu H ds vs Q E sr r p => by
  unfold isO at p
  split at p
  · rename_i j a mu
    split at p
    · rename_i ha
      subst ha
      split at p
      · rename_i C fs hj
        match hb : f C with
        | none => rw [hb] at p; exact p.elim
        | some b =>
          rw [hb] at p
          obtain ⟨h1, h2⟩ := hf C b hb
          unfold Rps at r
          obtain ⟨v, r1, rfl, rx, r⟩ := r
          unfold Rps at r
          obtain ⟨v2, r2, rfl, ry, r⟩ := r
          unfold Rps at r
          subst r
          unfold Rp at rx ry
          obtain ⟨ad, e1, rfl⟩ := rx
          subst ry
          obtain ⟨dd, ws, e2, e3, _⟩ := sr.ok _ _ ad hj e1
          exact ⟨ad, C, dd, ws, _, b, rfl, e2, e3, h1, h2, Wo.now p sr (bl_rp _)⟩
      · exact p.elim
    · exact p.elim
  · exact p.elim
theorem se_isX {T : Tb} {X : Cx} {e : Expr} {es : List Expr} {fs : List ES} {pos p : Pos} {f : Addr → Option Bool} {c : Addr} (hf : ∀ C b, f C = some b → L2.ExcC X.K C ∧ PySem.W.kitOne X.K (.ref C) (.ref c) = some b) (hm : X.mg "isinstance" = none) (ha : SA T X (e :: es) fs)
    (hg : Gl X "isinstance" := by rfl) (he : starEach (e :: es) X.env = (false, eval e X.env) :: starEach es X.env := by rfl) (hpl : (backTo pos (starEach es X.env)).any (·.1) = false := by rfl) :
    SE T X (.Call (.Name "isinstance" p) (e :: es) [] pos) (eCall (isO c f) fs) := se_callB call_isX (c_isX hf) hg hm (by decide +kernel) ha (by decide) (by decide) he hpl
/-! ### e.f of what is held -/
def excGet (n : Str) (ok : Addr → Bool) (f : ES) : ES := fun rho mu => DL.bnd (f rho mu) fun d mu1 => match d with
  | .cel j => match mu1[j]? with
    | some (.exc C fs) => if ok C then (match fs.lookup n with
      | some d => some (.ok d, mu1)
      | none => none) else none
    | _ => none
  | _ => none
theorem rpa_look {K : PySem.W.Frag} {al : List Addr} {H : Hp} : ∀ {kvs : List (Str × D)} {vs : List (Str × V)} {n : Str} {d : D}, RpA K al H kvs vs → kvs.lookup n = some d → ∃ v, vs.lookup n = some v ∧ Rp K al H d v
  | [], vs, n, d, h, e => by cases e
  | (k, x) :: kvs, vs, n, d, h, e => by
    obtain ⟨h1, h2⟩ := h
    match vs with
    | [] => simp at h1
    | (k', u) :: vs =>
      simp only [List.map_cons, List.cons.injEq] at h1
      obtain ⟨rfl, h1⟩ := h1
      simp only [List.map_cons] at h2
      unfold Rps at h2
      obtain ⟨v0, r0, e0, h3, h4⟩ := h2
      cases e0
      simp only [List.lookup] at e ⊢
      split
      · rename_i q
        rw [q] at e
        cases e
        exact ⟨_, rfl, h3⟩
      · rename_i q
        rw [q] at e
        exact rpa_look ⟨h1, h4⟩ e
theorem se_excGet {T : Tb} {X : Cx} {e : Expr} {f : ES} {pos : Pos} {n : Str} {ok : Addr → Bool} (hT : ∀ C, ok C = true → XfC X.K C ∧ PySem.W.findIn X.K (.ref C) n = some none) (he : SE T X e f) (hb : attributeBase e n X.env (eval e X.env) = eval e X.env := by rfl) : SE T X (.Attribute e n pos) (excGet n ok f) := fun W z => by
  refine ⟨fun pins s0 s H Q I ⟨al, rho, mu, sl, sr, w⟩ => attr_of hb ?_⟩
  refine thn ((he W z).run pins s0 s H (fun v H1 => ∃ (a C dd : Addr) (fs : List (Str × V)) (u : V), v = .ref a ∧ ok C = true ∧ H1 a = some (ExH a C dd) ∧ H1 dd = some (.xd fs) ∧ fs.lookup n = some u ∧ Q u H1) I ⟨al, rho, mu, sl, sr, ?_⟩) fun u s1 ⟨x, H1, I1, rx, a, C, dd, fs, v, ex, hok, ea, ed, l, q⟩ => ?_
  · unfold excGet at w
    refine Wo.bnd w fun d mu1 al1 v H1 _ g1 k1 sr1 rv w1 => ?_
    split at w1
    · rename_i j
      split at w1
      · rename_i C fs hj
        split at w1
        · rename_i hok
          split at w1
          · rename_i d hd
            unfold Rp at rv
            obtain ⟨a, e1, rfl⟩ := rv
            obtain ⟨dd, vs, e2, e3, r⟩ := sr1.ok _ _ a hj e1
            obtain ⟨v, e4, r2⟩ := rpa_look r hd
            exact ⟨a, C, dd, vs, v, rfl, hok, e2, e3, e4, Wo.now w1 sr1 r2⟩
          · exact w1.elim
        · exact w1.elim
      · exact w1.elim
    · exact w1.elim
  · subst ex
    obtain rfl : u = Value.ref a := rx
    obtain ⟨hX, hno⟩ := hT C hok
    have x1 : ObjOk X.prog X.w H1 s1.heap a (ExH a C dd) := I1.hok a _ ea
    obtain ⟨⟨oe, vs, h1, h2, h3, h4⟩, _⟩ := x1
    have x2 : ObjOk X.prog X.w H1 s1.heap dd (.xd fs) := I1.hok dd _ ed
    obtain ⟨mA, hns, hr⟩ := x2
    obtain ⟨od, ho, hl⟩ := lookIn_ns hns
    obtain ⟨u, hu, ru⟩ := RelO.some_of (v := v) (o := mA n) (by rw [← l]; exact hr n)
    have J : PySem.W.InstAt s1.heap a oe C (some od) := ⟨h1, h2, by unfold PySem.W.notCls; rw [h4] <;> rfl, by rw [h3]; exact ho⟩
    exact HandSPX.exc_get I1.kIn J hX.ga hX.gg hX.exC (PySem.W.findObj_own hX.hdC hno rfl (by rw [hl, hu])) (handed_of ru) ⟨v, H1, I1.tok _, ru, q⟩
end
end DL
set_option Elab.async false
set_option linter.all false
set_option autoImplicit false
set_option maxRecDepth 100000
set_option maxHeartbeats 4000000
/-! DL12: raise C(..), C an own exception over ValueError. -/
namespace DL
open PySem PySem.Spec PyProof.Rows L2
/-- what the written part says of the class that is named ahead of .__init__ -/
structure BaseC (K : PySem.W.Frag) (B : Addr) : Prop where
  ga : PySem.W.specialIn K (.ref B) "__getattribute__" = some (some (.builtin "type.__getattribute__"))
  rd : PySem.W.readsIn K B (.type "type") = true
  fc : PySem.W.findCls K (.ref B) (.type "type") "__init__" = some (.val (.builtin "ValueError.__init__"))
section
variable {X : Cx} {e : Expr} {es : List Expr} {ta : TA} {cs : Str} {B : Addr} {p1 p2 pos : Pos} {pl : Sem Bool}
theorem pe_binit (hB : BaseC X.K B) (hg : Gl X cs) (hm : X.mg cs = some (.ref B)) (ha : PA X (e :: es) ta) (hdb : (cs == ("__debug__" : Str)) = false)
    (hc : eval (.Call (.Attribute (.Name cs p1) "__init__" p2) (e :: es) [] pos) X.env = (do
      let ov ← eval (.Name cs p1) X.env
      standAt p2.atName
      let (f, first) ← holding [ov] (getMethod ov "__init__" pl)
      callWith pos f first (backTo pos (starEach (e :: es) X.env)) (backToKw pos (keywordEach [] X.env))) := by rfl)
    (he : starEach (e :: es) X.env = (false, eval e X.env) :: starEach es X.env := by rfl) (hpl : (backTo pos (starEach es X.env)).any (·.1) = false := by rfl) :
    PE X (.Call (.Attribute (.Name cs p1) "__init__" p2) (e :: es) [] pos) (tVeI X.K ta) := by
  refine ⟨fun pins s0 s H Q I h => ?_⟩
  refine PySem.W.methodCall_KW (ld_glob I hg hm ?_ hdb) hc
  refine PySem.W.method_cls I.kIn hB.ga (PySem.W.cls_value I.kIn hB.rd hB.fc (by decide +kernel) ?_)
  show wpAny _ _ (callWith pos (Value.builtin "ValueError.__init__") [] (backTo pos (starEach (e :: es) X.env)) []) _ _ (_ : Shared)
  refine PyProof.Rows.callWith_method1 (thn (ha.run pos pins _ s H _ (I.tok _) h) fun us s1 ⟨vs, H1, I1, r1, a, C, ws, ev, hl, T, ea, q⟩ => ?_) he hpl
  subst ev
  cases r1 with
  | @cons _ u0 _ ur ra rr =>
    obtain rfl : u0 = Value.ref a := ra
    exact oinit_ok T I1 ea (by rw [← Paired.length rr, sizeLine_eq]; omega) fun s' J => ⟨.non, H1, J, rfl, q⟩
end
/-- what __init__(self, ..) with the fields gs does -/
def spI (K : PySem.W.Frag) (C : Addr) (gs : List Str) : Sp := fun vs H Q _ => ∃ a ws, vs = .ref a :: ws ∧ ws.length = gs.length ∧ OexC K C ∧ (∀ g ∈ gs, PySem.W.findIn K (.ref C) g = some none) ∧ H a = some (exo a C none) ∧
  ∀ (dx : Addr) (H2 : Hp), H dx = none → dx ≠ a → H2 a = some (exo a C (some dx)) → H2 dx = some (exd dx (gs.zip ws).reverse) → (∀ b, b ≠ a → b ≠ dx → H2 b = H b) → Q .non H2
/-- the class x, made with values of its fields gs -/
structure Mk (P : Program) (w : World) (K : PySem.W.Frag) (mg : Str → Option Value) (base : Heap) (x : Str) (k : Nat) (C : Addr) (gs : List Str) : Prop where
  ex : ∃ fI fd ps, FnOk P w K mg base (L2.CX P w) k fI fd ps (spI K C gs) ∧ PySem.W.findIn K (.ref C) "__init__" = some (some (.ref fI)) ∧ PySem.W.typeIn K (.ref fI) = some (.type "function") ∧ Binds K fd ps []
  oc : OexC K C
  gs : ∀ g ∈ gs, PySem.W.findIn K (.ref C) g = some none
  mg : mg x = some (.ref C)
section
variable {P : Program} {w : World} {K : PySem.W.Frag} {mg : Str → Option Value} {base : Heap} {qual g g1 g2 : Str} {st : Stmt} {f : Addr} {fd : FuncData} {N ps : List Str} {k : Nat} {C : Addr} {tx : Str}
theorem init1 (F : Fun K "__init__" qual st f fd) (S : FnScope N ps (defScope st)) (hp : ps.length = 2) (hN : N.length = 2)
    (hb : ∀ (cdv : Value) (A : Around) (outer : List Env) (s : Shared) (H : Hp) (E : XK), PSs (cxOf (L2.CX P w) P w K mg base N qual (defScope st) f cdv A outer s H E) (defBody st) (tSeq (tDrop (tVeI K (tCons (tVar 0) (tCons (tC (.str tx)) tNil)))) (tOst K g (tVar 0) (tVar 1)))) :
    FnOk P w K mg base (L2.CX P w) (k + 1) f fd ps (spI K C [g]) := by
  obtain ⟨oc, od, kV, doc, pm, an, cdv, ct, osl, rfl, lk, hcd⟩ := F.ex
  refine ⟨fun vs H Q E ⟨a, ws, e, l, _⟩ => by rw [e, hp]; simp [l], fun A outer s H args us vs Q E hr e0 b r h => ?_⟩
  obtain ⟨a, ws, rfl, l, oc', gg, ea, q⟩ := h
  refine LamX.run_ofS lk hcd S hr e0 b r (by rw [hp]; simp [l]) fun hr' => ⟨_, hb cdv A outer s H E, ?_⟩
  match ws, l with
  | [v], _ =>
    have s0 : (L2.start N [V.ref a, v])[0]? = some (some (V.ref a)) := rfl
    have s1 : (L2.start N [V.ref a, v])[1]? = some (some v) := rfl
    refine ⟨_, s0, a, C, [.str tx], rfl, by simp, oc', ea, ?_⟩
    refine ⟨_, s1, _, s0, a, C, rfl, oc', gg g (by simp), .inl ⟨ea, fun dx hd hne => ?_⟩⟩
    refine q dx _ hd hne upd_same (by rw [upd_ne hne, upd_same]; rfl) fun b h1 h2 => by rw [upd_ne h1, upd_ne h2]
theorem init2 (F : Fun K "__init__" qual st f fd) (S : FnScope N ps (defScope st)) (hp : ps.length = 3) (hN : N.length = 3)
    (hb : ∀ (cdv : Value) (A : Around) (outer : List Env) (s : Shared) (H : Hp) (E : XK), PSs (cxOf (L2.CX P w) P w K mg base N qual (defScope st) f cdv A outer s H E) (defBody st) (tSeq (tDrop (tVeI K (tCons (tVar 0) (tCons (tC (.str tx)) tNil)))) (tSeq (tOst K g1 (tVar 0) (tVar 1)) (tOst K g2 (tVar 0) (tVar 2))))) :
    FnOk P w K mg base (L2.CX P w) (k + 1) f fd ps (spI K C [g1, g2]) := by
  obtain ⟨oc, od, kV, doc, pm, an, cdv, ct, osl, rfl, lk, hcd⟩ := F.ex
  refine ⟨fun vs H Q E ⟨a, ws, e, l, _⟩ => by rw [e, hp]; simp [l], fun A outer s H args us vs Q E hr e0 b r h => ?_⟩
  obtain ⟨a, ws, rfl, l, oc', gg, ea, q⟩ := h
  refine LamX.run_ofS lk hcd S hr e0 b r (by rw [hp]; simp [l]) fun hr' => ⟨_, hb cdv A outer s H E, ?_⟩
  match ws, l with
  | [v1, v2], _ =>
    have s0 : (L2.start N [V.ref a, v1, v2])[0]? = some (some (V.ref a)) := rfl
    have s1 : (L2.start N [V.ref a, v1, v2])[1]? = some (some v1) := rfl
    have s2 : (L2.start N [V.ref a, v1, v2])[2]? = some (some v2) := rfl
    refine ⟨_, s0, a, C, [.str tx], rfl, by simp, oc', ea, ?_⟩
    refine ⟨_, s1, _, s0, a, C, rfl, oc', gg g1 (by simp), .inl ⟨ea, fun dx hd hne => ?_⟩⟩
    refine ⟨_, s2, _, s0, a, C, rfl, oc', gg g2 (by simp), .inr ⟨dx, [(g1, v1)], upd_same, by rw [upd_ne hne, upd_same], by simp, ?_⟩⟩
    exact q dx _ hd hne (by rw [upd_ne (Ne.symm hne), upd_same]) (by rw [upd_same]; rfl) fun b h1 h2 => by rw [upd_ne h2, upd_ne h1, upd_ne h2]
end
def raiseF (C : Addr) (gs : List Str) : FS := fun ds mu => some (.ex C (gs.zip ds).reverse, mu)
def sRaise (C : Addr) (gs : List Str) (fs : List ES) : SS := fun rho mu => bnS (eCall (raiseF C gs) fs rho mu) rho fun _ _ => none
theorem rpa_zip {K : PySem.W.Frag} {al : List Addr} {H : Hp} : ∀ {gs : List Str} {ds : List D} {vs : List V}, Rps K al H ds vs → RpA K al H (gs.zip ds) (gs.zip vs)
  | [], ds, vs, h => ⟨rfl, by simp; exact Rps.nil⟩
  | g :: gs, [], vs, h => by unfold Rps at h; subst h; exact ⟨rfl, by simp; exact Rps.nil⟩
  | g :: gs, d :: ds, vs, h => by
    unfold Rps at h
    obtain ⟨v, r, rfl, h1, h2⟩ := h
    obtain ⟨e, q⟩ := rpa_zip (gs := gs) h2
    exact ⟨by simp only [List.zip_cons_cons, List.map_cons, e], by simp only [List.zip_cons_cons, List.map_cons]; exact Rps.cons h1 q⟩
theorem Rps.rev {K : PySem.W.Frag} {al : List Addr} {H : Hp} : ∀ {ds : List D} {vs : List V}, Rps K al H ds vs → Rps K al H ds.reverse vs.reverse
  | [], vs, h => by unfold Rps at h; subst h; exact Rps.nil
  | d :: ds, vs, h => by
    unfold Rps at h
    obtain ⟨v, r, rfl, h1, h2⟩ := h
    simp only [List.reverse_cons]
    exact (Rps.rev h2).app (Rps.one h1)
theorem rpa_rev {K : PySem.W.Frag} {al : List Addr} {H : Hp} {kvs : List (Str × D)} {vs : List (Str × V)} (h : RpA K al H kvs vs) : RpA K al H kvs.reverse vs.reverse := ⟨by rw [List.map_reverse, List.map_reverse, h.1], by rw [List.map_reverse, List.map_reverse]; exact Rps.rev h.2⟩
section
variable {T : Tb} {X : Cx} {pos pos' p : Pos} {e : Expr} {es : List Expr} {fs : List ES}
theorem st_raise {x : Str} {j k : Nat} {C : Addr} {gs : List Str} (c : Mk X.prog X.w X.K X.mg X.base x k C gs) (hr : Room j X.A) (hk : k + 1 ≤ j) (hcalm : X.calm = true) (hg : Gl X x) (ha : SA T X (e :: es) fs) (hl : fs.length = gs.length := by rfl) (hz : gs.length ≤ 1000 := by decide)
    (hdb : (x == ("__debug__" : Str)) = false := by decide) (he : starEach (e :: es) X.env = (false, eval e X.env) :: starEach es X.env := by rfl) (hpl : (backTo pos (starEach es X.env)).any (·.1) = false := by rfl) :
    ST T X (.Raise (some (.Call (.Name x p) (e :: es) [] pos)) none pos') (sRaise C gs fs) := fun W z ps => by
  obtain ⟨fI, fd, pps, G, iC, tI, b⟩ := c.ex
  have mk := pmk_oex (pos := pos) (p := p) (ds := []) (dvs := []) c.oc iC tI G (hr.mono hk) b .nil (passes_call (E := fun _ _ _ => False) z.tk fun _ _ _ _ h => h.elim) hg c.mg (ha W z) hdb he hpl
  refine PS.weak (ps_raise hcalm z.tk mk) fun De s H ⟨al, rho, mu, sl, sr, w1⟩ => ?_
  refine ⟨al, rho, mu, raiseF C gs, fun _ _ => False, sl, sr, WoS.bn sl w1 fun d mu1 al1 v H1 e1 _ _ _ _ w2 => w2, fun ds mu1 al1 vs H1 hd g1 k1 sr1 rv w2 => ⟨by rw [rv.length, hd, hl]; exact hz, fun a na => ?_⟩⟩
  rw [List.append_nil]
  refine ⟨a, vs, rfl, by rw [rv.length, hd, hl], c.oc, c.gs, upd_same, fun dx H2 hdx hne ea ed ot => ⟨rfl, dx, (gs.zip vs).reverse, ea, ed, ?_, ?_⟩⟩
  · rw [upd_ne hne] at hdx; exact hdx
  · rw [upd_ne hne] at hdx
    have sm : Same H1 (upd (del H2 a) dx (.xd (gs.zip vs).reverse)) := fun b o eb => by
      have n1 : b ≠ dx := fun q => by rw [q, hdx] at eb; cases eb
      have n2 : b ≠ a := fun q => by rw [q, na] at eb; cases eb
      rw [upd_ne n1, del_ne n2, ot b n2 n1, upd_ne n2]
      exact eb
    exact w2 al1 _ dx _ (Gr.refl _) (Kp.same sm) (sr1.same sm) upd_same ((rpa_rev (rpa_zip rv)).mono (Kp.same sm) (Gr.refl _))
end
end DL
set_option Elab.async false
set_option linter.all false
set_option autoImplicit false
set_option maxRecDepth 100000
set_option maxHeartbeats 4000000
/-! DL13: a lambda handed to a def that calls it. -/
namespace DLX
open PySem PySem.Spec PyProof.Rows L2
/-- the function object of a lambda whose defaults stand at dV -/
abbrev lamFd (qual : Str) (params : Arguments) (body : Expr) (scope : Scope) (cl : List (Str × Addr)) (pm cdv ct dV : Value) : FuncData := { PySem.W.kla_fn "<lambda>" qual params body scope cl pm cdv ct with defaults := dV }
abbrev lamOb (qual : Str) (params : Arguments) (body : Expr) (scope : Scope) (cl : List (Str × Addr)) (pm cdv ct dV : Value) : Obj := { cls := .type "function", data := .func (lamFd qual params body scope cl pm cdv ct dV) }
section
variable {M : Model} {A : Around} {E : Value → Shared → Prop} {s : Shared} {qual : Str} {params : Arguments} {body : Expr} {scope : Scope} {env : Env} {c P : Addr} {ps : Array Value} {pos : Pos} {fl : Nat} {mg : Str → Option Value} {cl : List (Str × Addr)} {Q : Value → Shared → Prop} {dV : Value}
theorem tail_new (hcl : closureFor scope env = pure cl) (e0 : env.globals = mainGlobals) (ng : s.heap.Ns mainGlobals mg) (ec : env.code = .ref c) (C : PySem.W.CodeHd s.heap c P) (eP : s.heap.get? P = some (PySem.W.tabObj ps)) (ht : TriplesOk ps.toList)
    (no : codeAmong pos ps.toList = none) (nP : mainGlobals ≠ P) (bb : s.heap.BuiltinsAt mg P)
    (q : ∀ c' ctv h' tk, Heap.ExtBut P s.heap h' → s.heap.objs.size ≤ c' → c' < h'.objs.size → h'.CodeRec (.ref c') qual → h'.get? P = some (PySem.W.tabObj (ps ++ #[rawInt pos.line, rawInt pos.col, .ref c'])) →
      Q (.ref h'.objs.size) { s with heap := h'.push (lamOb qual params body scope cl ((mg "__name__").getD .none) (.ref c') ctv dV), toks := tk }) : wpAny M A (makeTail "<lambda>" qual params (.expr body) scope env dV .none none pos fl) Q E s := by
  obtain ⟨bm, ob, b1, b2, _, b3, b4, b5, b6, b7⟩ := bb
  unfold makeTail
  rw [hcl, e0]
  refine wpAny_bind (wpAny_pure ?_)
  cases cl with
  | nil =>
    simp only [List.isEmpty_nil, if_true]
    refine wpAny_bind (wpAny_pure (wpAny_bind (wpAny_functionCodeX ec (C.code eP ht) (C.tab eP) no fun c' h' tk x1 x2 x3 _ x4 x5 _ => ?_)))
    have ng' := ng.extBut x1 nP
    exact wpAny_bind (wpAny_builtinsFor ng' b1 b2 (x1 _ _ b3 b4) b5 b6 b7 (wpAny_bind (wpAny_nsGet ng' (wpAny_bind (wpAny_pure (wpAny_newObj_type (q c' .none h' tk x1 x2 x3 x4 x5.2) (by size_fits)))))))
  | cons a r =>
    simp only [List.isEmpty_cons, Bool.false_eq_true, if_false]
    have kp : ∀ {o1 : Obj} b o, s.heap.get? b = some o → (s.heap.push o1).get? b = some o := fun b o e => Heap.get?_push_of_some _ e
    refine wpAny_bind (wpAny_newTextTuple (wpAny_bind (wpAny_functionCodeX ec ((C.keeps kp).code (kp _ _ eP) ht) ((C.keeps kp).tab (kp _ _ eP)) no fun c' h' tk x1 x2 x3 _ x4 x5 _ => ?_)))
    have ng' := (ng.push _).extBut x1 nP
    have y1 : Heap.ExtBut P s.heap h' := fun b o hb e => x1 b o hb (kp _ _ e)
    have y2 : s.heap.objs.size ≤ c' := Nat.le_trans (by rw [Heap.size_push]; omega) x2
    exact wpAny_bind (wpAny_builtinsFor ng' b1 b2 (y1 _ _ b3 b4) b5 b6 b7 (wpAny_bind (wpAny_nsGet ng' (wpAny_bind (wpAny_pure (wpAny_newObj_type (q c' _ h' tk y1 y2 x3 x4 x5.2) (by size_fits)))))))
theorem tail_hit {cv : Value} (hcl : closureFor scope env = pure cl) (e0 : env.globals = mainGlobals) (ng : s.heap.Ns mainGlobals mg) (ec : env.code = .ref c) (C : PySem.W.CodeHd s.heap c P) (eP : s.heap.get? P = some (PySem.W.tabObj ps)) (ht : TriplesOk ps.toList)
    (yes : codeAmong pos ps.toList = some cv) (bb : s.heap.BuiltinsAt mg P)
    (q : ∀ (ctv : Value) (h' : Heap) (tk : Tok), (∀ b o, s.heap.get? b = some o → h'.get? b = some o) → s.heap.objs.size ≤ h'.objs.size → Q (.ref h'.objs.size) { s with heap := h'.push (lamOb qual params body scope cl ((mg "__name__").getD .none) cv ctv dV), toks := tk }) :
    wpAny M A (makeTail "<lambda>" qual params (.expr body) scope env dV .none none pos fl) Q E s := by
  obtain ⟨bm, ob, b1, b2, _, b3, b4, b5, b6, b7⟩ := bb
  unfold makeTail
  rw [hcl, e0]
  refine wpAny_bind (wpAny_pure ?_)
  cases cl with
  | nil =>
    simp only [List.isEmpty_nil, if_true]
    exact wpAny_bind (wpAny_pure (wpAny_bind (wpAny_functionCode_hit ec (C.code eP ht) yes (wpAny_bind (wpAny_builtinsFor ng b1 b2 b4 b5 b6 b7 (wpAny_bind (wpAny_nsGet ng (wpAny_bind (wpAny_pure (wpAny_newObj_type (q .none s.heap s.toks (fun _ _ e => e) (Nat.le_refl _)) (by size_fits)))))))))))
  | cons a r =>
    simp only [List.isEmpty_cons, Bool.false_eq_true, if_false]
    have kp : ∀ {o1 : Obj} b o, s.heap.get? b = some o → (s.heap.push o1).get? b = some o := fun b o e => Heap.get?_push_of_some _ e
    have sz : ∀ o1 : Obj, s.heap.objs.size ≤ (s.heap.push o1).objs.size := fun o1 => by rw [Heap.size_push]; omega
    exact wpAny_bind (wpAny_newTextTuple (wpAny_bind (wpAny_functionCode_hit ec ((C.keeps kp).code (kp _ _ eP) ht) yes (wpAny_bind (wpAny_builtinsFor (ng.push _) b1 b2 (kp _ _ b4) b5 b6 b7 (wpAny_bind (wpAny_nsGet (ng.push _) (wpAny_bind (wpAny_pure (wpAny_newObj_type (q _ _ s.toks kp (sz _)) (by size_fits)))))))))))
end
theorem among_left {p : Pos} {cv : Value} (m : List Value) : ∀ (l : List Value), codeAmong p l = some cv → codeAmong p (l ++ m) = some cv := fun l h => by
  fun_induction codeAmong p l with
  | case1 a t b u x rest q => 
    simp only [List.cons_append]
    unfold codeAmong
    rw [if_pos q]; exact h
  | case2 a t b u x rest q ih =>
    simp only [List.cons_append]
    unfold codeAmong
    rw [if_neg q]; exact ih h
  | case3 l hl => cases h
theorem among_snoc {p : Pos} {c : Value} (l : List Value) (ht : TriplesOk l) (h : codeAmong p l = none) : codeAmong p (l ++ [rawInt p.line, rawInt p.col, c]) = some c := by
  fun_induction TriplesOk l with
  | case1 => simp [rawInt, codeAmong]
  | case2 a t b u x rest ih =>
    simp only [codeAmong] at h
    split at h
    · cases h
    · rename_i q
      simp only [List.cons_append, codeAmong]
      rw [if_neg q]
      exact ih ht h
  | case3 l h1 h2 => exact ht.elim
section
variable {X : Cx} {pins : List (Addr × Obj)} {st : L2.St} {H : Hp} {s : Shared}
theorem lam_tail {T : List (Addr × Str)} {c P : Addr} {params : Arguments} {body : Expr} {scope : Scope} {pos : Pos} {E : Value → Shared → Prop} {Q : Value → Shared → Prop} {dV : Value} (I : Inv X pins st H s) (TB : LamX.TabB X.base X.mg c P) (ec : X.env.code = .ref c)
    (mT : (P, X.env.qual ++ "<lambda>") ∈ T) (uT : ∀ p ∈ T, p.1 = P → p.2 = X.env.qual ++ "<lambda>") (hT : LamX.Tabs T H) (fr : ∀ y ∈ scope.names, y.2 = .free → ∃ c, X.env.cells.lookup y.1 = some c)
    (h : ∀ (f c' : Addr) (pm ctv : Value) (H1 : Hp) (s' : Shared) (ps1 : Array Value), Inv X pins st H1 s' → LamX.ExtN H H1 → LamX.Tabs T H1 → s'.heap.get? f = some (lamOb (X.env.qual ++ "<lambda>") params body scope (cloFrom X.env.cells scope.names []) pm (.ref c') ctv dV) → H1 f = none → f ∉ frs X.stack →
      H1 P = some (.tbl ps1) → codeAmong pos ps1.toList = some (.ref c') → (∀ b o, b ≠ P → s.heap.get? b = some o → s'.heap.get? b = some o) → (∀ b o, s.heap.get? b = some o → H b = none → H1 b = none) → Q (.ref f) s') :
    wpAny (model X.prog X.w) X.A (makeTail "<lambda>" (X.env.qual ++ "<lambda>") params (.expr body) scope X.env dV .none none pos pos.line) Q E s := by
  obtain ⟨ps, eP, ht, ha⟩ := hT _ mT
  have bP : s.heap.BuiltinsAt X.mg P := TB.bm.keeps I.bk
  have eP' : s.heap.get? P = some { cls := .none, data := .fields ps } := I.hok P _ eP
  have nofr : ∀ f, s.heap.objs.size ≤ f → f ∉ frs X.stack := fun f hf z => by
    rcases List.mem_cons.mp (I.stkSub _ z) with e | e
    · have l := I.lt
      rw [← e] at l
      exact absurd (Nat.lt_of_lt_of_le l hf) (Nat.lt_irrefl _)
    · exact I.nofs hf e
  cases hc : codeAmong pos ps.toList with
  | none =>
    refine tail_new (mg := X.mg) (c := c) (P := P) (ps := ps) (closure_ok fr) I.ok.glob (I.mod.glob.keeps I.bk) ec (TB.code.keeps I.bk) eP' ht hc TB.gP bP fun c' ctv h' tk x1 x2 x3 x4 x5 => ?_
    obtain ⟨c2, oc, vs, t, e2, hoc, hd, hv⟩ := x4
    cases e2
    have sz : s.heap.objs.size ≤ h'.objs.size := Nat.le_trans x2 (Nat.le_of_lt x3)
    have nC : H c' = none := I.hok.fresh x2
    have I1 := LamX.inv_table (t' := tk) (more := #[rawInt pos.line, rawInt pos.col, .ref c']) (h' := h'.push (lamOb (X.env.qual ++ "<lambda>") params body scope (cloFrom X.env.cells scope.names []) ((X.mg "__name__").getD .none) (.ref c') ctv dV)) I eP
      (fun b o hb e => Heap.get?_push_of_some _ (x1 b o hb e)) (Heap.get?_push_of_some _ x5) x2 ⟨oc, vs, t, Heap.get?_push_of_some _ hoc, hd, hv⟩
    have hE : LamX.ExtN H (upd (upd H P (.tbl (ps ++ #[rawInt pos.line, rawInt pos.col, .ref c']))) c' (LamX.CodeO c' (X.env.qual ++ "<lambda>"))) := fun b o e n => by
      have n2 : b ≠ P := fun z => n ps (Option.some.inj (e.symm.trans (by rw [z]; exact eP)))
      rw [upd_ne (ne_of_none e nC), upd_ne n2]; exact e
    have eL : (ps ++ #[rawInt pos.line, rawInt pos.col, .ref c']).toList = ps.toList ++ [rawInt pos.line, rawInt pos.col, .ref c'] := by simp
    have e1 : upd (upd H P (.tbl (ps ++ #[rawInt pos.line, rawInt pos.col, .ref c']))) c' (LamX.CodeO c' (X.env.qual ++ "<lambda>")) P = some (.tbl (ps ++ #[rawInt pos.line, rawInt pos.col, .ref c'])) := by rw [upd_ne (ne_of_none eP nC), upd_same]
    refine h h'.objs.size c' _ ctv _ _ _ I1 hE (fun p hp => ?_) (Heap.get?_push_size _ rfl) ?_ (nofr _ sz) e1 (by rw [eL]; exact among_snoc _ ht hc) (fun b o hb e => Heap.get?_push_of_some _ (x1 b o hb e)) (fun b o e n => by
      have n1 : b ≠ P := fun q => by rw [q, eP] at n; cases n
      rw [upd_ne (Nat.ne_of_lt (Nat.lt_of_lt_of_le (Heap.lt_size e) x2)), upd_ne n1]; exact n)
    · by_cases hb : p.1 = P
      · rw [uT p hp hb, hb]
        refine ⟨_, e1, by rw [eL]; exact PySem.TriplesOk_snoc _ _ _ _ ht, fun p' cv hcv => ?_⟩
        rw [eL] at hcv
        rcases LamX.among_app _ ht hcv with z | z
        · obtain ⟨c0, f1, f2⟩ := ha p' cv z
          exact ⟨c0, f1, hE _ _ f2 LamX.codeO_ne⟩
        · exact ⟨c', z, upd_same⟩
      · obtain ⟨ps', a1, a2, a3⟩ := hT p hp
        refine ⟨ps', by rw [upd_ne (ne_of_none a1 nC), upd_ne hb]; exact a1, a2, fun p' cv hcv => ?_⟩
        obtain ⟨c0, f1, f2⟩ := a3 p' cv hcv
        exact ⟨c0, f1, hE _ _ f2 LamX.codeO_ne⟩
    · rw [upd_ne (Nat.ne_of_gt x3), upd_ne (Nat.ne_of_gt (Nat.lt_of_lt_of_le (Heap.lt_size eP') sz))]
      exact I.hok.fresh sz
  | some cv =>
    obtain ⟨c', e, hco⟩ := ha pos cv hc
    subst e
    refine tail_hit (mg := X.mg) (c := c) (P := P) (ps := ps) (closure_ok fr) I.ok.glob (I.mod.glob.keeps I.bk) ec (TB.code.keeps I.bk) eP' ht hc bP fun ctv h' tk x1 x2 => ?_
    have I1 : Inv X pins st H { s with heap := h'.push (lamOb (X.env.qual ++ "<lambda>") params body scope (cloFrom X.env.cells scope.names []) ((X.mg "__name__").getD .none) (.ref c') ctv dV), toks := tk } := I.kept fun b o e => Heap.get?_push_of_some _ (x1 b o e)
    exact h h'.objs.size c' _ ctv H _ ps I1 (LamX.ExtN.refl H) hT (Heap.get?_push_size _ rfl) (I.hok.fresh x2) (nofr _ x2) eP hc (fun b o _ e => Heap.get?_push_of_some _ (x1 b o e)) (fun b o _ n => n)
end
/-! ### the lambda's own context -/
/-- its parameters are xs, it has no cell of its own; captured names and globals else -/
structure LamP (sc scope : Scope) (xs : List Str) : Prop where
  kind : scope.kind = .function
  co : scope.isCoroutine = false
  gen : scope.isGenerator = false
  own : ∀ y ∈ scope.names, y.2 ≠ .cell ∧ (y.2 = .local → y.1 ∈ xs)
  free : ∀ y ∈ scope.names, y.2 = .free → sc.names.lookup y.1 = some .cell ∨ sc.names.lookup y.1 = some .free
  par : ∀ x ∈ xs, scope.names.lookup x = some .local
def lamPB (sc scope : Scope) (xs : List Str) : Bool :=
  decide (scope.kind = .function) && !scope.isCoroutine && !scope.isGenerator && (scope.names.all fun y => !decide (y.2 = .cell) && (!decide (y.2 = .local) || decide (y.1 ∈ xs)) && (!decide (y.2 = .free) || decide (sc.names.lookup y.1 = some .cell) || decide (sc.names.lookup y.1 = some .free))) && xs.all fun x => decide (scope.names.lookup x = some .local)
theorem lamP_by {sc scope : Scope} {xs : List Str} (h : lamPB sc scope xs = true) : LamP sc scope xs := by
  unfold lamPB at h
  simp only [Bool.and_eq_true, Bool.or_eq_true, Bool.not_eq_true', decide_eq_true_eq, decide_eq_false_iff_not, List.all_eq_true] at h
  obtain ⟨⟨⟨⟨h1, h2⟩, h3⟩, h4⟩, h5⟩ := h
  refine ⟨h1, h2, h3, fun y hy => ⟨(h4 y hy).1.1, fun e => ?_⟩, fun y hy e => ?_, h5⟩
  · rcases (h4 y hy).1.2 with z | z
    · exact absurd e z
    · exact z
  · rcases (h4 y hy).2 with (z | z) | z
    · exact absurd e z
    · exact .inl z
    · exact .inr z
theorem LamP.has {X : Cx} {scope : Scope} {xs : List Str} (L : LamP X.env.scope scope xs) (ok : X.Ok) : ∀ y ∈ scope.names, y.2 = .free → ∃ c, X.env.cells.lookup y.1 = some c := fun y hy e => by
  rcases L.free y hy e with k | k
  · exact ok.has _ (.inl k)
  · exact ok.has _ (.inr k)
section
variable {X : Cx} {pins : List (Addr × Obj)} {st st' : L2.St} {H HZ : Hp} {s s1 : Shared}
theorem lam_enter {A : Around} {outer : List Env} {E : XK} {scope : Scope} {xs : List Str} {bs : List (Str × Value)} {f c' : Addr} {h1 : Heap} {tk : Nat} (I : Inv X pins st H s) (L : LamP X.env.scope scope xs) (e0 : Env0 X.prog X.w X.K X.mg X.base A outer s1 HZ) (hd : A.handled = none)
    (un : Un (frs X.stack) [] H HZ s.heap s1.heap) (hns : h1.Ns s1.heap.objs.size fun y => bs.reverse.lookup y) (kp : ∀ b o, s1.heap.get? b = some o → h1.get? b = some o)
    (hl : st'.length = st.length) (hst : ∀ (i : Nat) (y : Str) (v : V), X.N[i]? = some y → st'[i]? = some (some v) → y ∉ xs ∧ st[i]? = some (some v)) :
    Inv (LamX.lamCx X A outer s1 HZ E scope f c') [] st' HZ { s1 with heap := h1, toks := tk } := by
  have hfree := L.has I.ok
  have cm : ∀ {y c}, (cloFrom X.env.cells scope.names []).lookup y = some c → X.env.cells.lookup y = some c := fun {y c} e => by
    rcases cloFrom_mem (PySem.mem_of_lookup e) with hm | ⟨g1, g2⟩
    · cases hm
    · obtain ⟨c1, hc⟩ := hfree _ g1 rfl
      have hc : X.env.cells.lookup y = some c1 := hc
      have z : c = c1 := by rw [g2, hc] <;> rfl
      rw [z]; exact hc
  have look : ∀ {y}, scope.names.lookup y = some .free → ∃ c, (cloFrom X.env.cells scope.names []).lookup y = some c := fun {y} hl => mem_lookup (cloFrom_has (cells := X.env.cells) (acc := []) (PySem.mem_of_lookup hl : (y, NameKind.free) ∈ scope.names))
  have ck : ∀ {c : Addr} {v : Option Value}, H c = none → s.heap.IsCell c v → h1.IsCell c v := fun {c v} n ⟨o, ho, hd⟩ => by
    obtain ⟨sl, q⟩ := un.any ho n (by simp)
    exact ⟨_, kp _ _ q, hd⟩
  have noA : ∀ b : Addr, b ∉ (LamX.lamCx X A outer s1 HZ E scope f c').ex := fun b z => nomatch (show b ∈ ([] : List Addr) from z)
  refine ⟨⟨e0.mod, L.kind, rfl, rfl, Nat.le_refl _, fun y z c e1 e2 => I.ok.inj y z c (cm e1) (cm e2), fun y hy => ?_, fun y c z _ => (nomatch (show false = true from z)), fun _ => hd, Around.frames_deeper e0.frames, .inr ⟨rfl, rfl⟩, fun b z => absurd z (noA b), e0.bs, e0.bsz, fun b _ _ => noA b,
      fun b z => absurd z (noA b), e0.funs, e0.frf⟩,
    rfl, e0.bare, Un.kept kp, ⟨_, hns, fun i y v e1 e2 e3 => ?_⟩, fun y c e => ?_, e0.hok.fresh (Nat.le_refl _), fun y c e => ?_, fun q hq => (nomatch (show q ∈ ([] : List (Addr × Obj)) from hq)), e0.hok.kept kp, hl.trans I.len⟩
  · rcases (show scope.names.lookup y = some .cell ∨ scope.names.lookup y = some .free from hy) with hy | hy
    · exact absurd rfl (L.own _ (PySem.mem_of_lookup hy)).1
    · exact look hy
  · obtain ⟨n1, n2⟩ := hst i y v e1 e2
    rcases (show Vis scope y from e3) with k | k | k
    · exact absurd ((L.own _ (PySem.mem_of_lookup k)).2 rfl) n1
    · exact absurd rfl (L.own _ (PySem.mem_of_lookup k)).1
    · obtain ⟨m, hn, hlk⟩ := I.loc
      have vis : Vis X.env.scope y := (L.free _ (PySem.mem_of_lookup k) rfl).elim (fun k => .inr (.inl k)) (fun k => .inr (.inr k))
      obtain ⟨w', r, q⟩ := hlk i y v e1 n2 vis
      obtain ⟨c2, h2⟩ := look k
      refine ⟨w', r, .inr ⟨.inr k, c2, h2, ?_⟩⟩
      have c1 := cm h2
      rcases q with ⟨k', _⟩ | ⟨_, c3, e', z⟩
      · have k' : X.env.scope.names.lookup y = some .local := k'
        rcases L.free _ (PySem.mem_of_lookup k) rfl with k2 | k2 <;> rw [show X.env.scope.names.lookup y = _ from k2] at k' <;> cases k'
      · rw [c1] at e'
        cases e'
        exact ck (I.freeC y _ c1) z
  · obtain ⟨w', z⟩ := I.cell y c (cm e)
    exact ⟨w', ck (I.freeC y c (cm e)) z⟩
  · obtain ⟨v, o, ho, hd⟩ := I.cell y c (cm e)
    exact un.free c o ho (I.freeC y c (cm e)) (by simp)
end
end DLX
set_option Elab.async false
set_option linter.all false
set_option autoImplicit false
set_option maxRecDepth 100000
set_option maxHeartbeats 4000000
/-! DL14: the rules for x(lambda: e) and for the call of what was handed. -/
namespace DLX
open PySem PySem.Spec PyProof.Rows L2
/-- the defaults at dV: none, or one value -/
def DfOk (xs : List Str) (dV : Value) (h : Heap) : Prop := (xs = [] ∧ dV = .none) ∨ ∃ (y : Str) (d : Addr) (v : Value), xs = [y] ∧ dV = .ref d ∧ h.get? d = some { cls := .type "tuple", data := .seq [v].toArray }
/-- a lambda's parameters xs: all of them have a default; how it is made and bound -/
structure LamA (X : Cx) (params : Arguments) (body : Expr) (scope : Scope) (pos : Pos) (xs : List Str) : Prop where
  mak : ∀ (pins : List (Addr × Obj)) (st : L2.St) (H : Hp) (s : Shared) (Q : Value → Shared → Prop) (E : Value → Shared → Prop), Inv X pins st H s →
    (∀ dV s1, Inv X pins st H s1 → DfOk xs dV s1.heap → (∀ d, dV = .ref d → H d = none ∧ d ∉ frs X.stack) → wpAny (model X.prog X.w) X.A (makeTail "<lambda>" (X.env.qual ++ "<lambda>") params (.expr body) scope X.env dV .none none pos pos.line) Q E s1) →
    wpAny (model X.prog X.w) X.A (eval (.Lambda params body scope pos) X.env) Q E s
  bd : ∀ (q : Str) (cl : List (Str × Addr)) (pm cv ctv dV : Value) (s : Shared), DfOk xs dV s.heap → ∃ bs, bs.map (·.1) = xs ∧ BindsTo s (lamFd q params body scope cl pm cv ctv dV) ⟨[], []⟩ bs
theorem lamA_0 {X : Cx} {params : Arguments} {body : Expr} {scope : Scope} {pos : Pos} (hdef : defaultsOf params X.env = ([], [])) (hb : ∀ (q : Str) (cl : List (Str × Addr)) (pm cv ctv : Value), bindArgs (lamFd q params body scope cl pm cv ctv .none) ⟨[], []⟩ = pure []) : LamA X params body scope pos [] where
  mak := fun pins st H s Q E I h => by
    refine PySem.W.kla_eval hdef ?_
    rw [makeFunction_eq]
    simp only [List.zip_nil_right, List.filterMap_nil, List.isEmpty_nil, if_true, pure_bind]
    exact h .none s I (.inl ⟨rfl, rfl⟩) fun d e => nomatch e
  bd := fun q cl pm cv ctv dV s h => by
    rcases h with ⟨_, rfl⟩ | ⟨y, d, v, e, _⟩
    · exact ⟨[], rfl, .of_eq (hb q cl pm cv ctv)⟩
    · cases e
theorem lamA_1 {X : Cx} {params : Arguments} {body : Expr} {scope : Scope} {pos p1 : Pos} {n : Int} {j : Nat} {y : Str} (hdef : defaultsOf params X.env = ([eval (.Constant (.int n) j p1) X.env], []))
    (hb : ∀ (q : Str) (cl : List (Str × Addr)) (pm cv ctv v : Value) (d : Addr), ∃ k, bindArgs (lamFd q params body scope cl pm cv ctv (.ref d)) ⟨[], []⟩ = seqItems? (.ref d) >>= k ∧ k (some [v].toArray) = pure [(y, v)]) : LamA X params body scope pos [y] where
  mak := fun pins st H s Q E I h => by
    rw [arm_eval_Lambda, hdef]
    show wpAny _ _ (do let dv ← evalAll [eval (.Constant (.int n) j p1) X.env]; let kdv ← holding dv (evalAllOpt []); makeFunction "<lambda>" (X.env.qual ++ "<lambda>") params (.expr body) scope X.env dv kdv [] pos pos.line) Q E s
    refine wpAny_bind ?_
    unfold evalAll
    refine wpAny_bind (thn ((pe_int (X := X) (i := n) (j := j) (pos := p1)).run pins s st H (fun v H1 => v = .int n ∧ H1 = H) I ⟨rfl, rfl⟩) fun u s1 ⟨v, H1, I1, r1, e1, e2⟩ => ?_)
    subst e2
    refine wpAny_bind (wpAny_holding ?_)
    unfold evalAll
    refine wpAny_pure (wpAny_pure (wpAny_bind (wpAny_holding (wpAny_pure ?_))))
    rw [makeFunction_eq]
    simp only [List.zip_nil_right, List.filterMap_nil, List.isEmpty_nil, List.isEmpty_cons, Bool.false_eq_true, if_false, if_true, pure_bind]
    refine wpAny_bind (wpAny_newTextTuple ?_)
    have I2 : Inv X pins st H1 { s1 with heap := s1.heap.push { cls := .type "tuple", data := .seq [u].toArray } } := I1.kept (t' := s1.toks) fun b o e => Heap.get?_push_of_some _ e
    refine h _ _ I2 (.inr ⟨y, s1.heap.objs.size, u, rfl, rfl, Heap.get?_push_size _ rfl⟩) fun d e => ?_
    cases e
    refine ⟨I1.hok.fresh (Nat.le_refl _), fun z => ?_⟩
    rcases List.mem_cons.mp (I1.stkSub _ z) with e | e
    · have l := I1.lt
      rw [← e] at l
      exact Nat.lt_irrefl _ l
    · exact I1.nofs (Nat.le_refl _) e
  bd := fun q cl pm cv ctv dV s h => by
    rcases h with ⟨e, _⟩ | ⟨y', d, v, e, rfl, ho⟩
    · cases e
    · cases e
      obtain ⟨k, e1, e2⟩ := hb q cl pm cv ctv v d
      refine ⟨[(y, v)], rfl, fun M A E Q hq => ?_⟩
      rw [e1]
      refine wpAny_bind (wpAny_seqItems ho rfl ?_)
      rw [e2]
      exact wpAny_pure hq
end DLX

namespace DL
open PySem PySem.Spec PyProof.Rows L2
theorem SR.extN {K : PySem.W.Frag} {T : Tb} {al : List Addr} {mu : Mu} {H H1 : Hp} (r : SR K T al mu H) (e : LamX.ExtN H H1) (t : LamX.Tabs T.tb H1) : SR K T al mu H1 := by
  have kp : Kp H H1 := ⟨fun b xs h => e b _ h (fun ps z => nomatch z), fun b o u h => e b _ h (fun ps z => nomatch z)⟩
  refine ⟨r.len, r.nd, fun j c a e1 e2 => ?_, t, r.pre⟩
  have h := r.ok j c a e1 e2
  cases c with
  | lst xs => obtain ⟨vs, g, q⟩ := h; exact ⟨vs, e _ _ g (fun ps z => nomatch z), Rps.mono kp (Gr.refl _) _ _ q⟩
  | dct kvs => obtain ⟨vs, g, q⟩ := h; exact ⟨vs, e _ _ g (fun ps z => nomatch z), q.mono kp (Gr.refl _)⟩
  | ins C fs => obtain ⟨dx, vs, g, q⟩ := h; exact ⟨dx, vs, e _ _ g (fun ps z => nomatch z), q.mono kp (Gr.refl _)⟩
  | exc C fs => obtain ⟨dd, vs, g, g2, q⟩ := h; exact ⟨dd, vs, e _ _ g (fun ps z => by unfold ExH at z; cases z), e _ _ g2 (fun ps z => nomatch z), q.mono kp (Gr.refl _)⟩
theorem Kp.extN {H H1 : Hp} (e : LamX.ExtN H H1) : Kp H H1 := ⟨fun b xs h => e b _ h (fun ps z => nomatch z), fun b o u h => e b _ h (fun ps z => nomatch z)⟩
/-- the same store, its head fixed -/
theorem SR.fix {K : PySem.W.Frag} {T : Tb} {al : List Addr} {mu : Mu} {H : Hp} (r : SR K T al mu H) : SR K ⟨T.tb, al⟩ al mu H := ⟨r.len, r.nd, r.ok, r.tabs, Gr.refl _⟩
theorem SR.unfix {K : PySem.W.Frag} {T : Tb} {al al' : List Addr} {mu : Mu} {H : Hp} (p : Gr T.pre al) (r : SR K ⟨T.tb, al⟩ al' mu H) : SR K T al' mu H := ⟨r.len, r.nd, r.ok, r.tabs, p.trans r.pre⟩
theorem Wo.fix {K : PySem.W.Frag} {T : Tb} {a0 al : List Addr} {H : Hp} {Q : VK} {E : XK} {r : Ro} (p : Gr T.pre a0) (h : Wo K T al H Q E r) : Wo K ⟨T.tb, a0⟩ al H Q E r := by
  match r with
  | none => exact h
  | some (.ok d, mu) => exact fun a v H2 g k sr q => h a v H2 g k (sr.unfix p) q
  | some (.ex C fs, mu) => exact fun a H2 dd vs g k sr e q => h a H2 dd vs g k (sr.unfix p) e q
/-- a promise, the head fixed -/
theorem Fx.fix {P : Program} {w : World} {K : PySem.W.Frag} {mg : Str → Option Value} {base : Heap} {tb : List (Addr × Str)} {x : Str} {k n : Nat} {F : FS} (h : Fx P w K mg base ⟨tb, []⟩ x k n F) (pre : List Addr) : Fx P w K mg base ⟨tb, pre⟩ x k n F := by
  obtain ⟨f, fd, ps, G, a, b, c, d⟩ := h.ex
  refine ⟨f, fd, ps, G.imp fun vs H Q E ⟨l, al, mu, ds, sr, r, w⟩ => ⟨l, al, mu, ds, ⟨sr.len, sr.nd, sr.ok, sr.tabs, fun j a e => nomatch e⟩, r, ?_⟩, a, b, c, d⟩
  match hr : F ds mu with
  | none => rw [hr] at w; exact w
  | some (.ok d, mu') => rw [hr] at w; exact fun a v H2 g k sr2 q => w a v H2 g k ⟨sr2.len, sr2.nd, sr2.ok, sr2.tabs, sr.pre.trans g⟩ q
  | some (.ex C fs, mu') => rw [hr] at w; exact fun a H2 dd vs g k sr2 e q => w a H2 dd vs g k ⟨sr2.len, sr2.nd, sr2.ok, sr2.tabs, sr.pre.trans g⟩ e q
theorem fnS_wo {K : PySem.W.Frag} {T : Tb} {al : List Addr} {H : Hp} {Q : VK} {E : XK} {n : Nat} {m : SS} {ds : List D} {mu : Mu} (p : Wo K T al H Q E (fnS n m ds mu)) : WoS K T al H { nx := fun _ H' => Q .non H', rt := Q } (fun cls d _ H' => E cls d H') (m (ds.map some ++ List.replicate (n - ds.length) none) mu) := by
  unfold fnS at p
  match q : m (ds.map some ++ List.replicate (n - ds.length) none) mu with
  | none => rw [q] at p; exact p
  | some (.nx, rho1, mu1) =>
    rw [q] at p
    exact fun al1 s1 H1 g1 k1 sl1 sr1 => p al1 .non H1 g1 k1 sr1 (by unfold Rp; rfl)
  | some (.bk, rho1, mu1) => rw [q] at p; exact p.elim
  | some (.ct, rho1, mu1) => rw [q] at p; exact p.elim
  | some (.rt d, rho1, mu1) => rw [q] at p; exact p
  | some (.ex C fs, rho1, mu1) =>
    rw [q] at p
    exact fun al1 s1 H1 dd vs g1 k1 sl1 sr1 e1 e2 => p al1 H1 dd vs g1 k1 sr1 e1 e2
/-- a() of the lambda at f -/
def eAct (f : Addr) (cl : Mu → Ro) : ES := fun rho mu => match (rho[0]? : Option (Option D)) with
  | some (some (.adr g)) => if g = f then cl mu else none
  | _ => none
/-- x(lambda: e): G is what x does with the call -/
def eLam (G : (Mu → Ro) → Mu → Ro) (rm : Rho → Rho) (t : ES) : ES := fun rho mu => G (fun mu' => t (rm rho) mu') mu
/-- how the slots look in the lambda -/
structure Rm (X : Cx) (xs : List Str) (rm : Rho → Rho) (rs : L2.St → L2.St) : Prop where
  len : ∀ s, (rs s).length = s.length
  out : ∀ (s : L2.St) (i : Nat) (y : Str) (v : V), X.N[i]? = some y → (rs s)[i]? = some (some v) → y ∉ xs ∧ s[i]? = some (some v)
  sl : ∀ {K : PySem.W.Frag} {al : List Addr} {H : Hp} {rho : Rho} {s : L2.St}, SL K al H rho s → SL K al H (rm rho) (rs s)
theorem rm_0 {X : Cx} : Rm X [] id id := ⟨fun _ => rfl, fun s i y v _ e => ⟨by simp, e⟩, fun h => h⟩
theorem rm_1 {X : Cx} {y : Str} {i : Nat} (hN : X.N.Nodup) (hi : X.N[i]? = some y) : Rm X [y] (fun rho => rho.set i none) (fun s => s.set i none) := ⟨fun s => by simp, fun s k z v e1 e2 => by
  by_cases hk : k = i
  · subst hk
    by_cases hl : k < s.length
    · rw [List.getElem?_set_self hl] at e2; cases e2
    · rw [List.getElem?_eq_none (by simpa using hl)] at e2; cases e2
  · rw [List.getElem?_set_ne (Ne.symm hk)] at e2
    refine ⟨fun hz => ?_, e2⟩
    have : z = y := by simpa using hz
    subst this
    exact hk (nodup_ix hN e1 hi), fun h => h.unset i⟩
/-- its parameter is nobody's name in the def -/
theorem rm_out {X : Cx} {y : Str} (hy : y ∉ X.N) : Rm X [y] id id := ⟨fun _ => rfl, fun s i z v e1 e2 => ⟨fun hz => by
  have : z = y := by simpa using hz
  subst this
  exact hy (List.mem_of_getElem? e1), e2⟩, fun h => h⟩
section
variable {T : Tb} {X : Cx} {x a : Str} {g c P : Addr} {j k kb : Nat} {st : Stmt} {fd : FuncData} {Ng : List Str} {params : Arguments} {body : Expr} {scope : Scope} {xs : List Str} {rm : Rho → Rho} {rs : L2.St → L2.St} {t : ES} {p lpos pos : Pos} {m : Addr → (Mu → Ro) → SS} {G : (Mu → Ro) → Mu → Ro}
theorem se_lam (hg : Gl X x) (hm : X.mg x = some (.ref g)) (F : L2.Fun X.K x x st g fd) (hb : Binds X.K fd [a] []) (Sg : FnScope Ng [a] (defScope st)) (hNg : Ng[0]? = some a) (hva : Vis (defScope st) a)
    (hG : ∀ (T' : Tb) (cdv : Value) (A : Around) (outer : List Env) (s : Shared) (H : Hp) (E : XK) (f : Addr) (cl : Mu → Ro), T'.tb = T.tb → Room k (A.deeper (envOfC x (defScope st) s.heap.objs.size g cdv)) →
      (∀ (pn : List (Addr × Obj)) (xe : Value → Shared → Prop) (p1 p2 : Pos), SE T' ((cxOf (L2.CX X.prog X.w) X.prog X.w X.K X.mg X.base Ng x (defScope st) g cdv A outer s H E).tr pn xe) (.Call (.Name a p1) [] [] p2) (eAct f cl)) →
      STs T' (cxOf (L2.CX X.prog X.w) X.prog X.w X.K X.mg X.base Ng x (defScope st) g cdv A outer s H E) (defBody st) (m f cl))
    (hind : ∀ f cl mu, fnS Ng.length (m f cl) [.adr f] mu = G cl mu)
    (TB : LamX.TabB X.base X.mg c P) (ec : X.env.code = .ref c) (mT : (P, X.env.qual ++ "<lambda>") ∈ T.tb) (uT : ∀ p ∈ T.tb, p.1 = P → p.2 = X.env.qual ++ "<lambda>") (hr : Room j X.A) (hj : k + 1 ≤ j) (hkb : kb + 1 ≤ k)
    (L : DLX.LamP X.env.scope scope xs) (LA : DLX.LamA X params body scope lpos xs) (R : Rm X xs rm rs)
    (hbody : ∀ (T' : Tb) (A : Around) (outer : List Env) (s : Shared) (H : Hp) (E : XK) (f c' : Addr), T'.tb = T.tb → Room kb (A.deeper (LamX.lamEnv X scope s.heap.objs.size f c')) → SE T' (LamX.lamCx X A outer s H E scope f c') body t)
    (hdb : (x == ("__debug__" : Str)) = false := by decide) (hd : (a == ("__debug__" : Str)) = false := by decide) (hcd : (a == ("__classdict__" : Str)) = false := by decide) :
    SE T X (.Call (.Name x p) [.Lambda params body scope lpos] [] pos) (eLam G rm t) := fun W z => by
  obtain ⟨oc, od, kV, doc, pm0, an, cdv, ct, osl, rfl, lk, hcg⟩ := F.ex
  refine ⟨fun pins s0 s H Q I ⟨al, rho, mu, sl, sr, w⟩ => ?_⟩
  refine wpAny_Call_Name_kw (ld_glob I hg hm ?_ hdb)
  refine PySem.W.callWith_K (h₀ := X.base) I.ok.mod.kin F.kp ?_ (by rfl) (by rfl)
  show wpAny _ _ (spliced ((false, eval (.Lambda params body scope lpos) X.env) :: backTo pos (starEach [] X.env))) _ _ (s0 : Shared)
  refine Calls.spliced_cons (LA.mak pins s H s0 _ _ I fun dV s1 I1 dok dn => DLX.lam_tail I1 TB ec mT uT sr.tabs (L.has I.ok) fun f c' pm ctv H1 s2 ps1 I2 eN T1 hf hfn hfr eP1 hcP kp kn => Calls.spliced_nil ⟨I2.kIn, ?_⟩)
  have sr1 : SR X.K T al mu H1 := sr.extN eN T1
  have sl1 : SL X.K al H1 rho s := sl.mono (Kp.extN eN) (Gr.refl _)
  have w1 : Wo X.K ⟨T.tb, al⟩ al H1 Q (WE W s) (eLam G rm t rho mu) := Wo.fix sr.pre (Wo.mono w (Gr.refl _) (Kp.extN eN))
  have dok2 : ∀ d, dV = .ref d → ∀ o, s1.heap.get? d = some o → s2.heap.get? d = some o ∧ H1 d = none ∧ d ∉ frs X.stack := fun d e o ho => by
    obtain ⟨n1, n2⟩ := dn d e
    have ndP : d ≠ P := fun q => by
      obtain ⟨ps, e1, _⟩ := sr.tabs _ mT
      rw [q, e1] at n1; cases n1
    exact ⟨kp d o ndP ho, kn d o ho n1, n2⟩
  have dok3 : DLX.DfOk xs dV s2.heap := by
    rcases dok with h | ⟨y, d, v, e1, e2, e3⟩
    · exact .inl h
    · exact .inr ⟨y, d, v, e1, e2, (dok2 d e2 _ e3).1⟩
  have rc : codeAny (model X.prog X.w) X.A (.call (.ref g) ⟨[.ref f], []⟩) (CR (L2.CX X.prog X.w) X.stack X.prog X.w H1 s2 Q (WE W s)) s2 := by
    refine LamX.run_ofS (N := Ng) (ps := [a]) (us := [.ref f]) (vs := [.ref f]) (k := k) lk hcg Sg (hr.mono hj) I2.env0 (hb s2 [.ref f] I2.kIn rfl) (.cons rfl .nil) rfl fun hr' => ?_
    refine ⟨_, hG ⟨T.tb, al⟩ cdv X.A X.stack s2 H1 (WE W s) f (fun mu' => t (rm rho) mu') rfl hr' ?_ (fun cls d _ H' => WE W s cls d H') ⟨takes_of rfl rfl rfl rfl, z.gd⟩ (passes_of rfl), ?_⟩
    · intro pn xe p1 p2 W2 z2
      refine ⟨fun pinsZ sZ stZ HZ QZ IZ ⟨alZ, rhoZ, muZ, slZ, srZ, wZ⟩ => ?_⟩
      unfold eAct at wZ
      split at wZ
      · rename_i g' hg'
        split at wZ
        · rename_i hgf
          subst hgf
          obtain ⟨v0, hs0, rv0⟩ := slZ.ok 0 _ hg'
          unfold Rp at rv0
          subst rv0
          refine wpAny_Call_Name_kw (thn ((pe_var (pos := p1) (i := 0) hNg hva hd hcd).run pinsZ sZ stZ HZ (fun v H3 => v = .ref g' ∧ H3 = HZ) IZ ⟨.ref g', hs0, rfl, rfl⟩) fun u s3 ⟨v, H3, I3, r3, q1, q2⟩ => ?_)
          subst q1 q2
          obtain rfl : u = Value.ref g' := r3
          have of3 : s3.heap.get? g' = some (DLX.lamOb (X.env.qual ++ "<lambda>") params body scope (cloFrom X.env.cells scope.names []) pm (.ref c') ctv dV) := I3.base.keep g' _ hf hfn hfr (fun q => nomatch (show g' ∈ ([] : List Addr) from q))
          refine PySem.W.callWith_F0 ⟨_, _, _, _, of3⟩ ?_
          have un : Un (frs X.stack) [] H1 H3 s2.heap s3.heap := I3.base
          have dok4 : DLX.DfOk xs dV s3.heap := by
            rcases dok with h | ⟨y, d, v, e1, e2, e3⟩
            · exact .inl h
            · obtain ⟨f1, f2, f3⟩ := dok2 d e2 _ e3
              exact .inr ⟨y, d, v, e1, e2, un.keep d _ f1 f2 f3 (by simp)⟩
          have hco : H3 c' = some (LamX.CodeO c' (X.env.qual ++ "<lambda>")) := by
            obtain ⟨more, e1⟩ := un.tbls P ps1 eP1
            obtain ⟨ps', e2, _, e3⟩ := srZ.tabs _ mT
            dsimp only at e2
            rw [e1] at e2
            cases e2
            obtain ⟨c0, e4, e5⟩ := e3 lpos (.ref c') (by rw [Array.toList_append]; exact DLX.among_left _ _ hcP)
            cases e4
            exact e5
          obtain ⟨⟨oc2, vs2, t2, hoc, hdc, hvc⟩, _, _⟩ := I3.hok c' _ hco
          have rc2 : codeAny (model X.prog X.w) (X.A.deeper (envOfC x (defScope st) s2.heap.objs.size g cdv)) (.call (.ref g') ⟨[], []⟩) (CR (L2.CX X.prog X.w) (envOfC x (defScope st) s2.heap.objs.size g cdv :: X.stack) X.prog X.w H3 s3 QZ (WE W2 stZ)) s3 := by
            refine PySem.W.kla_callFunE (hr'.mono hkb).depth of3 rfl L.co L.gen rfl ⟨c', oc2, vs2, t2, rfl, hoc, hdc, hvc⟩ ?_
            obtain ⟨bs, hbs, bt⟩ := LA.bd _ _ _ _ _ dV s3 dok4
            refine bt _ _ _ _ (wpAny_newFunctionEnv (fun y hy => (L.own y hy).1) (fun y hy => L.par _ (by rw [← hbs]; exact List.mem_map_of_mem hy)) (fun h1 hns hsb => ⟨I3.nolimit.fresh _ hsb, ?_⟩) L.kind)
            show codeAny _ _ (.expr body (LamX.lamEnv X scope s3.heap.objs.size g' c')) _ _
            have kp3 : ∀ b o, s3.heap.get? b = some o → h1.get? b = some o := fun b o e => hsb.extBut b o (Nat.ne_of_lt (Heap.lt_size e)) (Heap.get?_push_of_some _ e)
            have J := DLX.lam_enter (A := X.A.deeper (envOfC x (defScope st) s2.heap.objs.size g cdv)) (outer := envOfC x (defScope st) s2.heap.objs.size g cdv :: X.stack) (E := WE W2 stZ) (f := g') (c' := c') (tk := s3.toks + bs.length) I2 L I3.env0 hr'.hd un hns kp3 (R.len s) (R.out s)
            have slL : SL X.K alZ H3 (rm rho) (rs s) := R.sl (sl1.mono ⟨un.tups, un.frzs⟩ srZ.pre)
            refine PySem.W.kla_codeExpr (wpAny_mono ((hbody ⟨T.tb, al⟩ _ _ s3 H3 (WE W2 stZ) g' c' rfl ((hr'.mono hkb).deeper _) (fun cls d _ H' => WE W2 stZ cls d H') ⟨takes_of rfl rfl rfl rfl, z.gd⟩).run [] _ _ H3 QZ J ⟨alZ, rm rho, muZ, slL, srZ, wZ⟩) (fun v s' hq => ?_) fun e s' hq => hq)
            obtain ⟨w', H', J', rv, q⟩ := hq
            exact ⟨w', H', J'.os, J'.bare, J'.base, J'.hok, rv, q⟩
          refine wpAny_call (codeAny_mono rc2 fun r s' hq => ?_)
          match r, hq with
          | .error e, q => exact passAt z2.tk stZ pinsZ H3 s3 e s' I3 q
          | .ok (.ret u), q => exact I3.after q
        · exact wZ.elim
      · exact wZ.elim
    · refine ⟨al, _, mu, SL.start (N := Ng) (Rps.one (d := .adr f) (v := .ref f) (by unfold Rp; rfl)), sr1.fix, fnS_wo (T := ⟨T.tb, al⟩) ?_⟩
      rw [hind]
      exact w1
  refine wpAny_call (codeAny_mono rc fun r s' hq => ?_)
  match r, hq with
  | .error e, q => exact passAt z.tk s pins H1 s2 e s' I2 q
  | .ok (.ret u), q => exact I2.after q
end
end DL
set_option Elab.async false
set_option linter.all false
set_option autoImplicit false
set_option maxRecDepth 100000
set_option maxHeartbeats 4000000
/-! DL15: repr of trees. -/
namespace DLX
open PySem PySem.Spec PyProof.Rows
mutual
/-- what stands at a value: dicts that are empty and are not the interpreter's own -/
inductive Sh (h : Heap) : Value → PyData → Prop
  | none : Sh h .none .none
  | bool (b : Bool) : Sh h (.bool b) (.bool b)
  | int (i : Int) (t : Tok) : Sh h (.int i t) (.int i)
  | str (x : Str) (t : Tok) : Sh h (.str x t) (.str x)
  | list {a : Addr} {o : Obj} {l : List Value} {n : Nat} {xs : List PyData} : h.get? a = some o → o.cls = .type "list" → o.data = .seq l.toArray n → ShA h l xs → Sh h (.ref a) (.list xs)
  | tuple {a : Addr} {o : Obj} {l : List Value} {n : Nat} {xs : List PyData} : h.get? a = some o → o.cls = .type "tuple" → o.data = .seq l.toArray n → ShA h l xs → Sh h (.ref a) (.tuple xs)
  | dict0 {a : Addr} {o : Obj} {n : Nat} : h.get? a = some o → o.cls = .type "dict" → o.data = .dict #[] n → (a == sysModules) = false → Sh h (.ref a) (.dict [])
inductive ShA (h : Heap) : List Value → List PyData → Prop
  | nil : ShA h [] []
  | cons {v : Value} {vs : List Value} {d : PyData} {ds : List PyData} : Sh h v d → ShA h vs ds → ShA h (v :: vs) (d :: ds)
end
mutual
theorem Sh.reads {h : Heap} : ∀ {v : Value} {d : PyData}, Sh h v d → ∃ as, Reads h v d as
  | _, _, .none => ⟨_, .none⟩
  | _, _, .bool b => ⟨_, .bool b⟩
  | _, _, .int i t => ⟨_, .int i t⟩
  | _, _, .str x t => ⟨_, .str x t⟩
  | _, _, .list h1 h2 h3 h4 => by
    obtain ⟨as, r⟩ := ShA.reads h4
    exact ⟨_, .list h1 h2 h3 (by simpa using r)⟩
  | _, _, .tuple h1 h2 h3 h4 => by
    obtain ⟨as, r⟩ := ShA.reads h4
    exact ⟨_, .tuple h1 h2 h3 (by simpa using r)⟩
  | _, _, .dict0 h1 h2 h3 _ => ⟨_, .dict h1 h2 h3 .nil .nil⟩
theorem ShA.reads {h : Heap} : ∀ {vs : List Value} {ds : List PyData}, ShA h vs ds → ∃ as, ReadsAll h vs ds as
  | _, _, .nil => ⟨_, .nil⟩
  | _, _, .cons a b => by
    obtain ⟨as, r⟩ := Sh.reads a
    obtain ⟨bs, q⟩ := ShA.reads b
    exact ⟨_, .cons r q⟩
end
section
variable {prog : Program} {w : World} {h0 : Heap}
theorem dict0_text : dictText (PyData.shownKv []) = dictText [] := by simp only [PyData.shownKv]
mutual
theorem Sh.repr : ∀ {v : Value} {d : PyData}, Sh h0 v d → d.showable = true → d.shown.length ≤ sizeLine → ∃ bs, ReadAtMost h0 d.depth bs ∧ ReprK prog w bs h0 d.depth v d.shown
  | _, _, .none, _, _ => ⟨[], (fun _ q => nomatch q), by simp only [PyData.shown]; exact .of_is ReprIs.none _ _ _⟩
  | _, _, .bool b, _, _ => ⟨[], (fun _ q => nomatch q), by simp only [PyData.shown]; exact .of_is (ReprIs.bool b) _ _ _⟩
  | _, _, .int i t, hs, _ => ⟨[], (fun _ q => nomatch q), by simp only [PyData.shown]; exact .of_is (ReprIs.int t (by simpa [PyData.showable] using hs)) _ _ _⟩
  | _, _, .str x t, _, hz => ⟨[], (fun _ q => nomatch q), by simp only [PyData.shown]; exact .of_is (ReprIs.str x t (by simpa only [PyData.shown] using hz)) _ _ _⟩
  | _, _, .list (a := a) (l := l) (xs := xs) h1 h2 h3 h4, hs, hz => by
    obtain ⟨as, r⟩ := Sh.reads (Sh.list h1 h2 h3 h4)
    have z : (listText (PyData.shownAll xs)).length ≤ sizeLine := by simpa only [PyData.shown] using hz
    obtain ⟨bs, hb, hk⟩ := ShA.repr h4 (by simpa [PyData.showable] using hs) (fun t ht => Nat.le_trans (listText_mem_le ht) z)
    have na : a ∉ bs := not_mem_of_deeper r (by simp only [PyData.depth]; omega) hb
    refine ⟨a :: bs, ReadAtMost.cons r (by simp only [PyData.depth]; omega) hb, ?_⟩
    simp only [PyData.depth, PyData.shown]
    cases l with
    | nil =>
      cases h4
      simp only [PyData.shownAll, listText_nil]
      exact ReprK.listEmpty h1 h2 h3
    | cons x l => exact ReprK.list h1 h2 h3 na (by simpa using hk.length_eq) (fun i y e => hk.item i y (by simpa using e))
  | _, _, .tuple (a := a) (l := l) (xs := xs) h1 h2 h3 h4, hs, hz => by
    obtain ⟨as, r⟩ := Sh.reads (Sh.tuple h1 h2 h3 h4)
    have z : (tupleText (PyData.shownAll xs)).length ≤ sizeLine := by simpa only [PyData.shown] using hz
    obtain ⟨bs, hb, hk⟩ := ShA.repr h4 (by simpa [PyData.showable] using hs) (fun t ht => Nat.le_trans (tupleText_mem_le ht) z)
    have na : a ∉ bs := not_mem_of_deeper r (by simp only [PyData.depth]; omega) hb
    refine ⟨a :: bs, ReadAtMost.cons r (by simp only [PyData.depth]; omega) hb, ?_⟩
    simp only [PyData.depth, PyData.shown]
    exact ReprK.tuple h1 h2 h3 na (by simpa using hk)
  | _, _, .dict0 (a := a) h1 h2 h3 h4, hs, hz => by
    obtain ⟨as, r⟩ := Sh.reads (Sh.dict0 h1 h2 h3 h4)
    refine ⟨[a], ReadAtMost.cons (n := 0) r (by omega) (fun _ q => nomatch q), ?_⟩
    simp only [PyData.depth, PyData.shown, PyData.shownKv, PyData.depthKv]
    exact ReprK.dict h1 h2 h3 h4 (by simp) (ReprEntriesK.nil)
theorem ShA.repr : ∀ {vs : List Value} {ds : List PyData}, ShA h0 vs ds → PyData.showableAll ds = true → (∀ t ∈ PyData.shownAll ds, t.length ≤ sizeLine) → ∃ bs, ReadAtMost h0 (PyData.depthAll ds) bs ∧ ReprAllK prog w bs h0 (PyData.depthAll ds) vs (PyData.shownAll ds)
  | _, _, .nil, _, _ => ⟨[], (fun _ q => nomatch q), by simp only [PyData.shownAll]; exact .nil⟩
  | _, _, .cons (d := d) (ds := ds) r rs, hs, hz => by
    have hs' : d.showable = true ∧ PyData.showableAll ds = true := by simpa [PyData.showableAll] using hs
    obtain ⟨b1, q1, k1⟩ := Sh.repr r hs'.1 (hz _ (by simp only [PyData.shownAll]; exact List.mem_cons_self ..))
    obtain ⟨b2, q2, k2⟩ := ShA.repr rs hs'.2 (fun t ht => hz t (by simp only [PyData.shownAll]; exact List.mem_cons_of_mem _ ht))
    simp only [PyData.depthAll, PyData.shownAll]
    exact ⟨b1 ++ b2, (q1.mono (Nat.le_max_left _ _)).append (q2.mono (Nat.le_max_right _ _)), .cons ((k1.more fun b hb => List.mem_append_left _ hb).level_le (Nat.le_max_left _ _)) (k2.more_le (fun b hb => List.mem_append_right _ hb) (Nat.le_max_right _ _))⟩
end
/-- repr(x), x a list, a tuple or an empty dict -/
theorem call_repr_sh {a : Addr} {d : PyData} {A : Around} {E : Value → Shared → Prop} {s : Shared} {Q : Value → Shared → Prop} (r : Sh s.heap (.ref a) d) (hs : d.showable = true) (hsz : d.shown.length ≤ sizeLine) (hg : A.guards = some []) (hu : A.units + (d.depth + 1) < cLine)
    (hQ : ∀ h' u tk, (∀ b o, s.heap.get? b = some o → h'.get? b = some o) → Q (.str d.shown u) { s with heap := h', toks := tk }) : wpAny (model prog w) A (call (.builtin "repr") [.ref a]) Q E s := by
  obtain ⟨as, rr⟩ := r.reads
  cases r with
  | @list _ o l n xs h1 h2 h3 h4 =>
    have z : (listText (PyData.shownAll xs)).length ≤ sizeLine := by simpa only [PyData.shown] using hsz
    obtain ⟨bs, hb, hk⟩ := ShA.repr (prog := prog) (w := w) h4 (by simpa [PyData.showable] using hs) (fun t ht => Nat.le_trans (listText_mem_le ht) z)
    have na : a ∉ bs := not_mem_of_deeper rr (by simp only [PyData.depth]; omega) hb
    simp only [PyData.depth] at hu
    simp only [PyData.shown] at hQ
    refine call_repr_slot (by omega) ⟨o, h1, h2⟩ F.slot_list_repr.toG ?_
    cases l with
    | nil =>
      cases h4
      simp only [PyData.shownAll, listText_nil] at hQ
      exact call_list_repr_empty ⟨o, h1, h2⟩ h1 h3 ⟨_, _, rfl, hQ s.heap _ _ fun _ _ e => e⟩
    | cons x l => exact call_list_reprK h1 h2 h3 na (by simpa using hk.length_eq) (fun i y e => hk.item i y (by simpa using e)) hg (fun b _ => Clear.nil b) (by show A.units + 1 + _ < cLine; omega) (fun _ _ e => e) (fun h' u tk k => ⟨_, _, rfl, hQ h' u tk k⟩) z
  | @tuple _ o l n xs h1 h2 h3 h4 =>
    have z : (tupleText (PyData.shownAll xs)).length ≤ sizeLine := by simpa only [PyData.shown] using hsz
    obtain ⟨bs, hb, hk⟩ := ShA.repr (prog := prog) (w := w) h4 (by simpa [PyData.showable] using hs) (fun t ht => Nat.le_trans (tupleText_mem_le ht) z)
    have na : a ∉ bs := not_mem_of_deeper rr (by simp only [PyData.depth]; omega) hb
    simp only [PyData.depth] at hu
    simp only [PyData.shown] at hQ
    refine call_repr_slot (by omega) ⟨o, h1, h2⟩ F.slot_tuple_repr ?_
    exact call_tuple_reprK h1 h2 h3 na (by simpa using hk) hg (fun b _ => Clear.nil b) (by show A.units + 1 + _ < cLine; omega) (fun _ _ e => e) (fun h' u tk k => ⟨_, _, rfl, hQ h' u tk k⟩) z
  | @dict0 _ o n h1 h2 h3 h4 =>
    simp only [PyData.depth, PyData.depthKv] at hu
    simp only [PyData.shown, PyData.shownKv] at hQ hsz
    refine call_repr_slot (by omega) ⟨o, h1, h2⟩ F.slot_dict_repr ?_
    exact call_dict_reprK (d := 0) (as := []) h1 h2 h3 h4 (by simp) ReprEntriesK.nil hg (fun b _ => Clear.nil b) (by show A.units + 1 + _ < cLine; omega) (fun _ _ e => e) (fun h' u tk k => ⟨_, _, rfl, hQ h' u tk k⟩) hsz
end
end DLX
namespace DL
open PySem PySem.Spec PyProof.Rows L2
section
variable {P : Program} {w : World} {K : PySem.W.Frag} {T : Tb} {al : List Addr} {mu : Mu} {H : Hp} {h : Heap}
mutual
theorem rp_sh (hok : HOk P w H h) (KX : K.In h) {rc : Nat → Option PyData} (hrc : ∀ j v p u, rc j = some p → Rp K al H (.cel j) v → RelV v u → DLX.Sh h u p) : ∀ (d : D) (v : V) (p : PyData) (u : Value), dP rc d = some p → Rp K al H d v → RelV v u → DLX.Sh h u p
  | .non, v, p, u, e, r, q => by unfold dP at e; cases e; cases rp_non.mp r; cases q; exact .none
  | .bl b, v, p, u, e, r, q => by unfold dP at e; cases e; cases rp_bl.mp r; cases q; exact .bool b
  | .int i, v, p, u, e, r, q => by unfold dP at e; cases e; cases rp_int.mp r; obtain ⟨t, rfl⟩ := q; exact .int i t
  | .str x, v, p, u, e, r, q => by unfold dP at e; cases e; cases rp_str.mp r; obtain ⟨t, rfl⟩ := q; exact .str x t
  | .ty n, v, p, u, e, r, q => by unfold dP at e; cases e
  | .adr n, v, p, u, e, r, q => by unfold dP at e; cases e
  | .cel j, v, p, u, e, r, q => by unfold dP at e; exact hrc j v p u e r q
  | .tup xs, v, p, u, e, r, q => by
    unfold dP at e
    obtain ⟨ps, h1, rfl⟩ := Option.map_eq_some_iff.mp e
    obtain ⟨a, ys, rfl, g, r2⟩ := rp_tup.mp r
    cases q
    obtain ⟨its, o, n, rv, e1, e2, e3⟩ := sqT_at hok KX g
    exact .tuple e1 e2 e3 (rps_sh hok KX hrc xs ys ps its h1 r2 rv)
  | .fl xs, v, p, u, e, r, q => by
    unfold dP at e
    obtain ⟨ps, h1, rfl⟩ := Option.map_eq_some_iff.mp e
    obtain ⟨a, ys, rfl, g, r2⟩ := rp_fl.mp r
    cases q
    obtain ⟨its, o, n, rv, e1, e2, e3⟩ := sqL_at hok KX g.sq
    exact .list e1 e2 e3 (rps_sh hok KX hrc xs ys ps its h1 r2 rv)
theorem rps_sh (hok : HOk P w H h) (KX : K.In h) {rc : Nat → Option PyData} (hrc : ∀ j v p u, rc j = some p → Rp K al H (.cel j) v → RelV v u → DLX.Sh h u p) : ∀ (ds : List D) (vs : List V) (ps : List PyData) (us : List Value), dPs rc ds = some ps → Rps K al H ds vs → Vals vs us → DLX.ShA h us ps
  | [], vs, ps, us, e, r, q => by unfold dPs at e; cases e; cases rps_nil.mp r; cases q; exact .nil
  | d :: ds, vs, ps, us, e, r, q => by
    unfold dPs at e
    split at e
    · rename_i p ps' e1 e2
      cases e
      obtain ⟨v, rr, rfl, r1, r2⟩ := rps_cons.mp r
      cases q with
      | cons q1 q2 => exact .cons (rp_sh hok KX hrc d v p _ e1 r1 q1) (rps_sh hok KX hrc ds rr ps' _ e2 r2 q2)
    · cases e
end
theorem cP_sh (hok : HOk P w H h) (KX : K.In h) (sr : SR K T al mu H) : ∀ (n j : Nat) (v : V) (p : PyData) (u : Value), cP mu n j = some p → Rp K al H (.cel j) v → RelV v u → DLX.Sh h u p
  | 0, j, v, p, u, e, _, _ => by unfold cP at e; cases e
  | n + 1, j, v, p, u, e, r, q => by
    unfold cP at e
    split at e
    · rename_i xs ex
      obtain ⟨ps, h1, rfl⟩ := Option.map_eq_some_iff.mp e
      obtain ⟨a, ys, rfl, _, g, r2⟩ := cel_lst sr r ex
      cases q
      obtain ⟨its, o, n', rv, e1, e2, e3⟩ := sqL_at hok KX (SqL.of (K := K) g)
      exact .list e1 e2 e3 (rps_sh hok KX (cP_sh hok KX sr n) xs ys ps its h1 r2 rv)
    · rename_i ex
      cases e
      unfold Rp at r
      obtain ⟨a, e1, rfl⟩ := r
      obtain ⟨vs, e2, e3, _⟩ := sr.ok j _ a ex e1
      have e3 : vs.map (·.1) = [] := e3
      have : vs = [] := by simpa using e3
      subst this
      cases q
      obtain ⟨z1, z2, us, kv, o, es, ep, f1, f2, f3, f4, f5, f6⟩ := dk_of hok e2
      have hu : us = [] := by cases kv; rfl
      subst hu
      have he : es = #[] := by
        cases f5' : es.toList with
        | nil => exact Array.toList_eq_nil_iff.mp f5'
        | cons x l => rw [f5'] at f5; cases f5
      subst he
      exact .dict0 f1 f2.1 f3 z2
    · cases e
end
def isR : D → Bool
  | .tup _ => true
  | .cel _ => true
  | .fl _ => true
  | _ => false
def reprF : FS
  | [d], mu => match toP mu d with
    | some p => if isR d = true ∧ p.showable = true ∧ p.shown.length ≤ sizeLine ∧ p.depth ≤ 100 then some (.ok (.str p.shown), mu) else none
    | none => none
  | _, _ => none
def rRepr (K : PySem.W.Frag) : List V → Hp → VK → Prop := fun xs H Q => ∃ (a : Addr) (p : PyData), xs = [.ref a] ∧ (∀ (P : Program) (w : World) (h : Heap), HOk P w H h → K.In h → DLX.Sh h (.ref a) p) ∧ p.showable = true ∧ p.shown.length ≤ sizeLine ∧ p.depth ≤ 100 ∧ Q (.str p.shown) H
theorem call_reprX {X : Cx} {k : Nat} (hr : Room k X.A) (gd : X.A.guards = some []) : CallR X (.builtin "repr") (rRepr X.K) := by
  intro pins s st H xs us Q I r h
  obtain ⟨a, p, rfl, sh, h1, h2, h3, q⟩ := h
  cases r with
  | cons rx rr =>
    cases rr
    cases rx
    exact DLX.call_repr_sh (sh _ _ _ I.hok I.kIn) h1 h2 gd (by have := hr.un; omega) fun h' u tk k => ⟨.str _, H, I.kept (t' := tk) k, ⟨_, rfl⟩, q⟩
theorem rp_ref {K : PySem.W.Frag} {al : List Addr} {H : Hp} {d : D} {v : V} (h : isR d = true) (r : Rp K al H d v) : ∃ a, v = .ref a := by
  unfold isR at h
  split at h
  · obtain ⟨a, ys, e, _⟩ := rp_tup.mp r; exact ⟨a, e⟩
  · unfold Rp at r; obtain ⟨a, _, e⟩ := r; exact ⟨a, e⟩
  · obtain ⟨a, ys, e, _⟩ := rp_fl.mp r; exact ⟨a, e⟩
  · cases h
theorem c_repr {K : PySem.W.Frag} {T : Tb} : CallD K T reprF (rRepr K) := fun al mu H ds vs Q E sr r p => by
  unfold reprF at p
  split at p
  · rename_i d mu
    split at p
    · rename_i q hq
      split at p
      · rename_i hc
        obtain ⟨c1, c2, c3, c4⟩ := hc
        obtain ⟨v, rr, rfl, r1, r2⟩ := rps_cons.mp r
        cases rps_nil.mp r2
        obtain ⟨a, rfl⟩ := rp_ref c1 r1
        exact ⟨a, q, rfl, fun P w h hok KX => rp_sh hok KX (cP_sh hok KX sr 12) _ _ q _ hq r1 rfl, c2, c3, c4, Wo.now p sr (by unfold Rp; rfl)⟩
      · exact p.elim
    · exact p.elim
  · exact p.elim
theorem se_repr {T : Tb} {X : Cx} {k : Nat} {e : Expr} {es : List Expr} {fs : List ES} {pos p : Pos} (hr : Room k X.A) (hm : X.mg "repr" = none) (ha : SA T X (e :: es) fs)
    (hg : Gl X "repr" := by rfl) (he : starEach (e :: es) X.env = (false, eval e X.env) :: starEach es X.env := by rfl) (hpl : (backTo pos (starEach es X.env)).any (·.1) = false := by rfl) :
    SE T X (.Call (.Name "repr" p) (e :: es) [] pos) (eCall reprF fs) := fun W z => se_callB (call_reprX hr z.gd) c_repr hg hm (by decide +kernel) ha (by decide) (by decide) he hpl W z
end DL
set_option Elab.async false
set_option linter.all false
set_option autoImplicit false
set_option maxRecDepth 100000
set_option maxHeartbeats 4000000
/-! DL16: the end of a law row. -/
namespace DLX
open PySem PySem.Spec PyProof.Rows L2
/-- the call of the law from the outermost frame; cs: code objects whose tables are empty as yet -/
theorem law_callG {P : Program} {w : World} {K : PySem.W.Frag} {mg mb : Str → Option Value} {k : Nat} {fa a : Addr} {cs : List (Addr × Addr)} {fd : FuncData} {x : Str} {sp : Sp} {s1 : Shared} {vs : List Value} {ns : List Int}
    (KX : K.In s1.heap) (gg : s1.heap.Ns mainGlobals mg) (gb : s1.heap.Ns builtinsNs mb) (eb : ∀ x : Str, x ≠ "__name__" → mb x = bootBuiltins x) (lim : s1.heap.NoLimit) (g0 : s1.gens = #[])
    (tE : ∀ p ∈ cs, s1.heap.get? p.2 = some { cls := .none, data := .fields #[] }) (tK : ∀ p ∈ cs, K.lookup p.2 = none) (tC : ∀ p ∈ cs, PySem.W.CodeHd s1.heap p.1 p.2)
    (bM : ∃ (bm : Addr) (ob : Obj), mg "__builtins__" = some (.ref bm) ∧ bm ≠ builtinsNs ∧ s1.heap.get? bm = some ob ∧ ob.cls = .type "module" ∧ ob.dict = some builtinsNs ∧ ob.data = .plain)
    (ea : s1.heap.get? a = some { cls := .type "list", data := .seq vs.toArray }) (hi : IntsAre vs ns) (hl : ns.length ≤ sizeLine) (hr : Room k callerA)
    (F : ∀ base : Heap, K.In base → base.Ns mainGlobals mg → (∀ p ∈ cs, LamX.TabB base mg p.1 p.2) → DL.FnG P w K mg base k fa fd [x] sp) (hb : ∀ (s : Shared) (u : Value), BindsTo s fd ⟨[u], []⟩ [(x, u)])
    (hsp : ∀ H : Hp, (∀ p ∈ cs, H p.2 = some (.tbl #[])) → DL.FzL K H a (ns.map V.int) → sp [.ref a] H (fun v _ => v = .bl true) fun _ _ _ => False) :
    codeAny (model P w) callerA (.call (.ref fa) ⟨[.ref a], []⟩) (fun r s' => r = .ok (.ret (.bool true)) ∧ OldK s1.heap s'.heap ∧ s'.os = s1.os ∧ AllBare s'.gens) s1 := by
  have rv := vals_ints hi
  have lv := hi.length
  have tE' : ∀ b : Addr, b ∈ cs.map (·.2) → s1.heap.get? b = some { cls := .none, data := .fields #[] } := fun b hb => by
    obtain ⟨p, hp, rfl⟩ := List.mem_map.mp hb
    exact tE p hp
  have inT : ∀ p ∈ cs, p.2 ∈ cs.map (·.2) := fun p hp => List.mem_map_of_mem hp
  have notT : a ∉ cs.map (·.2) := fun z => by
    have q := tE' a z
    rw [ea] at q
    cases q
  -- the script is tracked unless the written part has it
  let scr : HO := .frz { cls := .type "list", data := .seq vs.toArray } (.lst (ns.map V.int))
  let H : Hp := fun b => if b ∈ cs.map (·.2) then some (.tbl #[]) else if b = a ∧ K.lookup a = none then some scr else none
  have hT : ∀ b, b ∈ cs.map (·.2) → H b = some (.tbl #[]) := fun b z => if_pos z
  have hS : K.lookup a = none → H a = some scr := fun z => (if_neg notT).trans (if_pos ⟨rfl, z⟩)
  have only : ∀ b u, H b = some u → (b ∈ cs.map (·.2) ∧ u = .tbl #[]) ∨ (b = a ∧ K.lookup a = none ∧ u = scr) := fun b u e => by
    by_cases z : b ∈ cs.map (·.2)
    · exact .inl ⟨z, (Option.some.inj ((hT b z).symm.trans e)).symm⟩
    · have e' : (if b = a ∧ K.lookup a = none then some scr else none) = some u := (if_neg z).symm.trans e
      by_cases y : b = a ∧ K.lookup a = none
      · exact .inr ⟨y.1, y.2, (Option.some.inj ((if_pos y).symm.trans e')).symm⟩
      · rw [if_neg y] at e'; cases e'
  have hok : HOk P w H s1.heap := fun b u e => by
    rcases only b u e with ⟨z, rfl⟩ | ⟨rfl, _, rfl⟩
    · exact tE' b z
    · exact ⟨ea, by rw [List.length_map]; exact hl, vs, _, rv, ea⟩
  have fz : DL.FzL K H a (ns.map V.int) := by
    cases z : K.lookup a with
    | none => exact .inl ⟨_, hS z⟩
    | some o =>
      have q := KX a o z
      rw [ea] at q
      cases q
      exact .inr ⟨_, vs.toArray, _, z, rfl, rfl, rfl, by rw [List.size_toArray, lv]; exact hl, by simpa using rv⟩
  have hid : ∀ {b : Addr} {o : Obj}, s1.heap.get? b = some o → H b = none → (hidT s1.heap H).get? b = some o := fun e n => hidT_get e n
  -- neither a table nor a list
  have out : ∀ {b : Addr} {o : Obj}, s1.heap.get? b = some o → (∀ l n, o.data ≠ .seq l n) → o.data ≠ .fields #[] → H b = none := fun {b o} e n1 n2 => by
    cases q : H b with
    | none => rfl
    | some u =>
      rcases only b u q with ⟨z, _⟩ | ⟨rfl, _, _⟩
      · rw [tE' b z] at e; cases e; exact (n2 rfl).elim
      · rw [ea] at e; cases e; exact (n1 _ _ rfl).elim
  have ns' : ∀ {b : Addr} {m : Str → Option Value}, s1.heap.Ns b m → (hidT s1.heap H).Ns b m := fun ⟨o, es, ep, e, d, r⟩ => ⟨o, es, ep, hid e (out e (fun l n z => by rw [d] at z; cases z) (fun z => by rw [d] at z; cases z)), d, r⟩
  have kin : K.In (hidT s1.heap H) := fun b o e => hid (KX b o e) (by
    cases q : H b with
    | none => rfl
    | some u =>
      rcases only b u q with ⟨z, _⟩ | ⟨rfl, z, _⟩
      · obtain ⟨p, hp, rfl⟩ := List.mem_map.mp z
        rw [tK p hp] at e; cases e
      · rw [z] at e; cases e)
  have md : L2.Mod K mg (hidT s1.heap H) := ⟨kin, ns' gg, ⟨mb, ns' gb, eb⟩, let ⟨mc, e1, e2⟩ := lim; ⟨mc, ns' e1, e2⟩⟩
  have tb : ∀ p ∈ cs, LamX.TabB (hidT s1.heap H) mg p.1 p.2 := fun p hp => by
    refine ⟨?_, ?_, fun z => ?_⟩
    · obtain ⟨o, us, f1, f2, f3, f4, f5, f6, f7, e1, r1, r2, r3, r4, r5, r6, r7, r8, r9⟩ := tC p hp
      refine ⟨o, us, f1, f2, f3, f4, f5, f6, f7, hid e1 (out e1 (fun l n z => by rw [r2] at z; cases z) fun z => ?_), r1, r2, r3, r4, r5, r6, r7, r8, r9⟩
      rw [r2] at z
      cases z
      simp at r3
    · obtain ⟨bm, ob, b1, b2, b3, b4, b5, b6⟩ := bM
      have n1 : bm ≠ mainGlobals := fun q => by
        obtain ⟨o, es, ep, e, hd, _⟩ := gg
        rw [q, e] at b3; cases b3
        rw [hd] at b6; cases b6
      have n2 : bm ≠ p.2 := fun q => by
        rw [q, tE p hp] at b3; cases b3; cases b6
      exact ⟨bm, ob, b1, b2, n1, n2, hid b3 (out b3 (fun l n z => by rw [b6] at z; cases z) (fun z => by rw [b6] at z; cases z)), b4, b5, b6⟩
    · obtain ⟨o, es, ep, e, hd, _⟩ := gg
      rw [z, tE p hp] at e; cases e; cases hd
  have e0 : Env0 P w K mg (hidT s1.heap H) callerA [] s1 H := ⟨rfl, md, fun b o e => of_hidT e, Nat.le_of_eq (hidT_size _ _), trivial, fun b z => (nomatch (show b ∈ ([] : List Addr) from z)), hok, .of_eq g0⟩
  refine codeAny_mono ((F _ kin (ns' gg) tb).run callerA [] s1 H ⟨[.ref a], []⟩ [.ref a] [.ref a] _ _ hr rfl e0 (hb s1 (.ref a)) (.cons rfl .nil) (hsp H (fun p hp => hT _ (inT p hp)) fz)) fun r s' h => ?_
  match r, h with
  | .error e, h =>
    obtain ⟨_, _, _, _, _, _, _, _, _, _, _, _, z⟩ := h
    exact z.elim
  | .ok (.ret u), h =>
    obtain ⟨v, H', os, bare, un, hok', r', q⟩ := h
    have q : v = .bl true := q
    subst q
    obtain rfl : u = Value.bool true := r'
    have stay : ∀ b o, b ∉ cs.map (·.2) → s1.heap.get? b = some o → s'.heap.get? b = some o := fun b o nb e => by
      cases q : H b with
      | none => exact un.keep b o e q (fun z => nomatch (show b ∈ ([] : List Addr) from z)) (by simp)
      | some u =>
        rcases only b u q with ⟨z, _⟩ | ⟨rfl, _, rfl⟩
        · exact absurd z nb
        · obtain ⟨e1, _⟩ := hok b _ q
          obtain ⟨e2, _⟩ := hok' b _ (un.frzs b _ _ q)
          rw [e] at e1; cases e1
          exact e2
    have grow : ∀ p ∈ cs, ∃ more : Array Value, s'.heap.get? p.2 = some { cls := .none, data := .fields more } := fun p hp => by
      obtain ⟨more, z⟩ := un.tbls p.2 #[] (hT _ (inT p hp))
      exact ⟨_, hok' p.2 _ z⟩
    refine ⟨rfl, ⟨fun b o e => ?_, fun b o e => ?_⟩, os, bare⟩
    · by_cases z : b ∈ cs.map (·.2)
      · obtain ⟨p, hp, rfl⟩ := List.mem_map.mp z
        obtain ⟨more, hm⟩ := grow p hp
        rw [tE p hp] at e
        cases e
        exact .inr (.inl ⟨((tC p hp).tab (tE p hp)).isCodeTable, rfl, #[], more, rfl, by rw [Array.empty_append]; exact hm⟩)
      · exact .inl (stay b o z e)
    · by_cases z : b ∈ cs.map (·.2)
      · obtain ⟨p, hp, rfl⟩ := List.mem_map.mp z
        obtain ⟨more, hm⟩ := grow p hp
        exact ⟨_, hm⟩
      · exact ⟨o, stay b o z e⟩
end DLX
namespace DL
open PySem PySem.Spec PyProof.Rows L2
/-- the tables of the defs that the walk sees -/
def TabOf (q : Program) (K : PySem.W.Frag) (mg : Str → Option Value) (h : Heap) : Prop := ∀ (x : Str) (f c P : Addr) (o : Obj) (fd : FuncData) (e : Value) (dd : Option Addr) (vs : Array Value) (sl : Array (Option Value)),
  ((recsOf q).any fun e => e.name == x) = true → mg x = some (.ref f) → K.lookup f = some o → o.data = .func fd → fd.code = .ref c → K.lookup c = some ⟨e, dd, .fields vs, sl⟩ → vs[11]? = some (.ref P) →
    PySem.W.CodeHd h c P ∧ h.get? P = some { cls := .none, data := .fields #[] }
/-- what is known of the law at the head's heap h: it is L, and L tells True of every script -/
def LawG (l : PySem.W.OpenLaw) (w : World) (K : PySem.W.Frag) (k n : Nat) (x : Str) (mg : Str → Option Value) (fa : Addr) (h : Heap) : Prop :=
  ∃ (fd : FuncData) (cs : List (Addr × Addr × Str)) (L : FS), (∀ p ∈ cs, h.get? p.2.1 = some { cls := .none, data := .fields #[] }) ∧ (∀ p ∈ cs, K.lookup p.2.1 = none) ∧ (∀ p ∈ cs, PySem.W.CodeHd h p.1 p.2.1) ∧ (∀ (s : Shared) (u : Value), BindsTo s fd ⟨[u], []⟩ [(x, u)]) ∧
    (∀ ns : List Int, ns.length ≤ n → (∀ z ∈ ns, Builtin.Int.intBits z ≤ 1048576) → ∃ mu, L [.fl (ns.map D.int)] [] = some (.ok (.bl true), mu)) ∧
    ∀ base : Heap, K.In base → base.Ns mainGlobals mg → (∀ p ∈ cs, LamX.TabB base mg p.1 p.2.1) → FnG l.prog w K mg base k fa fd [x] (spD K ⟨cs.map (·.2), []⟩ 1 L)
theorem rps_ints {K : PySem.W.Frag} {al : List Addr} {H : Hp} : ∀ ns : List Int, Rps K al H (ns.map D.int) (ns.map V.int)
  | [] => Rps.nil
  | n :: ns => Rps.cons (rp_int.mpr rfl) (rps_ints ns)
theorem walk_G {l : PySem.W.OpenLaw} {n k : Nat} {q : Program} {loose : List Str} {XP : (Str → Option Value) → Heap → Prop} {YP : World → Heap → Prop} {d : DefRec} {K : Params → PySem.W.Frag} {x : Str}
    (hn : l.most = some n) (hn2 : n ≤ sizeLine) (hdf : d.params.defaults = []) (hr : Room k callerA) (hY : ∀ (w : World) (h : Heap), YP w h → (K w.params).In h)
    (F : ∀ (w : World) (mg : Str → Option Value) (fa : Addr) (h : Heap), YP w h → (K w.params).In h → h.Ns mainGlobals mg → mg d.name = some (.ref fa) → TabOf q (K w.params) mg h → LawG l w (K w.params) k n x mg fa h) :
    PySem.W.WalkO q loose XP YP l.row.toRowW d [] (fun f vs => PySem.call f vs) := by
  refine Att.attach_callB hn hdf fun w s0 s1 mg mb fa o pm cd doc a vs ns G Y ho hd hcd hmg hobj hints hlen hbits hg => ?_
  have KX := hY w _ Y
  have tab : TabOf q (K w.params) mg s1.heap := fun x f c P o1 fd1 e dd us sl hx k0 k1 k2 k3 k4 k5 => by
    obtain ⟨dL, hm, e1⟩ := List.any_eq_true.mp hx
    obtain ⟨a', o', fd', c', P', h1, h2, h3, h4, h5, h6⟩ := G.T.tab dL hm
    rw [beq_iff_eq.mp e1, k0] at h1
    cases h1
    rw [KX _ _ k1] at h2
    cases h2
    rw [k2] at h3
    cases h3
    rw [k3] at h4
    cases h4
    have hc := PySem.W.CodeHd.of h5 h6
    obtain ⟨⟨oc, vc, e1, e2, e3, e4⟩, hP⟩ := h6
    rw [KX _ _ k4] at e1
    cases e1
    cases e3
    rw [k5] at e4
    cases e4
    exact ⟨hc, hP⟩
  obtain ⟨fd, cs, L, hT, nT, C, hb, hL, hF⟩ := F w mg fa _ Y KX G.T.g hmg tab
  have up : ∀ {p : Addr × Addr}, p ∈ cs.map (fun p => (p.1, p.2.1)) → ∃ p' ∈ cs, p = (p'.1, p'.2.1) := fun hp => by
    obtain ⟨p', h1, h2⟩ := List.mem_map.mp hp
    exact ⟨p', h1, h2.symm⟩
  refine DLX.law_callG (cs := cs.map (fun p => (p.1, p.2.1))) KX G.T.g G.T.b G.T.builtins G.T.nolimit hg (fun p hp => ?_) (fun p hp => ?_) (fun p hp => ?_) G.T.bmain hobj hints (Nat.le_trans hlen hn2) hr (fun base h1 h2 h3 => hF base h1 h2 fun p hp => h3 _ (List.mem_map.mpr ⟨p, hp, rfl⟩)) hb fun H hH hS => ?_
  · obtain ⟨p', h1, rfl⟩ := up hp; exact hT p' h1
  · obtain ⟨p', h1, rfl⟩ := up hp; exact nT p' h1
  · obtain ⟨p', h1, rfl⟩ := up hp; exact C p' h1
  · obtain ⟨mu, e⟩ := hL ns hlen hbits
    refine ⟨rfl, [], [], [.fl (ns.map D.int)], ⟨rfl, by simp, fun j c a e => by simp at e, fun p hp => ?_, fun j a e => by simp at e⟩, Rps.one (rp_fl.mpr ⟨a, _, rfl, hS, rps_ints ns⟩), ?_⟩
    · obtain ⟨p', h1, rfl⟩ := List.mem_map.mp hp
      exact LamX.TabS.nil (hH (p'.1, p'.2.1) (List.mem_map.mpr ⟨p', h1, rfl⟩))
    · rw [e]
      exact fun al' v H' _ _ _ r => rp_bl.mp r
end DL
set_option Elab.async false
set_option linter.all false
set_option autoImplicit false
set_option maxRecDepth 100000
set_option maxHeartbeats 4000000
/-! DL17: more rules. -/
namespace DL
open PySem PySem.Spec PyProof.Rows L2
/-- a, b = x, y -/
def sPar (i j : Nat) (f g : ES) : SS := fun rho mu => bnS (f rho mu) rho fun a mu1 => bnS (g rho mu1) rho fun b mu2 => some (.nx, (rho.set i (some a)).set j (some b), mu2)
/-- target = e -/
def sAsg (t : Tg) (f : ES) : SS := fun rho mu => bnS (f rho mu) rho fun d mu1 => match asgD t d rho with
  | some rho1 => some (.nx, rho1, mu1)
  | none => none
section
variable {T : Tb} {X : Cx} {pos : Pos} {a b e tg : Expr} {f g : ES} {t : Tg}
theorem st_par {i j : Nat} {x y : Str} {px py pt pt2 : Pos} {kt k2 : Nat} (hN : X.N.Nodup) (ha : SE T X a f) (hb : SE T X b g) (hc : X.calm = true := by rfl) (hi : X.N[i]? = some x := by rfl) (hj : X.N[j]? = some y := by rfl) (hij : i ≠ j := by decide)
    (hx : X.env.scope.names.lookup x = some .local := by rfl) (hy : X.env.scope.names.lookup y = some .local := by rfl)
    (hw : swappedStores [.Tuple [.Name x px, .Name y py] kt pt] (.Tuple [a, b] k2 pt2) X.env = pure (some [x, y]) := by rfl)
    (hs : swapsWithSole [.Tuple [.Name x px, .Name y py] kt pt] (.Tuple [a, b] k2 pt2) pos.line X.env = pure false := by rfl)
    (s1 : starEach [a, b] X.env = (false, eval a X.env) :: starEach [b] X.env := by rfl) (s2 : starEach [b] X.env = (false, eval b X.env) :: starEach [] X.env := by rfl) :
    ST T X (.Assign [.Tuple [.Name x px, .Name y py] kt pt] (.Tuple [a, b] k2 pt2) pos) (sPar i j f g) := fun W z ps =>
  PS.weak (ps_par hc hN hi hj hij hx hy (pa_cons (ha W z) (pa_cons (hb W z) pa_nil s2) s1) hw hs) fun De s H ⟨al, rho, mu, sl, sr, w⟩ =>
    ⟨al, rho, mu, sl, sr, WoS.bn sl w fun d mu1 al1 v H1 _ g1 k1 sr1 rv w1 => ⟨al1, rho, mu1, sl.mono k1 g1, sr1, WoS.bn (sl.mono k1 g1) w1 fun d2 mu2 al2 v2 H2 _ g2 k2 sr2 rv2 w2 =>
      ⟨v, v2, rfl, w2 al2 _ H2 (Gr.refl _) (Kp.refl _) ((((sl.mono k1 g1).mono k2 g2).set (Rp.mono k2 g2 _ _ rv) i).set rv2 j) sr2⟩⟩⟩
theorem st_asg (he : SE T X e f) (hg : SG X tg t) (hs : swapsWithSole [tg] e pos.line X.env = pure false := by rfl) (hw : swappedStores [tg] e X.env = pure none := by rfl)
    (h1 : (assignEach [tg] X.env).map (·.2) = [assign tg X.env] := by rfl) : ST T X (.Assign [tg] e pos) (sAsg t f) := fun W z ps => PS.weak (ps_asg (he W z) hg hs hw h1) fun De s H ⟨al, rho, mu, sl, sr, w⟩ =>
  ⟨al, rho, mu, sl, sr, WoS.bn sl w fun d mu1 al1 v H1 _ g1 k1 sr1 rv w1 => by
    split at w1
    · rename_i rho1 h1
      exact gT_of h1 rv (sl.mono k1 g1) fun s' sl' _ => w1 al1 s' H1 (Gr.refl _) (Kp.refl _) sl' sr1
    · exact w1.elim⟩
end
/-- a module's tuple of texts -/
theorem rp_ktup {K : PySem.W.Frag} {al : List Addr} {H : Hp} {a : Addr} {o : Obj} {its : Array Value} {n : Nat} {ds : List D} {vs : List V} (l : K.lookup a = some o) (hc : o.cls = .type "tuple") (hd : o.data = .seq its n) (hz : its.size ≤ sizeLine) (r : Vals vs its.toList) (q : Rps K al H ds vs) : Rp K al H (.tup ds) (.ref a) :=
  rp_tup.mpr ⟨a, vs, rfl, .inr ⟨o, its, n, l, hc, hd, hz, r⟩, q⟩
theorem rps_strs {K : PySem.W.Frag} {al : List Addr} {H : Hp} : ∀ xs : List Str, Rps K al H (xs.map D.str) (xs.map V.str)
  | [] => Rps.nil
  | x :: xs => Rps.cons (rp_str.mpr rfl) (rps_strs xs)
end DL
namespace DL
open PySem PySem.Spec PyProof.Rows L2
def blkB (N : List Str) (sc scope : Scope) (own : List (Str × Nat)) : Bool :=
  decide (scope.kind = .function) && (scope.names.all fun y => decide (scope.names.lookup y.1 = some y.2) && (!decide (y.2 = .free) || decide (sc.names.lookup y.1 = some .cell) || decide (sc.names.lookup y.1 = some .free)) && (!(decide (y.2 = .local) || decide (y.2 = .cell)) || decide (y.1 ∈ own.map (·.1)) || !decide (y.1 ∈ N))) && own.all fun p => decide (N[p.2]? = some p.1)
theorem blk_by {N : List Str} {sc scope : Scope} {own : List (Str × Nat)} (h : blkB N sc scope own = true) : BlkOk N sc scope own := by
  unfold blkB at h
  simp only [Bool.and_eq_true, Bool.or_eq_true, Bool.not_eq_true', decide_eq_true_eq, decide_eq_false_iff_not, List.all_eq_true, Bool.or_eq_false_iff] at h
  obtain ⟨⟨h1, h2⟩, h3⟩ := h
  refine ⟨h1, fun y hy => (h2 y hy).1.1, h3, fun y hy e => ?_, fun y hy e => ?_⟩
  · rcases (h2 y hy).1.2 with (z | z) | z
    · exact absurd e z
    · exact .inl z
    · exact .inr z
  · rcases (h2 y hy).2 with (z | z) | z
    · rcases e with e | e
      · exact absurd e z.1
      · exact absurd e z.2
    · exact .inl z
    · exact .inr z
theorem Fx.fixT {P : Program} {w : World} {K : PySem.W.Frag} {mg : Str → Option Value} {base : Heap} {tb : List (Addr × Str)} {T2 : Tb} {x : Str} {k n : Nat} {F : FS} (h : Fx P w K mg base ⟨tb, []⟩ x k n F) (ht : T2.tb = tb) : Fx P w K mg base T2 x k n F := by
  obtain ⟨t2, pre⟩ := T2
  cases ht
  exact h.fix pre
/-- a def whose code object is known -/
theorem fnDc {P : Program} {w : World} {K : PySem.W.Frag} {mg : Str → Option Value} {base : Heap} {T : Tb} {x qual : Str} {st : Stmt} {f c : Addr} {fd : FuncData} {N ps : List Str} {k : Nat} {m : SS} (F : L2.Fun K x qual st f fd) (hc : fd.code = .ref c) (S : FnScope N ps (defScope st))
    (hb : ∀ (A : Around) (outer : List Env) (s : Shared) (H : Hp) (E : XK), Room k (A.deeper (envOfC qual (defScope st) s.heap.objs.size f (.ref c))) → STs T (cxOf (L2.CX P w) P w K mg base N qual (defScope st) f (.ref c) A outer s H E) (defBody st) m) :
    FnG P w K mg base (k + 1) f fd ps (spD K T ps.length (fnS N.length m)) := by
  obtain ⟨oc, od, kV, doc, pm, an, cdv, ct, osl, rfl, lk, hcd⟩ := F.ex
  have hc : cdv = .ref c := hc
  subst hc
  refine ⟨fun vs H Q E h => h.1, fun A outer s H args us vs Q E hr hg e0 b r h => LamX.run_ofS lk hcd S hr e0 b r h.1 fun hr' => ⟨_, hb A outer s H E hr' (fun cls d _ H' => E cls d H') ⟨takes_of rfl rfl rfl rfl, hg⟩ (passes_of rfl), ?_⟩⟩
  obtain ⟨hl, al, mu, ds, sr, r, p⟩ := h
  exact ⟨al, _, mu, SL.start r, sr, fnS_wo p⟩
end DL
namespace DL
open PySem PySem.Spec PyProof.Rows L2
section
variable {T : Tb} {X : Cx} {pos pos' : Pos} {a : Expr} {f : ES}
theorem sc_isN {j : Nat} (ha : SE T X a f) : SC T X (.Compare a [.Is] [.Constant .none j pos'] pos) (eIsN f) := fun W z => PT.weak (pt_cmp (pc_isN (ha W z))) fun s H Q ⟨al, rho, mu, sl, sr, p⟩ =>
  ⟨al, rho, mu, sl, sr, Wo.bnd p fun d mu1 al1 v H1 _ g1 k1 sr1 rv p1 => by
    rw [isN_rp rv]
    obtain ⟨b, e, q⟩ := p1.now sr1 (bl_rp _)
    cases e
    exact ⟨_, rfl, q⟩⟩
theorem sc_notN {j : Nat} (ha : SE T X a f) : SC T X (.Compare a [.IsNot] [.Constant .none j pos'] pos) (eNotN f) := fun W z => PT.weak (pt_cmp (pc_notN (ha W z))) fun s H Q ⟨al, rho, mu, sl, sr, p⟩ =>
  ⟨al, rho, mu, sl, sr, Wo.bnd p fun d mu1 al1 v H1 _ g1 k1 sr1 rv p1 => by
    rw [isN_rp rv]
    obtain ⟨b, e, q⟩ := p1.now sr1 (bl_rp _)
    cases e
    exact ⟨_, rfl, q⟩⟩
end
end DL
set_option Elab.async false
set_option linter.all false
set_option autoImplicit false
set_option maxRecDepth 100000
set_option maxHeartbeats 4000000
namespace K01
open PySem PySem.Spec PyProof.Rows L2 DL
def top (i : Nat) : Stmt := PySem.Challenge.pw_mirrorstops_k01_shapes.main.body.getD i (.Pass ⟨0, 0, 0, 0⟩)
structure Ad where
  cSnippetError : Addr
  cBadSnippet : Addr
  cBadShape : Addr
  cMissing : Addr
  aSHAPES : Addr
  f__law_refused : Addr
  c_law : Addr
  t_law : Addr
def d_SHAPES : D := .tup [.str "", .str "upper", .str "lower", .str "first", .str "title"]
def gs_BadShape : List Str := ["given"]
def t_SnippetError_Missing (q : Ad) (C : Addr) : Option Bool := if C = q.cBadShape then some true else none
def is_BadShape (q : Ad) (C : Addr) : Option Bool := if C = q.cBadShape then some true else none
def is_BadSnippet (q : Ad) (C : Addr) : Option Bool := if C = q.cBadShape then some false else none
def ok_given (q : Ad) (C : Addr) : Bool := decide (C = q.cBadShape)
structure Gx (P : Program) (w : World) (K : PySem.W.Frag) (mg : Str → Option Value) (base : Heap) (q : Ad) : Prop where
  f_enumerate : mg "enumerate" = none
  f_int : mg "int" = none
  f_isinstance : mg "isinstance" = none
  f_len : mg "len" = none
  f_min : mg "min" = none
  f_range : mg "range" = none
  f_repr : mg "repr" = none
  f_str : mg "str" = none
  m_SHAPES : mg "SHAPES" = some (.ref q.aSHAPES)
  r_SHAPES : ∀ al H, Rp K al H d_SHAPES (.ref q.aSHAPES)
  m_SnippetError : mg "SnippetError" = some (.ref q.cSnippetError)
  m_Missing : mg "Missing" = some (.ref q.cMissing)
  m_BadShape : mg "BadShape" = some (.ref q.cBadShape)
  m_BadSnippet : mg "BadSnippet" = some (.ref q.cBadSnippet)
  k_BadShape : Mk P w K mg base "BadShape" 1 q.cBadShape gs_BadShape
  t_SnippetError_Missing : ∀ C b, t_SnippetError_Missing q C = some b → PySem.W.exmAny K (.ref C) [.ref q.cSnippetError, .ref q.cMissing] = some b
  i_BadShape : ∀ C b, is_BadShape q C = some b → L2.ExcC K C ∧ PySem.W.kitOne K (.ref C) (.ref q.cBadShape) = some b
  i_BadSnippet : ∀ C b, is_BadSnippet q C = some b → L2.ExcC K C ∧ PySem.W.kitOne K (.ref C) (.ref q.cBadSnippet) = some b
  x_given : ∀ C, ok_given q C = true → XfC K C ∧ PySem.W.findIn K (.ref C) "given" = some none
section
variable {P : Program} {w : World} {K : PySem.W.Frag} {mg : Str → Option Value} {base : Heap} {T : Tb} {q : Ad} {gq : Addr}
/-! need_shape -/
abbrev s_need_shape : Stmt := top 7
theorem sc_need_shape : FnScope ["thing"] ["thing"] (defScope s_need_shape) := ⟨rfl, rfl, rfl, by decide +kernel, rfl, by decide +kernel, by decide +kernel⟩
noncomputable def m_need_shape (q : Ad) : SS := sIf (eOr (eNot (eCall isiF [eVar 0, eC (.ty "str")])) (eOp notInD (eVar 0) (eC d_SHAPES))) (sRaise q.cBadShape gs_BadShape [eVar 0]) (sNil)
noncomputable def F_need_shape (q : Ad) : FS := fnS 1 (m_need_shape q)
theorem ok_need_shape (g : Gx P w K mg base q)  {f : Addr} {fd : FuncData} (F : Fun K "need_shape" "need_shape" s_need_shape f fd) : FnG P w K mg base 3 f fd ["thing"] (spD K T 1 (F_need_shape q)) :=
  fnD F sc_need_shape fun cdv A outer s H E hr => sts_one (st_if (sc_w (sw_or (sc_not (sc_val (se_isi g.f_isinstance (sa_cons (se_var 0) (sa_cons (se_tyn g.f_str (by decide +kernel)) sa_nil))))) (sw_or1 (sc_notIn (se_var 0) (se_glob (v := .ref q.aSHAPES) rfl g.m_SHAPES rfl g.r_SHAPES))))) (sts_one (st_raise g.k_BadShape hr (by decide) rfl rfl (sa_cons (se_var 0) sa_nil))) (sts_nil))
theorem fx_need_shape (g : Gx P w K mg base q)  {f : Addr} {fd : FuncData} (F : Fun K "need_shape" "need_shape" s_need_shape f fd) (m : mg "need_shape" = some (.ref f)) : Fx P w K mg base T "need_shape" 3 1 (F_need_shape q) :=
  ⟨⟨f, fd, ["thing"], ok_need_shape g  F, m, F.kp, F.binds fun _ _ _ _ _ _ us hl => match us, hl with | [_], _ => rfl, rfl⟩⟩
/-! changed -/
abbrev s_changed : Stmt := top 8
theorem sc_changed : FnScope ["shape", "string"] ["shape", "string"] (defScope s_changed) := ⟨rfl, rfl, rfl, by decide +kernel, rfl, by decide +kernel, by decide +kernel⟩
noncomputable def m_changed (q : Ad) : SS := sSeq (sIf (eOp eqD (eVar 0) (eC (.str "upper"))) (sRet (eMth isSB upM (eVar 1) [])) (sNil)) (sSeq (sIf (eOp eqD (eVar 0) (eC (.str "lower"))) (sRet (eMth isSB lowM (eVar 1) [])) (sNil)) (sSeq (sIf (eOp eqD (eVar 0) (eC (.str "first"))) (sRet (eOp addD (eMth isSB upM (eSl (eVar 1) none (some (eC (.int 1)))) []) (eSl (eVar 1) (some (eC (.int 1))) none))) (sNil)) (sRet (eIf (eOp eqD (eVar 0) (eC (.str "title"))) (eOp addD (eMth isSB upM (eSl (eVar 1) none (some (eC (.int 1)))) []) (eMth isSB lowM (eSl (eVar 1) (some (eC (.int 1))) none) [])) (eVar 1)))))
noncomputable def F_changed (q : Ad) : FS := fnS 2 (m_changed q)
theorem ok_changed (g : Gx P w K mg base q)  {f : Addr} {fd : FuncData} (F : Fun K "changed" "changed" s_changed f fd) : FnG P w K mg base 2 f fd ["shape", "string"] (spD K T 2 (F_changed q)) :=
  fnD F sc_changed fun cdv A outer s H E hr => sts_cons (st_if (sc_eq hr (se_var 0) (se_str)) (sts_one (st_ret (se_bm0 PySem.F.plainAttrs_str PySem.F.slot_str_upper PySem.F.type_str_upper mt_upper m_upper (fun _ _ _ _ _ => chk_s) (se_var 1)))) (sts_nil)) (sts_cons (st_if (sc_eq hr (se_var 0) (se_str)) (sts_one (st_ret (se_bm0 PySem.F.plainAttrs_str PySem.F.slot_str_lower PySem.F.type_str_lower mt_lower m_lower (fun _ _ _ _ _ => chk_s) (se_var 1)))) (sts_nil)) (sts_cons (st_if (sc_eq hr (se_var 0) (se_str)) (sts_one (st_ret (se_add (se_bm0 PySem.F.plainAttrs_str PySem.F.slot_str_upper PySem.F.type_str_upper mt_upper m_upper (fun _ _ _ _ _ => chk_s) (se_sl (se_var 1) so_none (so_some (se_int)))) (se_sl (se_var 1) (so_some (se_int)) so_none)))) (sts_nil)) (sts_one (st_ret (se_if (sc_eq hr (se_var 0) (se_str)) (se_add (se_bm0 PySem.F.plainAttrs_str PySem.F.slot_str_upper PySem.F.type_str_upper mt_upper m_upper (fun _ _ _ _ _ => chk_s) (se_sl (se_var 1) so_none (so_some (se_int)))) (se_bm0 PySem.F.plainAttrs_str PySem.F.slot_str_lower PySem.F.type_str_lower mt_lower m_lower (fun _ _ _ _ _ => chk_s) (se_sl (se_var 1) (so_some (se_int)) so_none))) (se_var 1))))))
theorem fx_changed (g : Gx P w K mg base q)  {f : Addr} {fd : FuncData} (F : Fun K "changed" "changed" s_changed f fd) (m : mg "changed" = some (.ref f)) : Fx P w K mg base T "changed" 2 2 (F_changed q) :=
  ⟨⟨f, fd, ["shape", "string"], ok_changed g  F, m, F.kp, F.binds fun _ _ _ _ _ _ us hl => match us, hl with | [_, _], _ => rfl, rfl⟩⟩
/-! shaped -/
abbrev s_shaped : Stmt := top 9
theorem sc_shaped : FnScope ["shape", "string"] ["shape", "string"] (defScope s_shaped) := ⟨rfl, rfl, rfl, by decide +kernel, rfl, by decide +kernel, by decide +kernel⟩
noncomputable def m_shaped (q : Ad) : SS := sSeq (sExpr (eCall (F_need_shape q) [eVar 0])) (sRet (eCall (F_changed q) [eVar 0, eVar 1]))
noncomputable def F_shaped (q : Ad) : FS := fnS 2 (m_shaped q)
theorem ok_shaped (g : Gx P w K mg base q) (c_changed : Fx P w K mg base T "changed" 2 2 (F_changed q)) (c_need_shape : Fx P w K mg base T "need_shape" 3 1 (F_need_shape q)) {f : Addr} {fd : FuncData} (F : Fun K "shaped" "shaped" s_shaped f fd) : FnG P w K mg base 4 f fd ["shape", "string"] (spD K T 2 (F_shaped q)) :=
  fnD F sc_shaped fun cdv A outer s H E hr => sts_cons (st_expr (se_call c_need_shape hr (by decide) rfl (sa_cons (se_var 0) sa_nil))) (sts_one (st_ret (se_call c_changed hr (by decide) rfl (sa_cons (se_var 0) (sa_cons (se_var 1) sa_nil)))))
theorem fx_shaped (g : Gx P w K mg base q) (c_changed : Fx P w K mg base T "changed" 2 2 (F_changed q)) (c_need_shape : Fx P w K mg base T "need_shape" 3 1 (F_need_shape q)) {f : Addr} {fd : FuncData} (F : Fun K "shaped" "shaped" s_shaped f fd) (m : mg "shaped" = some (.ref f)) : Fx P w K mg base T "shaped" 4 2 (F_shaped q) :=
  ⟨⟨f, fd, ["shape", "string"], ok_shaped g c_changed c_need_shape F, m, F.kp, F.binds fun _ _ _ _ _ _ us hl => match us, hl with | [_, _], _ => rfl, rfl⟩⟩
/-! then_shape -/
abbrev s_then_shape : Stmt := top 10
theorem sc_then_shape : FnScope ["first", "later"] ["first", "later"] (defScope s_then_shape) := ⟨rfl, rfl, rfl, by decide +kernel, rfl, by decide +kernel, by decide +kernel⟩
noncomputable def m_then_shape (q : Ad) : SS := sSeq (sIf (eOr (eOp eqD (eVar 1) (eC (.str ""))) (eAnd (eOp eqD (eVar 1) (eC (.str "first"))) (eOp inD (eVar 0) (eCall tupF [eC (.str "upper"), eC (.str "first"), eC (.str "title")])))) (sRet (eVar 0)) (sNil)) (sSeq (sIf (eOp eqD (eVar 1) (eC (.str "first"))) (sRet (eIf (eOp eqD (eVar 0) (eC (.str "lower"))) (eC (.str "title")) (eC (.str "first")))) (sNil)) (sRet (eVar 1)))
noncomputable def F_then_shape (q : Ad) : FS := fnS 2 (m_then_shape q)
theorem ok_then_shape (g : Gx P w K mg base q)  {f : Addr} {fd : FuncData} (F : Fun K "then_shape" "then_shape" s_then_shape f fd) : FnG P w K mg base 2 f fd ["first", "later"] (spD K T 2 (F_then_shape q)) :=
  fnD F sc_then_shape fun cdv A outer s H E hr => sts_cons (st_if (sc_w (sw_or (sc_eq hr (se_var 1) (se_str)) (sw_or1 (sc_w (sw_and (sc_eq hr (se_var 1) (se_str)) (sw_and1 (sc_in (se_var 0) (se_tup (sa_cons (se_str) (sa_cons (se_str) (sa_cons (se_str) sa_nil))))))))))) (sts_one (st_ret (se_var 0))) (sts_nil)) (sts_cons (st_if (sc_eq hr (se_var 1) (se_str)) (sts_one (st_ret (se_if (sc_eq hr (se_var 0) (se_str)) (se_str) (se_str)))) (sts_nil)) (sts_one (st_ret (se_var 1))))
theorem fx_then_shape (g : Gx P w K mg base q)  {f : Addr} {fd : FuncData} (F : Fun K "then_shape" "then_shape" s_then_shape f fd) (m : mg "then_shape" = some (.ref f)) : Fx P w K mg base T "then_shape" 2 2 (F_then_shape q) :=
  ⟨⟨f, fd, ["first", "later"], ok_then_shape g  F, m, F.kp, F.binds fun _ _ _ _ _ _ us hl => match us, hl with | [_, _], _ => rfl, rfl⟩⟩
/-! then -/
abbrev s_then : Stmt := top 11
theorem sc_then : FnScope ["first", "later"] ["first", "later"] (defScope s_then) := ⟨rfl, rfl, rfl, by decide +kernel, rfl, by decide +kernel, by decide +kernel⟩
noncomputable def m_then (q : Ad) : SS := sSeq (sExpr (eCall (F_need_shape q) [eVar 0])) (sSeq (sExpr (eCall (F_need_shape q) [eVar 1])) (sRet (eCall (F_then_shape q) [eVar 0, eVar 1])))
noncomputable def F_then (q : Ad) : FS := fnS 2 (m_then q)
theorem ok_then (g : Gx P w K mg base q) (c_then_shape : Fx P w K mg base T "then_shape" 2 2 (F_then_shape q)) (c_need_shape : Fx P w K mg base T "need_shape" 3 1 (F_need_shape q)) {f : Addr} {fd : FuncData} (F : Fun K "then" "then" s_then f fd) : FnG P w K mg base 4 f fd ["first", "later"] (spD K T 2 (F_then q)) :=
  fnD F sc_then fun cdv A outer s H E hr => sts_cons (st_expr (se_call c_need_shape hr (by decide) rfl (sa_cons (se_var 0) sa_nil))) (sts_cons (st_expr (se_call c_need_shape hr (by decide) rfl (sa_cons (se_var 1) sa_nil))) (sts_one (st_ret (se_call c_then_shape hr (by decide) rfl (sa_cons (se_var 0) (sa_cons (se_var 1) sa_nil))))))
theorem fx_then (g : Gx P w K mg base q) (c_then_shape : Fx P w K mg base T "then_shape" 2 2 (F_then_shape q)) (c_need_shape : Fx P w K mg base T "need_shape" 3 1 (F_need_shape q)) {f : Addr} {fd : FuncData} (F : Fun K "then" "then" s_then f fd) (m : mg "then" = some (.ref f)) : Fx P w K mg base T "then" 4 2 (F_then q) :=
  ⟨⟨f, fd, ["first", "later"], ok_then g c_then_shape c_need_shape F, m, F.kp, F.binds fun _ _ _ _ _ _ us hl => match us, hl with | [_, _], _ => rfl, rfl⟩⟩
/-! _law_draws -/
abbrev s__law_draws : Stmt := top 13
theorem sc__law_draws : FnScope ["_law_script", "_law_seed", "_law_k", "_law_cell"] ["_law_script"] (defScope s__law_draws) := ⟨rfl, rfl, rfl, by decide +kernel, rfl, by decide +kernel, by decide +kernel⟩
noncomputable def m__law_draws (q : Ad) : SS := sSeq (sSet 1 (eOp addD (eC (.int 7368787)) (eOp mulD (eC (.int 1009)) (eCall lenF [eVar 0])))) (sSeq (sFor (iEn (eVar 0)) (.tp [2, 3]) (sSet 1 (eOp modD (eCall intF [eOp addD (eOp addD (eOp mulD (eVar 1) (eC (.int 6700417))) (eVar 3)) (eOp mulD (eC (.int 15485863)) (eVar 2))]) (eC (.int 2305843009213693951))))) (sRet (eDisp [(eC (.str "rest"), eComp (iV (eVar 0)) (.nm 3) ([("_law_cell", 3)].map (·.2)) (eOp geD (eVar 3) (eOp powD (eC (.int 10)) (eC (.int 18)))) (eVar 3)), (eC (.str "seed"), eVar 1), (eC (.str "count"), eC (.int 0))])))
noncomputable def F__law_draws (q : Ad) : FS := fnS 4 (m__law_draws q)
theorem ok__law_draws (g : Gx P w K mg base q)  {f : Addr} {fd : FuncData} (F : Fun K "_law_draws" "_law_draws" s__law_draws f fd) : FnG P w K mg base 2 f fd ["_law_script"] (spD K T 1 (F__law_draws q)) :=
  fnD F sc__law_draws fun cdv A outer s H E hr => sts_cons (st_set (i := 1) sc__law_draws.nd (se_add (se_int) (se_mul (se_int) (se_len g.f_len (sa_cons (se_var 0) sa_nil))))) (sts_cons (st_for (si_enum g.f_enumerate (se_var 0)) (sg_tup (sgs_cons sc__law_draws.nd (sgs_cons sc__law_draws.nd sgs_nil))) (sts_one (st_set (i := 1) sc__law_draws.nd (se_mod (se_intc g.f_int (sa_cons (se_add (se_add (se_mul (se_var 1) (se_int)) (se_var 3)) (se_mul (se_int) (se_var 2))) sa_nil)) (se_int))))) (sts_one (st_ret (se_disp (sd_cons (se_str) (se_comp [("_law_cell", 3)] sc__law_draws.nd (si_val (se_var 0)) (blk_by (N := ["_law_script", "_law_seed", "_law_k", "_law_cell"]) (sc := defScope s__law_draws) (by decide +kernel)) (fun s H C cl fp => sg_name sc__law_draws.nd) (fun s H C cl fp => sp_one (sc_ge (se_var 3) (se_pow (se_int) (se_int)))) (fun s H C cl fp => se_var 3)) (sd_cons (se_str) (se_var 1) (sd_cons (se_str) (se_int) (sd_nil))))))))
theorem fx__law_draws (g : Gx P w K mg base q)  {f : Addr} {fd : FuncData} (F : Fun K "_law_draws" "_law_draws" s__law_draws f fd) (m : mg "_law_draws" = some (.ref f)) : Fx P w K mg base T "_law_draws" 2 1 (F__law_draws q) :=
  ⟨⟨f, fd, ["_law_script"], ok__law_draws g  F, m, F.kp, F.binds fun _ _ _ _ _ _ us hl => match us, hl with | [_], _ => rfl, rfl⟩⟩
/-! _law_pick -/
abbrev s__law_pick : Stmt := top 14
theorem sc__law_pick : FnScope ["_law_draws_here", "_law_many", "_law_rest", "_law_seed", "_law_found"] ["_law_draws_here", "_law_many"] (defScope s__law_pick) := ⟨rfl, rfl, rfl, by decide +kernel, rfl, by decide +kernel, by decide +kernel⟩
noncomputable def m__law_pick (q : Ad) : SS := sSeq (sSet 2 (eOp getD (eVar 0) (eC (.str "rest")))) (sSeq (sWhl (eAnd (eOp neD (eVar 2) (eCall lstF [])) (eOp eqD (eOp ixD (eVar 2) (eC (.int 0))) (eC (.int 0)))) (sExpr (eMth isLB popAtM (eVar 2) [eC (.int 0)]))) (sSeq (sIf (eOp neD (eVar 2) (eCall lstF [])) (sSeq (sSet 4 (eOp modD (eCall intF [eOp ixD (eVar 2) (eC (.int 0))]) (eVar 1))) (sSeq (sPut setF (eVar 2) (eC (.int 0)) (eOp fdivD (eOp ixD (eVar 2) (eC (.int 0))) (eVar 1))) (sRet (eVar 4)))) (sNil)) (sSeq (sPut putF (eVar 0) (eC (.str "count")) (eOp addD (eOp getD (eVar 0) (eC (.str "count"))) (eC (.int 1)))) (sSeq (sSet 3 (eOp addD (eOp mulD (eOp getD (eVar 0) (eC (.str "seed"))) (eC (.int 3935559000370003845))) (eC (.int 77317)))) (sSeq (sSet 3 (eOp addD (eVar 3) (eOp mulD (eC (.int 2691343689449507681)) (eOp getD (eVar 0) (eC (.str "count")))))) (sSeq (sPut putF (eVar 0) (eC (.str "seed")) (eOp modD (eCall intF [eVar 3]) (eC (.int 2305843009213693951)))) (sRet (eOp modD (eCall intF [eOp fdivD (eOp getD (eVar 0) (eC (.str "seed"))) (eC (.int 8388593))]) (eVar 1)))))))))
noncomputable def F__law_pick (q : Ad) : FS := fnS 5 (m__law_pick q)
theorem ok__law_pick (g : Gx P w K mg base q)  {f : Addr} {fd : FuncData} (F : Fun K "_law_pick" "_law_pick" s__law_pick f fd) : FnG P w K mg base 2 f fd ["_law_draws_here", "_law_many"] (spD K T 2 (F__law_pick q)) :=
  fnD F sc__law_pick fun cdv A outer s H E hr => sts_cons (st_set (i := 2) sc__law_pick.nd (se_get hr (se_var 0) (se_str))) (sts_cons (st_while (sc_w (sw_and (sc_ne hr (se_var 2) (se_lst (sa_nil))) (sw_and1 (sc_eq hr (se_ix (se_var 2) (se_int)) (se_int))))) (sts_one (st_expr (se_bm PySem.F.plainAttrs_list PySem.F.slot_list_pop PySem.F.type_list_pop mt_popAt m_popAt (fun _ _ _ _ _ => chk_l) (se_var 2) (sa_cons (se_int) sa_nil))))) (sts_cons (st_if (sc_ne hr (se_var 2) (se_lst (sa_nil))) (sts_cons (st_set (i := 4) sc__law_pick.nd (se_mod (se_intc g.f_int (sa_cons (se_ix (se_var 2) (se_int)) sa_nil)) (se_var 1))) (sts_cons (st_lput (se_var 2) (se_int) (se_fdiv (se_ix (se_var 2) (se_int)) (se_var 1))) (sts_one (st_ret (se_var 4))))) (sts_nil)) (sts_cons (st_dput hr (se_var 0) (se_str) (se_add (se_get hr (se_var 0) (se_str)) (se_int))) (sts_cons (st_set (i := 3) sc__law_pick.nd (se_add (se_mul (se_get hr (se_var 0) (se_str)) (se_int)) (se_int))) (sts_cons (st_set (i := 3) sc__law_pick.nd (se_add (se_var 3) (se_mul (se_int) (se_get hr (se_var 0) (se_str))))) (sts_cons (st_dput hr (se_var 0) (se_str) (se_mod (se_intc g.f_int (sa_cons (se_var 3) sa_nil)) (se_int))) (sts_one (st_ret (se_mod (se_intc g.f_int (sa_cons (se_fdiv (se_get hr (se_var 0) (se_str)) (se_int)) sa_nil)) (se_var 1))))))))))
theorem fx__law_pick (g : Gx P w K mg base q)  {f : Addr} {fd : FuncData} (F : Fun K "_law_pick" "_law_pick" s__law_pick f fd) (m : mg "_law_pick" = some (.ref f)) : Fx P w K mg base T "_law_pick" 2 2 (F__law_pick q) :=
  ⟨⟨f, fd, ["_law_draws_here", "_law_many"], ok__law_pick g  F, m, F.kp, F.binds fun _ _ _ _ _ _ us hl => match us, hl with | [_, _], _ => rfl, rfl⟩⟩
/-! _law_one -/
abbrev s__law_one : Stmt := top 15
theorem sc__law_one : FnScope ["_law_draws_here", "_law_some"] ["_law_draws_here", "_law_some"] (defScope s__law_one) := ⟨rfl, rfl, rfl, by decide +kernel, rfl, by decide +kernel, by decide +kernel⟩
noncomputable def m__law_one (q : Ad) : SS := sRet (eOp ixD (eVar 1) (eCall (F__law_pick q) [eVar 0, eCall lenF [eVar 1]]))
noncomputable def F__law_one (q : Ad) : FS := fnS 2 (m__law_one q)
theorem ok__law_one (g : Gx P w K mg base q) (c__law_pick : Fx P w K mg base T "_law_pick" 2 2 (F__law_pick q)) {f : Addr} {fd : FuncData} (F : Fun K "_law_one" "_law_one" s__law_one f fd) : FnG P w K mg base 3 f fd ["_law_draws_here", "_law_some"] (spD K T 2 (F__law_one q)) :=
  fnD F sc__law_one fun cdv A outer s H E hr => sts_one (st_ret (se_ix (se_var 1) (se_call c__law_pick hr (by decide) rfl (sa_cons (se_var 0) (sa_cons (se_len g.f_len (sa_cons (se_var 1) sa_nil)) sa_nil)))))
theorem fx__law_one (g : Gx P w K mg base q) (c__law_pick : Fx P w K mg base T "_law_pick" 2 2 (F__law_pick q)) {f : Addr} {fd : FuncData} (F : Fun K "_law_one" "_law_one" s__law_one f fd) (m : mg "_law_one" = some (.ref f)) : Fx P w K mg base T "_law_one" 3 2 (F__law_one q) :=
  ⟨⟨f, fd, ["_law_draws_here", "_law_some"], ok__law_one g c__law_pick F, m, F.kp, F.binds fun _ _ _ _ _ _ us hl => match us, hl with | [_, _], _ => rfl, rfl⟩⟩
/-! _law_signs -/
abbrev s__law_signs : Stmt := top 16
theorem sc__law_signs : FnScope ["_law_great", "_law_low", "_law_small"] [] (defScope s__law_signs) := ⟨rfl, rfl, rfl, by decide +kernel, rfl, by decide +kernel, by decide +kernel⟩
noncomputable def m__law_signs (q : Ad) : SS := sSeq (sAsg (.tp [1, 2]) (eCall tupF [eC (.str " !\"#$&'()*+,-./0123456789:;<=>?@"), eC (.str "abcdefghijklmnopqrstuvwxyz")])) (sSeq (sSet 0 (eC (.str "ABDCEFGHIJKLMNOPQRSTUVWXYZ"))) (sRet (eOp addD (eOp addD (eOp addD (eOp addD (eVar 1) (eVar 0)) (eC (.str "[\\]^_`"))) (eVar 2)) (eC (.str "{|}")))))
noncomputable def F__law_signs (q : Ad) : FS := fnS 3 (m__law_signs q)
theorem ok__law_signs (g : Gx P w K mg base q)  {f : Addr} {fd : FuncData} (F : Fun K "_law_signs" "_law_signs" s__law_signs f fd) : FnG P w K mg base 2 f fd [] (spD K T 0 (F__law_signs q)) :=
  fnD F sc__law_signs fun cdv A outer s H E hr => sts_cons (st_asg (se_tup (sa_cons (se_str) (sa_cons (se_str) sa_nil))) (sg_tup (sgs_cons sc__law_signs.nd (sgs_cons sc__law_signs.nd sgs_nil)))) (sts_cons (st_set (i := 0) sc__law_signs.nd (se_str)) (sts_one (st_ret (se_add (se_add (se_add (se_add (se_var 1) (se_var 0)) (se_str)) (se_var 2)) (se_str)))))
theorem fx__law_signs (g : Gx P w K mg base q)  {f : Addr} {fd : FuncData} (F : Fun K "_law_signs" "_law_signs" s__law_signs f fd) (m : mg "_law_signs" = some (.ref f)) : Fx P w K mg base T "_law_signs" 2 0 (F__law_signs q) :=
  ⟨⟨f, fd, [], ok__law_signs g  F, m, F.kp, F.binds fun _ _ _ _ _ _ us hl => match us, hl with | [], _ => rfl, rfl⟩⟩
/-! _law_shaped -/
abbrev s__law_shaped : Stmt := top 17
theorem sc__law_shaped : FnScope ["_law_shape", "_law_string", "_law_found", "_law_small", "_law_great", "_law_k", "_law_sign", "_law_up"] ["_law_shape", "_law_string"] (defScope s__law_shaped) := ⟨rfl, rfl, rfl, by decide +kernel, rfl, by decide +kernel, by decide +kernel⟩
noncomputable def m__law_shaped (q : Ad) : SS := sSeq (sAsg (.tp [3, 4]) (eCall tupF [eC (.str "abcdefghijklmnopqrstuvwxyz"), eC (.str "ABCDEFGHIJKLMNOPQRSTUVWXYZ")])) (sSeq (sSet 2 (eCall lstF [])) (sSeq (sFor (iEn (eVar 1)) (.tp [5, 6]) (sSeq (sSet 7 (eOr (eOp eqD (eVar 0) (eC (.str "upper"))) (eAnd (eOp eqD (eVar 5) (eC (.int 0))) (eOp inD (eVar 0) (eCall tupF [eC (.str "first"), eC (.str "title")]))))) (sSeq (sIf (eAnd (eVar 7) (eOp inD (eVar 6) (eVar 3))) (sSet 6 (eOp ixD (eVar 4) (eMth isSB sindexM (eVar 3) [eVar 6]))) (sIf (eAnd (eNot (eVar 7)) (eAnd (eOp inD (eVar 0) (eCall tupF [eC (.str "lower"), eC (.str "title")])) (eOp inD (eVar 6) (eVar 4)))) (sSet 6 (eOp ixD (eVar 3) (eMth isSB sindexM (eVar 4) [eVar 6]))) (sNil))) (sExpr (eMth isLB appM (eVar 2) [eVar 6]))))) (sRet (eMth isSB joinM (eC (.str "")) [eVar 2]))))
noncomputable def F__law_shaped (q : Ad) : FS := fnS 8 (m__law_shaped q)
theorem ok__law_shaped (g : Gx P w K mg base q)  {f : Addr} {fd : FuncData} (F : Fun K "_law_shaped" "_law_shaped" s__law_shaped f fd) : FnG P w K mg base 2 f fd ["_law_shape", "_law_string"] (spD K T 2 (F__law_shaped q)) :=
  fnD F sc__law_shaped fun cdv A outer s H E hr => sts_cons (st_asg (se_tup (sa_cons (se_str) (sa_cons (se_str) sa_nil))) (sg_tup (sgs_cons sc__law_shaped.nd (sgs_cons sc__law_shaped.nd sgs_nil)))) (sts_cons (st_set (i := 2) sc__law_shaped.nd (se_lst (sa_nil))) (sts_cons (st_for (si_enum g.f_enumerate (se_var 1)) (sg_tup (sgs_cons sc__law_shaped.nd (sgs_cons sc__law_shaped.nd sgs_nil))) (sts_cons (st_set (i := 7) sc__law_shaped.nd (se_or (se_eq hr (se_var 0) (se_str)) (se_one (se_and (se_eq hr (se_var 5) (se_int)) (se_one (se_in (se_var 0) (se_tup (sa_cons (se_str) (sa_cons (se_str) sa_nil))))))))) (sts_cons (st_if (sc_w (sw_and (sc_val (se_var 7)) (sw_and1 (sc_in (se_var 6) (se_var 3))))) (sts_one (st_set (i := 6) sc__law_shaped.nd (se_ix (se_var 4) (se_bm PySem.F.plainAttrs_str PySem.F.slot_str_index PySem.F.type_str_index mt_sindex m_sindex (fun _ _ _ _ _ => chk_s) (se_var 3) (sa_cons (se_var 6) sa_nil))))) (sts_one (st_if (sc_w (sw_and (sc_not (sc_val (se_var 7))) (sw_and (sc_in (se_var 0) (se_tup (sa_cons (se_str) (sa_cons (se_str) sa_nil)))) (sw_and1 (sc_in (se_var 6) (se_var 4)))))) (sts_one (st_set (i := 6) sc__law_shaped.nd (se_ix (se_var 3) (se_bm PySem.F.plainAttrs_str PySem.F.slot_str_index PySem.F.type_str_index mt_sindex m_sindex (fun _ _ _ _ _ => chk_s) (se_var 4) (sa_cons (se_var 6) sa_nil))))) (sts_nil)))) (sts_one (st_expr (se_bm PySem.F.plainAttrs_list PySem.F.slot_list_append PySem.F.type_list_append mt_append m_append (fun _ _ _ _ _ => chk_l) (se_var 2) (sa_cons (se_var 6) sa_nil))))))) (sts_one (st_ret (se_bm PySem.F.plainAttrs_str PySem.F.slot_str_join PySem.F.type_str_join mt_join m_join (fun _ _ _ _ _ => chk_s) (se_str) (sa_cons (se_var 2) sa_nil))))))
theorem fx__law_shaped (g : Gx P w K mg base q)  {f : Addr} {fd : FuncData} (F : Fun K "_law_shaped" "_law_shaped" s__law_shaped f fd) (m : mg "_law_shaped" = some (.ref f)) : Fx P w K mg base T "_law_shaped" 2 2 (F__law_shaped q) :=
  ⟨⟨f, fd, ["_law_shape", "_law_string"], ok__law_shaped g  F, m, F.kp, F.binds fun _ _ _ _ _ _ us hl => match us, hl with | [_, _], _ => rfl, rfl⟩⟩
/-! _law_refused -/
abbrev s__law_refused : Stmt := top 18
theorem sc__law_refused : FnScope ["_law_call", "_law_caught", "e"] ["_law_call"] (defScope s__law_refused) := ⟨rfl, rfl, rfl, by decide +kernel, rfl, by decide +kernel, by decide +kernel⟩
noncomputable def m__law_refused (q : Ad) (f : Addr) (cl : Mu → Ro) : SS := sSeq (sSet 1 (eC .non)) (sSeq (sTryK 2 1 (t_SnippetError_Missing q) (sExpr (eAct f cl))) (sSeq (sIf (eIsN (eVar 1)) (sRet (eC (.str "told"))) (sNil)) (sRet (eIf (eAnd (eCall (isO q.cBadShape (is_BadShape q)) [eVar 1, eC (.adr q.cBadShape)]) (eNot (eCall (isO q.cBadSnippet (is_BadSnippet q)) [eVar 1, eC (.adr q.cBadSnippet)]))) (eCall lstF [excGet "given" (ok_given q) (eVar 1)]) (eC (.str "other"))))))
noncomputable def G__law_refused (q : Ad) (cl : Mu → Ro) (mu : Mu) : Ro := fnS 3 (m__law_refused q 0 cl) [.adr 0] mu
theorem b__law_refused (g : Gx P w K mg base q)  (T2 : Tb) (cdv : Value) (A : Around) (outer : List PySem.Env) (s : Shared) (H : Hp) (E : XK) (f : Addr) (cl : Mu → Ro) (ht : T2.tb = T.tb) (hr : Room 1 (A.deeper (envOfC "_law_refused" (defScope s__law_refused) s.heap.objs.size gq cdv)))
    (act : ∀ (pn : List (Addr × Obj)) (xe : Value → Shared → Prop) (p1 p2 : Pos), SE T2 ((cxOf (L2.CX P w) P w K mg base ["_law_call", "_law_caught", "e"] "_law_refused" (defScope s__law_refused) gq cdv A outer s H E).tr pn xe) (.Call (.Name "_law_call" p1) [] [] p2) (eAct f cl)) :
    STs T2 (cxOf (L2.CX P w) P w K mg base ["_law_call", "_law_caught", "e"] "_law_refused" (defScope s__law_refused) gq cdv A outer s H E) (defBody s__law_refused) (m__law_refused q f cl) :=
  sts_cons (st_set (i := 1) sc__law_refused.nd (se_non)) (sts_cons (st_tryK rfl rfl sc__law_refused.nd (i := 2) (j := 1) rfl rfl rfl rfl (by decide) (tst_tup2 rfl rfl g.m_SnippetError g.m_Missing g.t_SnippetError_Missing) (fun pn xe => sts_one (st_expr (act pn xe _ _)))) (sts_cons (st_if (sc_isN (se_var 1)) (sts_one (st_ret (se_str))) (sts_nil)) (sts_one (st_ret (se_if (sc_w (sw_and (sc_val (se_isX g.i_BadShape g.f_isinstance (sa_cons (se_var 1) (sa_cons (se_glob (v := .ref q.cBadShape) rfl g.m_BadShape rfl (fun _ _ => rp_adr.mpr rfl)) sa_nil)))) (sw_and1 (sc_not (sc_val (se_isX g.i_BadSnippet g.f_isinstance (sa_cons (se_var 1) (sa_cons (se_glob (v := .ref q.cBadSnippet) rfl g.m_BadSnippet rfl (fun _ _ => rp_adr.mpr rfl)) sa_nil)))))))) (se_lst (sa_cons (se_excGet g.x_given (se_var 1)) sa_nil)) (se_str))))))
end
end K01
set_option Elab.async false
set_option linter.all false
set_option autoImplicit false
set_option maxRecDepth 100000
set_option maxHeartbeats 4000000
/-! DL18: running the data functions. -/
namespace DL
open PySem PySem.Spec L2
section
variable {f g : SS} {e e1 e2 : ES} {rho rho1 rho2 : Rho} {mu mu1 mu2 mu3 : Mu} {d x y : D} {C : Addr} {fs : List (Str × D)} {r : So}
def fin : So → Ro
  | some (.nx, _, mu1) => some (.ok .non, mu1)
  | some (.rt d, _, mu1) => some (.ok d, mu1)
  | some (.ex C fs, _, mu1) => some (.ex C fs, mu1)
  | _ => none
theorem fnS_fin {n : Nat} {m : SS} {ds : List D} : fnS n m ds mu = fin (m (ds.map some ++ List.replicate (n - ds.length) none) mu) := rfl
theorem seq_nx (h : f rho mu = some (.nx, rho1, mu1)) : sSeq f g rho mu = g rho1 mu1 := by unfold sSeq; rw [h]
theorem seq_rt {rho1 : Rho} (h : f rho mu = some (.rt d, rho1, mu1)) : sSeq f g rho mu = some (.rt d, rho1, mu1) := by unfold sSeq; rw [h]
theorem seq_ex {rho1 : Rho} (h : f rho mu = some (.ex C fs, rho1, mu1)) : sSeq f g rho mu = some (.ex C fs, rho1, mu1) := by unfold sSeq; rw [h]
theorem set_ev {i : Nat} (h : e rho mu = some (.ok d, mu1)) : sSet i e rho mu = some (.nx, rho.set i (some d), mu1) := by unfold sSet bnS; rw [h]
theorem ret_ev (h : e rho mu = some (.ok d, mu1)) : sRet e rho mu = some (.rt d, rho, mu1) := by unfold sRet bnS; rw [h]
theorem expr_ev (h : e rho mu = some (.ok d, mu1)) : sExpr e rho mu = some (.nx, rho, mu1) := by unfold sExpr bnS; rw [h]
theorem expr_ex (h : e rho mu = some (.ex C fs, mu1)) : sExpr e rho mu = some (.ex C fs, rho, mu1) := by unfold sExpr bnS; rw [h]
theorem if_t (h : e rho mu = some (.ok (.bl true), mu1)) : sIf e f g rho mu = f rho mu1 := by unfold sIf bnS; rw [h]; rfl
theorem if_f (h : e rho mu = some (.ok (.bl false), mu1)) : sIf e f g rho mu = g rho mu1 := by unfold sIf bnS; rw [h]; rfl
theorem put_ev {F : D → D → D → Mu → Option Mu} {fo fi fv : ES} {mu4 : Mu} (h1 : fv rho mu = some (.ok x, mu1)) (h2 : fo rho mu1 = some (.ok d, mu2)) (h3 : fi rho mu2 = some (.ok y, mu3)) (h4 : F d y x mu3 = some mu4) : sPut F fo fi fv rho mu = some (.nx, rho, mu4) := by
  unfold sPut bnS; rw [h1]; dsimp only; rw [h2]; dsimp only; rw [h3]; dsimp only; rw [h4]
theorem op_ev {h : D2} (h1 : e1 rho mu = some (.ok x, mu1)) (h2 : e2 rho mu1 = some (.ok y, mu2)) : eOp h e1 e2 rho mu = h x y mu2 := by unfold eOp bnd; rw [h1]; dsimp only; rw [h2]
theorem call_1 {F : FS} (h1 : e1 rho mu = some (.ok x, mu1)) : eCall F [e1] rho mu = F [x] mu1 := by unfold eCall eArgs bnd; rw [h1]; rfl
theorem call_2 {F : FS} (h1 : e1 rho mu = some (.ok x, mu1)) (h2 : e2 rho mu1 = some (.ok y, mu2)) : eCall F [e1, e2] rho mu = F [x, y] mu2 := by unfold eCall eArgs bnd; rw [h1]; dsimp only; unfold eArgs bnd; rw [h2]; rfl
theorem and_t (h1 : e1 rho mu = some (.ok (.bl true), mu1)) : eAnd e1 e2 rho mu = e2 rho mu1 := by unfold eAnd bnd; rw [h1]; rfl
theorem and_f (h1 : e1 rho mu = some (.ok (.bl false), mu1)) : eAnd e1 e2 rho mu = some (.ok (.bl false), mu1) := by unfold eAnd bnd; rw [h1]; rfl
theorem or_t (h1 : e1 rho mu = some (.ok (.bl true), mu1)) : eOr e1 e2 rho mu = some (.ok (.bl true), mu1) := by unfold eOr bnd; rw [h1]; rfl
theorem or_f (h1 : e1 rho mu = some (.ok (.bl false), mu1)) : eOr e1 e2 rho mu = e2 rho mu1 := by unfold eOr bnd; rw [h1]; rfl
theorem not_t (h1 : e1 rho mu = some (.ok (.bl true), mu1)) : eNot e1 rho mu = some (.ok (.bl false), mu1) := by unfold eNot bnd; rw [h1]; rfl
theorem not_f (h1 : e1 rho mu = some (.ok (.bl false), mu1)) : eNot e1 rho mu = some (.ok (.bl true), mu1) := by unfold eNot bnd; rw [h1]; rfl
theorem ife_t {c : ES} (h1 : c rho mu = some (.ok (.bl true), mu1)) : eIf c e1 e2 rho mu = e1 rho mu1 := by unfold eIf bnd; rw [h1]; rfl
theorem ife_f {c : ES} (h1 : c rho mu = some (.ok (.bl false), mu1)) : eIf c e1 e2 rho mu = e2 rho mu1 := by unfold eIf bnd; rw [h1]; rfl
end
/-! ### while -/
theorem whl_more {c : ES} {b : SS} : ∀ {n : Nat} {rho : Rho} {mu : Mu} {r}, whl c b n rho mu = some r → whl c b (n + 1) rho mu = some r
  | 0, rho, mu, r, h => by unfold whl at h; cases h
  | n + 1, rho, mu, r, h => by
    unfold whl at h
    unfold whl
    cases hc : c rho mu with
    | none => rw [hc] at h; cases h
    | some o =>
      obtain ⟨o, mu1⟩ := o
      rw [hc] at h
      cases o with
      | ex C fs => exact h
      | ok d =>
        cases d with
        | bl k =>
          cases k with
          | true =>
            simp only [bnS, chS] at h ⊢
            cases hb : b rho mu1 with
            | none => rw [hb] at h; cases h
            | some o2 =>
              obtain ⟨fl, rho2, mu2⟩ := o2
              rw [hb] at h
              cases fl with
              | nx => exact whl_more h
              | ct => exact whl_more h
              | bk => exact h
              | rt d => exact h
              | ex C fs => exact h
          | false => exact h
        | _ => exact h
theorem whl_le {c : ES} {b : SS} {n m : Nat} {rho : Rho} {mu : Mu} {r} (h : whl c b n rho mu = some r) (hm : n ≤ m) : whl c b m rho mu = some r := by
  induction hm with
  | refl => exact h
  | step _ ih => exact whl_more ih
theorem sWhl_of {c : ES} {b : SS} {n : Nat} {rho : Rho} {mu : Mu} {r} (h : whl c b n rho mu = some r) : sWhl c b rho mu = some r := by
  unfold sWhl
  have hx : ∃ n, (whl c b n rho mu).isSome = true := ⟨n, by rw [h]; rfl⟩
  rw [dif_pos hx]
  obtain ⟨r', e'⟩ := Option.isSome_iff_exists.mp (Classical.choose_spec hx)
  rw [e']
  have z1 := whl_le h (Nat.le_max_left n (Classical.choose hx))
  have z2 := whl_le e' (Nat.le_max_right n (Classical.choose hx))
  rw [z1] at z2
  exact z2.symm
theorem sWhl_n {c : ES} {b : SS} {rho : Rho} {mu : Mu} {r} (h : sWhl c b rho mu = some r) : ∃ n, whl c b n rho mu = some r := by
  unfold sWhl at h
  split at h
  · rename_i hx
    exact ⟨_, h⟩
  · cases h
theorem whl_f {c : ES} {b : SS} {rho : Rho} {mu mu1 : Mu} (h : c rho mu = some (.ok (.bl false), mu1)) : sWhl c b rho mu = some (.nx, rho, mu1) := sWhl_of (n := 1) (by unfold whl; rw [h]; rfl)
theorem whl_t {c : ES} {b : SS} {rho rho2 : Rho} {mu mu1 mu2 : Mu} {r} (h : c rho mu = some (.ok (.bl true), mu1)) (hb : b rho mu1 = some (.nx, rho2, mu2)) (hr : sWhl c b rho2 mu2 = some r) : sWhl c b rho mu = some r := by
  obtain ⟨n, e⟩ := sWhl_n hr
  refine sWhl_of (n := n + 1) ?_
  unfold whl
  rw [h]
  simp only [bnS, chS]
  rw [hb]
  exact e
/-! ### for -/
theorem forL_inv {g : Option (Nat × List D)} {t : Tg} {b : SS} (I : Rho → Mu → Prop) (hg : ∀ rho mu, I rho mu → grdOk g mu) : ∀ {xs : List D} {rho : Rho} {mu : Mu},
    (∀ x ∈ xs, ∀ rho mu, I rho mu → ∃ rho1, asgD t x rho = some rho1 ∧ ∃ rho2 mu2, b rho1 mu = some (.nx, rho2, mu2) ∧ I rho2 mu2) → I rho mu → ∃ rho' mu', forL g t b xs rho mu = some (.nx, rho', mu') ∧ I rho' mu'
  | [], rho, mu, _, i => ⟨rho, mu, by unfold forL; rw [if_pos (hg _ _ i)], i⟩
  | x :: xs, rho, mu, h, i => by
    obtain ⟨rho1, e1, rho2, mu2, e2, i2⟩ := h x (List.mem_cons_self ..) rho mu i
    obtain ⟨rho3, mu3, e3, i3⟩ := forL_inv I hg (xs := xs) (fun y hy => h y (List.mem_cons_of_mem _ hy)) i2
    refine ⟨rho3, mu3, ?_, i3⟩
    unfold forL
    rw [if_pos (hg _ _ i), e1]
    dsimp only
    rw [e2]
    exact e3
/-- .. with the place -/
theorem forL_ix {g : Option (Nat × List D)} {t : Tg} {b : SS} (I : Nat → Rho → Mu → Prop) (hg : ∀ i rho mu, I i rho mu → grdOk g mu) : ∀ {xs : List D} {i : Nat} {rho : Rho} {mu : Mu},
    (∀ (k : Nat) (x : D), xs[k]? = some x → ∀ rho mu, I (i + k) rho mu → ∃ rho1, asgD t x rho = some rho1 ∧ ∃ rho2 mu2, b rho1 mu = some (.nx, rho2, mu2) ∧ I (i + k + 1) rho2 mu2) → I i rho mu → ∃ rho' mu', forL g t b xs rho mu = some (.nx, rho', mu') ∧ I (i + xs.length) rho' mu'
  | [], i, rho, mu, _, z => ⟨rho, mu, by unfold forL; rw [if_pos (hg _ _ _ z)], z⟩
  | x :: xs, i, rho, mu, h, z => by
    obtain ⟨rho1, e1, rho2, mu2, e2, i2⟩ := h 0 x rfl rho mu z
    obtain ⟨rho3, mu3, e3, i3⟩ := forL_ix I hg (xs := xs) (i := i + 1) (fun k y hy rho mu z => by
      have := h (k + 1) y (by simpa using hy) rho mu (by rw [show i + (k + 1) = i + 1 + k by omega]; exact z)
      rw [show i + (k + 1) + 1 = i + 1 + k + 1 by omega] at this
      exact this) i2
    refine ⟨rho3, mu3, ?_, by rw [List.length_cons, show i + (xs.length + 1) = i + 1 + xs.length by omega]; exact i3⟩
    unfold forL
    rw [if_pos (hg _ _ _ z), e1]
    dsimp only
    rw [e2]
    exact e3
/-! ### comprehensions -/
theorem compL_ix {n : Nat} {g : Option (Nat × List D)} {t : Tg} {tt te : ES} (I : Nat → Mu → Prop) {rho : Rho} (hg : ∀ i mu, I i mu → grdOk g mu) : ∀ {xs : List D} {i : Nat} {mu : Mu},
    (∀ (k : Nat) (x : D), xs[k]? = some x → ∀ mu, I (i + k) mu → ∃ rho1, asgD t x rho = some rho1 ∧
      ((∃ mu1, tt rho1 mu = some (.ok (.bl false), mu1) ∧ I (i + k + 1) mu1) ∨ ∃ mu1 mu2 y acc, tt rho1 mu = some (.ok (.bl true), mu1) ∧ te rho1 mu1 = some (.ok y, mu2) ∧ mu2[n]? = some (.lst acc) ∧ acc.length < 16777216 ∧ I (i + k + 1) (mu2.set n (.lst (acc ++ [y]))))) →
    I i mu → ∃ mu', compL n g t tt te xs rho mu = some mu' ∧ I (i + xs.length) mu'
  | [], i, mu, _, z => ⟨mu, by unfold compL; rw [if_pos (hg _ _ z)], z⟩
  | x :: xs, i, mu, h, z => by
    obtain ⟨rho1, e1, q⟩ := h 0 x rfl mu z
    have rest : ∀ mu2, I (i + 1) mu2 → ∃ mu', compL n g t tt te xs rho mu2 = some mu' ∧ I (i + (x :: xs).length) mu' := fun mu2 i2 => by
      obtain ⟨mu3, e3, i3⟩ := compL_ix I hg (xs := xs) (i := i + 1) (fun k y hy mu z => by
        have := h (k + 1) y (by simpa using hy) mu (by rw [show i + (k + 1) = i + 1 + k by omega]; exact z)
        rw [show i + (k + 1) + 1 = i + 1 + k + 1 by omega] at this
        exact this) i2
      exact ⟨mu3, e3, by rw [List.length_cons, show i + (xs.length + 1) = i + 1 + xs.length by omega]; exact i3⟩
    rcases q with ⟨mu1, e2, i2⟩ | ⟨mu1, mu2, y, acc, e2, e3, e4, hz, i2⟩
    · obtain ⟨mu3, e5, i3⟩ := rest _ i2
      refine ⟨mu3, ?_, i3⟩
      unfold compL
      rw [if_pos (hg _ _ z), e1]
      dsimp only
      rw [e2]
      exact e5
    · obtain ⟨mu3, e5, i3⟩ := rest _ i2
      refine ⟨mu3, ?_, i3⟩
      unfold compL
      rw [if_pos (hg _ _ z), e1]
      dsimp only
      rw [e2]
      dsimp only
      rw [e3]
      dsimp only
      rw [e4]
      dsimp only
      rw [if_pos hz]
      exact e5
end DL
set_option Elab.async false
set_option linter.all false
set_option autoImplicit false
set_option maxRecDepth 100000
set_option maxHeartbeats 4000000
namespace K01
open PySem PySem.Spec PyProof.Rows L2 DL
theorem fin_rt (r : Ro) (rho1 rho2 : Rho) : fin (bnS r rho1 fun d mu1 => some (.rt d, rho1, mu1)) = fin (bnS r rho2 fun d mu1 => some (.rt d, rho2, mu1)) := by
  cases r with
  | none => rfl
  | some x =>
    obtain ⟨x, m⟩ := x
    cases x <;> rfl
theorem h__law_refused (q : Ad) (f : Addr) (cl : Mu → Ro) (mu : Mu) : fnS 3 (m__law_refused q f cl) [.adr f] mu = G__law_refused q cl mu := by
  unfold G__law_refused
  rw [fnS_fin, fnS_fin]
  show fin (m__law_refused q f cl [some (.adr f), none, none] mu) = fin (m__law_refused q 0 cl [some (.adr 0), none, none] mu)
  have act : ∀ g : Addr, eAct g cl [some (.adr g), some .non, none] mu = cl mu := fun g => by
    show (if g = g then cl mu else none) = _
    rw [if_pos rfl]
  have key : ∀ (V : Ro), (∀ g : Addr, fin (m__law_refused q g cl [some (.adr g), none, none] mu) = V) → fin (m__law_refused q f cl [some (.adr f), none, none] mu) = fin (m__law_refused q 0 cl [some (.adr 0), none, none] mu) := fun V h => (h f).trans (h 0).symm
  cases h : cl mu with
  | none =>
    refine key none fun g => ?_
    have t : sTryK 2 1 (t_SnippetError_Missing q) (sExpr (eAct g cl)) [some (.adr g), some .non, none] mu = none := by
      unfold sTryK sExpr
      rw [act g, h]; rfl
    unfold m__law_refused
    rw [seq_nx (rho1 := [some (.adr g), some .non, none]) (mu1 := mu) rfl]
    unfold sSeq
    rw [t]; rfl
  | some r =>
    obtain ⟨r, mu1⟩ := r
    cases r with
    | ok d =>
      refine key (some (.ok (.str "told"), mu1)) fun g => ?_
      have t : sTryK 2 1 (t_SnippetError_Missing q) (sExpr (eAct g cl)) [some (.adr g), some .non, none] mu = some (.nx, [some (.adr g), some .non, none], mu1) := by
        unfold sTryK sExpr
        rw [act g, h]; rfl
      unfold m__law_refused
      rw [seq_nx (rho1 := [some (.adr g), some .non, none]) (mu1 := mu) rfl, seq_nx t]
      rfl
    | ex C fs =>
      cases hb : t_SnippetError_Missing q C with
      | none =>
        refine key none fun g => ?_
        have t : sTryK 2 1 (t_SnippetError_Missing q) (sExpr (eAct g cl)) [some (.adr g), some .non, none] mu = none := by
          unfold sTryK sExpr
          rw [act g, h]
          simp only [bnS, hb]
        unfold m__law_refused
        rw [seq_nx (rho1 := [some (.adr g), some .non, none]) (mu1 := mu) rfl]
        unfold sSeq
        rw [t]; rfl
      | some b =>
        cases b with
        | false =>
          refine key (some (.ex C fs, mu1)) fun g => ?_
          have t : sTryK 2 1 (t_SnippetError_Missing q) (sExpr (eAct g cl)) [some (.adr g), some .non, none] mu = some (.ex C fs, [some (.adr g), some .non, none], mu1) := by
            unfold sTryK sExpr
            rw [act g, h]
            simp only [bnS, hb]
          unfold m__law_refused
          rw [seq_nx (rho1 := [some (.adr g), some .non, none]) (mu1 := mu) rfl, seq_ex t]
          rfl
        | true =>
          refine key (fin (bnS (eIf (eAnd (eCall (isO q.cBadShape (is_BadShape q)) [eVar 1, eC (.adr q.cBadShape)]) (eNot (eCall (isO q.cBadSnippet (is_BadSnippet q)) [eVar 1, eC (.adr q.cBadSnippet)]))) (eCall lstF [excGet "given" (ok_given q) (eVar 1)]) (eC (.str "other")) [none, some (.cel mu1.length), none] (mu1 ++ [.exc C fs])) [] fun d mu1 => some (.rt d, [], mu1))) fun g => ?_
          have t : sTryK 2 1 (t_SnippetError_Missing q) (sExpr (eAct g cl)) [some (.adr g), some .non, none] mu = some (.nx, [some (.adr g), some (.cel mu1.length), none], mu1 ++ [.exc C fs]) := by
            unfold sTryK sExpr
            rw [act g, h]
            simp only [bnS, hb]
            rfl
          unfold m__law_refused
          rw [seq_nx (rho1 := [some (.adr g), some .non, none]) (mu1 := mu) rfl, seq_nx t, seq_nx (rho1 := [some (.adr g), some (.cel mu1.length), none]) (mu1 := mu1 ++ [.exc C fs]) rfl]
          exact fin_rt (eIf (eAnd (eCall (isO q.cBadShape (is_BadShape q)) [eVar 1, eC (.adr q.cBadShape)]) (eNot (eCall (isO q.cBadSnippet (is_BadSnippet q)) [eVar 1, eC (.adr q.cBadSnippet)]))) (eCall lstF [excGet "given" (ok_given q) (eVar 1)]) (eC (.str "other")) [none, some (.cel mu1.length), none] (mu1 ++ [.exc C fs])) [some (.adr g), some (.cel mu1.length), none] []
section
variable {P : Program} {w : World} {K : PySem.W.Frag} {mg : Str → Option Value} {base : Heap} {T : Tb} {q : Ad} {gq : Addr}
/-! law -/
abbrev s_law : Stmt := top 19
theorem sc_law : FnScope ["_law_script", "_law_draws_here", "_law_names", "_law_turn", "_law_odd", "_law_many", "_law_string", "_law_shape", "_law_told", "_law_later", "_law_both", "_law_one_here", "_law_k"] ["_law_script"] (defScope s_law) := ⟨rfl, rfl, rfl, by decide +kernel, rfl, by decide +kernel, by decide +kernel⟩
noncomputable def m_law (q : Ad) : SS := sSeq (sSet 1 (eCall (F__law_draws q) [eVar 0])) (sSeq (sSet 2 (eCall tupF [eC (.str ""), eC (.str "upper"), eC (.str "lower"), eC (.str "first"), eC (.str "title")])) (sSeq (sIf (eOp neD (eC d_SHAPES) (eVar 2)) (sRet (eC (.bl false))) (sNil)) (sSeq (sFor (iRg (eOp addD (eC (.int 4)) (eOp fdivD (eCall minF [eC (.int 60), eCall lenF [eVar 0]]) (eC (.int 3))))) (.nm 3) (sSeq (sSet 5 (eCall (F__law_pick q) [eVar 1, eC (.int 31)])) (sSeq (sSet 6 (eMth isSB joinM (eC (.str "")) [eComp (iRg (eVar 5)) (.nm 12) ([("_law_k", 12)].map (·.2)) (eC (.bl true)) (eCall (F__law_one q) [eVar 1, eOp addD (eCall (F__law_signs q) []) (eC (.str "~ aZ"))])])) (sFor (iV (eVar 2)) (.nm 7) (sSeq (sIf (eOp neD (eCall (F_shaped q) [eVar 7, eVar 6]) (eCall (F__law_shaped q) [eVar 7, eVar 6])) (sRet (eC (.bl false))) (sNil)) (sFor (iV (eVar 2)) (.nm 9) (sSeq (sSet 10 (eCall (F_then q) [eVar 7, eVar 9])) (sSeq (sIf (eOp notInD (eVar 10) (eVar 2)) (sRet (eC (.bl false))) (sNil)) (sFor (iV (eCall tupF [eVar 6, eC (.str "xYz"), eC (.str "Xyz"), eC (.str "")])) (.nm 11) (sIf (eOp neD (eCall (F__law_shaped q) [eVar 10, eVar 11]) (eCall (F__law_shaped q) [eVar 9, eCall (F__law_shaped q) [eVar 7, eVar 11]])) (sRet (eC (.bl false))) (sNil))))))))))) (sSeq (sFor (iV (eCall tupF [eC .non, eC (.int 5), eC (.bl true), eC (.str "Upper"), eC (.str "upper "), eC (.str "u"), eCall tupF [], eCall lstF [], eDict0, eCall tupF [eC (.str "upper")], eCall lstF [eC (.str "")]])) (.nm 4) (sSeq (sSet 8 (eCall lstF [eLam (G__law_refused q) id (eCall (F_shaped q) [eVar 4, eC (.str "a")]), eLam (G__law_refused q) (fun rho => rho.set 11 none) (eCall (F_then q) [eVar 4, eC (.str "upper")])])) (sSeq (sExpr (eMth isLB appM (eVar 8) [eLam (G__law_refused q) id (eCall (F_then q) [eC (.str ""), eVar 4])])) (sIf (eOp neD (eCall reprF [eVar 8]) (eCall reprF [eOp mulD (eCall lstF [eCall lstF [eVar 4]]) (eC (.int 3))])) (sRet (eC (.bl false))) (sNil))))) (sRet (eC (.bl true)))))))
noncomputable def F_law (q : Ad) : FS := fnS 13 (m_law q)
def tb_law (q : Ad) : List (Addr × Str) := [(q.t_law, (envOfC "law" (defScope s_law) 0 0 .none).qual ++ "<lambda>")]
abbrev T_law (q : Ad) : Tb := ⟨tb_law q, []⟩
theorem mT_law (q : Ad) : (q.t_law, (envOfC "law" (defScope s_law) 0 0 .none).qual ++ "<lambda>") ∈ tb_law q := List.mem_singleton.mpr rfl
theorem uT_law (q : Ad) : ∀ p ∈ tb_law q, p.1 = q.t_law → p.2 = (envOfC "law" (defScope s_law) 0 0 .none).qual ++ "<lambda>" := fun p hp _ => by rw [List.mem_singleton.mp hp]
theorem ok_law (g : Gx P w K mg base q) (c_then : Fx P w K mg base (T_law q) "then" 4 2 (F_then q)) (c_shaped : Fx P w K mg base (T_law q) "shaped" 4 2 (F_shaped q)) (c__law_shaped : Fx P w K mg base (T_law q) "_law_shaped" 2 2 (F__law_shaped q)) (c__law_one : Fx P w K mg base (T_law q) "_law_one" 3 2 (F__law_one q)) (c__law_signs : Fx P w K mg base (T_law q) "_law_signs" 2 0 (F__law_signs q)) (c__law_pick : Fx P w K mg base (T_law q) "_law_pick" 2 2 (F__law_pick q)) (c__law_draws : Fx P w K mg base (T_law q) "_law_draws" 2 1 (F__law_draws q)) {fd__law_refused : FuncData} (lm__law_refused : mg "_law_refused" = some (.ref q.f__law_refused)) (lf__law_refused : Fun K "_law_refused" "_law_refused" s__law_refused q.f__law_refused fd__law_refused) {f : Addr} {fd : FuncData} (F : Fun K "law" "law" s_law f fd) (hc : fd.code = .ref q.c_law) (TB : LamX.TabB base mg q.c_law q.t_law) : FnG P w K mg base 7 f fd ["_law_script"] (spD K (T_law q) 1 (F_law q)) :=
  fnDc F hc sc_law fun A outer s H E hr => sts_cons (st_set (i := 1) sc_law.nd (se_call c__law_draws hr (by decide) rfl (sa_cons (se_var 0) sa_nil))) (sts_cons (st_set (i := 2) sc_law.nd (se_tup (sa_cons (se_str) (sa_cons (se_str) (sa_cons (se_str) (sa_cons (se_str) (sa_cons (se_str) sa_nil))))))) (sts_cons (st_if (sc_ne hr (se_glob (v := .ref q.aSHAPES) rfl g.m_SHAPES rfl g.r_SHAPES) (se_var 2)) (sts_one (st_ret (se_bl))) (sts_nil)) (sts_cons (st_for (si_range g.f_range (se_add (se_int) (se_fdiv (se_min g.f_min (sa_cons (se_int) (sa_cons (se_len g.f_len (sa_cons (se_var 0) sa_nil)) sa_nil))) (se_int)))) (sg_name sc_law.nd) (sts_cons (st_set (i := 5) sc_law.nd (se_call c__law_pick hr (by decide) rfl (sa_cons (se_var 1) (sa_cons (se_int) sa_nil)))) (sts_cons (st_set (i := 6) sc_law.nd (se_bm PySem.F.plainAttrs_str PySem.F.slot_str_join PySem.F.type_str_join mt_join m_join (fun _ _ _ _ _ => chk_s) (se_str) (sa_cons (se_comp [("_law_k", 12)] sc_law.nd (si_range g.f_range (se_var 5)) (blk_by (N := ["_law_script", "_law_draws_here", "_law_names", "_law_turn", "_law_odd", "_law_many", "_law_string", "_law_shape", "_law_told", "_law_later", "_law_both", "_law_one_here", "_law_k"]) (sc := defScope s_law) (by decide +kernel)) (fun s H C cl fp => sg_name sc_law.nd) (fun s H C cl fp => sp_nil) (fun s H C cl fp => se_call c__law_one hr (by decide) rfl (sa_cons (se_var 1) (sa_cons (se_add (se_call0 c__law_signs hr (by decide) rfl) (se_str)) sa_nil)))) sa_nil))) (sts_one (st_for (si_val (se_var 2)) (sg_name sc_law.nd) (sts_cons (st_if (sc_ne hr (se_call c_shaped hr (by decide) rfl (sa_cons (se_var 7) (sa_cons (se_var 6) sa_nil))) (se_call c__law_shaped hr (by decide) rfl (sa_cons (se_var 7) (sa_cons (se_var 6) sa_nil)))) (sts_one (st_ret (se_bl))) (sts_nil)) (sts_one (st_for (si_val (se_var 2)) (sg_name sc_law.nd) (sts_cons (st_set (i := 10) sc_law.nd (se_call c_then hr (by decide) rfl (sa_cons (se_var 7) (sa_cons (se_var 9) sa_nil)))) (sts_cons (st_if (sc_notIn (se_var 10) (se_var 2)) (sts_one (st_ret (se_bl))) (sts_nil)) (sts_one (st_for (si_val (se_tup (sa_cons (se_var 6) (sa_cons (se_str) (sa_cons (se_str) (sa_cons (se_str) sa_nil)))))) (sg_name sc_law.nd) (sts_one (st_if (sc_ne hr (se_call c__law_shaped hr (by decide) rfl (sa_cons (se_var 10) (sa_cons (se_var 11) sa_nil))) (se_call c__law_shaped hr (by decide) rfl (sa_cons (se_var 9) (sa_cons (se_call c__law_shaped hr (by decide) rfl (sa_cons (se_var 7) (sa_cons (se_var 11) sa_nil))) sa_nil)))) (sts_one (st_ret (se_bl))) (sts_nil))))))))))))))) (sts_cons (st_for (si_val (se_tup (sa_cons (se_non) (sa_cons (se_int) (sa_cons (se_bl) (sa_cons (se_str) (sa_cons (se_str) (sa_cons (se_str) (sa_cons (se_tup (sa_nil)) (sa_cons (se_lst (sa_nil)) (sa_cons (se_dict0) (sa_cons (se_tup (sa_cons (se_str) sa_nil)) (sa_cons (se_lst (sa_cons (se_str) sa_nil)) sa_nil))))))))))))) (sg_name sc_law.nd) (sts_cons (st_set (i := 8) sc_law.nd (se_lst (sa_cons (se_lam (k := 5) (kb := 4) rfl lm__law_refused lf__law_refused (lf__law_refused.binds fun _ _ _ _ _ _ us hl => match us, hl with | [_], _ => rfl) sc__law_refused rfl (.inl rfl) (fun T2 cdv A2 o2 s2 H2 E2 f2 cl ht hl act => b__law_refused g T2 cdv A2 o2 s2 H2 E2 f2 cl ht (hl.mono (by decide)) act) (h__law_refused q) TB rfl (mT_law q) (uT_law q) hr (by decide) (by decide) (DLX.lamP_by (xs := []) (by rfl)) (DLX.lamA_0 rfl (fun _ _ _ _ _ => rfl)) rm_0 (fun T2 A2 o2 s2 H2 E2 f2 c2 ht hl => se_call ((c_shaped).fixT ht) hl (by decide) rfl (sa_cons (se_var 4) (sa_cons (se_str) sa_nil)))) (sa_cons (se_lam (k := 5) (kb := 4) rfl lm__law_refused lf__law_refused (lf__law_refused.binds fun _ _ _ _ _ _ us hl => match us, hl with | [_], _ => rfl) sc__law_refused rfl (.inl rfl) (fun T2 cdv A2 o2 s2 H2 E2 f2 cl ht hl act => b__law_refused g T2 cdv A2 o2 s2 H2 E2 f2 cl ht (hl.mono (by decide)) act) (h__law_refused q) TB rfl (mT_law q) (uT_law q) hr (by decide) (by decide) (DLX.lamP_by (xs := ["_law_one_here"]) (by rfl)) (DLX.lamA_1 (y := "_law_one_here") rfl (fun _ _ _ _ _ _ _ => ⟨_, rfl, rfl⟩)) (rm_1 sc_law.nd (i := 11) rfl) (fun T2 A2 o2 s2 H2 E2 f2 c2 ht hl => se_call ((c_then).fixT ht) hl (by decide) rfl (sa_cons (se_var 4) (sa_cons (se_str) sa_nil)))) sa_nil)))) (sts_cons (st_expr (se_bm PySem.F.plainAttrs_list PySem.F.slot_list_append PySem.F.type_list_append mt_append m_append (fun _ _ _ _ _ => chk_l) (se_var 8) (sa_cons (se_lam (k := 5) (kb := 4) rfl lm__law_refused lf__law_refused (lf__law_refused.binds fun _ _ _ _ _ _ us hl => match us, hl with | [_], _ => rfl) sc__law_refused rfl (.inl rfl) (fun T2 cdv A2 o2 s2 H2 E2 f2 cl ht hl act => b__law_refused g T2 cdv A2 o2 s2 H2 E2 f2 cl ht (hl.mono (by decide)) act) (h__law_refused q) TB rfl (mT_law q) (uT_law q) hr (by decide) (by decide) (DLX.lamP_by (xs := []) (by rfl)) (DLX.lamA_0 rfl (fun _ _ _ _ _ => rfl)) rm_0 (fun T2 A2 o2 s2 H2 E2 f2 c2 ht hl => se_call ((c_then).fixT ht) hl (by decide) rfl (sa_cons (se_str) (sa_cons (se_var 4) sa_nil)))) sa_nil))) (sts_one (st_if (sc_ne hr (se_repr hr g.f_repr (sa_cons (se_var 8) sa_nil)) (se_repr hr g.f_repr (sa_cons (se_mul (se_lst (sa_cons (se_lst (sa_cons (se_var 4) sa_nil)) sa_nil)) (se_int)) sa_nil))) (sts_one (st_ret (se_bl))) (sts_nil)))))) (sts_one (st_ret (se_bl)))))))
end
end K01
set_option Elab.async false
set_option linter.all false
set_option autoImplicit false
set_option maxRecDepth 100000
set_option maxHeartbeats 4000000
/-! DL19: the drawing of numbers. -/
namespace DL
open PySem PySem.Spec L2
/-- cells outside S stay -/
def Fz (S : List Nat) (mu mu' : Mu) : Prop := mu.length ≤ mu'.length ∧ ∀ (i : Nat) (c : Cell), i ∉ S → mu[i]? = some c → mu'[i]? = some c
theorem Fz.refl (S : List Nat) (mu : Mu) : Fz S mu mu := ⟨Nat.le_refl _, fun _ _ _ h => h⟩
theorem Fz.trans {S : List Nat} {a b c : Mu} (h : Fz S a b) (g : Fz S b c) : Fz S a c := ⟨Nat.le_trans h.1 g.1, fun i x n e => g.2 i x n (h.2 i x n e)⟩
theorem Fz.app (S : List Nat) (mu : Mu) (l : List Cell) : Fz S mu (mu ++ l) := ⟨by simp, fun i c _ e => by rw [List.getElem?_append_left (List.getElem?_eq_some_iff.mp e).1]; exact e⟩
theorem Fz.set {S : List Nat} {j : Nat} (hj : j ∈ S) (mu : Mu) (c : Cell) : Fz S mu (mu.set j c) := ⟨by simp, fun i x n e => by rw [List.getElem?_set_ne (fun z => n (by rw [← z]; exact hj))]; exact e⟩
theorem Fz.mono {S S' : List Nat} {a b : Mu} (h : Fz S a b) (hs : ∀ i ∈ S, i ∈ S') : Fz S' a b := ⟨h.1, fun i c n e => h.2 i c (fun z => n (hs i z)) e⟩
/-- the numbers that are left, the seed, the count -/
structure Dr (j jr : Nat) (mu : Mu) : Prop where
  ne : j ≠ jr
  dct : ∃ s c : Int, mu[j]? = some (.dct [(.inr "rest", .cel jr), (.inr "seed", .int s), (.inr "count", .int c)])
  lst : ∃ ns : List Int, mu[jr]? = some (.lst (ns.map D.int))
theorem Dr.fz {j jr : Nat} {mu mu' : Mu} {S : List Nat} (h : Dr j jr mu) (f : Fz S mu mu') (h1 : j ∉ S) (h2 : jr ∉ S) : Dr j jr mu' := by
  obtain ⟨s, c, e⟩ := h.dct
  obtain ⟨ns, e2⟩ := h.lst
  exact ⟨h.ne, ⟨s, c, f.2 _ _ h1 e⟩, ⟨ns, f.2 _ _ h2 e2⟩⟩
noncomputable def mPick : SS := sSeq (sSet 2 (eOp getD (eVar 0) (eC (.str "rest")))) (sSeq (sWhl (eAnd (eOp neD (eVar 2) (eCall lstF [])) (eOp eqD (eOp ixD (eVar 2) (eC (.int 0))) (eC (.int 0)))) (sExpr (eMth isLB popAtM (eVar 2) [eC (.int 0)]))) (sSeq (sIf (eOp neD (eVar 2) (eCall lstF [])) (sSeq (sSet 4 (eOp modD (eCall intF [eOp ixD (eVar 2) (eC (.int 0))]) (eVar 1))) (sSeq (sPut setF (eVar 2) (eC (.int 0)) (eOp fdivD (eOp ixD (eVar 2) (eC (.int 0))) (eVar 1))) (sRet (eVar 4)))) (sNil)) (sSeq (sPut putF (eVar 0) (eC (.str "count")) (eOp addD (eOp getD (eVar 0) (eC (.str "count"))) (eC (.int 1)))) (sSeq (sSet 3 (eOp addD (eOp mulD (eOp getD (eVar 0) (eC (.str "seed"))) (eC (.int 3935559000370003845))) (eC (.int 77317)))) (sSeq (sSet 3 (eOp addD (eVar 3) (eOp mulD (eC (.int 2691343689449507681)) (eOp getD (eVar 0) (eC (.str "count")))))) (sSeq (sPut putF (eVar 0) (eC (.str "seed")) (eOp modD (eCall intF [eVar 3]) (eC (.int 2305843009213693951)))) (sRet (eOp modD (eCall intF [eOp fdivD (eOp getD (eVar 0) (eC (.str "seed"))) (eC (.int 8388593))]) (eVar 1)))))))))
theorem dPs_ints (rc : Nat → Option PyData) : ∀ ns : List Int, dPs rc (ns.map D.int) = some (ns.map PyData.int)
  | [] => by simp [dPs]
  | n :: ns => by
    simp only [List.map_cons, dPs, dP]
    rw [dPs_ints rc ns]
theorem canAll_ints : ∀ ns : List Int, PyData.canLayAll0 (ns.map PyData.int) = true
  | [] => by simp [PyData.canLayAll0]
  | n :: ns => by
    simp only [List.map_cons, PyData.canLayAll0, PyData.canLay0]
    rw [canAll_ints ns]; rfl
theorem depthAll_ints : ∀ ns : List Int, PyData.depthAll (ns.map PyData.int) = 0
  | [] => by simp [PyData.depthAll]
  | n :: ns => by
    simp only [List.map_cons, PyData.depthAll, PyData.depth]
    rw [depthAll_ints ns]; rfl
theorem shaped_ints (ns : List Int) : SeqAt.shaped (.list (ns.map PyData.int)) = true := by
  unfold SeqAt.shaped
  simp only [PyData.canLay0, PyData.depth, canAll_ints, depthAll_ints]
  decide
theorem toP_ints {mu : Mu} {j : Nat} {ns : List Int} (h : mu[j]? = some (.lst (ns.map D.int))) : toP mu (.cel j) = some (.list (ns.map PyData.int)) := by
  unfold toP
  simp only [dP]
  unfold cP
  rw [h]
  dsimp only
  rw [dPs_ints]
  rfl
theorem ne_nil {mu : Mu} {j n : Nat} {ns : List Int} (h : mu[j]? = some (.lst (ns.map D.int))) (h2 : mu[n]? = some (.lst [])) : neD (.cel j) (.cel n) mu = some (.ok (.bl (!ns.isEmpty)), mu) := by
  have e2 : toP mu (.cel n) = some (.list []) := toP_ints (ns := []) h2
  have e : eqB (.cel j) (.cel n) mu = some ns.isEmpty := by
    unfold eqB
    simp only [scV]
    unfold eqP
    rw [toP_ints h, e2]
    dsimp only
    rw [if_pos ⟨shaped_ints ns, shaped_ints []⟩]
    cases ns with
    | nil => simp [PyData.eqv, PyData.eqvAll]
    | cons x r => simp [PyData.eqv, PyData.eqvAll]
  unfold neD; simp only [e, okD]
theorem eq_int (i k : Int) (mu : Mu) : eqD (.int i) (.int k) mu = some (.ok (.bl (decide (i = k))), mu) := by
  have e : eqB (.int i) (.int k) mu = some (decide (i = k)) := by
    unfold eqB
    simp only [scV]
    rw [if_pos (by rfl)]
    simp
  unfold eqD; simp only [e, okD]
theorem lst0_ev {rho : Rho} {mu : Mu} : eCall lstF [] rho mu = some (.ok (.cel mu.length), mu ++ [.lst []]) := rfl
theorem ix0 {mu : Mu} {j : Nat} {x : D} {xs : List D} (h : mu[j]? = some (.lst (x :: xs))) : ixD (.cel j) (.int 0) mu = some (.ok x, mu) := by
  unfold ixD
  simp only [seqD, lstD]
  rw [h]
  simp [atI, ixN, okD]
theorem app_at {mu : Mu} {l : List Cell} {j : Nat} {c : Cell} (h : mu[j]? = some c) : (mu ++ l)[j]? = some c := (Fz.app [] mu l).2 j c (by simp) h
theorem app_new {mu : Mu} {c : Cell} : (mu ++ [c])[mu.length]? = some c := by simp
section
variable {j jr : Nat} {mu : Mu} {many : Int}
abbrev cWhl : ES := eAnd (eOp neD (eVar 2) (eCall lstF [])) (eOp eqD (eOp ixD (eVar 2) (eC (.int 0))) (eC (.int 0)))
abbrev bWhl : SS := sExpr (eMth isLB popAtM (eVar 2) [eC (.int 0)])
abbrev r2 (j jr : Nat) (many : Int) : Rho := [some (.cel j), some (.int many), some (.cel jr), none, none]
theorem whl_ok : ∀ (ns : List Int) (mu : Mu), mu[jr]? = some (.lst (ns.map D.int)) → ∃ mu' ns', sWhl cWhl bWhl (r2 j jr many) mu = some (.nx, r2 j jr many, mu') ∧ mu'[jr]? = some (.lst (List.map D.int ns')) ∧ Fz [jr] mu mu'
  | [], mu, h => by
    refine ⟨mu ++ [.lst []], [], whl_f ?_, app_at h, Fz.app _ _ _⟩
    exact and_f ((op_ev rfl lst0_ev).trans (ne_nil (ns := []) (app_at h) app_new))
  | n :: ns, mu, h => by
    have h1 : (mu ++ [Cell.lst []])[jr]? = some (.lst ((n :: ns).map D.int)) := app_at h
    have c1 : eOp neD (eVar 2) (eCall lstF []) (r2 j jr many) mu = some (.ok (.bl true), mu ++ [.lst []]) := (op_ev rfl lst0_ev).trans (ne_nil (ns := n :: ns) h1 app_new)
    have c2 : eOp eqD (eOp ixD (eVar 2) (eC (.int 0))) (eC (.int 0)) (r2 j jr many) (mu ++ [.lst []]) = some (.ok (.bl (decide (n = 0))), mu ++ [.lst []]) := (op_ev ((op_ev rfl rfl).trans (ix0 h1)) rfl).trans (eq_int n 0 _)
    have c3 := (and_t (e2 := eOp eqD (eOp ixD (eVar 2) (eC (.int 0))) (eC (.int 0))) c1).trans c2
    by_cases hn : n = 0
    · have hb : bWhl (r2 j jr many) (mu ++ [.lst []]) = some (.nx, r2 j jr many, (mu ++ [Cell.lst []]).set jr (.lst (ns.map D.int))) := by
        refine expr_ev (d := .int n) ?_
        have e1 : isLB (.cel jr) (mu ++ [.lst []]) = true := by unfold isLB; simp only [lstD]; rw [h1]; rfl
        unfold eMth
        show (if isLB (.cel jr) (mu ++ [.lst []]) = true then popAtM (.cel jr) [.int 0] (mu ++ [.lst []]) else none) = _
        rw [if_pos e1]
        simp only [popAtM, h1]
        simp [ixN]
      have h2 : ((mu ++ [Cell.lst []]).set jr (.lst (ns.map D.int)))[jr]? = some (.lst (ns.map D.int)) := List.getElem?_set_self (List.getElem?_eq_some_iff.mp h1).1
      obtain ⟨mu', ns', e1, e2, e3⟩ := whl_ok ns _ h2
      exact ⟨mu', ns', whl_t (c3.trans (by rw [decide_eq_true hn])) hb e1, e2, ((Fz.app _ _ _).trans (Fz.set (by simp) _ _)).trans e3⟩
    · exact ⟨mu ++ [.lst []], n :: ns, whl_f (c3.trans (by rw [decide_eq_false hn])), h1, Fz.app _ _ _⟩
theorem val_rest {jr : Nat} {s c : Int} : valD [(.inr "rest", .cel jr), (.inr "seed", .int s), (.inr "count", .int c)] (.inr "rest") = some (.cel jr) := by
  unfold valD; simp
theorem val_seed {jr : Nat} {s c : Int} : valD [(.inr "rest", .cel jr), (.inr "seed", .int s), (.inr "count", .int c)] (.inr "seed") = some (.int s) := by
  have h1 : ((.inr "rest" : Key) = .inr "seed") = False := eq_false (by decide)
  unfold valD
  simp [h1]
theorem val_count {jr : Nat} {s c : Int} : valD [(.inr "rest", .cel jr), (.inr "seed", .int s), (.inr "count", .int c)] (.inr "count") = some (.int c) := by
  have h1 : ((.inr "rest" : Key) = .inr "count") = False := eq_false (by decide)
  have h2 : ((.inr "seed" : Key) = .inr "count") = False := eq_false (by decide)
  unfold valD
  simp [h1, h2]
theorem put_count {jr : Nat} {s c d : Int} : putD [(.inr "rest", .cel jr), (.inr "seed", .int s), (.inr "count", .int c)] (.inr "count") (.int d) = [(.inr "rest", .cel jr), (.inr "seed", .int s), (.inr "count", .int d)] := by
  unfold putD
  have h1 : ((.inr "rest" : Key) = .inr "count") = False := eq_false (by decide)
  have h2 : ((.inr "seed" : Key) = .inr "count") = False := eq_false (by decide)
  simp [h1, h2]
theorem put_seed {jr : Nat} {s c d : Int} : putD [(.inr "rest", .cel jr), (.inr "seed", .int s), (.inr "count", .int c)] (.inr "seed") (.int d) = [(.inr "rest", .cel jr), (.inr "seed", .int d), (.inr "count", .int c)] := by
  unfold putD
  have h1 : ((.inr "rest" : Key) = .inr "seed") = False := eq_false (by decide)
  have h2 : ((.inr "count" : Key) = .inr "seed") = False := eq_false (by decide)
  simp [h1, h2]
theorem get_ev {e : ES} {rho : Rho} {mu : Mu} {j : Nat} {kvs : List (Key × D)} {k : Str} {x : D} (h1 : e rho mu = some (.ok (.cel j), mu)) (h2 : mu[j]? = some (.dct kvs)) (h3 : valD kvs (.inr k) = some x) : eOp getD e (eC (.str k)) rho mu = some (.ok x, mu) := by
  refine (op_ev h1 rfl).trans ?_
  simp only [getD, dctD, keyD, h2, h3, okD]
theorem put_evD {e : ES} {v : ES} {rho : Rho} {mu : Mu} {j : Nat} {kvs : List (Key × D)} {k : Str} {x : D} (h0 : v rho mu = some (.ok x, mu)) (h1 : e rho mu = some (.ok (.cel j), mu)) (h2 : mu[j]? = some (.dct kvs)) (hz : kvs.length < 16777216) : sPut putF e (eC (.str k)) v rho mu = some (.nx, rho, mu.set j (.dct (putD kvs (.inr k) x))) := by
  refine put_ev h0 h1 rfl ?_
  simp only [putF, dctD, keyD, h2, if_pos hz]
theorem pick_ok (h : Dr j jr mu) (hm : 0 < many) (hm2 : many < 1073741824) : ∃ (r : Int) (mu' : Mu), fnS 5 mPick [.cel j, .int many] mu = some (.ok (.int r), mu') ∧ 0 ≤ r ∧ r < many ∧ Dr j jr mu' ∧ Fz [j, jr] mu mu' := by
  obtain ⟨hne, ⟨s, c, ed⟩, ns, el⟩ := h
  rw [fnS_fin]
  show ∃ r mu', fin (mPick [some (.cel j), some (.int many), none, none, none] mu) = _ ∧ _
  unfold mPick
  rw [seq_nx (rho1 := r2 j jr many) (mu1 := mu) (set_ev (get_ev rfl ed val_rest))]
  obtain ⟨mu1, ns1, e1, el1, f1⟩ := whl_ok (j := j) (jr := jr) (many := many) ns mu el
  rw [seq_nx e1]
  have ed1 := f1.2 j _ (by simpa using hne) ed
  have c1 : eOp neD (eVar 2) (eCall lstF []) (r2 j jr many) mu1 = some (.ok (.bl (!ns1.isEmpty)), mu1 ++ [.lst []]) := (op_ev rfl lst0_ev).trans (ne_nil (app_at el1) app_new)
  have el2 : (mu1 ++ [Cell.lst []])[jr]? = some (.lst (ns1.map D.int)) := app_at el1
  have ed2 : (mu1 ++ [Cell.lst []])[j]? = _ := app_at ed1
  have f2 : Fz [j, jr] mu (mu1 ++ [.lst []]) := (f1.mono (by simp)).trans (Fz.app _ _ _)
  cases ns1 with
  | cons n ns1 =>
    have ixe : eOp ixD (eVar 2) (eC (.int 0)) (r2 j jr many) (mu1 ++ [.lst []]) = some (.ok (.int n), mu1 ++ [.lst []]) := (op_ev rfl rfl).trans (ix0 el2)
    have ixe2 : eOp ixD (eVar 2) (eC (.int 0)) [some (.cel j), some (.int many), some (.cel jr), none, some (.int (n % many))] (mu1 ++ [.lst []]) = some (.ok (.int n), mu1 ++ [.lst []]) := (op_ev rfl rfl).trans (ix0 el2)
    have s1 : sSet 4 (eOp modD (eCall intF [eOp ixD (eVar 2) (eC (.int 0))]) (eVar 1)) (r2 j jr many) (mu1 ++ [.lst []]) = some (.nx, [some (.cel j), some (.int many), some (.cel jr), none, some (.int (n % many))], mu1 ++ [.lst []]) := by
      refine set_ev (d := .int (n % many)) ((op_ev (x := .int n) (mu1 := mu1 ++ [.lst []]) ?_ rfl).trans ?_)
      · exact (call_1 ixe).trans rfl
      · simp only [modD, if_pos hm, okD]
    have s2 : sPut setF (eVar 2) (eC (.int 0)) (eOp fdivD (eOp ixD (eVar 2) (eC (.int 0))) (eVar 1)) [some (.cel j), some (.int many), some (.cel jr), none, some (.int (n % many))] (mu1 ++ [.lst []]) =
        some (.nx, [some (.cel j), some (.int many), some (.cel jr), none, some (.int (n % many))], (mu1 ++ [Cell.lst []]).set jr (.lst (((n / many) :: ns1).map D.int))) := by
      refine put_ev (x := .int (n / many)) (mu1 := mu1 ++ [.lst []]) ?_ rfl rfl ?_
      · refine (op_ev ixe2 rfl).trans ?_
        simp only [fdivD, if_pos (And.intro hm hm2), okD]
      · simp only [setF, el2]
        simp [ixN]
    rw [seq_rt (d := .int (n % many)) (by rw [if_t c1, seq_nx s1, seq_nx s2]; exact ret_ev rfl)]
    refine ⟨n % many, _, rfl, Int.emod_nonneg _ (by omega), Int.emod_lt_of_pos _ hm, ⟨hne, ⟨s, c, ?_⟩, ⟨_, List.getElem?_set_self (List.getElem?_eq_some_iff.mp el2).1⟩⟩, f2.trans (Fz.set (by simp) _ _)⟩
    rw [List.getElem?_set_ne (Ne.symm hne)]; exact ed2
  | nil =>
    rw [seq_nx (by rw [if_f c1]; rfl)]
    have p1 := put_evD (e := eVar 0) (v := eOp addD (eOp getD (eVar 0) (eC (.str "count"))) (eC (.int 1))) (rho := r2 j jr many) (k := "count") (x := .int (c + 1)) ((op_ev (get_ev rfl ed2 val_count) rfl).trans rfl) rfl ed2 (by simp)
    rw [put_count] at p1
    rw [seq_nx p1]
    have ed3 : ((mu1 ++ [Cell.lst []]).set j (.dct [(.inr "rest", .cel jr), (.inr "seed", .int s), (.inr "count", .int (c + 1))]))[j]? = _ := List.getElem?_set_self (List.getElem?_eq_some_iff.mp ed2).1
    have f3 := f2.trans (Fz.set (S := [j, jr]) (j := j) (by simp) (mu1 ++ [Cell.lst []]) (.dct [(.inr "rest", .cel jr), (.inr "seed", .int s), (.inr "count", .int (c + 1))]))
    have el3 : ((mu1 ++ [Cell.lst []]).set j (.dct [(.inr "rest", .cel jr), (.inr "seed", .int s), (.inr "count", .int (c + 1))]))[jr]? = some (.lst (List.map D.int [])) := by rw [List.getElem?_set_ne hne]; exact el2
    revert ed3 el3 f3
    generalize (mu1 ++ [Cell.lst []]).set j (.dct [(.inr "rest", .cel jr), (.inr "seed", .int s), (.inr "count", .int (c + 1))]) = mu3
    intro ed3 f3 el3
    rw [seq_nx (rho1 := [some (.cel j), some (.int many), some (.cel jr), some (.int (s * 3935559000370003845 + 77317)), none]) (mu1 := mu3) (set_ev (d := .int (s * 3935559000370003845 + 77317)) ((op_ev (x := .int (s * 3935559000370003845)) (mu1 := mu3) ((op_ev (get_ev rfl ed3 val_seed) rfl).trans (by simp only [mulD, if_pos (show CMul s 3935559000370003845 from Or.inr ⟨by decide, by decide⟩), okD])) rfl).trans rfl))]
    rw [seq_nx (rho1 := [some (.cel j), some (.int many), some (.cel jr), some (.int (s * 3935559000370003845 + 77317 + 2691343689449507681 * (c + 1))), none]) (mu1 := mu3) (set_ev (d := .int (s * 3935559000370003845 + 77317 + 2691343689449507681 * (c + 1))) ((op_ev (x := .int (s * 3935559000370003845 + 77317)) (mu1 := mu3) (y := .int (2691343689449507681 * (c + 1))) (mu2 := mu3) rfl ((op_ev rfl (get_ev rfl ed3 val_count)).trans (by simp only [mulD, if_pos (show CMul 2691343689449507681 (c + 1) from Or.inl ⟨by decide, by decide⟩), okD]))).trans rfl))]
    have p2 := put_evD (e := eVar 0) (v := eOp modD (eCall intF [eVar 3]) (eC (.int 2305843009213693951))) (rho := [some (.cel j), some (.int many), some (.cel jr), some (.int (s * 3935559000370003845 + 77317 + 2691343689449507681 * (c + 1))), none]) (k := "seed") (x := .int ((s * 3935559000370003845 + 77317 + 2691343689449507681 * (c + 1)) % 2305843009213693951))
      ((op_ev (x := .int (s * 3935559000370003845 + 77317 + 2691343689449507681 * (c + 1))) (mu1 := mu3) rfl rfl).trans (by simp only [modD, okD]; rfl)) rfl ed3 (by simp)
    rw [put_seed] at p2
    rw [seq_nx p2]
    generalize (s * 3935559000370003845 + 77317 + 2691343689449507681 * (c + 1)) % 2305843009213693951 = s4 at p2 ⊢
    have ed4 : (mu3.set j (.dct [(.inr "rest", .cel jr), (.inr "seed", .int s4), (.inr "count", .int (c + 1))]))[j]? = _ := List.getElem?_set_self (List.getElem?_eq_some_iff.mp ed3).1
    rw [ret_ev (d := .int (s4 / 8388593 % many)) (mu1 := mu3.set j (.dct [(.inr "rest", .cel jr), (.inr "seed", .int s4), (.inr "count", .int (c + 1))])) ((op_ev (x := .int (s4 / 8388593)) ((call_1 (x := .int (s4 / 8388593)) (mu1 := mu3.set j (.dct [(.inr "rest", .cel jr), (.inr "seed", .int s4), (.inr "count", .int (c + 1))])) ((op_ev (get_ev rfl ed4 val_seed) rfl).trans (by simp only [fdivD, okD]; rfl))).trans rfl) rfl).trans (by simp only [modD, if_pos hm, okD]))]
    exact ⟨s4 / 8388593 % many, _, rfl, Int.emod_nonneg _ (by omega), Int.emod_lt_of_pos _ hm, ⟨hne, ⟨s4, c + 1, ed4⟩, ⟨[], by rw [List.getElem?_set_ne hne]; exact el3⟩⟩, f3.trans (Fz.set (by simp) _ _)⟩
end
end DL
set_option Elab.async false
set_option linter.all false
set_option autoImplicit false
set_option maxRecDepth 100000
set_option maxHeartbeats 4000000
/-! DL20: the draws from a script, one of some. -/
namespace DL
open PySem PySem.Spec L2
theorem for_ev {f : IS} {t : Tg} {b : SS} {xs : List D} {g : Option (Nat × List D)} {rho : Rho} {mu mu1 : Mu} (h : f rho mu = some (.ok xs g, mu1)) : sFor f t b rho mu = forL g t b xs rho mu1 := by unfold sFor; rw [h]
noncomputable def mDraws : SS := sSeq (sSet 1 (eOp addD (eC (.int 7368787)) (eOp mulD (eC (.int 1009)) (eCall lenF [eVar 0])))) (sSeq (sFor (iEn (eVar 0)) (.tp [2, 3]) (sSet 1 (eOp modD (eCall intF [eOp addD (eOp addD (eOp mulD (eVar 1) (eC (.int 6700417))) (eVar 3)) (eOp mulD (eC (.int 15485863)) (eVar 2))]) (eC (.int 2305843009213693951))))) (sRet (eDisp [(eC (.str "rest"), eComp (iV (eVar 0)) (.nm 3) ([(("_law_cell" : Str), 3)].map (·.2)) (eOp geD (eVar 3) (eOp powD (eC (.int 10)) (eC (.int 18)))) (eVar 3)), (eC (.str "seed"), eVar 1), (eC (.str "count"), eC (.int 0))])))
theorem set_last {mu : Mu} {a b : Cell} : (mu ++ [a]).set mu.length b = mu ++ [b] := by simp
theorem draws_ok (ns : List Int) (hn : ns.length ≤ 63) (mu : Mu) : ∃ mu' : Mu, fnS 4 mDraws [.fl (ns.map D.int)] mu = some (.ok (.cel mu.length), mu') ∧ Dr mu.length (mu.length + 1) mu' ∧ Fz [] mu mu' := by
  rw [fnS_fin]
  show ∃ mu', fin (mDraws [some (.fl (ns.map D.int)), none, none, none] mu) = _ ∧ _
  unfold mDraws
  rw [seq_nx (rho1 := [some (.fl (ns.map D.int)), some (.int (7368787 + 1009 * (ns.map D.int).length)), none, none]) (mu1 := mu) (set_ev (d := .int (7368787 + 1009 * (ns.map D.int).length)) ((op_ev (x := .int 7368787) (y := .int (1009 * (ns.map D.int).length)) (mu1 := mu) (mu2 := mu) rfl ((op_ev (x := .int 1009) (y := .int (ns.map D.int).length) (mu1 := mu) (mu2 := mu) rfl rfl).trans (by simp only [mulD, if_pos (show CMul 1009 ((ns.map D.int).length : Int) from Or.inl ⟨by decide, by decide⟩), okD]))).trans rfl))]
  have hfor : ∃ rho' mu', forL none (.tp [2, 3]) (sSet 1 (eOp modD (eCall intF [eOp addD (eOp addD (eOp mulD (eVar 1) (eC (.int 6700417))) (eVar 3)) (eOp mulD (eC (.int 15485863)) (eVar 2))]) (eC (.int 2305843009213693951)))) (enumD (ns.map D.int)) [some (.fl (ns.map D.int)), some (.int (7368787 + 1009 * (ns.map D.int).length)), none, none] mu = some (.nx, rho', mu') ∧ (mu' = mu ∧ ∃ (s : Int) (a b : Option D), rho' = [some (.fl (ns.map D.int)), some (.int s), a, b]) := by
    refine forL_inv (g := none) (fun rho m => m = mu ∧ ∃ (s : Int) (a b : Option D), rho = [some (.fl (ns.map D.int)), some (.int s), a, b]) (fun _ _ _ => trivial) (fun x hx rho m i => ?_) ⟨rfl, _, _, _, rfl⟩
    obtain ⟨rfl, s, a, b, rfl⟩ := i
    obtain ⟨k, hk⟩ := List.mem_iff_getElem?.mp hx
    rw [enumD_get, List.getElem?_map] at hk
    cases hz : ns[k]? with
    | none => rw [hz] at hk; cases hk
    | some z =>
      rw [hz] at hk
      cases hk
      refine ⟨[some (.fl (ns.map D.int)), some (.int s), some (.int (k : Nat)), some (.int z)], rfl, [some (.fl (ns.map D.int)), some (.int ((s * 6700417 + z + 15485863 * (k : Nat)) % 2305843009213693951)), some (.int (k : Nat)), some (.int z)], m, ?_, rfl, _, _, _, rfl⟩
      refine set_ev (d := .int ((s * 6700417 + z + 15485863 * (k : Nat)) % 2305843009213693951)) ((op_ev (x := .int (s * 6700417 + z + 15485863 * (k : Nat))) (mu1 := m) ((call_1 (x := .int (s * 6700417 + z + 15485863 * (k : Nat))) (mu1 := m) ?_).trans rfl) rfl).trans (by simp only [modD, okD]; rfl))
      refine (op_ev (x := .int (s * 6700417 + z)) (y := .int (15485863 * (k : Nat))) (mu1 := m) (mu2 := m) ((op_ev (x := .int (s * 6700417)) (y := .int z) (mu1 := m) (mu2 := m) ((op_ev rfl rfl).trans ?_) rfl).trans rfl) ((op_ev rfl rfl).trans ?_)).trans rfl
      · simp only [mulD, if_pos (show CMul s 6700417 from Or.inr ⟨by decide, by decide⟩), okD]
      · simp only [mulD, if_pos (show CMul 15485863 ((k : Nat) : Int) from Or.inl ⟨by decide, by decide⟩), okD]
  obtain ⟨rho1, mu1, e1, rfl, s, a, b, rfl⟩ := hfor
  rw [seq_nx ((for_ev (xs := enumD (ns.map D.int)) (g := none) (mu1 := mu1) rfl).trans e1)]
  have hcomp : ∃ m, compL (mu1 ++ [Cell.dct []]).length none (.nm 3) (eOp geD (eVar 3) (eOp powD (eC (.int 10)) (eC (.int 18)))) (eVar 3) (ns.map D.int) [some (.fl (ns.map D.int)), some (.int s), a, none] (mu1 ++ [.dct []] ++ [.lst []]) = some m ∧ ∃ l : List Int, l.length ≤ 0 + (ns.map D.int).length ∧ m = mu1 ++ [.dct []] ++ [.lst (l.map D.int)] := by
    refine compL_ix (g := none) (fun i m => ∃ l : List Int, l.length ≤ i ∧ m = mu1 ++ [.dct []] ++ [.lst (l.map D.int)]) (fun _ _ _ => trivial) (fun k x hk m i => ?_) ⟨[], by simp, rfl⟩
    rw [List.getElem?_map] at hk
    cases hz : ns[k]? with
    | none => rw [hz] at hk; cases hk
    | some z =>
      rw [hz] at hk
      cases hk
      obtain ⟨l, hl, rfl⟩ := i
      have kl : k < ns.length := (List.getElem?_eq_some_iff.mp hz).1
      refine ⟨[some (.fl (ns.map D.int)), some (.int s), a, some (.int z)], rfl, ?_⟩
      have t1 : eOp geD (eVar 3) (eOp powD (eC (.int 10)) (eC (.int 18))) [some (.fl (ns.map D.int)), some (.int s), a, some (.int z)] (mu1 ++ [.dct []] ++ [.lst (l.map D.int)]) = some (.ok (.bl (decide (10 ^ 18 ≤ z))), mu1 ++ [.dct []] ++ [.lst (l.map D.int)]) := by
        refine (op_ev (x := .int z) (y := .int (10 ^ 18)) (mu1 := mu1 ++ [.dct []] ++ [.lst (l.map D.int)]) (mu2 := mu1 ++ [.dct []] ++ [.lst (l.map D.int)]) rfl ((op_ev rfl rfl).trans ?_)).trans rfl
        simp only [powD, okD]
        rfl
      by_cases hb : (10 : Int) ^ 18 ≤ z
      · refine .inr ⟨_, mu1 ++ [.dct []] ++ [.lst (l.map D.int)], .int z, l.map D.int, t1.trans (by rw [decide_eq_true hb]), rfl, app_new, by rw [List.length_map]; omega, l ++ [z], by simp; omega, ?_⟩
        rw [set_last]; simp
      · exact .inl ⟨_, t1.trans (by rw [decide_eq_false hb]), l, by omega, rfl⟩
  obtain ⟨m, e2, l, hl, rfl⟩ := hcomp
  have e3 : eComp (iV (eVar 0)) (.nm 3) ([(("_law_cell" : Str), 3)].map (·.2)) (eOp geD (eVar 3) (eOp powD (eC (.int 10)) (eC (.int 18)))) (eVar 3) [some (.fl (ns.map D.int)), some (.int s), a, b] (mu1 ++ [.dct []]) = some (.ok (.cel (mu1 ++ [Cell.dct []]).length), mu1 ++ [.dct []] ++ [.lst (l.map D.int)]) := by
    unfold eComp
    show (match compL (mu1 ++ [Cell.dct []]).length none (.nm 3) (eOp geD (eVar 3) (eOp powD (eC (.int 10)) (eC (.int 18)))) (eVar 3) (ns.map D.int) [some (.fl (ns.map D.int)), some (.int s), a, none] (mu1 ++ [.dct []] ++ [.lst []]) with
      | some mu2 => some (Rs.ok (D.cel (mu1 ++ [Cell.dct []]).length), mu2)
      | none => none) = _
    rw [e2]
  have hlen : (mu1 ++ [Cell.dct []]).length = mu1.length + 1 := by simp
  refine ⟨mu1 ++ [.dct [(.inr "rest", .cel (mu1.length + 1)), (.inr "seed", .int s), (.inr "count", .int 0)]] ++ [.lst (l.map D.int)], ?_, ⟨by omega, ⟨s, 0, by simp⟩, ⟨l, by rw [← hlen]; simp⟩⟩, by
    rw [List.append_assoc]; exact Fz.app _ _ _⟩
  rw [ret_ev (d := .cel mu1.length) (mu1 := mu1 ++ [.dct [(.inr "rest", .cel (mu1.length + 1)), (.inr "seed", .int s), (.inr "count", .int 0)]] ++ [.lst (l.map D.int)])]
  · rfl
  · unfold eDisp
    unfold prs
    simp only [eC, bnd]
    rw [e3]
    simp only []
    unfold prs
    simp only [eC, bnd]
    have ev1 : eVar 1 [some (.fl (ns.map D.int)), some (.int s), a, b] (mu1 ++ [Cell.dct []] ++ [.lst (l.map D.int)]) = some (.ok (.int s), mu1 ++ [.dct []] ++ [.lst (l.map D.int)]) := rfl
    rw [ev1]
    simp only []
    unfold prs
    simp only [eC, bnd]
    unfold prs
    simp only [keyD]
    have h1 : ((.inr "rest" : Key) = .inr "count") = False := eq_false (by decide)
    have h2 : ((.inr "seed" : Key) = .inr "count") = False := eq_false (by decide)
    have h3 : ((.inr "rest" : Key) = .inr "seed") = False := eq_false (by decide)
    have hat : (mu1 ++ [Cell.dct []] ++ [.lst (l.map D.int)])[mu1.length]? = some (.dct []) := by simp
    rw [hat]
    simp [mergeD, putD, h1, h2, h3, hlen]
end DL
set_option Elab.async false
set_option linter.all false
set_option autoImplicit false
set_option maxRecDepth 100000
set_option maxHeartbeats 4000000
/-! DL21: texts as lists of numbers. -/
namespace DL
open PySem PySem.Spec L2
abbrev tx (l : List Nat) : Str := ⟨l.toArray⟩
theorem tx_of (z : Str) : z = tx z.cps.toList := by cases z; simp
theorem tx_len (l : List Nat) : (tx l).length = l.length := by show l.toArray.size = _; simp
theorem tx_app (a b : List Nat) : tx a ++ tx b = tx (a ++ b) := by
  show Str.mk (a.toArray ++ b.toArray) = _
  simp
def up1 (c : Nat) : Nat := if 97 ≤ c ∧ c ≤ 122 then c - 32 else c
def lo1 (c : Nat) : Nat := if 65 ≤ c ∧ c ≤ 90 then c + 32 else c
theorem up_ascii : ∀ c < 127, Unicode.upperOf c = [up1 c] := by decide +kernel
theorem lo_ascii : ∀ c < 127, Unicode.lowerOf c = [lo1 c] := by decide +kernel
theorem mapIdx_same {f : Nat → Nat → Array Nat} {g : Nat → Nat} {l : List Nat} (h : ∀ i c, l[i]? = some c → f i c = #[g c]) : l.mapIdx f = l.map fun c => #[g c] := by
  apply List.ext_getElem?
  intro i
  rw [List.getElem?_mapIdx, List.getElem?_map]
  cases e : l[i]? with
  | none => rfl
  | some c => simp [h i c e]
theorem placed_map {l : List Nat} {f : Nat → Nat → List Nat} {g : Nat → Nat} (h : ∀ i c, l[i]? = some c → f i c = [g c]) : placed (tx l) f = (l.map g).toArray := by
  unfold placed
  show (l.toArray.mapIdx fun i c => (f i c).toArray).flatten = _
  rw [List.mapIdx_toArray, mapIdx_same (g := g) fun i c e => by rw [h i c e]]
  have : ∀ m : List Nat, (List.map (fun c => #[g c]) m).toArray.flatten = (m.map g).toArray := fun m => by
    induction m with
    | nil => rfl
    | cons c m ih =>
      simp at ih ⊢
      exact ih
  exact this l
theorem upper_tx {l : List Nat} (h : ∀ c ∈ l, c < 127) : Txt.upper (tx l) = tx (l.map up1) := by
  unfold Txt.upper
  rw [placed_map (g := up1) fun i c e => up_ascii c (h c (List.mem_of_getElem? e))]
theorem lower_tx {l : List Nat} (h : ∀ c ∈ l, c < 127) : Txt.lower (tx l) = tx (l.map lo1) := by
  unfold Txt.lower
  rw [placed_map (g := lo1) fun i c e => ?_]
  have hc := h c (List.mem_of_getElem? e)
  unfold Unicode.lowerAt
  have e' : (tx l).cps[i]? = some c := by show l.toArray[i]? = _; simpa using e
  rw [e']
  have n : (c == 0x3A3) = false := by simp; omega
  simp only [n, Bool.false_and, Bool.false_eq_true, if_false]
  exact lo_ascii c hc
theorem cut_take (l : List Nat) : cutS (tx l) none (some 1) = tx (l.take 1) := by
  unfold cutS
  cases l <;> simp [HT.sIx, tx_len]
theorem cut_drop (l : List Nat) : cutS (tx l) (some 1) none = tx (l.drop 1) := by
  unfold cutS
  cases l <;> simp [HT.sIx, tx_len]
theorem join_ones : ∀ l : List Nat, Txt.join (tx []) (l.map fun c => tx [c]) = tx l := fun l => by
  rw [show Txt.join (tx []) (l.map fun c => tx [c]) = Str.join (tx []) (l.map fun c => tx [c]) from TL.join_eq _ _]
  induction l with
  | nil => rfl
  | cons c l ih =>
    cases l with
    | nil => rfl
    | cons d l =>
      show tx [c] ++ tx [] ++ Str.join (tx []) ((d :: l).map fun c => tx [c]) = _
      rw [ih, tx_app, tx_app]
      simp
end DL
set_option Elab.async false
set_option linter.all false
set_option autoImplicit false
set_option maxRecDepth 100000
set_option maxHeartbeats 4000000
namespace K01
open PySem PySem.Spec L2 DL
def nm : List Str := ["", "upper", "lower", "first", "title"]
def upB (sh : Str) (k : Nat) : Bool := sh == "upper" || (k == 0 && (sh == "first" || sh == "title"))
def loB (sh : Str) : Bool := sh == "lower" || sh == "title"
def wk (sh : Str) (k c : Nat) : Nat := if upB sh k = true then up1 c else if loB sh = true then lo1 c else c
def walk (sh : Str) (l : List Nat) : List Nat := l.mapIdx (wk sh)
abbrev sm : Str := "abcdefghijklmnopqrstuvwxyz"
abbrev gr : Str := "ABCDEFGHIJKLMNOPQRSTUVWXYZ"
theorem occ_sm : ∀ c < 127, Builtin.Str.occurrences sm (tx [c]) 0 sm.length 1 = if 97 ≤ c ∧ c ≤ 122 then [c - 97] else [] := by decide +kernel
theorem occ_gr : ∀ c < 127, Builtin.Str.occurrences gr (tx [c]) 0 gr.length 1 = if 65 ≤ c ∧ c ≤ 90 then [c - 65] else [] := by decide +kernel
theorem at_gr : ∀ c < 127, 97 ≤ c ∧ c ≤ 122 → atI gr.cps.toList ((c - 97 : Nat) : Int) = some (c - 32) := by decide +kernel
theorem at_sm : ∀ c < 127, 65 ≤ c ∧ c ≤ 90 → atI sm.cps.toList ((c - 65 : Nat) : Int) = some (c + 32) := by decide +kernel
theorem in_sm {c : Nat} (h : c < 127) (mu : Mu) : inD (.str (tx [c])) (.str sm) mu = some (.ok (.bl (decide (97 ≤ c ∧ c ≤ 122))), mu) := by
  have e : inB (.str (tx [c])) (.str sm) mu = some (decide (97 ≤ c ∧ c ≤ 122)) := by
    simp only [inB]
    rw [occ_sm c h]
    by_cases q : 97 ≤ c ∧ c ≤ 122
    · rw [if_pos q, decide_eq_true q]; rfl
    · rw [if_neg q, decide_eq_false q]; rfl
  unfold inD
  simp only [e, okD]
theorem in_gr {c : Nat} (h : c < 127) (mu : Mu) : inD (.str (tx [c])) (.str gr) mu = some (.ok (.bl (decide (65 ≤ c ∧ c ≤ 90))), mu) := by
  have e : inB (.str (tx [c])) (.str gr) mu = some (decide (65 ≤ c ∧ c ≤ 90)) := by
    simp only [inB]
    rw [occ_gr c h]
    by_cases q : 65 ≤ c ∧ c ≤ 90
    · rw [if_pos q, decide_eq_true q]; rfl
    · rw [if_neg q, decide_eq_false q]; rfl
  unfold inD
  simp only [e, okD]
abbrev rw8 (sh : Str) (l : List Nat) (n : Nat) (a b c : Option D) : Rho := [some (.str sh), some (.str (tx l)), some (.cel n), some (.str sm), some (.str gr), a, b, c]
abbrev bUp : SS := sSet 7 (eOr (eOp eqD (eVar 0) (eC (.str "upper"))) (eAnd (eOp eqD (eVar 5) (eC (.int 0))) (eOp inD (eVar 0) (eCall tupF [eC (.str "first"), eC (.str "title")]))))
abbrev bCh : SS := sIf (eAnd (eVar 7) (eOp inD (eVar 6) (eVar 3))) (sSet 6 (eOp ixD (eVar 4) (eMth isSB sindexM (eVar 3) [eVar 6]))) (sIf (eAnd (eNot (eVar 7)) (eAnd (eOp inD (eVar 0) (eCall tupF [eC (.str "lower"), eC (.str "title")])) (eOp inD (eVar 6) (eVar 4)))) (sSet 6 (eOp ixD (eVar 3) (eMth isSB sindexM (eVar 4) [eVar 6]))) (sNil))
abbrev bAp : SS := sExpr (eMth isLB appM (eVar 2) [eVar 6])
theorem up_ev {sh : Str} (hs : sh ∈ nm) (l : List Nat) (n k : Nat) (b c : Option D) (mu : Mu) : bUp (rw8 sh l n (some (.int (k : Nat))) b c) mu = some (.nx, rw8 sh l n (some (.int (k : Nat))) b (some (.bl (upB sh k))), mu) := by
  simp only [nm, List.mem_cons, List.not_mem_nil, or_false] at hs
  cases k with
  | zero => rcases hs with rfl | rfl | rfl | rfl | rfl <;> rfl
  | succ k => rcases hs with rfl | rfl | rfl | rfl | rfl <;> rfl
theorem ch_ev {sh : Str} (hs : sh ∈ nm) {c : Nat} (hc : c < 127) (l : List Nat) (n k : Nat) (u : Bool) (mu : Mu) :
    bCh (rw8 sh l n (some (.int (k : Nat))) (some (.str (tx [c]))) (some (.bl u))) mu = some (.nx, rw8 sh l n (some (.int (k : Nat))) (some (.str (tx [if u = true then up1 c else if loB sh = true then lo1 c else c]))) (some (.bl u)), mu) := by
  have hl : eOp inD (eVar 0) (eCall tupF [eC (.str "lower"), eC (.str "title")]) (rw8 sh l n (some (.int (k : Nat))) (some (.str (tx [c]))) (some (.bl u))) mu = some (.ok (.bl (loB sh)), mu) := by
    simp only [nm, List.mem_cons, List.not_mem_nil, or_false] at hs
    rcases hs with rfl | rfl | rfl | rfl | rfl <;> rfl
  have i3 : eOp inD (eVar 6) (eVar 3) (rw8 sh l n (some (.int (k : Nat))) (some (.str (tx [c]))) (some (.bl u))) mu = some (.ok (.bl (decide (97 ≤ c ∧ c ≤ 122))), mu) := (op_ev rfl rfl).trans (in_sm hc mu)
  have i4 : eOp inD (eVar 6) (eVar 4) (rw8 sh l n (some (.int (k : Nat))) (some (.str (tx [c]))) (some (.bl u))) mu = some (.ok (.bl (decide (65 ≤ c ∧ c ≤ 90))), mu) := (op_ev rfl rfl).trans (in_gr hc mu)
  cases u with
  | true =>
    have a1 := (and_t (e1 := eVar 7) (e2 := eOp inD (eVar 6) (eVar 3)) (rho := rw8 sh l n (some (.int (k : Nat))) (some (.str (tx [c]))) (some (.bl true))) (mu := mu) (mu1 := mu) rfl).trans i3
    by_cases h : 97 ≤ c ∧ c ≤ 122
    · rw [decide_eq_true h] at a1
      show sIf _ _ _ _ _ = _
      rw [if_t a1]
      have m1 : eMth isSB sindexM (eVar 3) [eVar 6] (rw8 sh l n (some (.int (k : Nat))) (some (.str (tx [c]))) (some (.bl true))) mu = some (.ok (.int ((c - 97 : Nat))), mu) := by
        show sindexM (.str sm) [.str (tx [c])] mu = _
        simp only [sindexM]
        rw [occ_sm c hc, if_pos h]
      rw [set_ev (d := .str (tx [c - 32])) (mu1 := mu) ((op_ev rfl m1).trans ?_)]
      · simp only [if_true, up1, if_pos h]; rfl
      · show (if gr.length ≤ 16777216 then match atI gr.cps.toList ((c - 97 : Nat) : Int) with
          | some c => okD (.str ⟨#[c]⟩) mu
          | none => none else none) = _
        rw [if_pos (by decide +kernel), at_gr c hc h]
    · rw [decide_eq_false h] at a1
      show sIf _ _ _ _ _ = _
      rw [if_f a1]
      have a2 : eAnd (eNot (eVar 7)) (eAnd (eOp inD (eVar 0) (eCall tupF [eC (.str "lower"), eC (.str "title")])) (eOp inD (eVar 6) (eVar 4))) (rw8 sh l n (some (.int (k : Nat))) (some (.str (tx [c]))) (some (.bl true))) mu = some (.ok (.bl false), mu) := and_f (not_t rfl)
      rw [if_f a2]
      simp only [if_true, up1, if_neg h, sNil]
  | false =>
    have a1 : eAnd (eVar 7) (eOp inD (eVar 6) (eVar 3)) (rw8 sh l n (some (.int (k : Nat))) (some (.str (tx [c]))) (some (.bl false))) mu = some (.ok (.bl false), mu) := and_f rfl
    show sIf _ _ _ _ _ = _
    rw [if_f a1]
    cases hlo : loB sh with
    | false =>
      rw [hlo] at hl
      have a2 : eAnd (eNot (eVar 7)) (eAnd (eOp inD (eVar 0) (eCall tupF [eC (.str "lower"), eC (.str "title")])) (eOp inD (eVar 6) (eVar 4))) (rw8 sh l n (some (.int (k : Nat))) (some (.str (tx [c]))) (some (.bl false))) mu = some (.ok (.bl false), mu) := (and_t (not_f rfl)).trans (and_f hl)
      rw [if_f a2]
      simp [sNil]
    | true =>
      rw [hlo] at hl
      have a2 : eAnd (eNot (eVar 7)) (eAnd (eOp inD (eVar 0) (eCall tupF [eC (.str "lower"), eC (.str "title")])) (eOp inD (eVar 6) (eVar 4))) (rw8 sh l n (some (.int (k : Nat))) (some (.str (tx [c]))) (some (.bl false))) mu = some (.ok (.bl (decide (65 ≤ c ∧ c ≤ 90))), mu) := (and_t (not_f rfl)).trans ((and_t hl).trans i4)
      by_cases h : 65 ≤ c ∧ c ≤ 90
      · rw [decide_eq_true h] at a2
        rw [if_t a2]
        have m1 : eMth isSB sindexM (eVar 4) [eVar 6] (rw8 sh l n (some (.int (k : Nat))) (some (.str (tx [c]))) (some (.bl false))) mu = some (.ok (.int ((c - 65 : Nat))), mu) := by
          show sindexM (.str gr) [.str (tx [c])] mu = _
          simp only [sindexM]
          rw [occ_gr c hc, if_pos h]
        rw [set_ev (d := .str (tx [c + 32])) (mu1 := mu) ((op_ev rfl m1).trans ?_)]
        · simp only [Bool.false_eq_true, if_false, if_true, lo1, if_pos h]; rfl
        · show (if sm.length ≤ 16777216 then match atI sm.cps.toList ((c - 65 : Nat) : Int) with
            | some c => okD (.str ⟨#[c]⟩) mu
            | none => none else none) = _
          rw [if_pos (by decide +kernel), at_sm c hc h]
      · rw [decide_eq_false h] at a2
        rw [if_f a2]
        simp only [Bool.false_eq_true, if_false, if_true, lo1, if_neg h, sNil]
theorem body_ev {sh : Str} (hs : sh ∈ nm) {c : Nat} (hc : c < 127) (l : List Nat) (n k : Nat) (a : Option D) (mu : Mu) (acc : List D) (hn : mu[n]? = some (.lst acc)) (hz : acc.length < 16777216) :
    sSeq bUp (sSeq bCh bAp) (rw8 sh l n (some (.int (k : Nat))) (some (.str (tx [c]))) a) mu = some (.nx, rw8 sh l n (some (.int (k : Nat))) (some (.str (tx [wk sh k c]))) (some (.bl (upB sh k))), mu.set n (.lst (acc ++ [.str (tx [wk sh k c])]))) := by
  rw [seq_nx (up_ev hs l n k _ _ mu), seq_nx (ch_ev hs hc l n k (upB sh k) mu)]
  refine expr_ev (d := .non) ?_
  have e1 : isLB (.cel n) mu = true := by unfold isLB; simp only [lstD]; rw [hn]; rfl
  show (if isLB (.cel n) mu = true then appM (.cel n) [.str (tx [wk sh k c])] mu else none) = _
  rw [if_pos e1]
  simp only [appM, hn, if_pos hz]
theorem strs_ones : ∀ l : List Nat, strsD (l.map fun c => D.str (tx [c])) = some (l.map fun c => tx [c])
  | [] => rfl
  | c :: l => by simp only [List.map_cons, strsD]; rw [strs_ones l]; rfl
theorem sum_ones : ∀ l : List Nat, ((l.map fun c => tx [c]).map (·.length)).sum = l.length
  | [] => rfl
  | c :: l => by
    simp only [List.map_cons, List.sum_cons, List.length_cons]
    rw [sum_ones l, tx_len]; simp; omega
theorem mapIdx_take {f : Nat → Nat → Nat} {l : List Nat} {k c : Nat} (h : l[k]? = some c) : (l.mapIdx f).take (k + 1) = (l.mapIdx f).take k ++ [f k c] := by
  have hk : k < l.length := (List.getElem?_eq_some_iff.mp h).1
  rw [List.take_succ, List.getElem?_mapIdx, h]; rfl
theorem law_shaped_ok (q : Ad) {sh : Str} (hs : sh ∈ nm) {l : List Nat} (hl : ∀ c ∈ l, c < 127) (hz : l.length ≤ 1000) (mu : Mu) : ∃ mu', F__law_shaped q [.str sh, .str (tx l)] mu = some (.ok (.str (tx (walk sh l))), mu') ∧ Fz [] mu mu' := by
  show ∃ mu', fin (m__law_shaped q [some (.str sh), some (.str (tx l)), none, none, none, none, none, none] mu) = _ ∧ _
  unfold m__law_shaped
  rw [seq_nx (rho1 := [some (.str sh), some (.str (tx l)), none, some (.str sm), some (.str gr), none, none, none]) (mu1 := mu) rfl]
  rw [seq_nx (rho1 := rw8 sh l mu.length none none none) (mu1 := mu ++ [.lst []]) rfl]
  have hf : ∃ rho' mu', forL none (.tp [5, 6]) (sSeq bUp (sSeq bCh bAp)) (enumD (l.map fun c => D.str (tx [c]))) (rw8 sh l mu.length none none none) (mu ++ [.lst []]) = some (.nx, rho', mu') ∧ ∃ a b c, rho' = rw8 sh l mu.length a b c ∧ mu' = mu ++ [.lst (((walk sh l).take (0 + (enumD (l.map fun c => D.str (tx [c]))).length)).map fun c => D.str (tx [c]))] := by
    refine forL_ix (g := none) (t := .tp [5, 6]) (b := sSeq bUp (sSeq bCh bAp)) (xs := enumD (l.map fun c => D.str (tx [c]))) (i := 0) (fun i rho m => ∃ a b c, rho = rw8 sh l mu.length a b c ∧ m = mu ++ [.lst (((walk sh l).take i).map fun c => D.str (tx [c]))]) (fun _ _ _ _ => trivial) (fun k x hk rho m i => ?_) ⟨none, none, none, rfl, rfl⟩
    obtain ⟨a, b, c0, rfl, rfl⟩ := i
    rw [enumD_get, List.getElem?_map] at hk
    cases hc : l[k]? with
    | none => rw [hc] at hk; cases hk
    | some c =>
      rw [hc] at hk
      cases hk
      refine ⟨rw8 sh l mu.length (some (.int (k : Nat))) (some (.str (tx [c]))) c0, rfl, _, _, body_ev hs (hl c (List.mem_of_getElem? hc)) l mu.length k c0 _ _ app_new (by
        rw [List.length_map, List.length_take]; have : (walk sh l).length = l.length := by unfold walk; simp
        omega), _, _, _, rfl, ?_⟩
      rw [set_last]
      simp only [Nat.zero_add]
      unfold walk
      rw [mapIdx_take hc]
      simp
  obtain ⟨rho', mu', e, a, b, c, rfl, rfl⟩ := hf
  have esrc : (l.map fun c => D.str (tx [c])) = ((tx l).cps.toList.map fun c => D.str ⟨#[c]⟩) := by simp
  rw [seq_nx ((for_ev (xs := enumD (l.map fun c => D.str (tx [c]))) (g := none) (mu1 := mu ++ [.lst []]) (by rw [esrc]; rfl)).trans e)]
  have hw : (walk sh l).length = l.length := by unfold walk; simp
  have ht : (walk sh l).take (0 + (enumD (l.map fun c => D.str (tx [c]))).length) = walk sh l := by rw [enumD_length, List.length_map, Nat.zero_add, ← hw, List.take_length]
  rw [ht]
  refine ⟨mu ++ [.lst ((walk sh l).map fun c => D.str (tx [c]))], ?_, Fz.app _ _ _⟩
  rw [ret_ev (d := .str (tx (walk sh l))) (mu1 := mu ++ [.lst ((walk sh l).map fun c => D.str (tx [c]))])]
  · rfl
  · show joinM (.str "") [.cel mu.length] (mu ++ [.lst ((walk sh l).map fun c => D.str (tx [c]))]) = _
    have e0 : ("" : Str) = tx [] := rfl
    simp only [joinM, seqD, lstD]
    rw [app_new]
    simp only []
    rw [strs_ones]
    simp only []
    rw [if_pos (by rw [sum_ones, hw, e0, tx_len]; simp; omega), e0, join_ones]
theorem head_tail (sh : Str) (l : List Nat) : walk sh l = (l.take 1).map (wk sh 0) ++ (l.drop 1).map (wk sh 1) := by
  unfold walk
  cases l with
  | nil => rfl
  | cons c l =>
    rw [List.mapIdx_cons]
    simp only [List.take_succ_cons, List.take_zero, List.drop_succ_cons, List.drop_zero, List.map_cons, List.map_nil, List.singleton_append]
    congr 1
    apply List.ext_getElem?
    intro i
    rw [List.getElem?_mapIdx, List.getElem?_map]
    have : wk sh (i + 1) = wk sh 1 := by funext c; unfold wk upB; rfl
    rw [this]
theorem shaped_ok (q : Ad) {sh : Str} (hs : sh ∈ nm) {l : List Nat} (hl : ∀ c ∈ l, c < 127) (hz : l.length ≤ 1000) (mu : Mu) : F_shaped q [.str sh, .str (tx l)] mu = some (.ok (.str (tx (walk sh l))), mu) := by
  have hn : F_need_shape q [.str sh] mu = some (.ok .non, mu) := by
    simp only [nm, List.mem_cons, List.not_mem_nil, or_false] at hs
    rcases hs with rfl | rfl | rfl | rfl | rfl <;> rfl
  have z1 : (tx l).length ≤ 5592405 := by rw [tx_len]; omega
  have z2 : (tx l).length ≤ 16777216 := by rw [tx_len]; omega
  have ht : ∀ c ∈ l.take 1, c < 127 := fun c h => hl c (List.mem_of_mem_take h)
  have hd : ∀ c ∈ l.drop 1, c < 127 := fun c h => hl c (List.mem_of_mem_drop h)
  have zt : (tx (l.take 1)).length ≤ 5592405 := by rw [tx_len, List.length_take]; omega
  have zd : (tx (l.drop 1)).length ≤ 5592405 := by rw [tx_len, List.length_drop]; omega
  have u0 : (l.take 1) ++ (l.drop 1) = l := List.take_append_drop 1 l
  have hch : F_changed q [.str sh, .str (tx l)] mu = some (.ok (.str (tx (walk sh l))), mu) := by
    have up1' : ∀ (rho : Rho), upM (.str (tx l)) [] mu = some (.ok (.str (tx (l.map up1))), mu) := fun _ => by simp only [upM, if_pos z1, upper_tx hl, okD]
    have lo1' : lowM (.str (tx l)) [] mu = some (.ok (.str (tx (l.map lo1))), mu) := by simp only [lowM, if_pos z1, lower_tx hl, okD]
    have upt : upM (.str (tx (l.take 1))) [] mu = some (.ok (.str (tx ((l.take 1).map up1))), mu) := by simp only [upM, if_pos zt, upper_tx ht, okD]
    have lod : lowM (.str (tx (l.drop 1))) [] mu = some (.ok (.str (tx ((l.drop 1).map lo1))), mu) := by simp only [lowM, if_pos zd, lower_tx hd, okD]
    have c1 : ∀ rho : Rho, rho[1]? = some (some (.str (tx l))) → eSl (eVar 1) none (some (eC (.int 1))) rho mu = some (.ok (.str (tx (l.take 1))), mu) := fun rho h => by
      unfold eSl eVar
      rw [h]
      show slD (.str (tx l)) none (some 1) mu = _
      simp only [slD, if_pos z2, cut_take, okD]
    have c2 : ∀ rho : Rho, rho[1]? = some (some (.str (tx l))) → eSl (eVar 1) (some (eC (.int 1))) none rho mu = some (.ok (.str (tx (l.drop 1))), mu) := fun rho h => by
      unfold eSl eVar
      rw [h]
      show slD (.str (tx l)) (some 1) none mu = _
      simp only [slD, if_pos z2, cut_drop, okD]
    have m1 : ∀ (rho : Rho), rho[1]? = some (some (.str (tx l))) → eMth isSB upM (eSl (eVar 1) none (some (eC (.int 1)))) [] rho mu = some (.ok (.str (tx ((l.take 1).map up1))), mu) := fun rho h => by
      unfold eMth
      rw [c1 rho h]
      exact upt
    have m2 : ∀ (rho : Rho), rho[1]? = some (some (.str (tx l))) → eMth isSB lowM (eSl (eVar 1) (some (eC (.int 1))) none) [] rho mu = some (.ok (.str (tx ((l.drop 1).map lo1))), mu) := fun rho h => by
      unfold eMth
      rw [c2 rho h]
      exact lod
    have addz : ∀ a b : List Nat, a.length + b.length ≤ 16777216 → addD (.str (tx a)) (.str (tx b)) mu = some (.ok (.str (tx (a ++ b))), mu) := fun a b h => by
      simp only [addD]
      rw [if_pos (by rw [tx_len, tx_len]; exact h), tx_app]
    have zz : (l.take 1).length + (l.drop 1).length ≤ 16777216 := by rw [List.length_take, List.length_drop]; omega
    rw [head_tail]
    show fin (m_changed q [some (.str sh), some (.str (tx l))] mu) = _
    unfold m_changed
    simp only [nm, List.mem_cons, List.not_mem_nil, or_false] at hs
    rcases hs with rfl | rfl | rfl | rfl | rfl
    · rw [seq_nx (rho1 := _) (mu1 := mu) rfl, seq_nx (rho1 := _) (mu1 := mu) rfl, seq_nx (rho1 := _) (mu1 := mu) rfl]
      rw [ret_ev (d := .str (tx l)) (mu1 := mu) rfl]
      have e : ∀ k c, wk "" k c = c := fun k c => by
        have : upB "" k = false := by unfold upB; cases k <;> rfl
        unfold wk; rw [this]; rfl
      rw [show wk "" 0 = id by funext c; exact e 0 c, show wk "" 1 = id by funext c; exact e 1 c, List.map_id, List.map_id, u0]; rfl
    · rw [seq_rt (d := .str (tx (l.map up1))) (rho1 := [some (.str "upper"), some (.str (tx l))]) (mu1 := mu) ?_]
      · rw [show wk "upper" 0 = up1 by rfl, show wk "upper" 1 = up1 by rfl, ← List.map_append, u0]; rfl
      · exact (if_t (mu1 := mu) rfl).trans (ret_ev (up1' []))
    · rw [seq_nx (rho1 := _) (mu1 := mu) rfl]
      rw [seq_rt (d := .str (tx (l.map lo1))) (rho1 := [some (.str "lower"), some (.str (tx l))]) (mu1 := mu) ?_]
      · rw [show wk "lower" 0 = lo1 by rfl, show wk "lower" 1 = lo1 by rfl, ← List.map_append, u0]; rfl
      · exact (if_t (mu1 := mu) rfl).trans (ret_ev lo1')
    · rw [seq_nx (rho1 := _) (mu1 := mu) rfl, seq_nx (rho1 := _) (mu1 := mu) rfl]
      rw [seq_rt (d := .str (tx ((l.take 1).map up1 ++ l.drop 1))) (rho1 := [some (.str "first"), some (.str (tx l))]) (mu1 := mu) ?_]
      · rw [show wk "first" 0 = up1 by rfl, show wk "first" 1 = id by rfl, List.map_id]; rfl
      · exact (if_t (mu1 := mu) rfl).trans (ret_ev ((op_ev (m1 _ rfl) (c2 _ rfl)).trans (addz _ _ (by rw [List.length_map]; exact zz))))
    · rw [seq_nx (rho1 := _) (mu1 := mu) rfl, seq_nx (rho1 := _) (mu1 := mu) rfl, seq_nx (rho1 := _) (mu1 := mu) rfl]
      rw [ret_ev (d := .str (tx ((l.take 1).map up1 ++ (l.drop 1).map lo1))) (mu1 := mu) ?_]
      · rw [show wk "title" 0 = up1 by rfl, show wk "title" 1 = lo1 by rfl]; rfl
      · exact (ife_t (mu1 := mu) rfl).trans ((op_ev (m1 _ rfl) (m2 _ rfl)).trans (addz _ _ (by rw [List.length_map, List.length_map]; exact zz)))
  show fin (m_shaped q [some (.str sh), some (.str (tx l))] mu) = _
  unfold m_shaped
  rw [seq_nx (rho1 := [some (.str sh), some (.str (tx l))]) (mu1 := mu) (expr_ev ((call_1 rfl).trans hn))]
  rw [ret_ev ((call_2 rfl rfl).trans hch)]
  rfl
end K01
set_option Elab.async false
set_option linter.all false
set_option autoImplicit false
set_option maxRecDepth 100000
set_option maxHeartbeats 4000000
namespace DL
open PySem PySem.Spec L2
/-- slot i holds d -/
def At (rho : Rho) (i : Nat) (d : D) : Prop := rho[i]? = some (some d)
theorem At.ev {rho : Rho} {i : Nat} {d : D} (h : At rho i d) (mu : Mu) : eVar i rho mu = some (.ok d, mu) := by unfold eVar; rw [show rho[i]? = some (some d) from h]
theorem At.set_ne {rho : Rho} {i k : Nat} {d : D} {x : Option D} (h : At rho i d) (n : k ≠ i) : At (rho.set k x) i d := by unfold At; rw [List.getElem?_set_ne n]; exact h
theorem At.new {rho : Rho} {i : Nat} {d : D} (h : i < rho.length) : At (rho.set i (some d)) i d := List.getElem?_set_self h
theorem iv_ev {f : ES} {rho : Rho} {mu mu1 : Mu} {d : D} {xs : List D} {g : Option (Nat × List D)} (h : f rho mu = some (.ok d, mu1)) (hs : srcV d mu1 = some (xs, g)) : iV f rho mu = some (.ok xs g, mu1) := by unfold iV; rw [h]; dsimp only; rw [hs]
theorem rg_ev {f : ES} {rho : Rho} {mu mu1 : Mu} {n : Int} (h : f rho mu = some (.ok (.int n), mu1)) (h1 : -(2 ^ 62) ≤ n ∧ n < 2 ^ 62) : iRg f rho mu = some (.ok ((List.range n.toNat).map fun k => D.int (k : Nat)) none, mu1) := by unfold iRg; rw [h]; dsimp only; rw [if_pos h1]
theorem ne_self (a : Str) (mu : Mu) : neD (.str a) (.str a) mu = some (.ok (.bl false), mu) := by
  have e : eqB (.str a) (.str a) mu = some true := by
    unfold eqB
    simp only [scV]
    rw [if_pos (by rfl)]
    simp
  unfold neD; simp only [e, okD]; rfl
end DL
namespace K01
open PySem PySem.Spec L2 DL
def thn (a b : Str) : Str := if b = "" ∨ (b = "first" ∧ (a = "upper" ∨ a = "first" ∨ a = "title")) then a else if b = "first" then (if a = "lower" then "title" else "first") else b
theorem then_ok (q : Ad) {a b : Str} (ha : a ∈ nm) (hb : b ∈ nm) (mu : Mu) : F_then q [.str a, .str b] mu = some (.ok (.str (thn a b)), mu) := by
  simp only [nm, List.mem_cons, List.not_mem_nil, or_false] at ha hb
  rcases ha with rfl | rfl | rfl | rfl | rfl <;> rcases hb with rfl | rfl | rfl | rfl | rfl <;> rfl
theorem thn_in : ∀ a ∈ nm, ∀ b ∈ nm, thn a b ∈ nm := by decide +kernel
theorem wk_then : ∀ a ∈ nm, ∀ b ∈ nm, ∀ c < 127, wk (thn a b) 0 c = wk b 0 (wk a 0 c) ∧ wk (thn a b) 1 c = wk b 1 (wk a 1 c) := by decide +kernel
theorem wk_small : ∀ a ∈ nm, ∀ c < 127, wk a 0 c < 127 ∧ wk a 1 c < 127 := by decide +kernel
theorem wk_k (a : Str) (k c : Nat) : wk a (k + 1) c = wk a 1 c := rfl
theorem walk_small {a : Str} (ha : a ∈ nm) {l : List Nat} (hl : ∀ c ∈ l, c < 127) : ∀ c ∈ walk a l, c < 127 := fun c hc => by
  unfold walk at hc
  obtain ⟨i, hi⟩ := List.mem_iff_getElem?.mp hc
  rw [List.getElem?_mapIdx] at hi
  cases h : l[i]? with
  | none => rw [h] at hi; cases hi
  | some d =>
    rw [h] at hi
    cases hi
    have hd := hl d (List.mem_of_getElem? h)
    cases i with
    | zero => exact (wk_small a ha d hd).1
    | succ i => exact (wk_small a ha d hd).2
theorem walk_then {a b : Str} (ha : a ∈ nm) (hb : b ∈ nm) {l : List Nat} (hl : ∀ c ∈ l, c < 127) : walk (thn a b) l = walk b (walk a l) := by
  unfold walk
  apply List.ext_getElem?
  intro i
  rw [List.getElem?_mapIdx, List.getElem?_mapIdx, List.getElem?_mapIdx]
  cases h : l[i]? with
  | none => rfl
  | some d =>
    have hd := hl d (List.mem_of_getElem? h)
    have z := wk_then a ha b hb d hd
    cases i with
    | zero => simp [z.1]
    | succ i => simp [wk_k, z.2]
theorem walk_len (a : Str) (l : List Nat) : (walk a l).length = l.length := by unfold walk; simp
/-! ### a drawn text -/
def sg : Str := " !\"#$&'()*+,-./0123456789:;<=>?@ABDCEFGHIJKLMNOPQRSTUVWXYZ[\\]^_`abcdefghijklmnopqrstuvwxyz{|}~ aZ"
theorem sg_small : ∀ c ∈ sg.cps.toList, c < 127 := by decide +kernel
theorem sg_len : sg.length = 97 := by decide +kernel
theorem signs_ok (q : Ad) (rho : Rho) (mu : Mu) : eOp addD (eCall (F__law_signs q) []) (eC (.str "~ aZ")) rho mu = some (.ok (.str sg), mu) := by rfl
theorem one_ok (q : Ad) {j jr : Nat} {mu : Mu} (h : Dr j jr mu) : ∃ (c : Nat) (mu' : Mu), F__law_one q [.cel j, .str sg] mu = some (.ok (.str (tx [c])), mu') ∧ c < 127 ∧ Dr j jr mu' ∧ Fz [j, jr] mu mu' := by
  have hlen : lenF [.str sg] mu = some (.ok (.int 97), mu) := by
    simp only [lenF]
    rw [if_pos (by rw [sg_len]; decide), sg_len]; rfl
  obtain ⟨r, mu', e, h0, h1, h2, h3⟩ := pick_ok (many := 97) h (by decide) (by decide)
  have e : F__law_pick q [.cel j, .int 97] mu = some (.ok (.int r), mu') := e
  have hn : sg.cps.toList.length = 97 := by rw [← sg_len]; simp [Str.length]
  have hr : r.toNat < sg.cps.toList.length := by omega
  refine ⟨sg.cps.toList[r.toNat], mu', ?_, sg_small _ (List.getElem_mem hr), h2, h3⟩
  show fin (m__law_one q [some (.cel j), some (.str sg)] mu) = _
  unfold m__law_one
  rw [ret_ev (d := .str (tx [sg.cps.toList[r.toNat]])) (mu1 := mu') ((op_ev (x := .str sg) (y := .int r) (mu1 := mu) (mu2 := mu') rfl ((call_2 (x := .cel j) (y := .int 97) (mu1 := mu) (mu2 := mu) rfl ((call_1 rfl).trans hlen)).trans e)).trans ?_)]
  · rfl
  · simp only [ixD]
    rw [if_pos (by rw [sg_len]; decide)]
    have : atI sg.cps.toList r = some sg.cps.toList[r.toNat] := by
      unfold atI ixN
      rw [if_pos h0, if_pos (by omega)]
      simp [hr]
    rw [this]
end K01
set_option Elab.async false
set_option linter.all false
set_option autoImplicit false
set_option maxRecDepth 100000
set_option maxHeartbeats 4000000
namespace K01
open PySem PySem.Spec L2 DL
theorem str_ok (q : Ad) {j jr : Nat} {mu : Mu} {many : Int} (h : Dr j jr mu) (h0 : 0 ≤ many) (h31 : many < 31) {rho : Rho} (hl : rho.length = 13) (h1 : At rho 1 (.cel j)) (h5 : At rho 5 (.int many)) :
    ∃ (l : List Nat) (mu' : Mu), eMth isSB joinM (eC (.str "")) [eComp (iRg (eVar 5)) (.nm 12) ([("_law_k", 12)].map (·.2)) (eC (.bl true)) (eCall (F__law_one q) [eVar 1, eOp addD (eCall (F__law_signs q) []) (eC (.str "~ aZ"))])] rho mu = some (.ok (.str (tx l)), mu') ∧ (∀ c ∈ l, c < 127) ∧ l.length ≤ 31 ∧ Dr j jr mu' := by
  have hj : j < mu.length := by obtain ⟨s, c, e⟩ := h.dct; exact (List.getElem?_eq_some_iff.mp e).1
  have hjr : jr < mu.length := by obtain ⟨ns, e⟩ := h.lst; exact (List.getElem?_eq_some_iff.mp e).1
  have wr : wipeR rho [12] = rho.set 12 none := rfl
  have hcomp : ∃ m, compL mu.length none (.nm 12) (eC (.bl true)) (eCall (F__law_one q) [eVar 1, eOp addD (eCall (F__law_signs q) []) (eC (.str "~ aZ"))]) ((List.range many.toNat).map fun k => D.int (k : Nat)) (rho.set 12 none) (mu ++ [.lst []]) = some m ∧
      ∃ l : List Nat, l.length ≤ 0 + ((List.range many.toNat).map fun k => D.int (k : Nat)).length ∧ (∀ c ∈ l, c < 127) ∧ m[mu.length]? = some (.lst (l.map fun c => D.str (tx [c]))) ∧ Dr j jr m := by
    refine compL_ix (g := none) (n := mu.length) (t := .nm 12) (xs := (List.range many.toNat).map fun k => D.int (k : Nat)) (i := 0) (fun i m => ∃ l : List Nat, l.length ≤ i ∧ (∀ c ∈ l, c < 127) ∧ m[mu.length]? = some (.lst (l.map fun c => D.str (tx [c]))) ∧ Dr j jr m) (fun _ _ _ => trivial) (fun k x hk m i => ?_) ⟨[], by simp, by simp, by simp, h.fz (Fz.app [] _ _) (by simp) (by simp)⟩
    obtain ⟨l, z1, z2, z3, z4⟩ := i
    refine ⟨(rho.set 12 none).set 12 (some x), rfl, .inr ?_⟩
    obtain ⟨c, m', e, hc, d', f'⟩ := one_ok q z4
    have a1 : At ((rho.set 12 none).set 12 (some x)) 1 (.cel j) := (h1.set_ne (by decide)).set_ne (by decide)
    have hkl : k < many.toNat := by
      have := (List.getElem?_eq_some_iff.mp hk).1
      simpa using this
    have z5 := f'.2 mu.length _ (by simp; omega) z3
    refine ⟨m, m', .str (tx [c]), l.map fun c => D.str (tx [c]), rfl, (call_2 (a1.ev m) (signs_ok q _ m)).trans e, z5, by rw [List.length_map]; omega, l ++ [c], by simp; omega, ?_, ?_, ?_⟩
    · intro y hy
      rcases List.mem_append.mp hy with hy | hy
      · exact z2 y hy
      · have : y = c := by simpa using hy
        rw [this]; exact hc
    · rw [List.getElem?_set_self (List.getElem?_eq_some_iff.mp z5).1]; simp
    · exact d'.fz (Fz.set (S := [mu.length]) (by simp) m' _) (by simp; omega) (by simp; omega)
  obtain ⟨m, e, l, z1, z2, z3, z4⟩ := hcomp
  have hrg : iRg (eVar 5) rho mu = some (.ok ((List.range many.toNat).map fun k => D.int (k : Nat)) none, mu) := rg_ev (h5.ev mu) ⟨by omega, by omega⟩
  have ec : eComp (iRg (eVar 5)) (.nm 12) ([("_law_k", 12)].map (·.2)) (eC (.bl true)) (eCall (F__law_one q) [eVar 1, eOp addD (eCall (F__law_signs q) []) (eC (.str "~ aZ"))]) rho mu = some (.ok (.cel mu.length), m) := by
    unfold eComp
    rw [hrg]
    show (match compL mu.length none (.nm 12) (eC (.bl true)) (eCall (F__law_one q) [eVar 1, eOp addD (eCall (F__law_signs q) []) (eC (.str "~ aZ"))]) ((List.range many.toNat).map fun k => D.int (k : Nat)) (rho.set 12 none) (mu ++ [.lst []]) with
      | some mu2 => some (Rs.ok (D.cel mu.length), mu2)
      | none => none) = _
    rw [e]
  have hlen : l.length ≤ 31 := by simp at z1; omega
  refine ⟨l, m, ?_, z2, hlen, z4⟩
  have e0 : ("" : Str) = tx [] := rfl
  unfold eMth
  show (if isSB (.str "") mu = true then eArgs [eComp (iRg (eVar 5)) (.nm 12) ([("_law_k", 12)].map (·.2)) (eC (.bl true)) (eCall (F__law_one q) [eVar 1, eOp addD (eCall (F__law_signs q) []) (eC (.str "~ aZ"))])] rho mu (joinM (.str "")) else none) = _
  rw [if_pos (show isSB (.str "") mu = true from rfl)]
  unfold eArgs
  rw [ec]
  show joinM (.str "") [.cel mu.length] m = _
  simp only [joinM, seqD, lstD]
  rw [z3]
  simp only []
  rw [strs_ones]
  simp only []
  rw [if_pos (by rw [sum_ones, e0, tx_len]; simp; omega), e0, join_ones]
/-- the tests of one string -/
noncomputable abbrev cmp3 (q : Ad) : SS := sIf (eOp neD (eCall (F__law_shaped q) [eVar 10, eVar 11]) (eCall (F__law_shaped q) [eVar 9, eCall (F__law_shaped q) [eVar 7, eVar 11]])) (sRet (eC (.bl false))) (sNil)
theorem cmp3_ok (q : Ad) {j jr : Nat} {mu : Mu} (h : Dr j jr mu) {rho : Rho} {a b : Str} (ha : a ∈ nm) (hb : b ∈ nm) {l : List Nat} (hl : ∀ c ∈ l, c < 127) (hz : l.length ≤ 1000) (h7 : At rho 7 (.str a)) (h9 : At rho 9 (.str b)) (h10 : At rho 10 (.str (thn a b))) (h11 : At rho 11 (.str (tx l))) :
    ∃ mu', cmp3 q rho mu = some (.nx, rho, mu') ∧ Dr j jr mu' := by
  obtain ⟨mu1, e1, f1⟩ := law_shaped_ok q (thn_in a ha b hb) hl hz mu
  obtain ⟨mu2, e2, f2⟩ := law_shaped_ok q ha hl hz mu1
  obtain ⟨mu3, e3, f3⟩ := law_shaped_ok q hb (walk_small ha hl) (by rw [walk_len]; exact hz) mu2
  refine ⟨mu3, ?_, h.fz ((f1.trans f2).trans f3) (by simp) (by simp)⟩
  have c1 : eCall (F__law_shaped q) [eVar 10, eVar 11] rho mu = some (.ok (.str (tx (walk (thn a b) l))), mu1) := (call_2 (h10.ev mu) (h11.ev mu)).trans e1
  have c2 : eCall (F__law_shaped q) [eVar 9, eCall (F__law_shaped q) [eVar 7, eVar 11]] rho mu1 = some (.ok (.str (tx (walk b (walk a l)))), mu3) := (call_2 (h9.ev mu1) ((call_2 (h7.ev mu1) (h11.ev mu1)).trans e2)).trans e3
  rw [← walk_then ha hb hl] at c2
  show sIf _ _ _ _ _ = _
  rw [if_f ((op_ev c1 c2).trans (ne_self _ _))]
  rfl
noncomputable abbrev loop3 (q : Ad) : SS := sFor (iV (eCall tupF [eVar 6, eC (.str "xYz"), eC (.str "Xyz"), eC (.str "")])) (.nm 11) (cmp3 q)
theorem loop3_ok (q : Ad) {j jr : Nat} {mu : Mu} (h : Dr j jr mu) {rho : Rho} {a b : Str} (ha : a ∈ nm) (hb : b ∈ nm) {l : List Nat} (hl : ∀ c ∈ l, c < 127) (hz : l.length ≤ 1000) (hn : rho.length = 13) (h6 : At rho 6 (.str (tx l))) (h7 : At rho 7 (.str a)) (h9 : At rho 9 (.str b)) (h10 : At rho 10 (.str (thn a b))) :
    ∃ rho' mu', loop3 q rho mu = some (.nx, rho', mu') ∧ Dr j jr mu' ∧ rho'.length = 13 ∧ ∀ i ≠ 11, rho'[i]? = rho[i]? := by
  have hit : iV (eCall tupF [eVar 6, eC (.str "xYz"), eC (.str "Xyz"), eC (.str "")]) rho mu = some (.ok [.str (tx l), .str "xYz", .str "Xyz", .str ""] none, mu) := by
    refine iv_ev (d := .tup [.str (tx l), .str "xYz", .str "Xyz", .str ""]) (mu1 := mu) ?_ rfl
    unfold eCall eArgs
    rw [h6.ev mu]
    rfl
  obtain ⟨rho', mu', e, z1, z2, z3⟩ := forL_inv (g := none) (t := .nm 11) (b := cmp3 q) (xs := [.str (tx l), .str "xYz", .str "Xyz", .str ""]) (rho := rho) (mu := mu) (fun r m => Dr j jr m ∧ r.length = 13 ∧ ∀ i ≠ 11, r[i]? = rho[i]?) (fun _ _ _ => trivial) (fun x hx r m i => by
    obtain ⟨d, hr, k⟩ := i
    have key : ∃ l', x = .str (tx l') ∧ (∀ c ∈ l', c < 127) ∧ l'.length ≤ 1000 := by
      simp only [List.mem_cons, List.not_mem_nil, or_false] at hx
      rcases hx with rfl | rfl | rfl | rfl
      · exact ⟨l, rfl, hl, hz⟩
      · exact ⟨[120, 89, 122], rfl, by decide, by decide⟩
      · exact ⟨[88, 121, 122], rfl, by decide, by decide⟩
      · exact ⟨[], rfl, by decide, by decide⟩
    obtain ⟨l', rfl, hl', hz'⟩ := key
    have at' : ∀ {i : Nat} {d : D}, i ≠ 11 → At rho i d → At (r.set 11 (some (.str (tx l')))) i d := fun n e => At.set_ne (show _ = _ from (k _ n).trans e) (Ne.symm n)
    obtain ⟨m', e, d'⟩ := cmp3_ok q d ha hb hl' hz' (at' (by decide) h7) (at' (by decide) h9) (at' (by decide) h10) (At.new (by omega))
    exact ⟨_, rfl, _, m', e, d', by simp [hr], fun i n => by rw [List.getElem?_set_ne (Ne.symm n)]; exact k i n⟩) ⟨h, hn, fun _ _ => rfl⟩
  exact ⟨rho', mu', (for_ev hit).trans e, z1, z2, z3⟩
noncomputable abbrev body2 (q : Ad) : SS := sSeq (sSet 10 (eCall (F_then q) [eVar 7, eVar 9])) (sSeq (sIf (eOp notInD (eVar 10) (eVar 2)) (sRet (eC (.bl false))) (sNil)) (loop3 q))
noncomputable abbrev loop2 (q : Ad) : SS := sFor (iV (eVar 2)) (.nm 9) (body2 q)
theorem not_in_names : ∀ a ∈ nm, ∀ mu : Mu, notInD (.str a) d_SHAPES mu = some (.ok (.bl false), mu) := fun a ha mu => by
  simp only [nm, List.mem_cons, List.not_mem_nil, or_false] at ha
  rcases ha with rfl | rfl | rfl | rfl | rfl <;> rfl
theorem names_src (mu : Mu) : srcV d_SHAPES mu = some (nm.map D.str, none) := rfl
theorem loop2_ok (q : Ad) {j jr : Nat} {mu : Mu} (h : Dr j jr mu) {rho : Rho} {a : Str} (ha : a ∈ nm) {l : List Nat} (hl : ∀ c ∈ l, c < 127) (hz : l.length ≤ 1000) (hn : rho.length = 13) (h2 : At rho 2 d_SHAPES) (h6 : At rho 6 (.str (tx l))) (h7 : At rho 7 (.str a)) :
    ∃ rho' mu', loop2 q rho mu = some (.nx, rho', mu') ∧ Dr j jr mu' ∧ rho'.length = 13 ∧ ∀ i < 9, rho'[i]? = rho[i]? := by
  obtain ⟨rho', mu', e, z1, z2, z3⟩ := forL_inv (g := none) (t := .nm 9) (b := body2 q) (xs := nm.map D.str) (rho := rho) (mu := mu) (fun r m => Dr j jr m ∧ r.length = 13 ∧ ∀ i < 9, r[i]? = rho[i]?) (fun _ _ _ => trivial) (fun x hx r m i => by
    obtain ⟨d, hr, k⟩ := i
    obtain ⟨b, hb, rfl⟩ := List.mem_map.mp hx
    have at' : ∀ {i : Nat} {d : D}, i < 9 → At rho i d → At (r.set 9 (some (.str b))) i d := fun n e => At.set_ne (show _ = _ from (k _ n).trans e) (by omega)
    have a7 := at' (by decide) h7
    have a9 : At (r.set 9 (some (.str b))) 9 (.str b) := At.new (by omega)
    have s1 : sSet 10 (eCall (F_then q) [eVar 7, eVar 9]) (r.set 9 (some (.str b))) m = some (.nx, (r.set 9 (some (.str b))).set 10 (some (.str (thn a b))), m) := set_ev ((call_2 (a7.ev m) (a9.ev m)).trans (then_ok q ha hb m))
    have at2 : ∀ {i : Nat} {d : D}, i < 9 → At rho i d → At ((r.set 9 (some (.str b))).set 10 (some (.str (thn a b)))) i d := fun n e => (at' n e).set_ne (by omega)
    have a10 : At ((r.set 9 (some (.str b))).set 10 (some (.str (thn a b)))) 10 (.str (thn a b)) := At.new (by simp; omega)
    have s2 : sIf (eOp notInD (eVar 10) (eVar 2)) (sRet (eC (.bl false))) (sNil) ((r.set 9 (some (.str b))).set 10 (some (.str (thn a b)))) m = some (.nx, (r.set 9 (some (.str b))).set 10 (some (.str (thn a b))), m) := by
      rw [if_f ((op_ev (a10.ev m) ((at2 (by decide) h2).ev m)).trans (not_in_names _ (thn_in a ha b hb) m))]; rfl
    obtain ⟨r3, m3, e3, d3, l3, k3⟩ := loop3_ok q d ha hb hl hz (by simp [hr]) (at2 (by decide) h6) (at2 (by decide) h7) (a9.set_ne (by decide)) a10
    refine ⟨_, rfl, r3, m3, ?_, d3, l3, fun i n => ?_⟩
    · show sSeq _ _ _ _ = _
      rw [seq_nx s1, seq_nx s2]; exact e3
    · rw [k3 i (by omega), List.getElem?_set_ne (by omega), List.getElem?_set_ne (by omega)]; exact k i n) ⟨h, hn, fun _ _ => rfl⟩
  exact ⟨rho', mu', (for_ev (iv_ev (h2.ev mu) (names_src mu))).trans e, z1, z2, z3⟩
noncomputable abbrev body1 (q : Ad) : SS := sSeq (sIf (eOp neD (eCall (F_shaped q) [eVar 7, eVar 6]) (eCall (F__law_shaped q) [eVar 7, eVar 6])) (sRet (eC (.bl false))) (sNil)) (loop2 q)
noncomputable abbrev loop1 (q : Ad) : SS := sFor (iV (eVar 2)) (.nm 7) (body1 q)
theorem loop1_ok (q : Ad) {j jr : Nat} {mu : Mu} (h : Dr j jr mu) {rho : Rho} {l : List Nat} (hl : ∀ c ∈ l, c < 127) (hz : l.length ≤ 1000) (hn : rho.length = 13) (h2 : At rho 2 d_SHAPES) (h6 : At rho 6 (.str (tx l))) :
    ∃ rho' mu', loop1 q rho mu = some (.nx, rho', mu') ∧ Dr j jr mu' ∧ rho'.length = 13 ∧ ∀ i < 7, rho'[i]? = rho[i]? := by
  obtain ⟨rho', mu', e, z1, z2, z3⟩ := forL_inv (g := none) (t := .nm 7) (b := body1 q) (xs := nm.map D.str) (rho := rho) (mu := mu) (fun r m => Dr j jr m ∧ r.length = 13 ∧ ∀ i < 7, r[i]? = rho[i]?) (fun _ _ _ => trivial) (fun x hx r m i => by
    obtain ⟨d, hr, k⟩ := i
    obtain ⟨a, ha, rfl⟩ := List.mem_map.mp hx
    have at' : ∀ {i : Nat} {d : D}, i < 7 → At rho i d → At (r.set 7 (some (.str a))) i d := fun n e => At.set_ne (show _ = _ from (k _ n).trans e) (by omega)
    have a7 : At (r.set 7 (some (.str a))) 7 (.str a) := At.new (by omega)
    have a6 := at' (by decide) h6
    obtain ⟨m2, e2, f2⟩ := law_shaped_ok q ha hl hz m
    have s1 : sIf (eOp neD (eCall (F_shaped q) [eVar 7, eVar 6]) (eCall (F__law_shaped q) [eVar 7, eVar 6])) (sRet (eC (.bl false))) (sNil) (r.set 7 (some (.str a))) m = some (.nx, r.set 7 (some (.str a)), m2) := by
      rw [if_f ((op_ev ((call_2 (a7.ev m) (a6.ev m)).trans (shaped_ok q ha hl hz m)) ((call_2 (a7.ev m) (a6.ev m)).trans e2)).trans (ne_self _ _))]; rfl
    obtain ⟨r3, m3, e3, d3, l3, k3⟩ := loop2_ok q (d.fz f2 (by simp) (by simp)) ha hl hz (by simp [hr]) (at' (by decide) h2) a6 a7
    refine ⟨_, rfl, r3, m3, ?_, d3, l3, fun i n => ?_⟩
    · show sSeq _ _ _ _ = _
      rw [seq_nx s1]; exact e3
    · rw [k3 i (by omega), List.getElem?_set_ne (by omega)]; exact k i n) ⟨h, hn, fun _ _ => rfl⟩
  exact ⟨rho', mu', (for_ev (iv_ev (h2.ev mu) (names_src mu))).trans e, z1, z2, z3⟩
noncomputable abbrev body0 (q : Ad) : SS := sSeq (sSet 5 (eCall (F__law_pick q) [eVar 1, eC (.int 31)])) (sSeq (sSet 6 (eMth isSB joinM (eC (.str "")) [eComp (iRg (eVar 5)) (.nm 12) ([("_law_k", 12)].map (·.2)) (eC (.bl true)) (eCall (F__law_one q) [eVar 1, eOp addD (eCall (F__law_signs q) []) (eC (.str "~ aZ"))])])) (loop1 q))
theorem loop0_ok (q : Ad) {j jr : Nat} {mu : Mu} (h : Dr j jr mu) {rho : Rho} (hn : rho.length = 13) (h1 : At rho 1 (.cel j)) (h2 : At rho 2 d_SHAPES) (xs : List D) :
    ∃ rho' mu', forL none (.nm 3) (body0 q) xs rho mu = some (.nx, rho', mu') ∧ Dr j jr mu' ∧ rho'.length = 13 := by
  obtain ⟨rho', mu', e, z1, z2, z3, z4⟩ := forL_inv (g := none) (t := .nm 3) (b := body0 q) (xs := xs) (rho := rho) (mu := mu) (fun r m => Dr j jr m ∧ r.length = 13 ∧ At r 1 (.cel j) ∧ At r 2 d_SHAPES) (fun _ _ _ => trivial) (fun x hx r m i => by
    obtain ⟨d, hr, b1, b2⟩ := i
    obtain ⟨n, m1, e1, p0, p1, d1, f1⟩ := pick_ok (many := 31) d (by decide) (by decide)
    have e1 : F__law_pick q [.cel j, .int 31] m = some (.ok (.int n), m1) := e1
    have s1 : sSet 5 (eCall (F__law_pick q) [eVar 1, eC (.int 31)]) (r.set 3 (some x)) m = some (.nx, (r.set 3 (some x)).set 5 (some (.int n)), m1) := set_ev ((call_2 ((b1.set_ne (by decide)).ev m) rfl).trans e1)
    have c1 : At ((r.set 3 (some x)).set 5 (some (.int n))) 1 (.cel j) := (b1.set_ne (by decide)).set_ne (by decide)
    have c2 : At ((r.set 3 (some x)).set 5 (some (.int n))) 2 d_SHAPES := (b2.set_ne (by decide)).set_ne (by decide)
    obtain ⟨l, m2, e2, hl, hz, d2⟩ := str_ok q d1 p0 p1 (rho := (r.set 3 (some x)).set 5 (some (.int n))) (by simp [hr]) c1 (At.new (by simp; omega))
    obtain ⟨r3, m3, e3, d3, l3, k3⟩ := loop1_ok q d2 (rho := ((r.set 3 (some x)).set 5 (some (.int n))).set 6 (some (.str (tx l)))) hl (by omega) (by simp [hr]) (c2.set_ne (by decide)) (At.new (by simp; omega))
    refine ⟨_, rfl, r3, m3, ?_, d3, l3, ?_, ?_⟩
    · show sSeq _ _ _ _ = _
      rw [seq_nx s1, seq_nx (set_ev e2)]; exact e3
    · exact (k3 1 (by decide)).trans (c1.set_ne (by decide))
    · exact (k3 2 (by decide)).trans (c2.set_ne (by decide))) ⟨h, hn, h1, h2⟩
  exact ⟨rho', mu', e, z1, z2⟩
end K01
set_option Elab.async false
set_option linter.all false
set_option autoImplicit false
set_option maxRecDepth 100000
set_option maxHeartbeats 4000000
namespace K01
open PySem PySem.Spec L2 DL
theorem need_ex (q : Ad) {d : D} {mu : Mu} (h : isiF [d, .ty "str"] mu = some (.ok (.bl false), mu)) : F_need_shape q [d] mu = some (.ex q.cBadShape [("given", d)], mu) := by
  show fin (m_need_shape q [some d] mu) = _
  unfold m_need_shape
  rw [if_t (or_t (not_f ((call_2 (e1 := eVar 0) (e2 := eC (.ty "str")) rfl rfl).trans h)))]
  rfl
theorem need_ex2 (q : Ad) {x : Str} {mu : Mu} (h : notInD (.str x) d_SHAPES mu = some (.ok (.bl true), mu)) : F_need_shape q [.str x] mu = some (.ex q.cBadShape [("given", .str x)], mu) := by
  show fin (m_need_shape q [some (.str x)] mu) = _
  unfold m_need_shape
  rw [if_t ((or_f (not_t ((call_2 (e1 := eVar 0) (e2 := eC (.ty "str")) rfl rfl).trans rfl))).trans ((op_ev rfl rfl).trans h))]
  rfl
theorem call_ex {F : FS} {e1 : ES} {rho : Rho} {mu mu1 : Mu} {x : D} (h1 : e1 rho mu = some (.ok x, mu1)) {C : Addr} {fs : List (Str × D)} {mu2 : Mu} (h : F [x] mu1 = some (.ex C fs, mu2)) : eCall F [e1] rho mu = some (.ex C fs, mu2) := (call_1 h1).trans h
theorem shaped_ex (q : Ad) {d : D} {mu : Mu} (h : F_need_shape q [d] mu = some (.ex q.cBadShape [("given", d)], mu)) (x : D) : F_shaped q [d, x] mu = some (.ex q.cBadShape [("given", d)], mu) := by
  show fin (m_shaped q [some d, some x] mu) = _
  unfold m_shaped
  rw [seq_ex (rho1 := [some d, some x]) (expr_ex ((call_1 rfl).trans h))]
  rfl
theorem then_ex1 (q : Ad) {d : D} {mu : Mu} (h : F_need_shape q [d] mu = some (.ex q.cBadShape [("given", d)], mu)) (x : D) : F_then q [d, x] mu = some (.ex q.cBadShape [("given", d)], mu) := by
  show fin (m_then q [some d, some x] mu) = _
  unfold m_then
  rw [seq_ex (rho1 := [some d, some x]) (expr_ex ((call_1 rfl).trans h))]
  rfl
theorem then_ex2 (q : Ad) {d : D} {mu : Mu} (h : F_need_shape q [d] mu = some (.ex q.cBadShape [("given", d)], mu)) : F_then q [.str "", d] mu = some (.ex q.cBadShape [("given", d)], mu) := by
  show fin (m_then q [some (.str ""), some d] mu) = _
  unfold m_then
  rw [seq_nx (rho1 := [some (.str ""), some d]) (mu1 := mu) (expr_ev (d := .non) rfl)]
  rw [seq_ex (rho1 := [some (.str ""), some d]) (expr_ex ((call_1 rfl).trans h))]
  rfl
theorem isO_ex {c : Addr} {f : Addr → Option Bool} {C : Addr} {fs : List (Str × D)} {mu : Mu} {b : Bool} (h : f C = some b) : isO c f [.cel mu.length, .adr c] (mu ++ [.exc C fs]) = some (.ok (.bl b), mu ++ [.exc C fs]) := by
  simp only [isO, if_true]
  rw [app_new]
  simp only [h, Option.bind_some]
theorem G_ex (q : Ad) {d : D} {cl : Mu → Ro} {mu : Mu} (h : cl mu = some (.ex q.cBadShape [("given", d)], mu)) : G__law_refused q cl mu = some (.ok (.cel (mu.length + 1)), mu ++ [.exc q.cBadShape [("given", d)]] ++ [.lst [d]]) := by
  unfold G__law_refused
  rw [fnS_fin]
  show fin (m__law_refused q 0 cl [some (.adr 0), none, none] mu) = _
  unfold m__law_refused
  rw [seq_nx (rho1 := [some (.adr 0), some .non, none]) (mu1 := mu) rfl]
  have s2 : sTryK 2 1 (t_SnippetError_Missing q) (sExpr (eAct 0 cl)) [some (.adr 0), some .non, none] mu = some (.nx, [some (.adr 0), some (.cel mu.length), none], mu ++ [.exc q.cBadShape [("given", d)]]) := by
    unfold sTryK
    rw [expr_ex (e := eAct 0 cl) (rho := [some (.adr 0), some .non, none]) (mu := mu) (C := q.cBadShape) (fs := [("given", d)]) (mu1 := mu) (by
      show (if (0 : Addr) = 0 then cl mu else none) = _
      rw [if_pos rfl]; exact h)]
    show (match t_SnippetError_Missing q q.cBadShape with
      | some true => _
      | some false => _
      | none => _) = _
    rw [show t_SnippetError_Missing q q.cBadShape = some true from if_pos rfl]
    rfl
  rw [seq_nx s2]
  rw [seq_nx (rho1 := [some (.adr 0), some (.cel mu.length), none]) (mu1 := mu ++ [.exc q.cBadShape [("given", d)]]) rfl]
  have i1 : eCall (isO q.cBadShape (is_BadShape q)) [eVar 1, eC (.adr q.cBadShape)] [some (.adr 0), some (.cel mu.length), none] (mu ++ [.exc q.cBadShape [("given", d)]]) = some (.ok (.bl true), mu ++ [.exc q.cBadShape [("given", d)]]) := (call_2 rfl rfl).trans (isO_ex (if_pos rfl))
  have i2 : eCall (isO q.cBadSnippet (is_BadSnippet q)) [eVar 1, eC (.adr q.cBadSnippet)] [some (.adr 0), some (.cel mu.length), none] (mu ++ [.exc q.cBadShape [("given", d)]]) = some (.ok (.bl false), mu ++ [.exc q.cBadShape [("given", d)]]) := (call_2 rfl rfl).trans (isO_ex (if_pos rfl))
  have gt : excGet "given" (ok_given q) (eVar 1) [some (.adr 0), some (.cel mu.length), none] (mu ++ [.exc q.cBadShape [("given", d)]]) = some (.ok d, mu ++ [.exc q.cBadShape [("given", d)]]) := by
    unfold excGet
    show (match (mu ++ [Cell.exc q.cBadShape [("given", d)]])[mu.length]? with
      | some (.exc C fs) => if ok_given q C then (match fs.lookup ("given" : Str) with
        | some x => some (Rs.ok x, mu ++ [Cell.exc q.cBadShape [("given", d)]])
        | none => none) else none
      | _ => none) = _
    rw [app_new]
    simp [ok_given]
  rw [ret_ev (d := .cel (mu.length + 1)) (mu1 := mu ++ [.exc q.cBadShape [("given", d)]] ++ [.lst [d]]) ((ife_t ((and_t i1).trans (not_f i2))).trans ((call_1 gt).trans ?_))]
  · rfl
  · show some (Rs.ok (D.cel (mu ++ [Cell.exc q.cBadShape [("given", d)]]).length), mu ++ [Cell.exc q.cBadShape [("given", d)]] ++ [Cell.lst [d]]) = _
    simp
/-! ### the odd things -/
theorem Fz.old {mu m : Mu} {k : Nat} {c : Cell} (h : Fz [] mu m) (hk : mu.length ≤ k) : Fz [] mu (m.set k c) := ⟨by have := h.1; simp; exact this, fun i x n e => by
  rw [List.getElem?_set_ne (by have := (List.getElem?_eq_some_iff.mp e).1; omega)]; exact h.2 i x n e⟩
def big (p : PyData) : PyData := .list [.list [p], .list [p], .list [p]]
structure Odd (q : Ad) (d : D) (p : PyData) (mu : Mu) : Prop where
  ex : ∀ mu', Fz [] mu mu' → F_need_shape q [d] mu' = some (.ex q.cBadShape [("given", d)], mu')
  pd : ∀ mu', Fz [] mu mu' → dP (cP mu' 10) d = some p
  s1 : (big p).showable = true
  s2 : (big p).shown.length ≤ sizeLine
  s3 : (big p).depth ≤ 100
theorem cP_one {mu : Mu} {i : Nat} {d : D} {p : PyData} (h : mu[i]? = some (.lst [d])) (hp : dP (cP mu 10) d = some p) : cP mu 11 i = some (.list [p]) := by
  unfold cP
  rw [h]
  simp only [dPs, hp]
  rfl
theorem toP_big {mu : Mu} {t a b c : Nat} {d : D} {p : PyData} (ht : mu[t]? = some (.lst [.cel a, .cel b, .cel c])) (ha : mu[a]? = some (.lst [d])) (hb : mu[b]? = some (.lst [d])) (hc : mu[c]? = some (.lst [d])) (hp : dP (cP mu 10) d = some p) : toP mu (.cel t) = some (big p) := by
  unfold toP
  simp only [dP]
  unfold cP
  rw [ht]
  simp only [dPs, dP]
  rw [cP_one ha hp, cP_one hb hp, cP_one hc hp]
  rfl
theorem repr_ev {q : Ad} {d : D} {p : PyData} {mu0 mu : Mu} {t : Nat} (o : Odd q d p mu0) (h : toP mu (.cel t) = some (big p)) : reprF [.cel t] mu = some (.ok (.str (big p).shown), mu) := by
  simp only [reprF, h]
  rw [if_pos ⟨rfl, o.s1, o.s2, o.s3⟩]
noncomputable abbrev bodyO (q : Ad) : SS := sSeq (sSet 8 (eCall lstF [eLam (G__law_refused q) id (eCall (F_shaped q) [eVar 4, eC (.str "a")]), eLam (G__law_refused q) (fun rho => rho.set 11 none) (eCall (F_then q) [eVar 4, eC (.str "upper")])])) (sSeq (sExpr (eMth isLB appM (eVar 8) [eLam (G__law_refused q) id (eCall (F_then q) [eC (.str ""), eVar 4])])) (sIf (eOp neD (eCall reprF [eVar 8]) (eCall reprF [eOp mulD (eCall lstF [eCall lstF [eVar 4]]) (eC (.int 3))])) (sRet (eC (.bl false))) (sNil)))
theorem odd_body (q : Ad) {d : D} {p : PyData} {mu0 mu : Mu} (o : Odd q d p mu0) (f0 : Fz [] mu0 mu) {rho : Rho} (hn : rho.length = 13) (h4 : At rho 4 d) : ∃ rho' mu', bodyO q rho mu = some (.nx, rho', mu') ∧ Fz [] mu mu' ∧ rho'.length = 13 := by
  -- the three calls
  obtain ⟨X, hX⟩ : ∃ X : Cell, X = .exc q.cBadShape [("given", d)] := ⟨_, rfl⟩
  have g1 : ∀ m, Fz [] mu0 m → eLam (G__law_refused q) id (eCall (F_shaped q) [eVar 4, eC (.str "a")]) rho m = some (.ok (.cel (m.length + 1)), m ++ [X] ++ [.lst [d]]) := fun m f => by
    rw [hX]
    exact G_ex q (cl := fun mu' => eCall (F_shaped q) [eVar 4, eC (.str "a")] (id rho) mu') ((call_2 (h4.ev m) rfl).trans (shaped_ex q (o.ex m f) _))
  have g2 : ∀ m, Fz [] mu0 m → eLam (G__law_refused q) (fun rho => rho.set 11 none) (eCall (F_then q) [eVar 4, eC (.str "upper")]) rho m = some (.ok (.cel (m.length + 1)), m ++ [X] ++ [.lst [d]]) := fun m f => by
    rw [hX]
    exact G_ex q (cl := fun mu' => eCall (F_then q) [eVar 4, eC (.str "upper")] (rho.set 11 none) mu') ((call_2 ((h4.set_ne (by decide)).ev m) rfl).trans (then_ex1 q (o.ex m f) _))
  have g3 : ∀ m, Fz [] mu0 m → ∀ r : Rho, At r 4 d → eLam (G__law_refused q) id (eCall (F_then q) [eC (.str ""), eVar 4]) r m = some (.ok (.cel (m.length + 1)), m ++ [X] ++ [.lst [d]]) := fun m f r a => by
    rw [hX]
    exact G_ex q (cl := fun mu' => eCall (F_then q) [eC (.str ""), eVar 4] (id r) mu') ((call_2 rfl (a.ev m)).trans (then_ex2 q (o.ex m f)))
  clear hX
  have a2 : ∀ (m : Mu) (x y : Cell), Fz [] m (m ++ [x] ++ [y]) := fun m x y => by rw [List.append_assoc]; exact Fz.app _ _ _
  have at1 : ∀ (m : Mu), (m ++ [X] ++ [Cell.lst [d]])[m.length + 1]? = some (.lst [d]) := fun m => by
    have : (m ++ [X]).length = m.length + 1 := by simp
    rw [← this]; exact app_new
  obtain ⟨m1, e1⟩ : ∃ m1, m1 = mu ++ [X] ++ [.lst [d]] := ⟨_, rfl⟩
  have f1 : Fz [] mu m1 := by rw [e1]; exact a2 _ _ _
  obtain ⟨m2, e2⟩ : ∃ m2, m2 = m1 ++ [X] ++ [.lst [d]] := ⟨_, rfl⟩
  have f2 : Fz [] m1 m2 := by rw [e2]; exact a2 _ _ _
  obtain ⟨m3, e3⟩ : ∃ m3, m3 = m2 ++ [.lst [.cel (mu.length + 1), .cel (m1.length + 1)]] := ⟨_, rfl⟩
  have f3 : Fz [] m2 m3 := by rw [e3]; exact Fz.app _ _ _
  obtain ⟨m4, e4⟩ : ∃ m4, m4 = m3 ++ [X] ++ [.lst [d]] := ⟨_, rfl⟩
  have f4 : Fz [] m3 m4 := by rw [e4]; exact a2 _ _ _
  obtain ⟨m5, e5⟩ : ∃ m5, m5 = m4.set m2.length (.lst [.cel (mu.length + 1), .cel (m1.length + 1), .cel (m3.length + 1)]) := ⟨_, rfl⟩
  have b1 : m1[mu.length + 1]? = some (.lst [d]) := by rw [e1]; exact at1 _
  have b2 : m2[m1.length + 1]? = some (.lst [d]) := by rw [e2]; exact at1 _
  have b3 : m3[m2.length]? = some (.lst [.cel (mu.length + 1), .cel (m1.length + 1)]) := by rw [e3]; exact app_new
  have b4 : m4[m3.length + 1]? = some (.lst [d]) := by rw [e4]; exact at1 _
  have l3 : m3.length = m2.length + 1 := by rw [e3]; simp
  have f02 : Fz [] mu m2 := f1.trans f2
  have fm5 : ∀ {m : Mu}, Fz [] m m4 → m.length ≤ m2.length → Fz [] m m5 := fun f h => by rw [e5]; exact Fz.old f h
  have f25 : Fz [] m2 m5 := fm5 (f3.trans f4) (Nat.le_refl _)
  have f05 : Fz [] mu m5 := f02.trans f25
  have c1 : m5[mu.length + 1]? = some (.lst [d]) := (f2.trans f25).2 _ _ (by simp) b1
  have c2 : m5[m1.length + 1]? = some (.lst [d]) := f25.2 _ _ (by simp) b2
  have c4 : m5[m3.length + 1]? = some (.lst [d]) := by rw [e5, List.getElem?_set_ne (by omega)]; exact b4
  have b34 : m4[m2.length]? = _ := f4.2 _ _ (by simp) b3
  have c3 : m5[m2.length]? = some (.lst [.cel (mu.length + 1), .cel (m1.length + 1), .cel (m3.length + 1)]) := by rw [e5]; exact List.getElem?_set_self (List.getElem?_eq_some_iff.mp b34).1
  have p5 := o.pd m5 (f0.trans f05)
  -- told
  have s1 : sSet 8 (eCall lstF [eLam (G__law_refused q) id (eCall (F_shaped q) [eVar 4, eC (.str "a")]), eLam (G__law_refused q) (fun rho => rho.set 11 none) (eCall (F_then q) [eVar 4, eC (.str "upper")])]) rho mu = some (.nx, rho.set 8 (some (.cel m2.length)), m3) := by
    have h1 := g1 mu f0
    rw [← e1] at h1
    have h2 := g2 m1 (f0.trans f1)
    rw [← e2] at h2
    refine set_ev ((call_2 h1 h2).trans ?_)
    rw [e3]; rfl
  have a8 : At (rho.set 8 (some (.cel m2.length))) 8 (.cel m2.length) := At.new (by omega)
  have a4 : At (rho.set 8 (some (.cel m2.length))) 4 d := h4.set_ne (by decide)
  have s2 : sExpr (eMth isLB appM (eVar 8) [eLam (G__law_refused q) id (eCall (F_then q) [eC (.str ""), eVar 4])]) (rho.set 8 (some (.cel m2.length))) m3 = some (.nx, rho.set 8 (some (.cel m2.length)), m5) := by
    refine expr_ev (d := .non) ?_
    have h3 := g3 m3 ((f0.trans f02).trans f3) _ a4
    rw [← e4] at h3
    unfold eMth
    rw [a8.ev m3]
    show (if isLB (.cel m2.length) m3 = true then eArgs [eLam (G__law_refused q) id (eCall (F_then q) [eC (.str ""), eVar 4])] (rho.set 8 (some (.cel m2.length))) m3 (appM (.cel m2.length)) else none) = _
    rw [if_pos (by unfold isLB; simp only [lstD]; rw [b3]; rfl)]
    unfold eArgs
    rw [h3]
    show appM (.cel m2.length) [.cel (m3.length + 1)] m4 = _
    simp only [appM, b34]
    rw [if_pos (by simp), e5]; rfl
  have r1 : eCall reprF [eVar 8] (rho.set 8 (some (.cel m2.length))) m5 = some (.ok (.str (big p).shown), m5) := (call_1 (a8.ev m5)).trans (repr_ev o (toP_big c3 c1 c2 c4 p5))
  obtain ⟨m6, e6⟩ : ∃ m6, m6 = m5 ++ [.lst [d]] := ⟨_, rfl⟩
  obtain ⟨m7, e7⟩ : ∃ m7, m7 = m6 ++ [.lst [.cel m5.length]] := ⟨_, rfl⟩
  obtain ⟨m8, e8⟩ : ∃ m8, m8 = m7 ++ [.lst [.cel m5.length, .cel m5.length, .cel m5.length]] := ⟨_, rfl⟩
  have f6 : Fz [] m5 m6 := by rw [e6]; exact Fz.app _ _ _
  have f7 : Fz [] m6 m7 := by rw [e7]; exact Fz.app _ _ _
  have f8 : Fz [] m7 m8 := by rw [e8]; exact Fz.app _ _ _
  have d6 : m6[m5.length]? = some (.lst [d]) := by rw [e6]; exact app_new
  have d8 : m8[m5.length]? = some (.lst [d]) := (f7.trans f8).2 _ _ (by simp) d6
  have d7 : m7[m6.length]? = some (.lst [.cel m5.length]) := by rw [e7]; exact app_new
  have t8 : m8[m7.length]? = some (.lst [.cel m5.length, .cel m5.length, .cel m5.length]) := by rw [e8]; exact app_new
  have r2 : eCall reprF [eOp mulD (eCall lstF [eCall lstF [eVar 4]]) (eC (.int 3))] (rho.set 8 (some (.cel m2.length))) m5 = some (.ok (.str (big p).shown), m8) := by
    have k1 : eCall lstF [eVar 4] (rho.set 8 (some (.cel m2.length))) m5 = some (.ok (.cel m5.length), m6) := (call_1 (a4.ev m5)).trans (by rw [e6]; rfl)
    have k2 : eCall lstF [eCall lstF [eVar 4]] (rho.set 8 (some (.cel m2.length))) m5 = some (.ok (.cel m6.length), m7) := (call_1 k1).trans (by rw [e7]; rfl)
    have k3 : eOp mulD (eCall lstF [eCall lstF [eVar 4]]) (eC (.int 3)) (rho.set 8 (some (.cel m2.length))) m5 = some (.ok (.cel m7.length), m8) := by
      refine (op_ev k2 rfl).trans ?_
      simp only [mulD, d7]
      rw [if_pos ⟨by decide, by decide, by simp⟩, e8]; rfl
    exact (call_1 k3).trans (repr_ev o (toP_big t8 d8 d8 d8 (o.pd m8 (f0.trans (((f05.trans f6).trans f7).trans f8)))))
  refine ⟨rho.set 8 (some (.cel m2.length)), m8, ?_, ((f05.trans f6).trans f7).trans f8, by simp [hn]⟩
  show sSeq _ _ _ _ = _
  rw [seq_nx s1, seq_nx s2, if_f ((op_ev r1 r2).trans (ne_self _ _))]
  rfl
end K01
set_option Elab.async false
set_option linter.all false
set_option autoImplicit false
set_option maxRecDepth 100000
set_option maxHeartbeats 4000000
namespace K01
open PySem PySem.Spec L2 DL
theorem odd_flat (q : Ad) (mu : Mu) {d : D} {p : PyData} (h1 : ∀ mu', F_need_shape q [d] mu' = some (.ex q.cBadShape [("given", d)], mu')) (h2 : ∀ rc, dP rc d = some p) (s : (big p).showable = true ∧ (big p).shown.length ≤ sizeLine ∧ (big p).depth ≤ 100) : Odd q d p mu := ⟨fun m _ => h1 m, fun m _ => h2 _, s.1, s.2.1, s.2.2⟩
theorem odd_lst (q : Ad) {mu : Mu} {i : Nat} {xs : List D} {ps : List PyData} (h : mu[i]? = some (.lst xs)) (h2 : ∀ rc, dPs rc xs = some ps) (s : (big (.list ps)).showable = true ∧ (big (.list ps)).shown.length ≤ sizeLine ∧ (big (.list ps)).depth ≤ 100) : Odd q (.cel i) (.list ps) mu := by
  refine ⟨fun m f => need_ex q ?_, fun m f => ?_, s.1, s.2.1, s.2.2⟩
  · have e := f.2 i _ (by simp) h
    simp only [isiF, tyN, e]
    rfl
  · have e := f.2 i _ (by simp) h
    simp only [dP]
    unfold cP
    rw [e]
    simp only [h2]
    rfl
theorem odd_dct (q : Ad) {mu : Mu} {i : Nat} (h : mu[i]? = some (.dct [])) (s : (big (.dict [])).showable = true ∧ (big (.dict [])).shown.length ≤ sizeLine ∧ (big (.dict [])).depth ≤ 100) : Odd q (.cel i) (.dict []) mu := by
  refine ⟨fun m f => need_ex q ?_, fun m f => ?_, s.1, s.2.1, s.2.2⟩
  · have e := f.2 i _ (by simp) h
    simp only [isiF, tyN, e]
    rfl
  · have e := f.2 i _ (by simp) h
    simp only [dP]
    unfold cP
    rw [e]
noncomputable abbrev loopO (q : Ad) : SS := sFor (iV (eCall tupF [eC .non, eC (.int 5), eC (.bl true), eC (.str "Upper"), eC (.str "upper "), eC (.str "u"), eCall tupF [], eCall lstF [], eDict0, eCall tupF [eC (.str "upper")], eCall lstF [eC (.str "")]])) (.nm 4) (bodyO q)
theorem loopO_ok (q : Ad) (mu : Mu) {rho : Rho} (hn : rho.length = 13) : ∃ rho' mu', loopO q rho mu = some (.nx, rho', mu') := by
  obtain ⟨m, em⟩ : ∃ m : Mu, m = mu ++ [.lst []] ++ [.dct []] ++ [.lst [.str ""]] := ⟨_, rfl⟩
  have ev : eCall tupF [eC .non, eC (.int 5), eC (.bl true), eC (.str "Upper"), eC (.str "upper "), eC (.str "u"), eCall tupF [], eCall lstF [], eDict0, eCall tupF [eC (.str "upper")], eCall lstF [eC (.str "")]] rho mu =
      some (.ok (.tup [.non, .int 5, .bl true, .str "Upper", .str "upper ", .str "u", .tup [], .cel mu.length, .cel (mu ++ [Cell.lst []]).length, .tup [.str "upper"], .cel (mu ++ [Cell.lst []] ++ [Cell.dct []]).length]), m) := by rw [em]; rfl
  have c1 : m[mu.length]? = some (.lst []) := by rw [em]; exact app_at (app_at app_new)
  have c2 : m[(mu ++ [Cell.lst []]).length]? = some (.dct []) := by rw [em]; exact app_at app_new
  have c3 : m[(mu ++ [Cell.lst []] ++ [Cell.dct []]).length]? = some (.lst [.str ""]) := by rw [em]; exact app_new
  obtain ⟨rho', mu', e, z1, z2⟩ := forL_inv (g := none) (t := .nm 4) (b := bodyO q) (xs := [.non, .int 5, .bl true, .str "Upper", .str "upper ", .str "u", .tup [], .cel mu.length, .cel (mu ++ [Cell.lst []]).length, .tup [.str "upper"], .cel (mu ++ [Cell.lst []] ++ [Cell.dct []]).length]) (rho := rho) (mu := m)
    (fun r n => Fz [] m n ∧ r.length = 13) (fun _ _ _ => trivial) (fun x hx r n i => by
      obtain ⟨f, hr⟩ := i
      have od : ∃ p, Odd q x p m := by
        simp only [List.mem_cons, List.not_mem_nil, or_false] at hx
        rcases hx with rfl | rfl | rfl | rfl | rfl | rfl | rfl | rfl | rfl | rfl | rfl
        · exact ⟨_, odd_flat q m (p := .none) (fun _ => rfl) (fun _ => rfl) (by decide +kernel)⟩
        · exact ⟨_, odd_flat q m (p := .int 5) (fun _ => rfl) (fun _ => rfl) (by decide +kernel)⟩
        · exact ⟨_, odd_flat q m (p := .bool true) (fun _ => rfl) (fun _ => rfl) (by decide +kernel)⟩
        · exact ⟨_, odd_flat q m (p := .str "Upper") (fun _ => rfl) (fun _ => rfl) (by decide +kernel)⟩
        · exact ⟨_, odd_flat q m (p := .str "upper ") (fun _ => rfl) (fun _ => rfl) (by decide +kernel)⟩
        · exact ⟨_, odd_flat q m (p := .str "u") (fun _ => rfl) (fun _ => rfl) (by decide +kernel)⟩
        · exact ⟨_, odd_flat q m (p := .tuple []) (fun _ => rfl) (fun _ => rfl) (by decide +kernel)⟩
        · exact ⟨_, odd_lst q (ps := []) c1 (fun _ => rfl) (by decide +kernel)⟩
        · exact ⟨_, odd_dct q c2 (by decide +kernel)⟩
        · exact ⟨_, odd_flat q m (p := .tuple [.str "upper"]) (fun _ => rfl) (fun _ => rfl) (by decide +kernel)⟩
        · exact ⟨_, odd_lst q (ps := [.str ""]) c3 (fun _ => rfl) (by decide +kernel)⟩
      obtain ⟨p, o⟩ := od
      obtain ⟨r', n', e, f', l'⟩ := odd_body q o f (rho := r.set 4 (some x)) (by simp [hr]) (At.new (by omega))
      exact ⟨_, rfl, r', n', e, f.trans f', l'⟩) ⟨Fz.refl _ _, hn⟩
  exact ⟨rho', mu', (for_ev (iv_ev ev rfl)).trans e⟩
def pSH : PyData := .tuple [.str "", .str "upper", .str "lower", .str "first", .str "title"]
theorem names_ne (mu : Mu) : neD d_SHAPES d_SHAPES mu = some (.ok (.bl false), mu) := by
  have t : toP mu d_SHAPES = some pSH := rfl
  have e : eqB d_SHAPES d_SHAPES mu = some true := by
    have : eqB d_SHAPES d_SHAPES mu = eqP d_SHAPES d_SHAPES mu := rfl
    rw [this]
    unfold eqP
    rw [t]
    simp only []
    rw [if_pos ⟨by decide +kernel, by decide +kernel⟩, show PyData.eqv pSH pSH = true by decide +kernel]
  unfold neD
  simp only [e, okD]
  rfl
theorem law_true (q : Ad) (ns : List Int) (hn : ns.length ≤ 63) : ∃ mu, F_law q [.fl (ns.map D.int)] [] = some (.ok (.bl true), mu) := by
  show ∃ mu, fin (m_law q [some (.fl (ns.map D.int)), none, none, none, none, none, none, none, none, none, none, none, none] []) = _
  unfold m_law
  obtain ⟨m0, e0, d0, f0⟩ := draws_ok ns hn []
  have e0 : F__law_draws q [.fl (ns.map D.int)] [] = some (.ok (.cel 0), m0) := e0
  rw [seq_nx (set_ev ((call_1 rfl).trans e0))]
  rw [seq_nx (rho1 := [some (.fl (ns.map D.int)), some (.cel 0), some d_SHAPES, none, none, none, none, none, none, none, none, none, none]) (mu1 := m0) (set_ev (d := d_SHAPES) rfl)]
  rw [seq_nx (rho1 := [some (.fl (ns.map D.int)), some (.cel 0), some d_SHAPES, none, none, none, none, none, none, none, none, none, none]) (mu1 := m0) ((if_f (mu1 := m0) ((op_ev rfl rfl).trans (names_ne m0))).trans rfl)]
  have hit : ∃ k : Int, iRg (eOp addD (eC (.int 4)) (eOp fdivD (eCall minF [eC (.int 60), eCall lenF [eVar 0]]) (eC (.int 3)))) [some (.fl (ns.map D.int)), some (.cel 0), some d_SHAPES, none, none, none, none, none, none, none, none, none, none] m0 = some (.ok ((List.range k.toNat).map fun k => D.int (k : Nat)) none, m0) := by
    have hl : eCall lenF [eVar 0] [some (.fl (ns.map D.int)), some (.cel 0), some d_SHAPES, none, none, none, none, none, none, none, none, none, none] m0 = some (.ok (.int ns.length), m0) := by
      refine (call_1 rfl).trans ?_
      show some (Rs.ok (D.int ((ns.map D.int).length : Nat)), m0) = _
      rw [List.length_map]
    have hm : ∃ y : Int, eCall minF [eC (.int 60), eCall lenF [eVar 0]] [some (.fl (ns.map D.int)), some (.cel 0), some d_SHAPES, none, none, none, none, none, none, none, none, none, none] m0 = some (.ok (.int y), m0) ∧ 0 ≤ y ∧ y ≤ 63 := by
      refine ⟨if (ns.length : Int) < 60 then ns.length else 60, (call_2 rfl hl).trans rfl, ?_, ?_⟩ <;> split <;> omega
    obtain ⟨y, hy, y0, y1⟩ := hm
    refine ⟨4 + y / 3, rg_ev ((op_ev (x := .int 4) (y := .int (y / 3)) (mu1 := m0) (mu2 := m0) rfl ((op_ev hy rfl).trans ?_)).trans rfl) ⟨by omega, by omega⟩⟩
    · simp only [fdivD, okD]
      rfl
  obtain ⟨k, hk⟩ := hit
  obtain ⟨r1, m1, e1, d1, l1⟩ := loop0_ok q d0 (rho := [some (.fl (ns.map D.int)), some (.cel 0), some d_SHAPES, none, none, none, none, none, none, none, none, none, none]) rfl rfl rfl ((List.range k.toNat).map fun k => D.int (k : Nat))
  rw [seq_nx ((for_ev hk).trans e1)]
  obtain ⟨r2, m2, e2⟩ := loopO_ok q m1 l1
  rw [seq_nx e2]
  exact ⟨m2, rfl⟩
end K01
set_option Elab.async false
set_option linter.all false
set_option autoImplicit false
set_option maxRecDepth 100000
set_option maxHeartbeats 4000000
namespace K01
open PySem PySem.Spec PyProof.Rows L2 DL
abbrev sI : Stmt := inClass (top 3) 0
theorem sc_I : FnScope ["self", "given"] ["self", "given"] (defScope sI) := ⟨rfl, rfl, rfl, by decide +kernel, rfl, by decide +kernel, by decide +kernel⟩
set_option maxHeartbeats 8000000 in
theorem all_mk {l : PySem.W.OpenLaw} {w : World} {K : PySem.W.Frag} {h : Heap} {mg : Str → Option Value} {fa : Addr} {pr : Program} (X : K.In h) (G : h.Ns mainGlobals mg) (hfa : mg "law" = some (.ref fa)) (tab : TabOf pr K mg h)
    {f0 : Addr} {oc0 kV0 dc0 pm0 cd0 ct0 : Value} {od0 an0 : Option Addr} {sl0 : Array (Option Value)}
    {f1 : Addr} {oc1 kV1 dc1 pm1 cd1 ct1 : Value} {od1 an1 : Option Addr} {sl1 : Array (Option Value)}
    {f2 : Addr} {oc2 kV2 dc2 pm2 cd2 ct2 : Value} {od2 an2 : Option Addr} {sl2 : Array (Option Value)}
    {f3 : Addr} {oc3 kV3 dc3 pm3 cd3 ct3 : Value} {od3 an3 : Option Addr} {sl3 : Array (Option Value)}
    {f4 : Addr} {oc4 kV4 dc4 pm4 cd4 ct4 : Value} {od4 an4 : Option Addr} {sl4 : Array (Option Value)}
    {f5 : Addr} {oc5 kV5 dc5 pm5 cd5 ct5 : Value} {od5 an5 : Option Addr} {sl5 : Array (Option Value)}
    {f6 : Addr} {oc6 kV6 dc6 pm6 cd6 ct6 : Value} {od6 an6 : Option Addr} {sl6 : Array (Option Value)}
    {f7 : Addr} {oc7 kV7 dc7 pm7 cd7 ct7 : Value} {od7 an7 : Option Addr} {sl7 : Array (Option Value)}
    {f8 : Addr} {oc8 kV8 dc8 pm8 cd8 ct8 : Value} {od8 an8 : Option Addr} {sl8 : Array (Option Value)}
    {f9 : Addr} {oc9 kV9 dc9 pm9 cd9 ct9 : Value} {od9 an9 : Option Addr} {sl9 : Array (Option Value)}
    {f10 : Addr} {oc10 kV10 dc10 pm10 cd10 ct10 : Value} {od10 an10 : Option Addr} {sl10 : Array (Option Value)}
    {f11 : Addr} {oc11 kV11 dc11 pm11 cd11 ct11 : Value} {od11 an11 : Option Addr} {sl11 : Array (Option Value)}
    {CSnippetError : Addr}
    {CBadSnippet : Addr}
    {CBadShape : Addr}
    {CMissing : Addr}
    {nmB qB : Str} {NB : Addr} {bsB bmB : List Value} {snB : List Str} {subB : List Value} {abB : Bool} {colB : Option Bool} {ddB : Option Addr} {kx0 kx1 kx2 kx3 kx5 : Option Value}
    {fI : Addr} {ocI kVI dcI pmI cdI ctI : Value} {odI anI : Option Addr} {slI : Array (Option Value)}
    {aS : Addr} {ddS : Option Addr} {nS : Nat} {slS : Array (Option Value)} {t0 t1 t2 t3 t4 : Tok}
    {cL PL : Addr} {eL : Value} {ddL : Option Addr} {vsL : Array Value} {slL : Array (Option Value)}
    (a0 : PySem.W.nsIn K mainGlobals "need_shape" = some (some (.ref f0)))
    (l0 : K.lookup f0 = some ⟨oc0, od0, .func (PySem.W.fnOf "need_shape" "need_shape" (defArgs s_need_shape) (defBody s_need_shape) (defScope s_need_shape) .none kV0 dc0 pm0 an0 cd0 ct0), sl0⟩)
    (c0 : PySem.W.codeIn K cd0 "need_shape" = true)
    (k0 : PySem.W.keepIn K (.ref f0) = true)
    (a1 : PySem.W.nsIn K mainGlobals "changed" = some (some (.ref f1)))
    (l1 : K.lookup f1 = some ⟨oc1, od1, .func (PySem.W.fnOf "changed" "changed" (defArgs s_changed) (defBody s_changed) (defScope s_changed) .none kV1 dc1 pm1 an1 cd1 ct1), sl1⟩)
    (c1 : PySem.W.codeIn K cd1 "changed" = true)
    (k1 : PySem.W.keepIn K (.ref f1) = true)
    (a2 : PySem.W.nsIn K mainGlobals "shaped" = some (some (.ref f2)))
    (l2 : K.lookup f2 = some ⟨oc2, od2, .func (PySem.W.fnOf "shaped" "shaped" (defArgs s_shaped) (defBody s_shaped) (defScope s_shaped) .none kV2 dc2 pm2 an2 cd2 ct2), sl2⟩)
    (c2 : PySem.W.codeIn K cd2 "shaped" = true)
    (k2 : PySem.W.keepIn K (.ref f2) = true)
    (a3 : PySem.W.nsIn K mainGlobals "then_shape" = some (some (.ref f3)))
    (l3 : K.lookup f3 = some ⟨oc3, od3, .func (PySem.W.fnOf "then_shape" "then_shape" (defArgs s_then_shape) (defBody s_then_shape) (defScope s_then_shape) .none kV3 dc3 pm3 an3 cd3 ct3), sl3⟩)
    (c3 : PySem.W.codeIn K cd3 "then_shape" = true)
    (k3 : PySem.W.keepIn K (.ref f3) = true)
    (a4 : PySem.W.nsIn K mainGlobals "then" = some (some (.ref f4)))
    (l4 : K.lookup f4 = some ⟨oc4, od4, .func (PySem.W.fnOf "then" "then" (defArgs s_then) (defBody s_then) (defScope s_then) .none kV4 dc4 pm4 an4 cd4 ct4), sl4⟩)
    (c4 : PySem.W.codeIn K cd4 "then" = true)
    (k4 : PySem.W.keepIn K (.ref f4) = true)
    (a5 : PySem.W.nsIn K mainGlobals "_law_draws" = some (some (.ref f5)))
    (l5 : K.lookup f5 = some ⟨oc5, od5, .func (PySem.W.fnOf "_law_draws" "_law_draws" (defArgs s__law_draws) (defBody s__law_draws) (defScope s__law_draws) .none kV5 dc5 pm5 an5 cd5 ct5), sl5⟩)
    (c5 : PySem.W.codeIn K cd5 "_law_draws" = true)
    (k5 : PySem.W.keepIn K (.ref f5) = true)
    (a6 : PySem.W.nsIn K mainGlobals "_law_pick" = some (some (.ref f6)))
    (l6 : K.lookup f6 = some ⟨oc6, od6, .func (PySem.W.fnOf "_law_pick" "_law_pick" (defArgs s__law_pick) (defBody s__law_pick) (defScope s__law_pick) .none kV6 dc6 pm6 an6 cd6 ct6), sl6⟩)
    (c6 : PySem.W.codeIn K cd6 "_law_pick" = true)
    (k6 : PySem.W.keepIn K (.ref f6) = true)
    (a7 : PySem.W.nsIn K mainGlobals "_law_one" = some (some (.ref f7)))
    (l7 : K.lookup f7 = some ⟨oc7, od7, .func (PySem.W.fnOf "_law_one" "_law_one" (defArgs s__law_one) (defBody s__law_one) (defScope s__law_one) .none kV7 dc7 pm7 an7 cd7 ct7), sl7⟩)
    (c7 : PySem.W.codeIn K cd7 "_law_one" = true)
    (k7 : PySem.W.keepIn K (.ref f7) = true)
    (a8 : PySem.W.nsIn K mainGlobals "_law_signs" = some (some (.ref f8)))
    (l8 : K.lookup f8 = some ⟨oc8, od8, .func (PySem.W.fnOf "_law_signs" "_law_signs" (defArgs s__law_signs) (defBody s__law_signs) (defScope s__law_signs) .none kV8 dc8 pm8 an8 cd8 ct8), sl8⟩)
    (c8 : PySem.W.codeIn K cd8 "_law_signs" = true)
    (k8 : PySem.W.keepIn K (.ref f8) = true)
    (a9 : PySem.W.nsIn K mainGlobals "_law_shaped" = some (some (.ref f9)))
    (l9 : K.lookup f9 = some ⟨oc9, od9, .func (PySem.W.fnOf "_law_shaped" "_law_shaped" (defArgs s__law_shaped) (defBody s__law_shaped) (defScope s__law_shaped) .none kV9 dc9 pm9 an9 cd9 ct9), sl9⟩)
    (c9 : PySem.W.codeIn K cd9 "_law_shaped" = true)
    (k9 : PySem.W.keepIn K (.ref f9) = true)
    (a10 : PySem.W.nsIn K mainGlobals "_law_refused" = some (some (.ref f10)))
    (l10 : K.lookup f10 = some ⟨oc10, od10, .func (PySem.W.fnOf "_law_refused" "_law_refused" (defArgs s__law_refused) (defBody s__law_refused) (defScope s__law_refused) .none kV10 dc10 pm10 an10 cd10 ct10), sl10⟩)
    (c10 : PySem.W.codeIn K cd10 "_law_refused" = true)
    (k10 : PySem.W.keepIn K (.ref f10) = true)
    (a11 : PySem.W.nsIn K mainGlobals "law" = some (some (.ref f11)))
    (l11 : K.lookup f11 = some ⟨oc11, od11, .func (PySem.W.fnOf "law" "law" (defArgs s_law) (defBody s_law) (defScope s_law) .none kV11 dc11 pm11 an11 cd11 ct11), sl11⟩)
    (c11 : PySem.W.codeIn K cd11 "law" = true)
    (k11 : PySem.W.keepIn K (.ref f11) = true)
    (gSnippetError : PySem.W.nsIn K mainGlobals "SnippetError" = some (some (.ref CSnippetError)))
    (gBadSnippet : PySem.W.nsIn K mainGlobals "BadSnippet" = some (some (.ref CBadSnippet)))
    (gBadShape : PySem.W.nsIn K mainGlobals "BadShape" = some (some (.ref CBadShape)))
    (gMissing : PySem.W.nsIn K mainGlobals "Missing" = some (some (.ref CMissing)))
    (xC : K.lookup CBadShape = some (excClassObj nmB qB CBadShape NB bsB bmB true snB subB abB colB ddB kx0 kx1 kx2 kx3 kx5 "ValueError.__new__"))
    (xm : PySem.HandSPX.refsVE bmB = true)
    (xsa : PySem.W.findIn K (.ref CBadShape) "__setattr__" = some (some (.builtin "object.__setattr__")))
    (xex : PySem.W.subIn K (.ref CBadShape) (.type "BaseException") = some true)
    (xty : PySem.W.typeIn K (.ref CBadShape) = some (.type "type"))
    (xk : PySem.W.keepIn K (.ref CBadShape) = true)
    (iI : PySem.W.findIn K (.ref CBadShape) "__init__" = some (some (.ref fI)))
    (tI : PySem.W.typeIn K (.ref fI) = some (.type "function"))
    (lI : K.lookup fI = some ⟨ocI, odI, .func (PySem.W.fnOf "__init__" "BadShape.__init__" (defArgs sI) (defBody sI) (defScope sI) .none kVI dcI pmI anI cdI ctI), slI⟩)
    (cI : PySem.W.codeIn K cdI "BadShape.__init__" = true)
    (kI : PySem.W.keepIn K (.ref fI) = true)
    (bga : PySem.W.specialIn K (.ref CSnippetError) "__getattribute__" = some (some (.builtin "type.__getattribute__")))
    (brd : PySem.W.readsIn K CSnippetError (.type "type") = true)
    (bfc : PySem.W.findCls K (.ref CSnippetError) (.type "type") "__init__" = some (.val (.builtin "ValueError.__init__")))
    (ngv : PySem.W.findIn K (.ref CBadShape) "given" = some none)
    (e1b : PySem.W.subIn K (.ref CSnippetError) (.type "BaseException") = some true)
    (e1d : PySem.W.hasDictIn K CSnippetError = true)
    (e1t : PySem.W.typeIn K (.ref CSnippetError) = some (.type "type"))
    (e1s : PySem.W.subIn K (.ref CBadShape) (.ref CSnippetError) = some true)
    (e2b : PySem.W.subIn K (.ref CMissing) (.type "BaseException") = some true)
    (e2d : PySem.W.hasDictIn K CMissing = true)
    (e2t : PySem.W.typeIn K (.ref CMissing) = some (.type "type"))
    (e2s : PySem.W.subIn K (.ref CBadShape) (.ref CMissing) = some false)
    (e3b : PySem.W.subIn K (.ref CBadSnippet) (.type "BaseException") = some true)
    (e3d : PySem.W.hasDictIn K CBadSnippet = true)
    (e3t : PySem.W.typeIn K (.ref CBadSnippet) = some (.type "type"))
    (e3s : PySem.W.subIn K (.ref CBadShape) (.ref CBadSnippet) = some false)
    (eg : PySem.W.findIn K (.ref CBadShape) "__getattribute__" = some (some (.builtin "BaseException.__getattribute__")))
    (ek : PySem.W.findIn K (.ref CBadShape) "__getattr__" = some none)
    (ed : PySem.W.hasDictIn K CBadShape = true)
    (ea : PySem.W.findIn K (.ref CBadShape) "__class__" = some (some (.builtin "object.__class__")))
    (en : PySem.W.specialIn K (.builtin "object.__class__") "__get__" = some (some (.builtin "getset_descriptor.__get__")))
    (et : PySem.W.takesIn K (.builtin "object.__class__") = some true)
    (em : PySem.W.mroIn K CBadShape (.type "object") = some true)
    (e3n : (Value.ref CBadShape == Value.ref CBadSnippet) = false)
    (gS : PySem.W.nsIn K mainGlobals "SHAPES" = some (some (.ref aS)))
    (lS : K.lookup aS = some ⟨.type "tuple", ddS, .seq #[.str "" t0, .str "upper" t1, .str "lower" t2, .str "first" t3, .str "title" t4] nS, slS⟩)
    (hcd : cd11 = .ref cL)
    (lc : K.lookup cL = some ⟨eL, ddL, .fields vsL, slL⟩)
    (v11 : vsL[11]? = some (.ref PL))
    (nP : K.lookup PL = none)
    (z_enumerate : PySem.W.nsIn K mainGlobals "enumerate" = some none)
    (z_int : PySem.W.nsIn K mainGlobals "int" = some none)
    (z_isinstance : PySem.W.nsIn K mainGlobals "isinstance" = some none)
    (z_len : PySem.W.nsIn K mainGlobals "len" = some none)
    (z_min : PySem.W.nsIn K mainGlobals "min" = some none)
    (z_range : PySem.W.nsIn K mainGlobals "range" = some none)
    (z_repr : PySem.W.nsIn K mainGlobals "repr" = some none)
    (z_str : PySem.W.nsIn K mainGlobals "str" = some none)
    (hrec : ((recsOf pr).any fun e => e.name == ("law" : Str)) = true)
    : LawG l w K 7 63 "_law_script" mg fa h := by
  have e := hfa.symm.trans (PySem.W.mg_of X G a11)
  cases e
  have F0 := fun_mk (st := s_need_shape) l0 c0 k0
  have m0 := PySem.W.mg_of X G a0
  have F1 := fun_mk (st := s_changed) l1 c1 k1
  have m1 := PySem.W.mg_of X G a1
  have F2 := fun_mk (st := s_shaped) l2 c2 k2
  have m2 := PySem.W.mg_of X G a2
  have F3 := fun_mk (st := s_then_shape) l3 c3 k3
  have m3 := PySem.W.mg_of X G a3
  have F4 := fun_mk (st := s_then) l4 c4 k4
  have m4 := PySem.W.mg_of X G a4
  have F5 := fun_mk (st := s__law_draws) l5 c5 k5
  have m5 := PySem.W.mg_of X G a5
  have F6 := fun_mk (st := s__law_pick) l6 c6 k6
  have m6 := PySem.W.mg_of X G a6
  have F7 := fun_mk (st := s__law_one) l7 c7 k7
  have m7 := PySem.W.mg_of X G a7
  have F8 := fun_mk (st := s__law_signs) l8 c8 k8
  have m8 := PySem.W.mg_of X G a8
  have F9 := fun_mk (st := s__law_shaped) l9 c9 k9
  have m9 := PySem.W.mg_of X G a9
  have F10 := fun_mk (st := s__law_refused) l10 c10 k10
  have m10 := PySem.W.mg_of X G a10
  have F11 := fun_mk (st := s_law) l11 c11 k11
  have m11 := PySem.W.mg_of X G a11
  have FI := fun_mk (st := sI) lI cI kI
  subst hcd
  obtain ⟨tH, tE⟩ := tab "law" _ _ _ _ _ _ _ _ _ hrec m11 l11 rfl rfl lc v11
  refine ⟨PySem.W.fnOf "law" "law" (defArgs s_law) (defBody s_law) (defScope s_law) .none kV11 dc11 pm11 an11 (.ref cL) ct11, [(cL, PL, (envOfC "law" (defScope s_law) 0 0 .none).qual ++ "<lambda>")], F_law ⟨CSnippetError, CBadSnippet, CBadShape, CMissing, aS, f10, cL, PL⟩, ?_, ?_, ?_, fun s u => .of_eq rfl, fun ns hn _ => law_true _ ns hn, fun base kin gns TB => ?_⟩
  · intro p hp; rw [List.mem_singleton.mp hp]; exact tE
  · intro p hp; rw [List.mem_singleton.mp hp]; exact nP
  · intro p hp; rw [List.mem_singleton.mp hp]; exact tH
  have TB0 := TB _ (List.mem_singleton.mpr rfl)
  have exm : PySem.W.exmAny K (.ref CBadShape) [.ref CSnippetError, .ref CMissing] = some true := by simp only [PySem.W.exmAny, PySem.W.exm_ref e1b e1d e1t e1s, PySem.W.exm_ref e2b e2d e2t e2s]; rfl
  have kt : PySem.W.kitOne K (.ref CBadShape) (.ref CBadShape) = some true := by unfold PySem.W.kitOne; rw [if_pos (by simp)]
  have kf : PySem.W.kitOne K (.ref CBadShape) (.ref CBadSnippet) = some false := by
    have z := PySem.W.exm_ref e3b e3d e3t e3s
    unfold PySem.W.exmOne at z
    rw [e3b, if_pos (by rfl)] at z
    unfold PySem.W.kitOne
    rw [e3n, if_neg Bool.false_ne_true]; exact z
  have ox : OexC K CBadShape := ⟨⟨_, _, _, _, _, _, _, _, _, _, _, _, _, _, _, xC, xm⟩, xsa, xex, xty, xk⟩
  have bc : BaseC K CSnippetError := ⟨bga, brd, bfc⟩
  have ec : L2.ExcC K CBadShape := ⟨eg, ek, xex, ed, ea, en, et, em⟩
  have oi : FnOk l.prog w K mg base (L2.CX l.prog w) 1 fI _ ["self", "given"] (spI K CBadShape ["given"]) := init1 (tx := "not a shape") FI sc_I rfl rfl fun cdv A outer s H E =>
    pss_cons (ps_expr (pe_binit bc rfl (PySem.W.mg_of X G gSnippetError) (pa_cons (pv 0) (pa_cons pe_str pa_nil)) (by decide))) (pss_one (ps_ost (pv 0) (pv 1)))
  have g : Gx l.prog w K mg base ⟨CSnippetError, CBadSnippet, CBadShape, CMissing, aS, f10, cL, PL⟩ := {
    f_enumerate := PySem.W.mg_none_of X G z_enumerate
    f_int := PySem.W.mg_none_of X G z_int
    f_isinstance := PySem.W.mg_none_of X G z_isinstance
    f_len := PySem.W.mg_none_of X G z_len
    f_min := PySem.W.mg_none_of X G z_min
    f_range := PySem.W.mg_none_of X G z_range
    f_repr := PySem.W.mg_none_of X G z_repr
    f_str := PySem.W.mg_none_of X G z_str
    m_SHAPES := PySem.W.mg_of X G gS
    r_SHAPES := fun al H => rp_ktup lS rfl rfl (by show 5 ≤ sizeLine; decide) (vs := [.str "", .str "upper", .str "lower", .str "first", .str "title"]) (.cons ⟨_, rfl⟩ (.cons ⟨_, rfl⟩ (.cons ⟨_, rfl⟩ (.cons ⟨_, rfl⟩ (.cons ⟨_, rfl⟩ .nil))))) (rps_strs ["", "upper", "lower", "first", "title"])
    m_SnippetError := PySem.W.mg_of X G gSnippetError
    m_BadSnippet := PySem.W.mg_of X G gBadSnippet
    m_BadShape := PySem.W.mg_of X G gBadShape
    m_Missing := PySem.W.mg_of X G gMissing
    k_BadShape := ⟨⟨fI, _, _, oi, iI, tI, FI.binds fun _ _ _ _ _ _ us hl => match us, hl with | [_, _], _ => rfl⟩, ox, fun x hx => by rw [List.mem_singleton.mp hx]; exact ngv, PySem.W.mg_of X G gBadShape⟩
    t_SnippetError_Missing := fun C b hb => by
      unfold t_SnippetError_Missing at hb; split at hb
      · rename_i z; cases hb; rw [z]; exact exm
      · cases hb
    i_BadShape := fun C b hb => by
      unfold is_BadShape at hb; split at hb
      · rename_i z; cases hb; rw [z]; exact ⟨ec, kt⟩
      · cases hb
    i_BadSnippet := fun C b hb => by
      unfold is_BadSnippet at hb; split at hb
      · rename_i z; cases hb; rw [z]; exact ⟨ec, kf⟩
      · cases hb
    x_given := fun C hC => by
      have z := of_decide_eq_true hC
      rw [z]; exact ⟨⟨eg, ek, xex, ed⟩, ngv⟩ }
  have x0 := fx_need_shape (T := T_law ⟨CSnippetError, CBadSnippet, CBadShape, CMissing, aS, f10, cL, PL⟩) g  F0 m0
  have x1 := fx_changed (T := T_law ⟨CSnippetError, CBadSnippet, CBadShape, CMissing, aS, f10, cL, PL⟩) g  F1 m1
  have x2 := fx_shaped (T := T_law ⟨CSnippetError, CBadSnippet, CBadShape, CMissing, aS, f10, cL, PL⟩) g x1 x0 F2 m2
  have x3 := fx_then_shape (T := T_law ⟨CSnippetError, CBadSnippet, CBadShape, CMissing, aS, f10, cL, PL⟩) g  F3 m3
  have x4 := fx_then (T := T_law ⟨CSnippetError, CBadSnippet, CBadShape, CMissing, aS, f10, cL, PL⟩) g x3 x0 F4 m4
  have x5 := fx__law_draws (T := T_law ⟨CSnippetError, CBadSnippet, CBadShape, CMissing, aS, f10, cL, PL⟩) g  F5 m5
  have x6 := fx__law_pick (T := T_law ⟨CSnippetError, CBadSnippet, CBadShape, CMissing, aS, f10, cL, PL⟩) g  F6 m6
  have x7 := fx__law_one (T := T_law ⟨CSnippetError, CBadSnippet, CBadShape, CMissing, aS, f10, cL, PL⟩) g x6 F7 m7
  have x8 := fx__law_signs (T := T_law ⟨CSnippetError, CBadSnippet, CBadShape, CMissing, aS, f10, cL, PL⟩) g  F8 m8
  have x9 := fx__law_shaped (T := T_law ⟨CSnippetError, CBadSnippet, CBadShape, CMissing, aS, f10, cL, PL⟩) g  F9 m9
  exact ok_law g x4 x2 x9 x7 x8 x6 x5 m10 F10 F11 rfl TB0
end K01
set_option Elab.async false
set_option linter.all false
set_option autoImplicit false
set_option maxRecDepth 100000
set_option maxHeartbeats 4000000
open PySem PySem.W PyProof.Rows
set_option maxRecDepth 100000 in
set_option maxHeartbeats 0 in
theorem PySem.Challenge.cw_mirrorstops_k01_shapes_holds : PySem.Challenge.rw_mirrorstops_k01_shapes.Holds := by
  w_on; o_law; k_head; (case hw => w_witness2)
  k_fill
  refine DL.walk_G (l := PySem.Challenge.rw_mirrorstops_k01_shapes) (n := 63) (k := 7) (x := "_law_script") rfl (by decide) rfl ⟨rfl, by decide, by decide⟩ (fun w h Y => PySem.W.km_in_of Y) ?F
  case F =>
    intro w mg fa h Y KX G hmg tab
    refine' K01.all_mk KX G hmg tab ?a0 ?l0 ?c0 ?k0 ?a1 ?l1 ?c1 ?k1 ?a2 ?l2 ?c2 ?k2 ?a3 ?l3 ?c3 ?k3 ?a4 ?l4 ?c4 ?k4 ?a5 ?l5 ?c5 ?k5 ?a6 ?l6 ?c6 ?k6 ?a7 ?l7 ?c7 ?k7 ?a8 ?l8 ?c8 ?k8 ?a9 ?l9 ?c9 ?k9 ?a10 ?l10 ?c10 ?k10 ?a11 ?l11 ?c11 ?k11 ?gSnippetError ?gBadSnippet ?gBadShape ?gMissing ?xC ?xm ?xsa ?xex ?xty ?xk ?iI ?tI ?lI ?cI ?kI ?bga ?brd ?bfc ?ngv ?e1b ?e1d ?e1t ?e1s ?e2b ?e2d ?e2t ?e2s ?e3b ?e3d ?e3t ?e3s ?eg ?ek ?ed ?ea ?en ?et ?em ?e3n ?gS ?lS ?hcd ?lc ?v11 ?nP ?z_enumerate ?z_int ?z_isinstance ?z_len ?z_min ?z_range ?z_repr ?z_str ?hrec
    (case a0 => k_is)
    (case l0 => k_is)
    (case c0 => k_is)
    (case k0 => k_is)
    (case a1 => k_is)
    (case l1 => k_is)
    (case c1 => k_is)
    (case k1 => k_is)
    (case a2 => k_is)
    (case l2 => k_is)
    (case c2 => k_is)
    (case k2 => k_is)
    (case a3 => k_is)
    (case l3 => k_is)
    (case c3 => k_is)
    (case k3 => k_is)
    (case a4 => k_is)
    (case l4 => k_is)
    (case c4 => k_is)
    (case k4 => k_is)
    (case a5 => k_is)
    (case l5 => k_is)
    (case c5 => k_is)
    (case k5 => k_is)
    (case a6 => k_is)
    (case l6 => k_is)
    (case c6 => k_is)
    (case k6 => k_is)
    (case a7 => k_is)
    (case l7 => k_is)
    (case c7 => k_is)
    (case k7 => k_is)
    (case a8 => k_is)
    (case l8 => k_is)
    (case c8 => k_is)
    (case k8 => k_is)
    (case a9 => k_is)
    (case l9 => k_is)
    (case c9 => k_is)
    (case k9 => k_is)
    (case a10 => k_is)
    (case l10 => k_is)
    (case c10 => k_is)
    (case k10 => k_is)
    (case a11 => k_is)
    (case l11 => k_is)
    (case c11 => k_is)
    (case k11 => k_is)
    (case gSnippetError => k_is)
    (case gBadSnippet => k_is)
    (case gBadShape => k_is)
    (case gMissing => k_is)
    (case xC => k_is)
    (case xm => first | rfl | k_is)
    (case xsa => k_is)
    (case xex => k_is)
    (case xty => k_is)
    (case xk => k_is)
    (case iI => k_is)
    (case tI => k_is)
    (case lI => k_is)
    (case cI => k_is)
    (case kI => k_is)
    (case bga => k_is)
    (case brd => k_is)
    (case bfc => k_is)
    (case ngv => k_is)
    (case e1b => k_is)
    (case e1d => k_is)
    (case e1t => k_is)
    (case e1s => k_is)
    (case e2b => k_is)
    (case e2d => k_is)
    (case e2t => k_is)
    (case e2s => k_is)
    (case e3b => k_is)
    (case e3d => k_is)
    (case e3t => k_is)
    (case e3s => k_is)
    (case eg => k_is)
    (case ek => k_is)
    (case ed => k_is)
    (case ea => k_is)
    (case en => k_is)
    (case et => k_is)
    (case em => k_is)
    (case e3n => rfl)
    (case gS => k_is)
    (case lS => k_is)
    (case hcd => rfl)
    (case lc => k_is)
    (case v11 => rfl)
    (case nP => kernel_rfl)
    (case z_enumerate => k_is)
    (case z_int => k_is)
    (case z_isinstance => k_is)
    (case z_len => k_is)
    (case z_min => k_is)
    (case z_range => k_is)
    (case z_repr => k_is)
    (case z_str => k_is)
    (case hrec => kernel_rfl)
