import PyProof.Rows.All
import Wide.All
import OpenK.AllK
import Wide.FinOn
import HandS.ForExc
import HandS.ForMost
import HandS.Wide
import HandS.TupAny
import HandS.TupLe
import HandS.TupMul
import HandS.Defaults
import HandS.MakeKwOnly
import HandS.IsInst
import HandS.Style
import HandS.Flow
import HandS.EndBits
import HandS.Codes
import KE.KStateDown
import HandS.Head0
import HandS.Head1
import HandS.Head2
import HandS.HeadEnd
import HandS.HeadHook1
import HandS.HeadHook2
import PySem.Challenge.RW_eventledger_k06_a_store_and_its_steps
set_option Elab.async false
set_option linter.all false
set_option maxRecDepth 100000
set_option maxHeartbeats 4000000
/-! A layer of plain data over the hand layer: values are data (tuples and lists that nobody changes are seen through), what changes stands in a store by its address; a piece of syntax is read as a predicate transformer over data and store. -/
namespace DL
open PySem PySem.Spec PyProof.Rows L2

inductive DV where
  | non | bl (b : Bool) | int (i : Int) | str (x : Str) | tup (ds : List DV) | lst (ds : List DV) | scr (ds : List DV) | ref (a : Addr) | ty (n : String)

inductive MO where
  | hid
  | lst (ds : List DV)
  | dK (ks : List (Key × DV))
  | ins (C : Addr) (fs : List (Str × DV))

abbrev Sto := Addr → Option MO
def up (s : Sto) (a : Addr) (m : MO) : Sto := fun b => if b = a then some m else s b
def er (s : Sto) (a : Addr) : Sto := fun b => if b = a then none else s b
theorem up_same {s : Sto} {a : Addr} {m : MO} : up s a m a = some m := by unfold up; rw [if_pos rfl]
theorem up_ne {s : Sto} {a b : Addr} {m : MO} (h : b ≠ a) : up s a m b = s b := by unfold up; rw [if_neg h]
theorem er_same {s : Sto} {a : Addr} : er s a a = none := by unfold er; rw [if_pos rfl]
theorem er_ne {s : Sto} {a b : Addr} (h : b ≠ a) : er s a b = s b := by unfold er; rw [if_neg h]
theorem up_up {s : Sto} {a : Addr} {m n : MO} : up (up s a m) a n = up s a n := by
  funext b
  by_cases e : b = a
  · rw [e, up_same, up_same]
  · rw [up_ne e, up_ne e, up_ne e]
theorem er_up {s : Sto} {a : Addr} {m : MO} : er (up s a m) a = er s a := by
  funext b
  by_cases e : b = a
  · rw [e, er_same, er_same]
  · rw [er_ne e, up_ne e, er_ne e]
theorem er_none {s : Sto} {a : Addr} (h : s a = none) : er s a = s := by
  funext b
  unfold er
  split
  · rename_i e; rw [e, h]
  · rfl
theorem up_id {s : Sto} {a : Addr} {m : MO} (h : s a = some m) : up s a m = s := by
  funext b
  by_cases e : b = a
  · rw [e, up_same, h]
  · rw [up_ne e]
theorem up_comm {s : Sto} {a b : Addr} {m n : MO} (h : a ≠ b) : up (up s a m) b n = up (up s b n) a m := by
  funext c
  unfold up
  by_cases h1 : c = b
  · by_cases h2 : c = a
    · exact absurd (h2.symm.trans h1) h
    · simp [h1, Ne.symm h]
  · simp [h1]
theorem er_up_ne {s : Sto} {a b : Addr} {m : MO} (h : b ≠ a) : er (up s a m) b = up (er s b) a m := by
  funext c
  unfold up er
  by_cases h1 : c = b
  · by_cases h2 : c = a
    · exact absurd (h1.symm.trans h2) h
    · simp [h1, h]
  · simp [h1]

/-- a list of the written part -/
def KLst (K : PySem.W.Frag) (a : Addr) (xs : List V) : Prop :=
  ∃ (o : Obj) (its : Array Value) (n : Nat), K.lookup a = some o ∧ o.cls = .type "list" ∧ o.dict = none ∧ o.data = .seq its n ∧ its.size ≤ sizeLine ∧ Vals xs its.toList
/-- a list that cannot be changed (the script, a written one) -/
def ScrL (K : PySem.W.Frag) (H : Hp) (a : Addr) (xs : List V) : Prop := (∃ o, H a = some (.frz o (.lst xs))) ∨ KLst K a xs
mutual
/-- a value is some data -/
inductive Dat (K : PySem.W.Frag) (s : Sto) (H : Hp) : V → DV → Prop
  | non : Dat K s H .non .non
  | bl (b : Bool) : Dat K s H (.bl b) (.bl b)
  | int (i : Int) : Dat K s H (.int i) (.int i)
  | str (x : Str) : Dat K s H (.str x) (.str x)
  | ty (n : String) : Dat K s H (.ty n) (.ty n)
  | ref (a : Addr) : Dat K s H (.ref a) (.ref a)
  | tup {a : Addr} {xs : List V} {ds : List DV} : SqT K H a xs → DatL K s H xs ds → Dat K s H (.ref a) (.tup ds)
  | lst {a : Addr} {xs : List V} {ds : List DV} : H a = some (.lst xs) → s a = none → DatL K s H xs ds → Dat K s H (.ref a) (.lst ds)
  | scr {a : Addr} {xs : List V} {ds : List DV} : ScrL K H a xs → DatL K s H xs ds → Dat K s H (.ref a) (.scr ds)
inductive DatL (K : PySem.W.Frag) (s : Sto) (H : Hp) : List V → List DV → Prop
  | nil : DatL K s H [] []
  | cons {v : V} {vs : List V} {d : DV} {ds : List DV} : Dat K s H v d → DatL K s H vs ds → DatL K s H (v :: vs) (d :: ds)
end
def DatP (K : PySem.W.Frag) (s : Sto) (H : Hp) {κ : Type} : List (κ × V) → List (κ × DV) → Prop := Paired fun p q => p.1 = q.1 ∧ Dat K s H p.2 q.2

def RepO (K : PySem.W.Frag) (s : Sto) (H : Hp) (a : Addr) : MO → Prop
  | .hid => ∃ o, H a = some o
  | .lst ds => ∃ xs, H a = some (.lst xs) ∧ DatL K s H xs ds
  | .dK ks => ∃ kvs, H a = some (.dK kvs) ∧ DatP K s H kvs ks
  | .ins C fs => ∃ dx gs, H a = some (.ins C dx gs) ∧ DatP K s H gs fs
/-- the store is held -/
def Rep (K : PySem.W.Frag) (s : Sto) (H : Hp) : Prop := ∀ a m, s a = some m → RepO K s H a m
/-- what is not in the store stays -/
def Stp (s : Sto) (H : Hp) (s' : Sto) (H' : Hp) : Prop := ∀ a o, H a = some o → s a = none ∨ s a = some .hid → H' a = some o ∧ s' a = s a
theorem Stp.refl (s : Sto) (H : Hp) : Stp s H s H := fun _ _ h _ => ⟨h, rfl⟩
theorem Stp.trans {s s1 s2 : Sto} {H H1 H2 : Hp} (a : Stp s H s1 H1) (b : Stp s1 H1 s2 H2) : Stp s H s2 H2 := fun x o h n => by
  obtain ⟨h1, e1⟩ := a x o h n
  obtain ⟨h2, e2⟩ := b x o h1 (by rw [e1]; exact n)
  exact ⟨h2, e2.trans e1⟩
theorem Stp.new {s : Sto} {H : Hp} {p : Addr} {o : HO} {m : MO} (h : H p = none) : Stp s H (up s p m) (upd H p o) := fun a u e _ => by
  have n := ne_of_none e h
  exact ⟨by rw [upd_ne n]; exact e, up_ne n⟩
theorem Stp.newF {s : Sto} {H : Hp} {p : Addr} {o : HO} (h : H p = none) : Stp s H s (upd H p o) := fun a u e _ => by
  have n := ne_of_none e h
  exact ⟨by rw [upd_ne n]; exact e, rfl⟩
def Chg : Option MO → Prop
  | some (.lst _) => True
  | some (.dK _) => True
  | some (.ins _ _) => True
  | _ => False
theorem Stp.wr {s : Sto} {H : Hp} {p : Addr} {o : HO} {m : MO} (h : Chg (s p)) : Stp s H (up s p m) (upd H p o) := fun a u e n => by
  have ne : a ≠ p := fun z => by
    subst z
    rcases n with n | n
    · rw [n] at h; exact h
    · rw [n] at h; exact h
  exact ⟨by rw [upd_ne ne]; exact e, up_ne ne⟩
section
variable {K : PySem.W.Frag} {s s' : Sto} {H H' : Hp}
theorem Rep.known (rep : Rep K s H) {a : Addr} {m : MO} (h : s a = some m) : ∃ o, H a = some o := by
  have r := rep a m h
  cases m with
  | hid => exact r
  | lst ds => obtain ⟨xs, h, _⟩ := r; exact ⟨_, h⟩
  | dK ks => obtain ⟨xs, h, _⟩ := r; exact ⟨_, h⟩
  | ins C fs => obtain ⟨dx, gs, h, _⟩ := r; exact ⟨_, h⟩
theorem Rep.fresh (rep : Rep K s H) {a : Addr} (h : H a = none) : s a = none := by
  cases e : s a with
  | none => rfl
  | some m =>
    obtain ⟨o, q⟩ := rep.known e
    rw [h] at q
    cases q
theorem Rep.imm (rep : Rep K s H) {a : Addr} {o : HO} (h : H a = some o) (h1 : ∀ xs, o ≠ .lst xs) (h2 : ∀ kvs, o ≠ .dK kvs) (h3 : ∀ C dx fs, o ≠ .ins C dx fs) : s a = none ∨ s a = some .hid := by
  cases e : s a with
  | none => exact .inl rfl
  | some m =>
    have r := rep a m e
    cases m with
    | hid => exact .inr rfl
    | lst ds => obtain ⟨xs, q, _⟩ := r; rw [h] at q; cases q; exact absurd rfl (h1 xs)
    | dK ks => obtain ⟨xs, q, _⟩ := r; rw [h] at q; cases q; exact absurd rfl (h2 xs)
    | ins C fs => obtain ⟨dx, gs, q, _⟩ := r; rw [h] at q; cases q; exact absurd rfl (h3 C dx gs)
theorem sqT_step (st : Stp s H s' H') (rep : Rep K s H) {a : Addr} {xs : List V} (h : SqT K H a xs) : SqT K H' a xs := by
  rcases h with (h | ⟨o, h⟩) | h
  · exact .inl (.inl (st a _ h (rep.imm h (fun _ z => nomatch z) (fun _ z => nomatch z) (fun _ _ _ z => nomatch z))).1)
  · exact .inl (.inr ⟨o, (st a _ h (rep.imm h (fun _ z => nomatch z) (fun _ z => nomatch z) (fun _ _ _ z => nomatch z))).1⟩)
  · exact .inr h
theorem scrL_step (st : Stp s H s' H') (rep : Rep K s H) {a : Addr} {xs : List V} (h : ScrL K H a xs) : ScrL K H' a xs := by
  rcases h with ⟨o, h⟩ | h
  · exact .inl ⟨o, (st a _ h (rep.imm h (fun _ z => nomatch z) (fun _ z => nomatch z) (fun _ _ _ z => nomatch z))).1⟩
  · exact .inr h
theorem ScrL.sq {a : Addr} {xs : List V} (h : ScrL K H a xs) : SqL K H a xs := by
  rcases h with ⟨o, h⟩ | h
  · exact .inl (.inr ⟨o, h⟩)
  · exact .inr h
mutual
theorem Dat.step (st : Stp s H s' H') (rep : Rep K s H) : ∀ {v : V} {d : DV}, Dat K s H v d → Dat K s' H' v d
  | _, _, .non => .non
  | _, _, .bl b => .bl b
  | _, _, .int i => .int i
  | _, _, .str x => .str x
  | _, _, .ty n => .ty n
  | _, _, .ref a => .ref a
  | _, _, .tup h l => .tup (sqT_step st rep h) (DatL.step st rep l)
  | _, _, .lst h n l => .lst (st _ _ h (.inl n)).1 ((st _ _ h (.inl n)).2.trans n) (DatL.step st rep l)
  | _, _, .scr h l => .scr (scrL_step st rep h) (DatL.step st rep l)
theorem DatL.step (st : Stp s H s' H') (rep : Rep K s H) : ∀ {vs : List V} {ds : List DV}, DatL K s H vs ds → DatL K s' H' vs ds
  | _, _, .nil => .nil
  | _, _, .cons h t => .cons (Dat.step st rep h) (DatL.step st rep t)
end
theorem DatP.step {κ : Type} (st : Stp s H s' H') (rep : Rep K s H) : ∀ {vs : List (κ × V)} {ds : List (κ × DV)}, DatP K s H vs ds → DatP K s' H' vs ds
  | _, _, .nil => .nil
  | _, _, .cons h t => .cons ⟨h.1, h.2.step st rep⟩ (DatP.step st rep t)
theorem RepO.step (st : Stp s H s' H') (rep : Rep K s H) {a : Addr} {m : MO} (ha : H' a = H a) (h : RepO K s H a m) : RepO K s' H' a m := by
  cases m with
  | hid => obtain ⟨o, h⟩ := h; exact ⟨o, ha.trans h⟩
  | lst ds => obtain ⟨xs, h, l⟩ := h; exact ⟨xs, ha.trans h, l.step st rep⟩
  | dK ks => obtain ⟨xs, h, l⟩ := h; exact ⟨xs, ha.trans h, l.step st rep⟩
  | ins C fs => obtain ⟨dx, xs, h, l⟩ := h; exact ⟨dx, xs, ha.trans h, l.step st rep⟩
/-- one address changes (or is new) -/
theorem Rep.put (rep : Rep K s H) {p : Addr} {m : MO} {o : HO} (st : Stp s H (up s p m) (upd H p o)) (h : RepO K (up s p m) (upd H p o) p m) : Rep K (up s p m) (upd H p o) := fun a n e => by
  by_cases ne : a = p
  · subst ne
    rw [up_same] at e
    cases e
    exact h
  · rw [up_ne ne] at e
    exact (rep a n e).step st rep (upd_ne ne)
theorem Rep.newF (rep : Rep K s H) {p : Addr} {o : HO} (h : H p = none) : Rep K s (upd H p o) := fun a n e => by
  have ne : a ≠ p := fun z => by
    obtain ⟨u, q⟩ := rep.known e
    rw [z, h] at q
    cases q
  exact (rep a n e).step (Stp.newF h) rep (upd_ne ne)
/-- dropping entries of the store -/
structure Sub (s' s : Sto) : Prop where
  le : ∀ a m, s' a = some m → s a = some m
  hid : ∀ a, s a = some .hid → s' a = some .hid
theorem Sub.refl (s : Sto) : Sub s s := ⟨fun _ _ h => h, fun _ h => h⟩
theorem Sub.trans {s1 s2 s3 : Sto} (a : Sub s1 s2) (b : Sub s2 s3) : Sub s1 s3 := ⟨fun x m h => b.le x m (a.le x m h), fun x h => a.hid x (b.hid x h)⟩
theorem Sub.er {s : Sto} {a : Addr} (h : s a ≠ some .hid) : Sub (er s a) s := ⟨fun x m e => by
  by_cases z : x = a
  · rw [z, er_same] at e; cases e
  · rw [er_ne z] at e; exact e, fun x e => by
  by_cases z : x = a
  · rw [z] at e; exact absurd e h
  · rw [er_ne z]; exact e⟩
theorem Sub.none {s s' : Sto} (b : Sub s' s) {a : Addr} (h : s a = none) : s' a = Option.none := by
  cases e : s' a with
  | none => rfl
  | some m => rw [b.le a m e] at h; cases h
mutual
theorem Dat.subN (b : ∀ a, s a = none → s' a = none) : ∀ {v : V} {d : DV}, Dat K s H v d → Dat K s' H v d
  | _, _, .non => .non
  | _, _, .bl b => .bl b
  | _, _, .int i => .int i
  | _, _, .str x => .str x
  | _, _, .ty n => .ty n
  | _, _, .ref a => .ref a
  | _, _, .tup h l => .tup h (DatL.subN b l)
  | _, _, .lst h n l => .lst h (b _ n) (DatL.subN b l)
  | _, _, .scr h l => .scr h (DatL.subN b l)
theorem DatL.subN (b : ∀ a, s a = none → s' a = none) : ∀ {vs : List V} {ds : List DV}, DatL K s H vs ds → DatL K s' H vs ds
  | _, _, .nil => .nil
  | _, _, .cons h t => .cons (Dat.subN b h) (DatL.subN b t)
end
theorem DatP.subN {κ : Type} (b : ∀ a, s a = none → s' a = none) : ∀ {vs : List (κ × V)} {ds : List (κ × DV)}, DatP K s H vs ds → DatP K s' H vs ds
  | _, _, .nil => .nil
  | _, _, .cons h t => .cons ⟨h.1, h.2.subN b⟩ (DatP.subN b t)
theorem RepO.subN (b : ∀ a, s a = none → s' a = none) {a : Addr} {m : MO} (h : RepO K s H a m) : RepO K s' H a m := by
  cases m with
  | hid => exact h
  | lst ds => obtain ⟨xs, h, l⟩ := h; exact ⟨xs, h, l.subN b⟩
  | dK ks => obtain ⟨xs, h, l⟩ := h; exact ⟨xs, h, l.subN b⟩
  | ins C fs => obtain ⟨dx, xs, h, l⟩ := h; exact ⟨dx, xs, h, l.subN b⟩
theorem Dat.sub (b : Sub s' s) {v : V} {d : DV} (h : Dat K s H v d) : Dat K s' H v d := h.subN fun _ => b.none
theorem DatL.sub (b : Sub s' s) {v : List V} {d : List DV} (h : DatL K s H v d) : DatL K s' H v d := h.subN fun _ => b.none
theorem DatP.sub {κ : Type} (b : Sub s' s) {v : List (κ × V)} {d : List (κ × DV)} (h : DatP K s H v d) : DatP K s' H v d := h.subN fun _ => b.none
theorem Rep.sub (b : Sub s' s) (rep : Rep K s H) : Rep K s' H := fun a m e => (rep a m (b.le a m e)).subN fun _ => b.none
/-- a hidden entry goes -/
theorem Rep.erase (rep : Rep K s H) (p : Addr) : Rep K (er s p) H := fun a m e => by
  have ne : a ≠ p := fun z => by rw [z, er_same] at e; cases e
  rw [er_ne ne] at e
  refine (rep a m e).subN fun x h => ?_
  by_cases z : x = p
  · rw [z, er_same]
  · rw [er_ne z]; exact h
theorem erN {p : Addr} : ∀ a, s a = none → er s p a = none := fun x h => by
  by_cases z : x = p
  · rw [z, er_same]
  · rw [er_ne z]; exact h
/-- a hidden list changes -/
theorem sqT_hid {D : Addr} {xs : List V} {o : HO} (hD : H D = some (.lst xs)) {a : Addr} {ys : List V} (h : SqT K H a ys) : SqT K (upd H D o) a ys := by
  rcases h with (h | ⟨u, h⟩) | h
  · exact .inl (.inl (by rw [upd_ne (ne_of h hD (fun z => nomatch z))]; exact h))
  · exact .inl (.inr ⟨u, by rw [upd_ne (ne_of h hD (fun z => nomatch z))]; exact h⟩)
  · exact .inr h
mutual
theorem Dat.hid {D : Addr} {xs : List V} {o : HO} (hs : s D = some .hid) (hD : H D = some (.lst xs)) : ∀ {v : V} {d : DV}, Dat K s H v d → Dat K s (upd H D o) v d
  | _, _, .non => .non
  | _, _, .bl b => .bl b
  | _, _, .int i => .int i
  | _, _, .str x => .str x
  | _, _, .ty n => .ty n
  | _, _, .ref a => .ref a
  | _, _, .tup h l => .tup (sqT_hid hD h) (DatL.hid hs hD l)
  | _, _, .lst (a := a) h n l => .lst (by rw [upd_ne (fun z => by rw [z, hs] at n; cases n)]; exact h) n (DatL.hid hs hD l)
  | _, _, .scr h l => .scr (by
      rcases h with ⟨u, h⟩ | h
      · exact .inl ⟨u, by rw [upd_ne (ne_of h hD (fun z => nomatch z))]; exact h⟩
      · exact .inr h) (DatL.hid hs hD l)
theorem DatL.hid {D : Addr} {xs : List V} {o : HO} (hs : s D = some .hid) (hD : H D = some (.lst xs)) : ∀ {vs : List V} {ds : List DV}, DatL K s H vs ds → DatL K s (upd H D o) vs ds
  | _, _, .nil => .nil
  | _, _, .cons h t => .cons (Dat.hid hs hD h) (DatL.hid hs hD t)
end
theorem DatP.hid {κ : Type} {D : Addr} {xs : List V} {o : HO} (hs : s D = some .hid) (hD : H D = some (.lst xs)) : ∀ {vs : List (κ × V)} {ds : List (κ × DV)}, DatP K s H vs ds → DatP K s (upd H D o) vs ds
  | _, _, .nil => .nil
  | _, _, .cons h t => .cons ⟨h.1, h.2.hid hs hD⟩ (DatP.hid hs hD t)
theorem Rep.hidden (rep : Rep K s H) {D : Addr} {xs : List V} {o : HO} (hs : s D = some .hid) (hD : H D = some (.lst xs)) : Rep K s (upd H D o) := fun a m e => by
  have h := rep a m e
  by_cases z : a = D
  · subst z
    rw [hs] at e; cases e
    exact ⟨o, upd_same⟩
  · cases m with
    | hid => obtain ⟨u, h⟩ := h; exact ⟨u, by rw [upd_ne z]; exact h⟩
    | lst ds => obtain ⟨ys, h, l⟩ := h; exact ⟨ys, by rw [upd_ne z]; exact h, l.hid hs hD⟩
    | dK ks => obtain ⟨ys, h, l⟩ := h; exact ⟨ys, by rw [upd_ne z]; exact h, l.hid hs hD⟩
    | ins C fs => obtain ⟨dx, ys, h, l⟩ := h; exact ⟨dx, ys, by rw [upd_ne z]; exact h, l.hid hs hD⟩
theorem Stp.sub {s0 : Sto} {H0 : Hp} (st : Stp s0 H0 s H) (b : Sub s' s) : Stp s0 H0 s' H := fun a o h n => by
  obtain ⟨h1, e1⟩ := st a o h n
  refine ⟨h1, ?_⟩
  rcases n with n | n
  · rw [n]; exact b.none (e1.trans n)
  · rw [n]; exact b.hid a (e1.trans n)
theorem Dat.lstInv {v : V} {ds : List DV} (h : Dat K s H v (.lst ds)) : ∃ a xs, v = .ref a ∧ H a = some (.lst xs) ∧ s a = none ∧ DatL K s H xs ds := by
  cases h with
  | lst h n l => exact ⟨_, _, rfl, h, n, l⟩
theorem Dat.scrInv {v : V} {ds : List DV} (h : Dat K s H v (.scr ds)) : ∃ a xs, v = .ref a ∧ ScrL K H a xs ∧ DatL K s H xs ds := by
  cases h with
  | scr h l => exact ⟨_, _, rfl, h, l⟩
theorem Dat.tupInv {v : V} {ds : List DV} (h : Dat K s H v (.tup ds)) : ∃ a xs, v = .ref a ∧ SqT K H a xs ∧ DatL K s H xs ds := by
  cases h with
  | tup h l => exact ⟨_, _, rfl, h, l⟩
theorem Dat.intInv {v : V} {i : Int} (h : Dat K s H v (.int i)) : v = .int i := by cases h; rfl
theorem Dat.strInv {v : V} {i : Str} (h : Dat K s H v (.str i)) : v = .str i := by cases h; rfl
theorem Dat.blInv {v : V} {i : Bool} (h : Dat K s H v (.bl i)) : v = .bl i := by cases h; rfl
theorem Dat.nonInv {v : V} (h : Dat K s H v .non) : v = .non := by cases h; rfl
theorem Dat.refInv {v : V} {a : Addr} (h : Dat K s H v (.ref a)) : v = .ref a := by cases h; rfl
theorem Dat.tyInv {v : V} {n : String} (h : Dat K s H v (.ty n)) : v = .ty n := by cases h; rfl
theorem DatL.length : ∀ {vs : List V} {ds : List DV}, DatL K s H vs ds → vs.length = ds.length
  | _, _, .nil => rfl
  | _, _, .cons _ t => congrArg Nat.succ t.length
theorem DatL.get : ∀ {vs : List V} {ds : List DV} {i : Nat} {v : V}, DatL K s H vs ds → vs[i]? = some v → ∃ d, ds[i]? = some d ∧ Dat K s H v d
  | _, _, _, _, .nil, e => by simp at e
  | _, _, 0, _, .cons h _, e => ⟨_, rfl, by cases (Option.some.inj e); exact h⟩
  | _, _, i + 1, _, .cons _ t, e => DatL.get (i := i) t e
theorem DatL.get' : ∀ {vs : List V} {ds : List DV} {i : Nat} {d : DV}, DatL K s H vs ds → ds[i]? = some d → ∃ v, vs[i]? = some v ∧ Dat K s H v d
  | _, _, _, _, .nil, e => by simp at e
  | _, _, 0, _, .cons h _, e => ⟨_, rfl, by cases (Option.some.inj e); exact h⟩
  | _, _, i + 1, _, .cons _ t, e => DatL.get' (i := i) t e
theorem DatL.append : ∀ {vs ws : List V} {ds es : List DV}, DatL K s H vs ds → DatL K s H ws es → DatL K s H (vs ++ ws) (ds ++ es)
  | _, _, _, _, .nil, b => b
  | _, _, _, _, .cons h t, b => .cons h (t.append b)
theorem DatL.take : ∀ {vs : List V} {ds : List DV} (n : Nat), DatL K s H vs ds → DatL K s H (vs.take n) (ds.take n)
  | _, _, 0, _ => .nil
  | _, _, _ + 1, .nil => .nil
  | _, _, n + 1, .cons h t => .cons h (t.take n)
theorem DatL.drop : ∀ {vs : List V} {ds : List DV} (n : Nat), DatL K s H vs ds → DatL K s H (vs.drop n) (ds.drop n)
  | _, _, 0, r => r
  | _, _, _ + 1, .nil => .nil
  | _, _, n + 1, .cons _ t => t.drop n
theorem DatL.setAt {v : V} {d : DV} (h : Dat K s H v d) : ∀ {vs : List V} {ds : List DV} (i : Nat), DatL K s H vs ds → DatL K s H (vs.set i v) (ds.set i d)
  | _, _, _, .nil => .nil
  | _, _, 0, .cons _ t => .cons h t
  | _, _, i + 1, .cons q t => .cons q (t.setAt h i)
theorem DatL.strs : ∀ {vs : List V} {zs : List Str}, DatL K s H vs (zs.map DV.str) → vs = zs.map V.str
  | _, [], .nil => rfl
  | _, z :: zs, .cons h t => by cases h; rw [DatL.strs t]; rfl
theorem DatL.of_strs : ∀ (zs : List Str), DatL K s H (zs.map V.str) (zs.map DV.str)
  | [] => .nil
  | z :: zs => .cons (.str z) (DatL.of_strs zs)
theorem DatL.of_ints : ∀ (zs : List Int), DatL K s H (zs.map V.int) (zs.map DV.int)
  | [] => .nil
  | z :: zs => .cons (.int z) (DatL.of_ints zs)
theorem DatL.flatten_rep {vs : List V} {ds : List DV} (h : DatL K s H vs ds) : ∀ n, DatL K s H (List.replicate n vs).flatten (List.replicate n ds).flatten
  | 0 => .nil
  | n + 1 => by
    rw [List.replicate_succ, List.replicate_succ, List.flatten_cons, List.flatten_cons]
    exact h.append (h.flatten_rep n)
end
end DL

set_option Elab.async false
set_option linter.all false
set_option maxRecDepth 100000
set_option maxHeartbeats 4000000
namespace DL
open PySem PySem.Spec PyProof.Rows L2

abbrev Ed := List (Option DV)
abbrev KD := DV → Sto → Prop
abbrev TEd := Ed → Sto → KD → Prop
abbrev TTd := Ed → Sto → (Bool → Sto → Prop) → Prop
abbrev TAd := Ed → Sto → (List DV → Sto → Prop) → Prop
structure EndsD where
  nx : Ed → Sto → Prop
  rt : KD
  bk : Ed → Sto → Prop := fun _ _ => False
  ct : Ed → Sto → Prop := fun _ _ => False
abbrev TSd := EndsD → Ed → Sto → Prop
abbrev TGd := DV → Ed → Sto → (Ed → Sto → Prop) → Prop
abbrev TGsd := List DV → Ed → Sto → (Ed → Sto → Prop) → Prop
/-- where a def began -/
structure Anc where
  s : Sto
  H : Hp
structure EnvR (K : PySem.W.Frag) (s : Sto) (H : Hp) (σ : L2.St) (δ : Ed) : Prop where
  len : σ.length = δ.length
  at_ : ∀ (i : Nat) (d : DV), δ[i]? = some (some d) → ∃ v, σ[i]? = some (some v) ∧ Dat K s H v d
structure Sd (K : PySem.W.Frag) (A : Anc) (σ : L2.St) (H : Hp) (δ : Ed) (s : Sto) : Prop where
  stp : Stp A.s A.H s H
  rep : Rep K s H
  env : EnvR K s H σ δ
section
variable {K : PySem.W.Frag} {A : Anc} {σ : L2.St} {H H2 : Hp} {δ : Ed} {s s2 : Sto}
theorem EnvR.step (e : EnvR K s H σ δ) (st : Stp s H s2 H2) (rep : Rep K s H) : EnvR K s2 H2 σ δ := ⟨e.len, fun i d h => by
  obtain ⟨v, h1, h2⟩ := e.at_ i d h
  exact ⟨v, h1, h2.step st rep⟩⟩
theorem Sd.go (S : Sd K A σ H δ s) (st : Stp s H s2 H2) (rep : Rep K s2 H2) : Sd K A σ H2 δ s2 := ⟨S.stp.trans st, rep, S.env.step st S.rep⟩
theorem EnvR.set (e : EnvR K s H σ δ) {v : V} {d : DV} (h : Dat K s H v d) (i : Nat) : EnvR K s H (σ.set i (some v)) (δ.set i (some d)) := ⟨by simp [e.len], fun j x hj => by
  by_cases c : i = j
  · subst c
    have hl : i < (δ.set i (some d)).length := by
      rcases Nat.lt_or_ge i (δ.set i (some d)).length with z | z
      · exact z
      · rw [List.getElem?_eq_none z] at hj; cases hj
    have hd : i < δ.length := by simpa using hl
    rw [List.getElem?_set_self hd] at hj
    cases hj
    exact ⟨v, List.getElem?_set_self (by rw [e.len]; exact hd), h⟩
  · rw [List.getElem?_set_ne c] at hj
    rw [List.getElem?_set_ne c]
    exact e.at_ j x hj⟩
theorem EnvR.unset (e : EnvR K s H σ δ) (i : Nat) (v : Option V) : EnvR K s H (σ.set i v) (δ.set i none) := ⟨by simp [e.len], fun j x hj => by
  by_cases c : i = j
  · subst c
    rcases Nat.lt_or_ge i δ.length with z | z
    · rw [List.getElem?_set_self z] at hj; cases hj
    · rw [List.set_eq_of_length_le z, List.getElem?_eq_none z] at hj; cases hj
  · rw [List.getElem?_set_ne c] at hj
    rw [List.getElem?_set_ne c]
    exact e.at_ j x hj⟩
end
def lE (K : PySem.W.Frag) (A : Anc) (t : TEd) : TE := fun σ H Q => ∃ δ s Q', Sd K A σ H δ s ∧ t δ s Q' ∧ ∀ v H2 d s2, Stp s H s2 H2 → Rep K s2 H2 → Dat K s2 H2 v d → Q' d s2 → Q v H2
def lT (K : PySem.W.Frag) (A : Anc) (t : TTd) : TT := fun σ H Q => ∃ δ s Q', Sd K A σ H δ s ∧ t δ s Q' ∧ ∀ b H2 s2, Stp s H s2 H2 → Rep K s2 H2 → Q' b s2 → Q b H2
def lA (K : PySem.W.Frag) (A : Anc) (t : TAd) : TA := fun σ H Q => ∃ δ s Q', Sd K A σ H δ s ∧ t δ s Q' ∧ ∀ vs H2 ds s2, Stp s H s2 H2 → Rep K s2 H2 → DatL K s2 H2 vs ds → Q' ds s2 → Q vs H2
structure Lnk (K : PySem.W.Frag) (A : Anc) (D' : EndsD) (D : Ends) : Prop where
  nx : ∀ σ H δ s, Sd K A σ H δ s → D'.nx δ s → D.nx σ H
  bk : ∀ σ H δ s, Sd K A σ H δ s → D'.bk δ s → D.bk σ H
  ct : ∀ σ H δ s, Sd K A σ H δ s → D'.ct δ s → D.ct σ H
  rt : ∀ v H d s, Stp A.s A.H s H → Rep K s H → Dat K s H v d → D'.rt d s → D.rt v H
def lS (K : PySem.W.Frag) (A : Anc) (t : TSd) : TS := fun D σ H => ∃ δ s D', Sd K A σ H δ s ∧ t D' δ s ∧ Lnk K A D' D
def lG (K : PySem.W.Frag) (A : Anc) (g : TGd) : TG := fun v σ H Q => ∃ d δ s Q', Sd K A σ H δ s ∧ Dat K s H v d ∧ g d δ s Q' ∧ ∀ σ2 H2 δ2 s2, Sd K A σ2 H2 δ2 s2 → Q' δ2 s2 → Q σ2 H2
def lGs (K : PySem.W.Frag) (A : Anc) (g : TGsd) : TGs := fun v σ H Q => ∃ d δ s Q', Sd K A σ H δ s ∧ DatL K s H v d ∧ g d δ s Q' ∧ ∀ σ2 H2 δ2 s2, Sd K A σ2 H2 δ2 s2 → Q' δ2 s2 → Q σ2 H2
abbrev PD (A : Anc) (X : Cx) (e : Expr) (t : TEd) : Prop := PE X e (lE X.K A t)
abbrev PTd (A : Anc) (X : Cx) (e : Expr) (t : TTd) : Prop := PT X e (lT X.K A t)
abbrev PWd (A : Anc) (X : Cx) (e : Expr) (t : TTd) : Prop := PW X e (lT X.K A t)
abbrev PAd (A : Anc) (X : Cx) (es : List Expr) (t : TAd) : Prop := PA X es (lA X.K A t)
abbrev PSd (A : Anc) (X : Cx) (st : Stmt) (t : TSd) : Prop := PS X st (lS X.K A t)
abbrev PSsd (A : Anc) (X : Cx) (st : List Stmt) (t : TSd) : Prop := PSs X st (lS X.K A t)
abbrev PGd (A : Anc) (X : Cx) (e : Expr) (g : TGd) : Prop := PG X e (lG X.K A g)
abbrev PGsd (A : Anc) (X : Cx) (es : List Expr) (g : TGsd) : Prop := PGs X es (lGs X.K A g)

section
variable {X : Cx} {e : Expr} {es : List Expr} {st : Stmt} {sts : List Stmt}
theorem peImp {t t' : TE} (h : PE X e t) (w : ∀ σ H Q, t' σ H Q → t σ H Q) : PE X e t' := ⟨fun pins s σ H Q I q => h.run pins s σ H Q I (w _ _ _ q)⟩
theorem ptImp {t t' : TT} (h : PT X e t) (w : ∀ σ H Q, t' σ H Q → t σ H Q) : PT X e t' := ⟨fun pins s σ H Q I q => h.run pins s σ H Q I (w _ _ _ q)⟩
theorem pwImp {t t' : TT} (h : PW X e t) (w : ∀ σ H Q, t' σ H Q → t σ H Q) : PW X e t' := ⟨fun wh pins s σ H Q I q => h.run wh pins s σ H Q I (w _ _ _ q)⟩
theorem paImp {t t' : TA} (h : PA X es t) (w : ∀ σ H Q, t' σ H Q → t σ H Q) : PA X es t' := ⟨fun pos pins s σ H Q I q => h.run pos pins s σ H Q I (w _ _ _ q)⟩
theorem psImp {t t' : TS} (h : PS X st t) (w : ∀ D σ H, t' D σ H → t D σ H) : PS X st t' := ⟨fun pins s σ H D I q => h.run pins s σ H D I (w _ _ _ q)⟩
theorem pssImp {t t' : TS} (h : PSs X sts t) (w : ∀ D σ H, t' D σ H → t D σ H) : PSs X sts t' := ⟨fun pins s σ H D I q => h.run pins s σ H D I (w _ _ _ q)⟩
theorem pgImp {t t' : TG} (h : PG X e t) (w : ∀ v σ H Q, t' v σ H Q → t v σ H Q) : PG X e t' := ⟨fun pins s σ H v u Q I r q => h.run pins s σ H v u Q I r (w _ _ _ _ q)⟩
theorem pgsImp {t t' : TGs} (h : PGs X es t) (w : ∀ v σ H Q, t' v σ H Q → t v σ H Q) : PGs X es t' := ⟨fun pins s σ H v u Q I r q => h.run pins s σ H v u Q I r (w _ _ _ _ q)⟩
end

/-! ### names and constants -/
def dVar (i : Nat) (δ : Ed) (s : Sto) (Q : KD) : Prop := match δ.getD i none with
  | some d => Q d s
  | none => False
def dC (d : DV) (δ : Ed) (s : Sto) (Q : KD) : Prop := Q d s
section
variable {A : Anc} {X : Cx} {pos : Pos}
theorem dpv (i : Nat) {x : Str} (hN : X.N[i]? = some x := by rfl) (hv : Vis X.env.scope x := by first | exact Or.inl rfl | exact Or.inr (Or.inl rfl) | exact Or.inr (Or.inr rfl)) (hd : (x == ("__debug__" : Str)) = false := by decide)
    (hcd : (x == ("__classdict__" : Str)) = false := by decide) : PD A X (.Name x pos) (dVar i) := peImp (pe_var hN hv hd hcd) fun σ H Q h => by
  obtain ⟨δ, s, Q', S, t, k⟩ := h
  unfold dVar at t
  cases e : δ.getD i none with
  | none => rw [e] at t; exact False.elim t
  | some d =>
    rw [e] at t
    have e2 : δ[i]? = some (some d) := by
      rw [List.getD_eq_getElem?_getD] at e
      cases q : δ[i]? with
      | none => rw [q] at e; cases e
      | some o => rw [q] at e; exact congrArg some e
    obtain ⟨v, h1, h2⟩ := S.env.at_ i d e2
    exact ⟨v, h1, k v H d s (Stp.refl s H) S.rep h2 t⟩
theorem dconst {e : Expr} {v : V} {d : DV} (h : PE X e (tC v)) (hd : ∀ K s H, Dat K s H v d) : PD A X e (dC d) := peImp h fun σ H Q h => by
  obtain ⟨δ, s, Q', S, t, k⟩ := h
  exact k v H d s (Stp.refl s H) S.rep (hd _ _ _) t
theorem dint {i j} : PD A X (.Constant (.int i) j pos) (dC (.int i)) := dconst pe_int fun _ _ _ => .int _
theorem dbl {i j} : PD A X (.Constant (.bool i) j pos) (dC (.bl i)) := dconst pe_bl fun _ _ _ => .bl _
theorem dnon {j} : PD A X (.Constant .none j pos) (dC .non) := dconst pe_non fun _ _ _ => .non
theorem dstr {i j} : PD A X (.Constant (.str i) j pos) (dC (.str i)) := dconst pe_str fun _ _ _ => .str _
/-- a module's constant that is no object -/
theorem dglob {x : Str} {v : V} {u : Value} {d : DV} (hm : X.mg x = some u) (r : RelV v u) (hd : ∀ K s H, Dat K s H v d) (hg : Gl X x := by rfl) (hb : (x == ("__debug__" : Str)) = false := by decide) : PD A X (.Name x pos) (dC d) :=
  dconst (pe_glob hg hm r hb) hd
theorem dbltn {x : Str} {n : String} (hm : X.mg x = none) (hv : bootBuiltins x = some (.type n)) (hg : Gl X x := by rfl) (hn : x ≠ "__name__" := by decide) (hb : (x == ("__debug__" : Str)) = false := by decide) : PD A X (.Name x pos) (dC (.ty n)) :=
  dconst (pe_bltn (v := .ty n) hg hm hv rfl hn hb) fun _ _ _ => .ty n
end

/-! ### operators -/
abbrev R2d := DV → DV → Sto → KD → Prop
def kOp2 (r : R2d) (Q : KD) (x y : DV) (s2 : Sto) : Prop := r x y s2 Q
def kOp1 (r : R2d) (tb : TEd) (δ : Ed) (Q : KD) (x : DV) (s1 : Sto) : Prop := tb δ s1 (kOp2 r Q x)
def dOp (r : R2d) (ta tb : TEd) (δ : Ed) (s : Sto) (Q : KD) : Prop := ta δ s (kOp1 r tb δ Q)
def lR (K : PySem.W.Frag) (r : R2d) : R2 := fun x y H Q => ∃ dx dy s Q', Rep K s H ∧ Dat K s H x dx ∧ Dat K s H y dy ∧ r dx dy s Q' ∧ ∀ v H2 d s2, Stp s H s2 H2 → Rep K s2 H2 → Dat K s2 H2 v d → Q' d s2 → Q v H2
abbrev OpD (X : Cx) (f : Value → Value → Sem Value) (r : R2d) : Prop := OpR X f (lR X.K r)
theorem opImp {X : Cx} {f : Value → Value → Sem Value} {r r' : R2} (h : OpR X f r) (w : ∀ x y H Q, r' x y H Q → r x y H Q) : OpR X f r' := fun pins s σ H x y v u Q I rx ry q => h pins s σ H x y v u Q I rx ry (w _ _ _ _ q)
theorem opOr {X : Cx} {f : Value → Value → Sem Value} {r r' : R2} (h : OpR X f r) (h' : OpR X f r') : OpR X f (fun x y H Q => r x y H Q ∨ r' x y H Q) := fun pins s σ H x y v u Q I rx ry q =>
  q.elim (fun q => h pins s σ H x y v u Q I rx ry q) fun q => h' pins s σ H x y v u Q I rx ry q
theorem lE_bin {K : PySem.W.Frag} {A : Anc} {r : R2d} {ta tb : TEd} {σ : L2.St} {H : Hp} {Q : VK} (h : lE K A (dOp r ta tb) σ H Q) : tOp (lR K r) (lE K A ta) (lE K A tb) σ H Q := by
  obtain ⟨δ, s, Q', S, t, k⟩ := h
  refine ⟨δ, s, _, S, t, fun v H1 d s1 st1 rep1 dv q1 => ?_⟩
  have S1 := S.go st1 rep1
  refine ⟨δ, s1, _, S1, q1, fun v2 H2 d2 s2 st2 rep2 dv2 q2 => ?_⟩
  exact ⟨d, d2, s2, _, rep2, dv.step st2 rep1, dv2, q2, fun v3 H3 d3 s3 st3 => k v3 H3 d3 s3 ((st1.trans st2).trans st3)⟩
section
variable {A : Anc} {X : Cx} {a b : Expr} {ta tb : TEd} {r : R2d} {pos : Pos}
theorem dop {op : Operator} (ho : OpD X (binaryOp op) r) (ha : PD A X a ta) (hb : PD A X b tb) : PD A X (.BinOp a op b pos) (dOp r ta tb) := peImp (pe_op ho ha hb) fun _ _ _ h => lE_bin h
theorem dcmp {op : CmpOp} (ho : OpD X (compareOp op) r) (ha : PD A X a ta) (hb : PD A X b tb) (hm : behindInMarks op b = false) : PD A X (.Compare a [op] [b] pos) (dOp r ta tb) := peImp (pe_cmpR ho ha hb hm) fun _ _ _ h => lE_bin h
/-- a test by a comparison -/
def kTest (Q : Bool → Sto → Prop) (d : DV) (s1 : Sto) : Prop := match d with
  | .bl b => Q b s1
  | _ => False
def dTest (t : TEd) (δ : Ed) (s : Sto) (Q : Bool → Sto → Prop) : Prop := t δ s (kTest Q)
theorem lT_test {K : PySem.W.Frag} {t : TEd} {σ : L2.St} {H : Hp} {Q : Bool → Hp → Prop} (h : lT K A (dTest t) σ H Q) : tTest (lE K A t) σ H Q := by
  obtain ⟨δ, s, Q', S, t, k⟩ := h
  refine ⟨δ, s, _, S, t, fun v H2 d s2 st rep dv q => ?_⟩
  cases d with
  | bl b => exact ⟨b, dv.blInv, k b H2 s2 st rep q⟩
  | _ => exact False.elim q
theorem dtcmp {op : CmpOp} (ho : OpD X (compareOp op) r) (ha : PD A X a ta) (hb : PD A X b tb) (hm : behindInMarks op b = false) : PTd A X (.Compare a [op] [b] pos) (dTest (dOp r ta tb)) :=
  ptImp (pt_cmpR ho ha hb hm) fun σ H Q h => by
    have h2 := lT_test h
    exact by
      obtain ⟨δ, s, Q', S, t, k⟩ := h2
      exact lE_bin ⟨δ, s, Q', S, t, k⟩
def kChain3 (r' : R2d) (tc : TEd) (δ : Ed) (Q : KD) (y z : DV) (s3 : Sto) : Prop := match z with
  | .bl true => tc δ s3 (kOp2 r' Q y)
  | .bl false => Q (.bl false) s3
  | _ => False
def kChain2 (r r' : R2d) (tc : TEd) (δ : Ed) (Q : KD) (x y : DV) (s2 : Sto) : Prop := r x y s2 (kChain3 r' tc δ Q y)
def kChain1 (r r' : R2d) (tb tc : TEd) (δ : Ed) (Q : KD) (x : DV) (s1 : Sto) : Prop := tb δ s1 (kChain2 r r' tc δ Q x)
def dChain (r r' : R2d) (ta tb tc : TEd) (δ : Ed) (s : Sto) (Q : KD) : Prop := ta δ s (kChain1 r r' tb tc δ Q)
theorem lE_chain {K : PySem.W.Frag} {r r' : R2d} {ta tb tc : TEd} {σ : L2.St} {H : Hp} {Q : VK} (h : lE K A (dChain r r' ta tb tc) σ H Q) : tChain (lR K r) (lR K r') (lE K A ta) (lE K A tb) (lE K A tc) σ H Q := by
  obtain ⟨δ, s, Q', S, t, k⟩ := h
  refine ⟨δ, s, _, S, t, fun v H1 d s1 st1 rep1 dv q1 => ?_⟩
  have S1 := S.go st1 rep1
  refine ⟨δ, s1, _, S1, q1, fun v2 H2 d2 s2 st2 rep2 dv2 q2 => ?_⟩
  refine ⟨d, d2, s2, _, rep2, dv.step st2 rep1, dv2, q2, fun v3 H3 d3 s3 st3 rep3 dv3 q3 => ?_⟩
  cases d3 with
  | bl b =>
    refine ⟨b, dv3.blInv, ?_⟩
    cases b with
    | true =>
      rw [if_pos rfl]
      refine ⟨δ, s3, _, (S1.go st2 rep2).go st3 rep3, q3, fun v4 H4 d4 s4 st4 rep4 dv4 q4 => ?_⟩
      exact ⟨d2, d4, s4, _, rep4, (dv2.step st3 rep2).step st4 rep3, dv4, q4, fun v5 H5 d5 s5 st5 => k v5 H5 d5 s5 ((((st1.trans st2).trans st3).trans st4).trans st5)⟩
    | false =>
      rw [if_neg Bool.false_ne_true]
      exact k _ H3 _ s3 ((st1.trans st2).trans st3) rep3 (.bl false) q3
  | _ => exact False.elim q3
variable {c : Expr} {tc : TEd} {r' : R2d}
theorem dchain {op op' : CmpOp} (ho : OpD X (compareOp op) r) (ho' : OpD X (compareOp op') r') (ha : PD A X a ta) (hb : PD A X b tb) (hc : PD A X c tc)
    (h : ∀ {t : TE}, t = tChain (lR X.K r) (lR X.K r') (lE X.K A ta) (lE X.K A tb) (lE X.K A tc) → PE X (.Compare a [op, op'] [b, c] pos) t) : PD A X (.Compare a [op, op'] [b, c] pos) (dChain r r' ta tb tc) :=
  peImp (h rfl) fun _ _ _ h => lE_chain h
end

/-! ### tests -/
def kAnd (u : TTd) (δ : Ed) (Q : Bool → Sto → Prop) (b : Bool) (s1 : Sto) : Prop := match b with
  | true => u δ s1 Q
  | false => Q false s1
def dAnd (t u : TTd) (δ : Ed) (s : Sto) (Q : Bool → Sto → Prop) : Prop := t δ s (kAnd u δ Q)
def kOr (u : TTd) (δ : Ed) (Q : Bool → Sto → Prop) (b : Bool) (s1 : Sto) : Prop := match b with
  | true => Q true s1
  | false => u δ s1 Q
def dOr (t u : TTd) (δ : Ed) (s : Sto) (Q : Bool → Sto → Prop) : Prop := t δ s (kOr u δ Q)
def kNot (Q : Bool → Sto → Prop) (b : Bool) (s1 : Sto) : Prop := Q (!b) s1
def dNot (t : TTd) (δ : Ed) (s : Sto) (Q : Bool → Sto → Prop) : Prop := t δ s (kNot Q)
section
variable {A : Anc} {X : Cx} {a b : Expr} {rest : List Expr} {t u : TTd} {ta tb : TEd} {pos : Pos}
theorem dpand (ha : PTd A X a t) (hb : PWd A X (.BoolOp .And (b :: rest) pos) u) : PWd A X (.BoolOp .And (a :: b :: rest) pos) (dAnd t u) := pwImp (pw_and ha hb) fun σ H Q h => by
  obtain ⟨δ, s, Q', S, t, k⟩ := h
  refine ⟨δ, s, _, S, t, fun b H2 s2 st rep q => ?_⟩
  cases b with
  | true => exact ⟨δ, s2, _, S.go st rep, q, fun b3 H3 s3 st3 => k b3 H3 s3 (st.trans st3)⟩
  | false => exact k false H2 s2 st rep q
theorem dpor (ha : PTd A X a t) (hb : PWd A X (.BoolOp .Or (b :: rest) pos) u) : PWd A X (.BoolOp .Or (a :: b :: rest) pos) (dOr t u) := pwImp (pw_or ha hb) fun σ H Q h => by
  obtain ⟨δ, s, Q', S, t, k⟩ := h
  refine ⟨δ, s, _, S, t, fun b H2 s2 st rep q => ?_⟩
  cases b with
  | false => exact ⟨δ, s2, _, S.go st rep, q, fun b3 H3 s3 st3 => k b3 H3 s3 (st.trans st3)⟩
  | true => exact k true H2 s2 st rep q
theorem dpand1 (ha : PTd A X a t) : PWd A X (.BoolOp .And [a] pos) t := pw_and1 ha
theorem dpor1 (ha : PTd A X a t) : PWd A X (.BoolOp .Or [a] pos) t := pw_or1 ha
theorem dpnot (ha : PTd A X a t) : PTd A X (.UnaryOp .Not a pos) (dNot t) := ptImp (pt_not ha) fun σ H Q h => by
  obtain ⟨δ, s, Q', S, t, k⟩ := h
  exact ⟨δ, s, _, S, t, fun b H2 s2 st rep q => k (!b) H2 s2 st rep q⟩
def kIf (ta tb : TEd) (δ : Ed) (Q : KD) (b : Bool) (s1 : Sto) : Prop := match b with
  | true => ta δ s1 Q
  | false => tb δ s1 Q
def dIf (t : TTd) (ta tb : TEd) (δ : Ed) (s : Sto) (Q : KD) : Prop := t δ s (kIf ta tb δ Q)
theorem difexp {c : Expr} (hc : PTd A X c t) (ha : PD A X a ta) (hb : PD A X b tb) : PD A X (.IfExp c a b pos) (dIf t ta tb) := peImp (pe_ifExp hc ha hb) fun σ H Q h => by
  obtain ⟨δ, s, Q', S, t, k⟩ := h
  refine ⟨δ, s, _, S, t, fun b H2 s2 st rep q => ?_⟩
  cases b with
  | true =>
    rw [if_pos rfl]
    exact ⟨δ, s2, _, S.go st rep, q, fun v3 H3 d3 s3 st3 => k v3 H3 d3 s3 (st.trans st3)⟩
  | false =>
    rw [if_neg Bool.false_ne_true]
    exact ⟨δ, s2, _, S.go st rep, q, fun v3 H3 d3 s3 st3 => k v3 H3 d3 s3 (st.trans st3)⟩
/-- a value's truth -/
def truD (s : Sto) : DV → Option Bool
  | .non => some false
  | .bl b => some b
  | .int i => some (i != 0)
  | .str z => if z.length ≤ sizeLine then some ((z.length : Int) != 0) else none
  | .tup ds => some (!ds.isEmpty)
  | .lst ds => some (!ds.isEmpty)
  | .scr ds => some (!ds.isEmpty)
  | .ref a => match s a with
    | some (.lst ds) => some (!ds.isEmpty)
    | some (.dK ks) => some (!ks.isEmpty)
    | _ => none
  | .ty _ => none
def kTru (Q : Bool → Sto → Prop) (d : DV) (s1 : Sto) : Prop := match truD s1 d with
  | some b => Q b s1
  | none => False
def dTru (t : TEd) (δ : Ed) (s : Sto) (Q : Bool → Sto → Prop) : Prop := t δ s (kTru Q)
theorem Paired.len0 {α β : Type} {R : α → β → Prop} {xs : List α} {ys : List β} (h : Paired R xs ys) : xs.isEmpty = ys.isEmpty := by cases h <;> rfl
theorem DatL.len0 {K : PySem.W.Frag} {s : Sto} {H : Hp} {xs : List V} {ys : List DV} (h : DatL K s H xs ys) : xs.isEmpty = ys.isEmpty := by cases h <;> rfl
theorem SqLof {K : PySem.W.Frag} {H : Hp} {a : Addr} {xs : List V} (h : Rd H a (.lst xs)) : SqL K H a xs := .inl h
theorem truV {K : PySem.W.Frag} {s : Sto} {H : Hp} {v : V} {d : DV} {b : Bool} (rep : Rep K s H) (h : Dat K s H v d) (e : truD s d = some b) : TruV K v H b := by
  cases h with
  | non => exact (Option.some.inj e).symm
  | bl b => exact (Option.some.inj e).symm
  | int i => exact (Option.some.inj e).symm
  | str z =>
    simp only [truD] at e
    split at e
    · exact ⟨‹_›, (Option.some.inj e).symm⟩
    · cases e
  | ty n => cases e
  | tup h l => exact .inr (.inl ⟨_, h, by rw [← Option.some.inj e, l.len0]⟩)
  | lst h n l => exact .inl ⟨_, SqL.of h, by rw [← Option.some.inj e, l.len0]⟩
  | scr h l => exact .inl ⟨_, h.sq, by rw [← Option.some.inj e, l.len0]⟩
  | ref a =>
    cases q : s a with
    | none => simp only [truD, q] at e; cases e
    | some m =>
      simp only [truD, q] at e
      have r := rep a m q
      cases m with
      | hid => cases e
      | ins C fs => cases e
      | lst ds => obtain ⟨xs, h1, h2⟩ := r; exact .inl ⟨xs, SqL.of h1, by rw [← Option.some.inj e, h2.len0]⟩
      | dK ks => obtain ⟨xs, h1, h2⟩ := r; exact .inr (.inr ⟨xs, h1, by rw [← Option.some.inj e, Paired.len0 h2]⟩)
theorem dtruth (ha : PD A X a ta) (he : ∀ whole, isTrue a X.env whole = (do let v ← whole; standAt a.pos; holding [v] (truthy v)) := by intro _; rfl) : PTd A X a (dTru ta) := ptImp (pt_truth ha he) fun σ H Q h => by
  obtain ⟨δ, s, Q', S, t, k⟩ := h
  refine ⟨δ, s, _, S, t, fun v H2 d s2 st rep dv q => ?_⟩
  unfold kTru at q
  cases e : truD s2 d with
  | none => rw [e] at q; exact False.elim q
  | some b => rw [e] at q; exact ⟨b, truV rep dv e, k b H2 s2 st rep q⟩
end

/-! ### argument lists, displays -/
def dNil (δ : Ed) (s : Sto) (Q : List DV → Sto → Prop) : Prop := Q [] s
def kCons2 (Q : List DV → Sto → Prop) (x : DV) (xs : List DV) (s2 : Sto) : Prop := Q (x :: xs) s2
def kCons1 (tr : TAd) (δ : Ed) (Q : List DV → Sto → Prop) (x : DV) (s1 : Sto) : Prop := tr δ s1 (kCons2 Q x)
def dCons (ta : TEd) (tr : TAd) (δ : Ed) (s : Sto) (Q : List DV → Sto → Prop) : Prop := ta δ s (kCons1 tr δ Q)
def kTup (Q : KD) (ds : List DV) (s1 : Sto) : Prop := ds.length ≤ sizeLine ∧ Q (.tup ds) s1
def dTup (t : TAd) (δ : Ed) (s : Sto) (Q : KD) : Prop := t δ s (kTup Q)
/-- a list that nobody will change -/
def kLst (Q : KD) (ds : List DV) (s1 : Sto) : Prop := ds.length ≤ sizeLine ∧ Q (.lst ds) s1
def dLst (t : TAd) (δ : Ed) (s : Sto) (Q : KD) : Prop := t δ s (kLst Q)
/-- a list in the store -/
def kLstM (Q : KD) (ds : List DV) (s1 : Sto) : Prop := ds.length ≤ sizeLine ∧ ∀ p, s1 p = none → Q (.ref p) (up s1 p (.lst ds))
def dLstM (t : TAd) (δ : Ed) (s : Sto) (Q : KD) : Prop := t δ s (kLstM Q)
/-- a list of the store is from now on seen through -/
def frzD (s : Sto) (d : DV) : DV × Sto := match d with
  | .ref a => match s a with
    | some (.lst ds) => (.lst ds, er s a)
    | _ => (d, s)
  | _ => (d, s)
def kFrz (Q : KD) (d : DV) (s1 : Sto) : Prop := Q (frzD s1 d).1 (frzD s1 d).2
def dFrz (t : TEd) (δ : Ed) (s : Sto) (Q : KD) : Prop := t δ s (kFrz Q)
section
variable {A : Anc} {X : Cx} {e : Expr} {es : List Expr} {te : TEd} {t : TAd} {pos : Pos}
theorem dan : PAd A X [] dNil := paImp pa_nil fun σ H Q h => by
  obtain ⟨δ, s, Q', S, t, k⟩ := h
  exact k [] H [] s (Stp.refl s H) S.rep .nil t
theorem dac (ha : PD A X e te) (hr : PAd A X es t) (hs : starEach (e :: es) X.env = (false, eval e X.env) :: starEach es X.env := by rfl) : PAd A X (e :: es) (dCons te t) := paImp (pa_cons ha hr hs) fun σ H Q h => by
  obtain ⟨δ, s, Q', S, t, k⟩ := h
  refine ⟨δ, s, _, S, t, fun v H1 d s1 st1 rep1 dv q1 => ?_⟩
  refine ⟨δ, s1, _, S.go st1 rep1, q1, fun vs H2 ds s2 st2 rep2 dvs q2 => ?_⟩
  exact k (v :: vs) H2 (d :: ds) s2 (st1.trans st2) rep2 (.cons (dv.step st2 rep1) dvs) q2
theorem dtup {x1} (h : PAd A X es t) : PD A X (.Tuple es x1 pos) (dTup t) := peImp (pe_tup h) fun σ H Q h => by
  obtain ⟨δ, s, Q', S, t, k⟩ := h
  refine ⟨δ, s, _, S, t, fun vs H1 ds s1 st1 rep1 dvs ⟨z, q⟩ => ⟨by rw [dvs.length]; exact z, fun p hp => ?_⟩⟩
  have st2 : Stp s1 H1 s1 (upd H1 p (.tup vs)) := Stp.newF hp
  exact k _ _ _ s1 (st1.trans st2) (rep1.newF hp) (.tup (SqT.of upd_same) (dvs.step st2 rep1)) q
theorem dlst (h : PAd A X es t) : PD A X (.List es pos) (dLst t) := peImp (pe_lst h) fun σ H Q h => by
  obtain ⟨δ, s, Q', S, t, k⟩ := h
  refine ⟨δ, s, _, S, t, fun vs H1 ds s1 st1 rep1 dvs ⟨z, q⟩ => ⟨by rw [dvs.length]; exact z, fun p hp => ?_⟩⟩
  have st2 : Stp s1 H1 s1 (upd H1 p (.lst vs)) := Stp.newF hp
  exact k _ _ _ s1 (st1.trans st2) (rep1.newF hp) (.lst upd_same (rep1.fresh hp) (dvs.step st2 rep1)) q
theorem new_lst {K : PySem.W.Frag} {s : Sto} {H : Hp} {p : Addr} {vs : List V} {ds : List DV} (rep : Rep K s H) (hp : H p = none) (h : DatL K s H vs ds) :
    Stp s H (up s p (.lst ds)) (upd H p (.lst vs)) ∧ Rep K (up s p (.lst ds)) (upd H p (.lst vs)) :=
  ⟨Stp.new hp, rep.put (Stp.new hp) ⟨vs, upd_same, h.step (Stp.new hp) rep⟩⟩
theorem dlstM (h : PAd A X es t) : PD A X (.List es pos) (dLstM t) := peImp (pe_lst h) fun σ H Q h => by
  obtain ⟨δ, s, Q', S, t, k⟩ := h
  refine ⟨δ, s, _, S, t, fun vs H1 ds s1 st1 rep1 dvs ⟨z, q⟩ => ⟨by rw [dvs.length]; exact z, fun p hp => ?_⟩⟩
  obtain ⟨st2, rep2⟩ := new_lst rep1 hp dvs
  exact k _ _ _ _ (st1.trans st2) rep2 (.ref p) (q p (rep1.fresh hp))
theorem frz_ok {K : PySem.W.Frag} {s : Sto} {H : Hp} {v : V} {d : DV} (rep : Rep K s H) (h : Dat K s H v d) : Stp s H (frzD s d).2 H ∧ Rep K (frzD s d).2 H ∧ Dat K (frzD s d).2 H v (frzD s d).1 := by
  have triv : Stp s H s H ∧ Rep K s H ∧ Dat K s H v d := ⟨Stp.refl s H, rep, h⟩
  by_cases q : ∃ a ds, d = .ref a ∧ s a = some (.lst ds)
  · obtain ⟨a, ds, rfl, e⟩ := q
    have z : frzD s (.ref a) = (.lst ds, er s a) := by simp only [frzD, e]
    rw [z]
    cases h
    obtain ⟨xs, h1, h2⟩ := rep a _ e
    have b : Sub (er s a) s := Sub.er (by rw [e]; intro z; cases z)
    exact ⟨(Stp.refl s H).sub b, rep.sub b, .lst h1 er_same (h2.sub b)⟩
  · have z : frzD s d = (d, s) := by
      unfold frzD
      split
      · split
        · exact absurd ⟨_, _, rfl, ‹_›⟩ q
        · rfl
      · rfl
    rw [z]
    exact triv
theorem dfrz (h : PD A X e te) : PD A X e (dFrz te) := peImp h fun σ H Q h => by
  obtain ⟨δ, s, Q', S, t, k⟩ := h
  refine ⟨δ, s, _, S, t, fun v H1 d s1 st1 rep1 dv q => ?_⟩
  obtain ⟨a, b, c⟩ := frz_ok rep1 dv
  exact k v H1 _ _ (st1.trans a) b c q
end

/-! ### statements -/
def dNext (D : EndsD) (δ : Ed) (s : Sto) : Prop := D.nx δ s
def dSeq (t u : TSd) (D : EndsD) (δ : Ed) (s : Sto) : Prop := t { D with nx := u D } δ s
def dBreak (D : EndsD) (δ : Ed) (s : Sto) : Prop := D.bk δ s
def dCont (D : EndsD) (δ : Ed) (s : Sto) : Prop := D.ct δ s
def kDrop (D : EndsD) (δ : Ed) (_ : DV) (s1 : Sto) : Prop := D.nx δ s1
def dDrop (te : TEd) (D : EndsD) (δ : Ed) (s : Sto) : Prop := te δ s (kDrop D δ)
def dRet (te : TEd) (D : EndsD) (δ : Ed) (s : Sto) : Prop := te δ s D.rt
/-- a return that drops entries of the store -/
def kRetS (D : EndsD) (d : DV) (s1 : Sto) : Prop := ∃ s2, Sub s2 s1 ∧ D.rt d s2
def dRetS (te : TEd) (D : EndsD) (δ : Ed) (s : Sto) : Prop := te δ s (kRetS D)
def dRetN (D : EndsD) (δ : Ed) (s : Sto) : Prop := D.rt .non s
def dGif (b : Bool) (t u : Sto → Prop) (s : Sto) : Prop := match b with
  | true => t s
  | false => u s
def kIfS (t u : TSd) (D : EndsD) (δ : Ed) (b : Bool) (s1 : Sto) : Prop := dGif b (t D δ) (u D δ) s1
def dIfS (c : TTd) (t u : TSd) (D : EndsD) (δ : Ed) (s : Sto) : Prop := c δ s (kIfS t u D δ)
def gNameD (i : Nat) (d : DV) (δ : Ed) (s : Sto) (Q : Ed → Sto → Prop) : Prop := Q (δ.set i (some d)) s
def kAsg (g : TGd) (D : EndsD) (δ : Ed) (x : DV) (s1 : Sto) : Prop := g x δ s1 D.nx
def dAsg (te : TEd) (g : TGd) (D : EndsD) (δ : Ed) (s : Sto) : Prop := te δ s (kAsg g D δ)
/-- what is known in between -/
def dCut (M : Ed → Sto → Prop) (t u : TSd) (D : EndsD) (δ : Ed) (s : Sto) : Prop := t { D with nx := M } δ s ∧ ∀ δ s, M δ s → u D δ s
theorem dGif_of {b : Bool} {t u : Sto → Prop} {s : Sto} (h1 : b = true → t s) (h2 : b = false → u s) : dGif b t u s := by
  cases b with
  | true => exact h1 rfl
  | false => exact h2 rfl
section
variable {A : Anc} {X : Cx} {st : Stmt} {rest : List Stmt} {t u : TSd} {e : Expr} {te : TEd} {g : TGd} {pos : Pos}
theorem dsn : PSsd A X [] dNext := pssImp pss_nil fun D σ H h => by
  obtain ⟨δ, s, D', S, t, L⟩ := h
  exact L.nx σ H δ s S t
theorem dsc (h1 : PSd A X st t) (h2 : PSsd A X rest u) : PSsd A X (st :: rest) (dSeq t u) := pssImp (pss_cons h1 h2) fun D σ H h => by
  obtain ⟨δ, s, D', S, t, L⟩ := h
  exact ⟨δ, s, _, S, t, ⟨fun σ1 H1 δ1 s1 S1 q => ⟨δ1, s1, D', S1, q, L⟩, L.bk, L.ct, L.rt⟩⟩
theorem ds1 (h1 : PSd A X st t) : PSsd A X [st] t := pss_one h1
theorem dscut (M : Ed → Sto → Prop) (h1 : PSd A X st t) (h2 : PSsd A X rest u) : PSsd A X (st :: rest) (dCut M t u) := pssImp (pss_cons h1 h2) fun D σ H h => by
  obtain ⟨δ, s, D', S, ⟨t, u⟩, L⟩ := h
  exact ⟨δ, s, _, S, t, ⟨fun σ1 H1 δ1 s1 S1 q => ⟨δ1, s1, D', S1, u δ1 s1 q, L⟩, L.bk, L.ct, L.rt⟩⟩
theorem dspass : PSd A X (.Pass pos) dNext := psImp ps_pass fun D σ H h => by
  obtain ⟨δ, s, D', S, t, L⟩ := h
  exact L.nx σ H δ s S t
theorem dsbreak : PSd A X (.Break pos) dBreak := psImp ps_break fun D σ H h => by
  obtain ⟨δ, s, D', S, t, L⟩ := h
  exact L.bk σ H δ s S t
theorem dscont : PSd A X (.Continue pos) dCont := psImp ps_continue fun D σ H h => by
  obtain ⟨δ, s, D', S, t, L⟩ := h
  exact L.ct σ H δ s S t
theorem dsexpr (he : PD A X e te) (hs : swapsWith e none pos.line X.env = pure false := by rfl) : PSd A X (.Expr e pos) (dDrop te) := psImp (ps_expr he hs) fun D σ H h => by
  obtain ⟨δ, s, D', S, t, L⟩ := h
  exact ⟨δ, s, _, S, t, fun v H2 d s2 st rep dv q => L.nx σ H2 δ s2 (S.go st rep) q⟩
theorem dsret (he : PD A X e te) : PSd A X (.Return (some e) pos) (dRet te) := psImp (ps_ret he) fun D σ H h => by
  obtain ⟨δ, s, D', S, t, L⟩ := h
  exact ⟨δ, s, _, S, t, fun v H2 d s2 st rep dv q => L.rt v H2 d s2 (S.stp.trans st) rep dv q⟩
theorem dsretS (he : PD A X e te) : PSd A X (.Return (some e) pos) (dRetS te) := psImp (ps_ret he) fun D σ H h => by
  obtain ⟨δ, s, D', S, t, L⟩ := h
  exact ⟨δ, s, _, S, t, fun v H2 d s2 st rep dv ⟨s3, b, q⟩ => L.rt v H2 d s3 ((S.stp.trans st).sub b) (rep.sub b) (dv.sub b) q⟩
theorem dsretN : PSd A X (.Return none pos) dRetN := psImp ps_retN fun D σ H h => by
  obtain ⟨δ, s, D', S, t, L⟩ := h
  exact L.rt .non H .non s S.stp S.rep .non t
theorem dsif {c : Expr} {a b : List Stmt} {tc : TTd} (hc : PTd A X c tc) (ha : PSsd A X a t) (hb : PSsd A X b u) : PSd A X (.If c a b pos) (dIfS tc t u) := psImp (ps_if hc ha hb) fun D σ H h => by
  obtain ⟨δ, s, D', S, t, L⟩ := h
  refine ⟨δ, s, _, S, t, fun b H2 s2 st rep q => ?_⟩
  cases b with
  | true => rw [if_pos rfl]; exact ⟨δ, s2, D', S.go st rep, q, L⟩
  | false => rw [if_neg Bool.false_ne_true]; exact ⟨δ, s2, D', S.go st rep, q, L⟩
theorem dsset {i : Nat} {x : Str} {pos' : Pos} (hN : X.N.Nodup) (hi : X.N[i]? = some x) (hx : Loc X.env.scope x) (he : PD A X e te) (hs : swapsWith e (some (.Name x pos')) pos.line X.env = pure false := by rfl)
    (hf : X.fn x = true ∨ X.env.scope.names.lookup x = some .local := by first | exact .inl rfl | exact .inr rfl | assumption) : PSd A X (.Assign [.Name x pos'] e pos) (dAsg te (gNameD i)) := psImp (ps_set hN hi hx he hs hf) fun D σ H h => by
  obtain ⟨δ, s, D', S, t, L⟩ := h
  exact ⟨δ, s, _, S, t, fun v H2 d s2 st rep dv q => L.nx _ H2 _ s2 ⟨S.stp.trans st, rep, (S.env.step st S.rep).set dv i⟩ q⟩
theorem dgname {i : Nat} {x : Str} (hN : X.N.Nodup) (hi : X.N[i]? = some x) (hx : Loc X.env.scope x) (hf : X.fn x = true ∨ X.env.scope.names.lookup x = some .local := by first | exact .inl rfl | exact .inr rfl | assumption) : PGd A X (.Name x pos) (gNameD i) :=
  pgImp (pg_name hN hi hx hf) fun v σ H Q h => by
    obtain ⟨d, δ, s, Q', S, dv, g, k⟩ := h
    exact k _ H _ s ⟨S.stp, S.rep, S.env.set dv i⟩ g
theorem dsasg {tg : Expr} (he : PD A X e te) (hg : PGd A X tg g) (hs : swapsWithSole [tg] e pos.line X.env = pure false := by rfl) (hw : swappedStores [tg] e X.env = pure none := by rfl)
    (h1 : (assignEach [tg] X.env).map (·.2) = [assign tg X.env] := by rfl) : PSd A X (.Assign [tg] e pos) (dAsg te g) := psImp (ps_asg he hg hs hw h1) fun D σ H h => by
  obtain ⟨δ, s, D', S, t, L⟩ := h
  exact ⟨δ, s, _, S, t, fun v H2 d s2 st rep dv q => ⟨d, δ, s2, _, S.go st rep, dv, q, L.nx⟩⟩
end
def gNilD (ds : List DV) (δ : Ed) (s : Sto) (Q : Ed → Sto → Prop) : Prop := ds = [] ∧ Q δ s
def kGCons (u : TGsd) (Q : Ed → Sto → Prop) (r : List DV) (δ' : Ed) (s' : Sto) : Prop := u r δ' s' Q
def gConsD (t : TGd) (u : TGsd) (ds : List DV) (δ : Ed) (s : Sto) (Q : Ed → Sto → Prop) : Prop := match ds with
  | d :: r => t d δ s (kGCons u Q r)
  | [] => False
def gTupD (n : Nat) (t : TGsd) (d : DV) (δ : Ed) (s : Sto) (Q : Ed → Sto → Prop) : Prop := match d with
  | .tup ds => ds.length = n ∧ t ds δ s Q
  | _ => False
end DL

set_option Elab.async false
set_option linter.all false
set_option maxRecDepth 100000
set_option maxHeartbeats 4000000
namespace DL
open PySem PySem.Spec PyProof.Rows L2

/-! ### what a list, a tuple holds -/
/-- a list that may be read -/
def lstD (s : Sto) (d : DV) : Option (List DV) := match d with
  | .lst ds => some ds
  | .scr ds => some ds
  | .ref a => match s a with
    | some (.lst ds) => some ds
    | _ => none
  | _ => none
/-- a list of one's own -/
def lstW (s : Sto) (d : DV) : Option (List DV) := match d with
  | .lst ds => some ds
  | .ref a => match s a with
    | some (.lst ds) => some ds
    | _ => none
  | _ => none
theorem lstD_ref {s : Sto} {a : Addr} {ds : List DV} (h : s a = some (.lst ds)) : lstD s (.ref a) = some ds := by simp only [lstD, h]
theorem lstW_ref {s : Sto} {a : Addr} {ds : List DV} (h : s a = some (.lst ds)) : lstW s (.ref a) = some ds := by simp only [lstW, h]
section
variable {K : PySem.W.Frag} {s : Sto} {H : Hp} {v : V} {d : DV} {ds : List DV}
theorem lstW_ok (rep : Rep K s H) (h : Dat K s H v d) (e : lstW s d = some ds) : ∃ a xs, v = .ref a ∧ H a = some (.lst xs) ∧ DatL K s H xs ds := by
  cases d with
  | lst es =>
    cases (Option.some.inj e)
    obtain ⟨a, xs, h1, h2, _, h3⟩ := h.lstInv
    exact ⟨a, xs, h1, h2, h3⟩
  | ref a =>
    cases h
    cases q : s a with
    | none => simp only [lstW, q] at e; cases e
    | some m =>
      cases m with
      | lst es =>
        simp only [lstW, q] at e
        cases e
        obtain ⟨xs, h1, h2⟩ := rep a _ q
        exact ⟨a, xs, rfl, h1, h2⟩
      | hid => simp only [lstW, q] at e; cases e
      | dK ks => simp only [lstW, q] at e; cases e
      | ins C fs => simp only [lstW, q] at e; cases e
  | _ => cases e
theorem lstD_ok (rep : Rep K s H) (h : Dat K s H v d) (e : lstD s d = some ds) : ∃ a xs, v = .ref a ∧ SqL K H a xs ∧ DatL K s H xs ds := by
  cases d with
  | scr es =>
    cases (Option.some.inj e)
    obtain ⟨a, xs, h1, h2, h3⟩ := h.scrInv
    exact ⟨a, xs, h1, h2.sq, h3⟩
  | lst es =>
    obtain ⟨a, xs, h1, h2, h3⟩ := lstW_ok rep h (show lstW s (.lst es) = some ds from e)
    exact ⟨a, xs, h1, SqL.of h2, h3⟩
  | ref a =>
    obtain ⟨a, xs, h1, h2, h3⟩ := lstW_ok rep h (show lstW s (.ref a) = some ds from e)
    exact ⟨a, xs, h1, SqL.of h2, h3⟩
  | _ => cases e
end

/-! ### arithmetic -/
def kOk (p : Prop) (Q : Prop) : Prop := p ∧ Q
def dAdd (x y : DV) (s : Sto) (Q : KD) : Prop := match x, y with
  | .int i, .int j => Q (.int (i + j)) s
  | .str a, .str b => a.length + b.length ≤ sizeLine ∧ Q (.str (a ++ b)) s
  | .tup a, .tup b => a.length + b.length ≤ sizeLine ∧ Q (.tup (a ++ b)) s
  | x, y => match lstW s x, lstW s y with
    | some a, some b => a.length + b.length ≤ sizeLine ∧ Q (.lst (a ++ b)) s
    | _, _ => False
section
variable {X : Cx}
theorem od_add : OpD X (binaryOp .Add) dAdd := by
  refine opImp (opOr op_add (opOr op_add_str (opOr op_catA op_cat))) fun x y H Q h => ?_
  obtain ⟨dx, dy, s, Q', rep, hx, hy, r, k⟩ := h
  have lists : ∀ a b, lstW s dx = some a → lstW s dy = some b → a.length + b.length ≤ sizeLine ∧ Q' (.lst (a ++ b)) s → rCat x y H Q := fun a b ea eb ⟨z, q⟩ => by
    obtain ⟨p, xs, rfl, h1, l1⟩ := lstW_ok rep hx ea
    obtain ⟨p2, ys, rfl, h2, l2⟩ := lstW_ok rep hy eb
    refine ⟨p, p2, xs, ys, rfl, rfl, h1, h2, by rw [l1.length, l2.length]; exact z, fun r hr => ?_⟩
    have st : Stp s H s (upd H r (.lst (xs ++ ys))) := Stp.newF hr
    exact k _ _ _ s st (rep.newF hr) (.lst upd_same (rep.fresh hr) ((l1.append l2).step st rep)) q
  unfold dAdd at r
  split at r
  · cases hx; cases hy
    exact .inl ⟨_, _, rfl, rfl, k _ H _ s (Stp.refl s H) rep (.int _) r⟩
  · cases hx; cases hy
    exact .inr (.inl ⟨_, _, rfl, rfl, r.1, k _ H _ s (Stp.refl s H) rep (.str _) r.2⟩)
  · rename_i a b
    obtain ⟨z, q⟩ := r
    obtain ⟨p, xs, rfl, h1, l1⟩ := hx.tupInv
    obtain ⟨p2, ys, rfl, h2, l2⟩ := hy.tupInv
    refine .inr (.inr (.inl ⟨p, p2, xs, ys, rfl, rfl, h1, h2, by rw [l1.length, l2.length]; exact z, fun e => ?_, fun _ e => ?_, fun _ _ r hr => ?_⟩))
    · subst e; cases l1
      exact k _ H _ s (Stp.refl s H) rep (.tup h2 l2) q
    · subst e; cases l2
      refine k _ H _ s (Stp.refl s H) rep (.tup h1 l1) ?_
      rw [List.append_nil] at q
      exact q
    · have st : Stp s H s (upd H r (.tup (xs ++ ys))) := Stp.newF hr
      exact k _ _ _ s st (rep.newF hr) (.tup (SqT.of upd_same) ((l1.append l2).step st rep)) q
  · split at r
    · exact .inr (.inr (.inr (lists _ _ ‹_› ‹_› r)))
    · exact r.elim
def dI (C : Int → Int → Prop) (g : Int → Int → DV) (x y : DV) (s : Sto) (Q : KD) : Prop := match x, y with
  | .int i, .int j => C i j ∧ Q (g i j) s
  | _, _ => False
def dI0 (g : Int → Int → DV) (x y : DV) (s : Sto) (Q : KD) : Prop := match x, y with
  | .int i, .int j => Q (g i j) s
  | _, _ => False
theorem od_I {f : Value → Value → Sem Value} {C : Int → Int → Prop} {g : Int → Int → V} {g' : Int → Int → DV} (h : OpR X f (rI C g)) (hg : ∀ K s H i j, Dat K s H (g i j) (g' i j)) : OpD X f (dI C g') := opImp h fun x y H Q h => by
  obtain ⟨dx, dy, s, Q', rep, hx, hy, r, k⟩ := h
  unfold dI at r
  split at r
  · cases hx; cases hy
    exact ⟨_, _, rfl, rfl, r.1, k _ H _ s (Stp.refl s H) rep (hg _ _ _ _ _) r.2⟩
  · exact r.elim
theorem od_I0 {f : Value → Value → Sem Value} {g : Int → Int → V} {g' : Int → Int → DV} (h : OpR X f (rI0 g)) (hg : ∀ K s H i j, Dat K s H (g i j) (g' i j)) : OpD X f (dI0 g') := opImp h fun x y H Q h => by
  obtain ⟨dx, dy, s, Q', rep, hx, hy, r, k⟩ := h
  unfold dI0 at r
  split at r
  · cases hx; cases hy
    exact ⟨_, _, rfl, rfl, k _ H _ s (Stp.refl s H) rep (hg _ _ _ _ _) r⟩
  · exact r.elim
theorem od_sub : OpD X (binaryOp .Sub) (dI0 fun i j => .int (i - j)) := od_I0 op_sub fun _ _ _ _ _ => .int _
theorem od_mod : OpD X (binaryOp .Mod) (dI (fun _ j => 0 < j) fun i j => .int (i % j)) := od_I op_mod fun _ _ _ _ _ => .int _
theorem od_fdiv : OpD X (binaryOp .FloorDiv) (dI CDivW fun i j => .int (i / j)) := od_I op_fdivW fun _ _ _ _ _ => .int _
def CPowD (i j : Int) : Prop := 0 ≤ j ∧ (Builtin.Int.intBits i : Int) * j ≤ 2 ^ 27
theorem op_powD : OpR X (binaryOp .Pow) (rI CPowD fun i j => .int (i ^ j.toNat)) := opI fun _ _ _ _ _ _ _ hc q => pow_int hc.1 hc.2 q
theorem od_pow : OpD X (binaryOp .Pow) (dI CPowD fun i j => .int (i ^ j.toNat)) := od_I op_powD fun _ _ _ _ _ => .int _
theorem opOrI {C D : Int → Int → Prop} {g : Int → Int → V} {f : Value → Value → Sem Value} (h : OpR X f (rI C g)) (h' : OpR X f (rI D g)) : OpR X f (rI (fun i j => C i j ∨ D i j) g) := opImp (opOr h h') fun x y H Q q => by
  obtain ⟨i, j, e1, e2, c | c, q⟩ := q
  · exact .inl ⟨i, j, e1, e2, c, q⟩
  · exact .inr ⟨i, j, e1, e2, c, q⟩
def dMul (x y : DV) (s : Sto) (Q : KD) : Prop := match x, y with
  | .int i, .int j => (CMul i j ∨ CMulW i j) ∧ Q (.int (i * j)) s
  | .tup ds, .int k => (ds ≠ [] ∧ 2 ≤ k ∧ k ≤ 1000 ∧ ds.length ≤ 1000) ∧ Q (.tup (List.replicate k.toNat ds).flatten) s
  | x, .int k => match lstW s x with
    | some ds => (-(2 ^ 63) ≤ k ∧ k < 2 ^ 63 ∧ ds.length * k.toNat ≤ sizeLine) ∧ Q (.lst (List.replicate k.toNat ds).flatten) s
    | none => False
  | _, _ => False
theorem od_mul : OpD X (binaryOp .Mult) dMul := by
  refine opImp (opOr (opOrI op_mul op_mulW) (opOr op_repT op_rep)) fun x y H Q h => ?_
  obtain ⟨dx, dy, s, Q', rep, hx, hy, r, k⟩ := h
  unfold dMul at r
  split at r
  · cases hx; cases hy
    exact .inl ⟨_, _, rfl, rfl, r.1, k _ H _ s (Stp.refl s H) rep (.int _) r.2⟩
  · obtain ⟨⟨h1, h2, h3, h4⟩, q⟩ := r
    obtain ⟨p, xs, rfl, t1, l1⟩ := hx.tupInv
    cases hy
    refine .inr (.inl ⟨p, _, xs, rfl, rfl, t1, fun e => ?_, h2, h3, by rw [l1.length]; exact h4, fun r hr => ?_⟩)
    · subst e; cases l1; exact h1 rfl
    · exact k _ _ _ s (Stp.newF hr) (rep.newF hr) (.tup (SqT.of upd_same) ((l1.flatten_rep _).step (Stp.newF hr) rep)) q
  · split at r
    · rename_i ds e
      obtain ⟨⟨h1, h2, h3⟩, q⟩ := r
      obtain ⟨p, xs, rfl, t1, l1⟩ := lstW_ok rep hx e
      cases hy
      refine .inr (.inr ⟨p, _, xs, rfl, rfl, t1, h1, h2, by rw [l1.length]; exact h3, fun r hr => ?_⟩)
      exact k _ _ _ s (Stp.newF hr) (rep.newF hr) (.lst upd_same (rep.fresh hr) ((l1.flatten_rep _).step (Stp.newF hr) rep)) q
    · exact r.elim
  · exact r.elim

/-! ### comparisons -/
def dLtB (fI : Int → Int → Bool) (fS : Str → Str → Bool) (x y : DV) (s : Sto) (Q : KD) : Prop := match x, y with
  | .int i, .int j => Q (.bl (fI i j)) s
  | .str a, .str b => Q (.bl (fS a b)) s
  | _, _ => False
theorem od_ord {f : Value → Value → Sem Value} {fI : Int → Int → Bool} {fS : Str → Str → Bool} (h : OpR X f (rI0 fun i j => .bl (fI i j))) (h' : OpR X f fun x y H Q => ∃ i j, x = .str i ∧ y = .str j ∧ Q (.bl (fS i j)) H) : OpD X f (dLtB fI fS) :=
  opImp (opOr h h') fun x y H Q h => by
  obtain ⟨dx, dy, s, Q', rep, hx, hy, r, k⟩ := h
  unfold dLtB at r
  split at r
  · cases hx; cases hy
    exact .inl ⟨_, _, rfl, rfl, k _ H _ s (Stp.refl s H) rep (.bl _) r⟩
  · cases hx; cases hy
    exact .inr ⟨_, _, rfl, rfl, k _ H _ s (Stp.refl s H) rep (.bl _) r⟩
  · exact r.elim
def ltI (i j : Int) : Bool := decide (i < j)
def leI (i j : Int) : Bool := decide (i ≤ j)
def ltS (a b : Str) : Bool := decide (a.cps.toList < b.cps.toList)
def leS (a b : Str) : Bool := !decide (b.cps.toList < a.cps.toList)
theorem od_lt : OpD X (compareOp .Lt) (dLtB ltI ltS) := od_ord op_lt op_lt_str
theorem od_le : OpD X (compareOp .LtE) (dLtB leI leS) := od_ord op_le op_le_str
theorem od_gt : OpD X (compareOp .Gt) (dLtB (fun i j => ltI j i) (fun a b => ltS b a)) := od_ord op_gt op_gt_str
theorem od_ge : OpD X (compareOp .GtE) (dLtB (fun i j => leI j i) (fun a b => leS b a)) := od_ord op_ge op_ge_str
mutual
def pd : DV → Option PyData
  | .non => some .none
  | .bl b => some (.bool b)
  | .int i => some (.int i)
  | .str x => some (.str x)
  | .tup ds => (pdL ds).map .tuple
  | .lst ds => (pdL ds).map .list
  | .scr ds => (pdL ds).map .list
  | .ref _ => none
  | .ty _ => none
def pdL : List DV → Option (List PyData)
  | [] => some []
  | d :: ds => match pd d, pdL ds with
    | some p, some ps => some (p :: ps)
    | _, _ => none
end
def pdS (s : Sto) (d : DV) : Option PyData := match d with
  | .ref a => match s a with
    | some (.lst ds) => (pdL ds).map .list
    | _ => none
  | d => pd d
section
variable {K : PySem.W.Frag} {s : Sto} {H : Hp}
mutual
theorem pd_ok (rep : Rep K s H) : ∀ {d : DV} {v : V} {p : PyData}, Dat K s H v d → pd d = some p → Dp K H v p
  | .non, _, _, h, e => by cases h; cases e; exact .non
  | .bl _, _, _, h, e => by cases h; cases e; exact .bl _
  | .int _, _, _, h, e => by cases h; cases e; exact .int _
  | .str _, _, _, h, e => by cases h; cases e; exact .str _
  | .tup ds, _, _, h, e => by
    obtain ⟨a, xs, rfl, h1, l⟩ := h.tupInv
    cases q : pdL ds with
    | none => simp only [pd, q] at e; cases e
    | some ps => simp only [pd, q] at e; cases e; exact .tup h1 (pdL_ok rep l q)
  | .lst ds, _, _, h, e => by
    obtain ⟨a, xs, rfl, h1, _, l⟩ := h.lstInv
    cases q : pdL ds with
    | none => simp only [pd, q] at e; cases e
    | some ps => simp only [pd, q] at e; cases e; exact .lst (SqL.of h1) (pdL_ok rep l q)
  | .scr ds, _, _, h, e => by
    obtain ⟨a, xs, rfl, h1, l⟩ := h.scrInv
    cases q : pdL ds with
    | none => simp only [pd, q] at e; cases e
    | some ps => simp only [pd, q] at e; cases e; exact .lst h1.sq (pdL_ok rep l q)
  | .ref _, _, _, _, e => by simp only [pd] at e; cases e
  | .ty _, _, _, _, e => by simp only [pd] at e; cases e
theorem pdL_ok (rep : Rep K s H) : ∀ {ds : List DV} {vs : List V} {ps : List PyData}, DatL K s H vs ds → pdL ds = some ps → DpAll K H vs ps
  | [], _, _, h, e => by cases h; simp only [pdL] at e; cases e; exact .nil
  | d :: ds, _, _, h, e => by
    cases h with
    | cons h1 h2 =>
      cases q1 : pd d with
      | none => simp only [pdL, q1] at e; cases e
      | some p =>
        cases q2 : pdL ds with
        | none => simp only [pdL, q1, q2] at e; cases e
        | some ps => simp only [pdL, q1, q2] at e; cases e; exact .cons (pd_ok rep h1 q1) (pdL_ok rep h2 q2)
end
theorem pdS_ok (rep : Rep K s H) {d : DV} {v : V} {p : PyData} (h : Dat K s H v d) (e : pdS s d = some p) : Dp K H v p := by
  cases d with
  | ref a =>
    cases h
    cases q : s a with
    | none => simp only [pdS, q] at e; cases e
    | some m =>
      cases m with
      | lst ds =>
        obtain ⟨xs, h1, l⟩ := rep a _ q
        cases q2 : pdL ds with
        | none => simp only [pdS, q, q2] at e; cases e
        | some ps => simp only [pdS, q, q2] at e; cases e; exact .lst (SqL.of h1) (pdL_ok rep l q2)
      | hid => simp only [pdS, q] at e; cases e
      | dK ks => simp only [pdS, q] at e; cases e
      | ins C fs => simp only [pdS, q] at e; cases e
  | _ => exact pd_ok rep h e
end
/-- == of plain things -/
def scalEq (x y : DV) : Option Bool := match x, y with
  | .int i, .int j => some (decide (i = j))
  | .str i, .str j => some (decide (i = j))
  | .bl i, .bl j => some (decide (i = j))
  | .non, .non => some true
  | .non, .int _ => some false
  | .int _, .non => some false
  | .non, .str _ => some false
  | .str _, .non => some false
  | .non, .bl _ => some false
  | .bl _, .non => some false
  | _, _ => none
def eqData (s : Sto) (x y : DV) (F : Bool → Prop) : Prop := match pdS s x, pdS s y with
  | some d, some e => SeqAt.shaped d = true ∧ SeqAt.shaped e = true ∧ F (PyData.eqv d e)
  | _, _ => False
def dEq (x y : DV) (s : Sto) (Q : KD) : Prop := match scalEq x y with
  | some b => Q (.bl b) s
  | none => eqData s x y fun b => Q (.bl b) s
def dNe (x y : DV) (s : Sto) (Q : KD) : Prop := match scalEq x y with
  | some b => Q (.bl (!b)) s
  | none => eqData s x y fun b => Q (.bl (!b)) s
theorem scalEq_ok {K : PySem.W.Frag} {s : Sto} {H : Hp} {x y : V} {dx dy : DV} {b : Bool} (hx : Dat K s H x dx) (hy : Dat K s H y dy) (e : scalEq dx dy = some b) : scal x y = true ∧ b = decide (x = y) := by
  unfold scalEq at e
  split at e <;> (try cases e) <;> cases hx <;> cases hy <;> first | exact ⟨rfl, rfl⟩ | exact ⟨rfl, by simp⟩
theorem od_eq (hu : X.A.units + 64 < cLine) : OpD X (compareOp .Eq) dEq := opImp (opOr op_eq (op_eqD hu)) fun x y H Q h => by
  obtain ⟨dx, dy, s, Q', rep, hx, hy, r, k⟩ := h
  unfold dEq at r
  split at r
  · rename_i b e
    obtain ⟨h1, h2⟩ := scalEq_ok hx hy e
    exact .inl ⟨h1, by rw [← h2]; exact k _ H _ s (Stp.refl s H) rep (.bl b) r⟩
  · unfold eqData at r
    split at r
    · rename_i d e e1 e2
      exact .inr ⟨d, e, pdS_ok rep hx e1, pdS_ok rep hy e2, r.1, r.2.1, k _ H _ s (Stp.refl s H) rep (.bl _) r.2.2⟩
    · exact r.elim
theorem od_ne (hu : X.A.units + 64 < cLine) : OpD X (compareOp .NotEq) dNe := opImp (opOr op_ne (op_neD hu)) fun x y H Q h => by
  obtain ⟨dx, dy, s, Q', rep, hx, hy, r, k⟩ := h
  unfold dNe at r
  split at r
  · rename_i b e
    obtain ⟨h1, h2⟩ := scalEq_ok hx hy e
    exact .inl ⟨h1, by rw [← h2]; exact k _ H _ s (Stp.refl s H) rep (.bl (!b)) r⟩
  · unfold eqData at r
    split at r
    · rename_i d e e1 e2
      exact .inr ⟨d, e, pdS_ok rep hx e1, pdS_ok rep hy e2, r.1, r.2.1, k _ H _ s (Stp.refl s H) rep (.bl _) r.2.2⟩
    · exact r.elim
def isNonD : DV → Bool
  | .non => true
  | _ => false
theorem isNon_ok {K : PySem.W.Frag} {s : Sto} {H : Hp} {x : V} {dx : DV} (hx : Dat K s H x dx) : isNonD dx = decide (x = .non) := by
  cases hx <;> simp [isNonD]
def dIs (neg : Bool) (x y : DV) (s : Sto) (Q : KD) : Prop := match y with
  | .non => Q (.bl (if neg then !isNonD x else isNonD x)) s
  | .bl b => match x with
    | .bl a => Q (.bl (if neg then !decide (a = b) else decide (a = b))) s
    | _ => False
  | _ => False
theorem od_is : OpD X (compareOp .Is) (dIs false) := opImp (opOr op_isN op_is_bl) fun x y H Q h => by
  obtain ⟨dx, dy, s, Q', rep, hx, hy, r, k⟩ := h
  unfold dIs at r
  split at r
  · cases hy
    rw [isNon_ok hx] at r
    exact .inl ⟨rfl, k _ H _ s (Stp.refl s H) rep (.bl _) r⟩
  · split at r
    · cases hx; cases hy
      exact .inr ⟨_, _, rfl, rfl, k _ H _ s (Stp.refl s H) rep (.bl _) r⟩
    · exact r.elim
  · exact r.elim
theorem od_isnot : OpD X (compareOp .IsNot) (dIs true) := opImp (opOr op_notN op_isnot_bl) fun x y H Q h => by
  obtain ⟨dx, dy, s, Q', rep, hx, hy, r, k⟩ := h
  unfold dIs at r
  split at r
  · cases hy
    rw [isNon_ok hx] at r
    exact .inl ⟨rfl, k _ H _ s (Stp.refl s H) rep (.bl _) r⟩
  · split at r
    · cases hx; cases hy
      exact .inr ⟨_, _, rfl, rfl, k _ H _ s (Stp.refl s H) rep (.bl _) r⟩
    · exact r.elim
  · exact r.elim
/-- x in a text; in a list or tuple of plain things -/
def flatD : DV → Bool
  | .non => true
  | .bl _ => true
  | .int _ => true
  | .str _ => true
  | _ => false
def eqF : DV → DV → Bool
  | .non, .non => true
  | .bl a, .bl b => a == b
  | .bl a, .int b => (if a then 1 else 0) == b
  | .int a, .bl b => a == (if b then 1 else 0)
  | .int a, .int b => a == b
  | .str a, .str b => a == b
  | _, _ => false
def inF (x : DV) (ds : List DV) : Bool := ds.any fun y => eqF y x
def subS (a b : Str) : Bool := !(Builtin.Str.occurrences b a 0 b.length 1).isEmpty
def seqD (s : Sto) (d : DV) : Option (List DV) := match d with
  | .tup ds => some ds
  | d => lstD s d
def dIn (neg : Bool) (x y : DV) (s : Sto) (Q : KD) : Prop := match y with
  | .str b => match x with
    | .str a => Q (.bl (if neg then !subS a b else subS a b)) s
    | _ => False
  | y => match seqD s y with
    | some ds => flatD x = true ∧ ds.all flatD = true ∧ Q (.bl (if neg then !inF x ds else inF x ds)) s
    | none => False
section
variable {K : PySem.W.Frag} {s : Sto} {H : Hp}
theorem flat_ok {x : V} {d : DV} (h : Dat K s H x d) (e : flatD d = true) : flatV x = true := by cases h <;> first | rfl | cases e
theorem flatL_ok : ∀ {xs : List V} {ds : List DV}, DatL K s H xs ds → ds.all flatD = true → xs.all flatV = true
  | _, _, .nil, _ => rfl
  | _, _, .cons h t, e => by
    rw [List.all_cons, Bool.and_eq_true] at e ⊢
    exact ⟨flat_ok h e.1, flatL_ok t e.2⟩
theorem eqF_ok {x y : V} {d e : DV} (h : Dat K s H x d) (h' : Dat K s H y e) (f : flatD d = true) (f' : flatD e = true) : eqV x y = eqF d e := by
  cases h <;> cases h' <;> first | rfl | cases f | cases f'
theorem inF_ok {x : V} {d : DV} (h : Dat K s H x d) (f : flatD d = true) : ∀ {xs : List V} {ds : List DV}, DatL K s H xs ds → ds.all flatD = true → inV x xs = inF d ds
  | _, _, .nil, _ => rfl
  | _, _, .cons h1 t, e => by
    rw [List.all_cons, Bool.and_eq_true] at e
    have ih := inF_ok h f t e.2
    unfold inV inF at ih ⊢
    rw [List.any_cons, List.any_cons, eqF_ok h1 h e.1 f, ih]
theorem seqD_ok (rep : Rep K s H) {v : V} {d : DV} {ds : List DV} (h : Dat K s H v d) (e : seqD s d = some ds) : ∃ a xs, v = .ref a ∧ (SqL K H a xs ∨ SqT K H a xs) ∧ DatL K s H xs ds := by
  unfold seqD at e
  split at e
  · cases e
    obtain ⟨a, xs, e1, h1, l⟩ := h.tupInv
    exact ⟨a, xs, e1, .inr h1, l⟩
  · obtain ⟨a, xs, e1, h1, l⟩ := lstD_ok rep h e
    exact ⟨a, xs, e1, .inl h1, l⟩
end
theorem od_in : OpD X (compareOp .In) (dIn false) := opImp (opOr op_in_str op_in_seq) fun x y H Q h => by
  obtain ⟨dx, dy, s, Q', rep, hx, hy, r, k⟩ := h
  unfold dIn at r
  split at r
  · split at r
    · cases hx; cases hy
      exact .inl ⟨_, _, rfl, rfl, k _ H _ s (Stp.refl s H) rep (.bl _) r⟩
    · exact r.elim
  · split at r
    · rename_i ds e
      obtain ⟨a, xs, rfl, hs, l⟩ := seqD_ok rep hy e
      refine .inr ⟨a, xs, rfl, hs, flat_ok hx r.1, flatL_ok l r.2.1, ?_⟩
      rw [inF_ok hx r.1 l r.2.1]
      exact k _ H _ s (Stp.refl s H) rep (.bl _) r.2.2
    · exact r.elim
theorem od_notin : OpD X (compareOp .NotIn) (dIn true) := opImp (opOr op_notIn_str op_notIn_seq) fun x y H Q h => by
  obtain ⟨dx, dy, s, Q', rep, hx, hy, r, k⟩ := h
  unfold dIn at r
  split at r
  · split at r
    · cases hx; cases hy
      exact .inl ⟨_, _, rfl, rfl, k _ H _ s (Stp.refl s H) rep (.bl _) r⟩
    · exact r.elim
  · split at r
    · rename_i ds e
      obtain ⟨a, xs, rfl, hs, l⟩ := seqD_ok rep hy e
      refine .inr ⟨a, xs, rfl, hs, flat_ok hx r.1, flatL_ok l r.2.1, ?_⟩
      rw [inF_ok hx r.1 l r.2.1]
      exact k _ H _ s (Stp.refl s H) rep (.bl _) r.2.2
    · exact r.elim
end
end DL

set_option Elab.async false
set_option linter.all false
set_option maxRecDepth 100000
set_option maxHeartbeats 4000000
namespace DL
open PySem PySem.Spec PyProof.Rows L2

/-! ### a dict of the store -/
def keyD : DV → Option Key
  | .int i => some (.inl i)
  | .str x => some (.inr x)
  | _ => none
def getP {κ : Type} [DecidableEq κ] (ks : List (κ × DV)) (k : κ) : Option DV := (ks.find? fun kv => decide (kv.1 = k)).map (·.2)
def putP {κ : Type} [DecidableEq κ] (ks : List (κ × DV)) (k : κ) (v : DV) : List (κ × DV) :=
  if (ks.any fun kv => decide (kv.1 = k)) = true then ks.map (fun kv => if kv.1 = k then (kv.1, v) else kv) else ks ++ [(k, v)]
def dictD (s : Sto) (d : DV) : Option (List (Key × DV)) := match d with
  | .ref a => match s a with
    | some (.dK ks) => some ks
    | _ => none
  | _ => none
section
variable {K : PySem.W.Frag} {s : Sto} {H : Hp}
theorem keyD_ok {v : V} {d : DV} {k : Key} (h : Dat K s H v d) (e : keyD d = some k) : v = kV k := by
  cases d with
  | int i => cases h; cases e; rfl
  | str i => cases h; cases e; rfl
  | _ => cases e
theorem dictD_ok (rep : Rep K s H) {v : V} {d : DV} {ks : List (Key × DV)} (h : Dat K s H v d) (e : dictD s d = some ks) : ∃ a kvs, d = .ref a ∧ s a = some (.dK ks) ∧ v = .ref a ∧ H a = some (.dK kvs) ∧ DatP K s H kvs ks := by
  cases d with
  | ref a =>
    cases h
    cases q : s a with
    | none => simp only [dictD, q] at e; cases e
    | some m =>
      cases m with
      | dK es =>
        simp only [dictD, q] at e
        cases e
        obtain ⟨kvs, h1, h2⟩ := rep a _ q
        exact ⟨a, kvs, rfl, q, rfl, h1, h2⟩
      | hid => simp only [dictD, q] at e; cases e
      | lst ks => simp only [dictD, q] at e; cases e
      | ins C fs => simp only [dictD, q] at e; cases e
  | _ => cases e
variable {κ : Type} [DecidableEq κ]
theorem getP_ok : ∀ {kvs : List (κ × V)} {ks : List (κ × DV)} {k : κ} {d : DV}, DatP K s H kvs ks → getP ks k = some d → ∃ v, valV kvs k = some v ∧ Dat K s H v d
  | _, _, _, _, .nil, e => by cases e
  | _, _, k, d, .cons (a := p) (b := q) h t, e => by
    by_cases c : q.1 = k
    · have c2 : p.1 = k := h.1.trans c
      have e2 : q.2 = d := by
        unfold getP at e
        rw [List.find?_cons_of_pos (by simpa using c)] at e
        exact Option.some.inj e
      refine ⟨p.2, ?_, by rw [← e2]; exact h.2⟩
      unfold valV
      rw [List.find?_cons_of_pos (by simpa using c2)]
      rfl
    · have c2 : ¬ p.1 = k := by rw [h.1]; exact c
      unfold getP at e
      rw [List.find?_cons_of_neg (by simpa using c)] at e
      obtain ⟨v, h1, h2⟩ := getP_ok (k := k) (d := d) t e
      refine ⟨v, ?_, h2⟩
      unfold valV
      rw [List.find?_cons_of_neg (by simpa using c2)]
      exact h1
theorem getP_none : ∀ {kvs : List (κ × V)} {ks : List (κ × DV)} {k : κ}, DatP K s H kvs ks → getP ks k = none → valV kvs k = none
  | _, _, _, .nil, e => rfl
  | _, _, k, .cons (a := p) (b := q) h t, e => by
    by_cases c : q.1 = k
    · unfold getP at e
      rw [List.find?_cons_of_pos (by simpa using c)] at e
      cases e
    · have c2 : ¬ p.1 = k := by rw [h.1]; exact c
      unfold getP at e
      rw [List.find?_cons_of_neg (by simpa using c)] at e
      have ih := getP_none (k := k) t e
      unfold valV
      rw [List.find?_cons_of_neg (by simpa using c2)]
      exact ih
theorem anyP_ok (k : κ) : ∀ {kvs : List (κ × V)} {ks : List (κ × DV)}, DatP K s H kvs ks → (kvs.any fun kv => decide (kv.1 = k)) = (ks.any fun kv => decide (kv.1 = k))
  | _, _, .nil => rfl
  | _, _, .cons h t => by rw [List.any_cons, List.any_cons, h.1, anyP_ok k t]
theorem DatP.append : ∀ {a b : List (κ × V)} {c d : List (κ × DV)}, DatP K s H a c → DatP K s H b d → DatP K s H (a ++ b) (c ++ d)
  | _, _, _, _, .nil, h => h
  | _, _, _, _, .cons h t, h' => .cons h (DatP.append t h')
theorem mapP_ok (k : κ) {v : V} {d : DV} (hv : Dat K s H v d) : ∀ {kvs : List (κ × V)} {ks : List (κ × DV)}, DatP K s H kvs ks → DatP K s H (kvs.map fun kv => if kv.1 = k then (kv.1, v) else kv) (ks.map fun kv => if kv.1 = k then (kv.1, d) else kv)
  | _, _, .nil => .nil
  | _, _, .cons (a := p) (b := q) h t => by
    refine .cons ?_ (mapP_ok k hv t)
    by_cases c : q.1 = k
    · have c2 : p.1 = k := h.1.trans c
      simp only [c, c2, if_true]
      exact ⟨trivial, hv⟩
    · have c2 : ¬ p.1 = k := by rw [h.1]; exact c
      simp only [c, c2, if_false]
      exact h
theorem putP_ok (k : κ) {v : V} {d : DV} (hv : Dat K s H v d) {kvs : List (κ × V)} {ks : List (κ × DV)} (h : DatP K s H kvs ks) : DatP K s H (putK kvs k v) (putP ks k d) := by
  unfold putK putP
  rw [anyP_ok k h]
  split
  · exact mapP_ok k hv h
  · exact h.append (.cons ⟨rfl, hv⟩ .nil)
end

/-! ### subscripts -/
def ixD (xs : Option DV) (s : Sto) (Q : KD) : Prop := match xs with
  | some d => Q d s
  | none => False
def dIx (x y : DV) (s : Sto) (Q : KD) : Prop := match x with
  | .str z => match y with
    | .int i => z.length ≤ sizeLine ∧ match atI z.cps.toList i with
      | some c => Q (.str ⟨#[c]⟩) s
      | none => False
    | _ => False
  | x => match seqD s x with
    | some ds => match y with
      | .int i => ixD (atI ds i) s Q
      | _ => False
    | none => match dictD s x, keyD y with
      | some ks, some k => ixD (getP ks k) s Q
      | _, _ => False
section
variable {X : Cx}
theorem ix_dict (hu : X.A.units + 1 < cLine) : IxR X (fun x y H Q => ∃ a v, x = .ref a ∧ DGet H a y (some v) ∧ Q v H) := by
  intro value slice pins s σ H x y o i Q I rx ry h hs
  obtain ⟨a, v, rfl, g, q⟩ := h
  obtain rfl : o = Value.ref a := rx
  have hT := dict_typeIs I g
  unfold subscriptTail
  refine wpAny_bind ?_
  rw [getitemInPython_of_ne hT.not_modules]
  refine wpAny_bind (wpAny_specialOf hT PySem.F.slot_dict_getitem.lookup ?_)
  have fin : wpAny (model X.prog X.w) X.A (subscripted slice false (.ref a) i) (fun r s₃ => wpAny (model X.prog X.w) X.A (letTemporaryGo value (.ref a) r >>= fun _ => pure r) (EP X pins σ Q) X.xe s₃) X.xe s := by
    rw [hs]
    exact wpAny_operating (d_getItem hu I g ry fun w' s3 I3 rw' => wpAny_bind (wpAny_letTemporaryGo (wpAny_pure ⟨v, H, I3, rw', q⟩)))
  first
    | exact wpAny_pure (wpAny_bind fin)
    | exact wpAny_bind (wpAny_pure (wpAny_bind fin))
    | exact wpAny_bind fin
theorem ixOr {r r' : R2} (h : IxR X r) (h' : IxR X r') : IxR X (fun x y H Q => r x y H Q ∨ r' x y H Q) := fun value slice pins s σ H x y v u Q I rx ry q e =>
  q.elim (fun q => h value slice pins s σ H x y v u Q I rx ry q e) fun q => h' value slice pins s σ H x y v u Q I rx ry q e
theorem ixImp {r r' : R2} (h : IxR X r) (w : ∀ x y H Q, r' x y H Q → r x y H Q) : IxR X r' := fun value slice pins s σ H x y v u Q I rx ry q e => h value slice pins s σ H x y v u Q I rx ry (w _ _ _ _ q) e
theorem atI_ok {K : PySem.W.Frag} {s : Sto} {H : Hp} {xs : List V} {ds : List DV} {i : Int} {d : DV} (l : DatL K s H xs ds) (e : atI ds i = some d) : ∃ v, atI xs i = some v ∧ Dat K s H v d := by
  unfold atI at e ⊢
  rw [← l.length] at e
  cases q : ixN xs.length i with
  | none => rw [q] at e; cases e
  | some j =>
    rw [q] at e
    exact l.get' e
theorem ix_d (hu : X.A.units + 1 < cLine) : IxR X (lR X.K dIx) := by
  refine ixImp (ixOr ix_list (ixOr ix_tup (ixOr ix_str (ix_dict hu)))) fun x y H Q h => ?_
  obtain ⟨dx, dy, s, Q', rep, hx, hy, r, k⟩ := h
  have k0 := fun v d hv q => k v H d s (Stp.refl s H) rep hv q
  unfold dIx at r
  split at r
  · split at r
    · cases hx; cases hy
      obtain ⟨z, r⟩ := r
      split at r
      · exact .inr (.inr (.inl ⟨_, _, _, rfl, rfl, z, ‹_›, k0 _ _ (.str _) r⟩))
      · exact r.elim
    · exact r.elim
  · split at r
    · rename_i ds e
      split at r
      · cases hy
        unfold ixD at r
        split at r
        · rename_i d ed
          obtain ⟨a, xs, rfl, hs, l⟩ := seqD_ok rep hx e
          obtain ⟨v, h1, h2⟩ := atI_ok l ed
          rcases hs with hs | hs
          · exact .inl ⟨a, xs, _, v, rfl, rfl, hs, h1, k0 _ _ h2 r⟩
          · exact .inr (.inl ⟨a, xs, _, v, rfl, rfl, hs, h1, k0 _ _ h2 r⟩)
        · exact r.elim
      · exact r.elim
    · split at r
      · rename_i ks kk e1 e2
        unfold ixD at r
        split at r
        · rename_i d ed
          obtain ⟨a, kvs, e0, _, rfl, hH, hp⟩ := dictD_ok rep hx e1
          obtain ⟨v, h1, h2⟩ := getP_ok hp ed
          exact .inr (.inr (.inr ⟨a, v, rfl, .inl ⟨kvs, kk, .inl hH, keyD_ok hy e2, h1.symm⟩, k0 _ _ h2 r⟩))
        · exact r.elim
      · exact r.elim
variable {A : Anc} {a b e : Expr} {ta tb te : TEd} {pos p2 : Pos}
theorem dix (hu : X.A.units + 1 < cLine) (ha : PD A X a ta) (hb : PD A X b tb) (hs : PlainIx b := by first | exact fun _ _ => rfl | (intro _ _; rfl)) : PD A X (.Subscript a b pos) (dOp dIx ta tb) := peImp (pe_ix (ix_d hu) ha hb hs) fun _ _ _ h => lE_bin h
end

/-! ### slices -/
abbrev TOd := Ed → Sto → (Option Int → Sto → Prop) → Prop
def lO (K : PySem.W.Frag) (A : Anc) (t : TOd) : TO := fun σ H Q => ∃ δ s Q', Sd K A σ H δ s ∧ t δ s Q' ∧ ∀ o H2 s2, Stp s H s2 H2 → Rep K s2 H2 → Q' o s2 → Q o H2
abbrev POd (A : Anc) (X : Cx) (e : Option Expr) (t : TOd) : Prop := PO X e (lO X.K A t)
def kPart (Q : Option Int → Sto → Prop) (d : DV) (s1 : Sto) : Prop := match d with
  | .int i => Q (some i) s1
  | _ => False
def dPart (t : TEd) (δ : Ed) (s : Sto) (Q : Option Int → Sto → Prop) : Prop := t δ s (kPart Q)
def dNoPart (δ : Ed) (s : Sto) (Q : Option Int → Sto → Prop) : Prop := Q none s
def cutD (ds : List DV) (lo hi : Option Int) : List DV := (ds.drop (HT.sIx ds.length 0 lo)).take (HT.sIx ds.length ds.length hi - HT.sIx ds.length 0 lo)
abbrev RSd := DV → Option Int → Option Int → Sto → KD → Prop
def dSlR (x : DV) (lo hi : Option Int) (s : Sto) (Q : KD) : Prop := match x with
  | .str z => z.length ≤ sizeLine ∧ Q (.str (cutS z lo hi)) s
  | .tup ds => Q (.tup (cutD ds lo hi)) s
  | x => match lstD s x with
    | some ds => Q (.lst (cutD ds lo hi)) s
    | none => False
def dSlM (x : DV) (lo hi : Option Int) (s : Sto) (Q : KD) : Prop := match lstD s x with
    | some ds => ∀ p, s p = none → Q (.ref p) (up s p (.lst (cutD ds lo hi)))
    | none => False
def kSl3 (r : RSd) (Q : KD) (x : DV) (l u : Option Int) (s3 : Sto) : Prop := r x l u s3 Q
def kSl2 (r : RSd) (th : TOd) (δ : Ed) (Q : KD) (x : DV) (l : Option Int) (s2 : Sto) : Prop := th δ s2 (kSl3 r Q x l)
def kSl1 (r : RSd) (tl th : TOd) (δ : Ed) (Q : KD) (x : DV) (s1 : Sto) : Prop := tl δ s1 (kSl2 r th δ Q x)
def dSl (r : RSd) (te : TEd) (tl th : TOd) (δ : Ed) (s : Sto) (Q : KD) : Prop := te δ s (kSl1 r tl th δ Q)
def lSl (K : PySem.W.Frag) (r : RSd) : V → Option Int → Option Int → Hp → VK → Prop := fun x lo hi H Q => ∃ d s Q', Rep K s H ∧ Dat K s H x d ∧ r d lo hi s Q' ∧ ∀ v H2 d s2, Stp s H s2 H2 → Rep K s2 H2 → Dat K s2 H2 v d → Q' d s2 → Q v H2
section
variable {X : Cx}
theorem slOr {r r' : V → Option Int → Option Int → Hp → VK → Prop} (h : SlR X r) (h' : SlR X r') : SlR X (fun x l u H Q => r x l u H Q ∨ r' x l u H Q) := fun pins s σ H x v vl vu lo hi sl Q I rx hs pl pu q =>
  q.elim (fun q => h pins s σ H x v vl vu lo hi sl Q I rx hs pl pu q) fun q => h' pins s σ H x v vl vu lo hi sl Q I rx hs pl pu q
theorem slImp {r r' : V → Option Int → Option Int → Hp → VK → Prop} (h : SlR X r) (w : ∀ x l u H Q, r' x l u H Q → r x l u H Q) : SlR X r' := fun pins s σ H x v vl vu lo hi sl Q I rx hs pl pu q =>
  h pins s σ H x v vl vu lo hi sl Q I rx hs pl pu (w _ _ _ _ _ q)
theorem cut_ok {K : PySem.W.Frag} {s : Sto} {H : Hp} {xs : List V} {ds : List DV} (l : DatL K s H xs ds) (lo hi : Option Int) : DatL K s H (cutV xs lo hi) (cutD ds lo hi) := by
  unfold cutV cutD
  rw [l.length]
  exact (l.drop _).take _
theorem cutD_whole {ds : List DV} {lo hi : Option Int} (h1 : HT.sIx ds.length 0 lo = 0) (h2 : HT.sIx ds.length ds.length hi = ds.length) : cutD ds lo hi = ds := by
  unfold cutD
  rw [h1, h2]
  simp
theorem sl_d : SlR X (lSl X.K dSlR) := by
  refine slImp (slOr sl_list (slOr sl_tupA sl_str)) fun x lo hi H Q h => ?_
  obtain ⟨d, s, Q', rep, hx, r, k⟩ := h
  unfold dSlR at r
  split at r
  · cases hx
    exact .inr (.inr ⟨_, rfl, r.1, k _ H _ s (Stp.refl s H) rep (.str _) r.2⟩)
  · rename_i ds
    obtain ⟨a, xs, rfl, h1, l⟩ := hx.tupInv
    refine .inr (.inl ⟨a, xs, rfl, h1, fun w => ?_, fun _ p hp => ?_⟩)
    · rw [l.length] at w
      rw [cutD_whole w.1 w.2] at r
      exact k _ H _ s (Stp.refl s H) rep (.tup h1 l) r
    · exact k _ _ _ s (Stp.newF hp) (rep.newF hp) (.tup (SqT.of upd_same) ((cut_ok l lo hi).step (Stp.newF hp) rep)) r
  · split at r
    · rename_i ds e
      obtain ⟨a, xs, rfl, hs, l⟩ := lstD_ok rep hx e
      exact .inl ⟨a, xs, rfl, hs, fun p hp => k _ _ _ s (Stp.newF hp) (rep.newF hp) (.lst upd_same (rep.fresh hp) ((cut_ok l lo hi).step (Stp.newF hp) rep)) r⟩
    · exact r.elim
theorem sl_m : SlR X (lSl X.K dSlM) := by
  refine slImp sl_list fun x lo hi H Q h => ?_
  obtain ⟨d, s, Q', rep, hx, r, k⟩ := h
  unfold dSlM at r
  split at r
  · rename_i ds e
    obtain ⟨a, xs, rfl, hs, l⟩ := lstD_ok rep hx e
    refine ⟨a, xs, rfl, hs, fun p hp => ?_⟩
    obtain ⟨st2, rep2⟩ := new_lst rep hp (cut_ok l lo hi)
    exact k _ _ _ _ st2 rep2 (.ref p) (r p (rep.fresh hp))
  · exact r.elim
variable {A : Anc} {e : Expr} {lo hi : Option Expr} {te : TEd} {tl th : TOd} {r : RSd} {pos p2 : Pos}
theorem dpo (h : PD A X e te) : POd A X (some e) (dPart te) := ⟨fun pins s σ H Q I h' => (po_some h).run pins s σ H Q I (by
  obtain ⟨δ, s, Q', S, t, k⟩ := h'
  refine ⟨δ, s, _, S, t, fun v H2 d s2 st rep dv q => ?_⟩
  cases d with
  | int i => exact ⟨i, dv.intInv, k _ H2 s2 st rep q⟩
  | _ => exact False.elim q)⟩
theorem dpn : POd A X none dNoPart := ⟨fun pins s σ H Q I h' => po_none.run pins s σ H Q I (by
  obtain ⟨δ, s, Q', S, t, k⟩ := h'
  exact k none H s (Stp.refl s H) S.rep t)⟩
theorem dslice (hr : SlR X (lSl X.K r)) (he : PD A X e te) (hl : POd A X lo tl) (hu : POd A X hi th) : PD A X (.Subscript e (.Slice lo hi none p2) pos) (dSl r te tl th) := peImp (pe_slice hr he hl hu) fun σ H Q h => by
  obtain ⟨δ, s, Q', S, t, k⟩ := h
  refine ⟨δ, s, _, S, t, fun v H1 d s1 st1 rep1 dv q1 => ?_⟩
  have S1 := S.go st1 rep1
  refine ⟨δ, s1, _, S1, q1, fun l H2 s2 st2 rep2 q2 => ?_⟩
  refine ⟨δ, s2, _, S1.go st2 rep2, q2, fun u H3 s3 st3 rep3 q3 => ?_⟩
  exact ⟨d, s3, _, rep3, (dv.step st2 rep1).step st3 rep2, q3, fun v4 H4 d4 s4 st4 => k v4 H4 d4 s4 (((st1.trans st2).trans st3).trans st4)⟩
end

/-! ### stores by subscript -/
abbrev RSetD := DV → DV → DV → Sto → (Sto → Prop) → Prop
def dSetR (o i v : DV) (s : Sto) (Q : Sto → Prop) : Prop := match o with
  | .ref a => match s a with
    | some (.lst ds) => match i with
      | .int k => match ixN ds.length k with
        | some j => Q (up s a (.lst (ds.set j v)))
        | none => False
      | _ => False
    | some (.dK ks) => match keyD i with
      | some k => ks.length < sizeLine ∧ Q (up s a (.dK (putP ks k v)))
      | none => False
    | _ => False
  | _ => False
def lSet (K : PySem.W.Frag) : TSet := fun o i v H Q => ∃ do_ di dv s Q', Rep K s H ∧ Dat K s H o do_ ∧ Dat K s H i di ∧ Dat K s H v dv ∧ dSetR do_ di dv s Q' ∧ ∀ H2 s2, Stp s H s2 H2 → Rep K s2 H2 → Q' s2 → Q H2
def kSub2 (d : DV) (δ : Ed) (Q : Ed → Sto → Prop) (o i : DV) (s2 : Sto) : Prop := dSetR o i d s2 (Q δ)
def kSub1 (ti : TEd) (d : DV) (δ : Ed) (Q : Ed → Sto → Prop) (o : DV) (s1 : Sto) : Prop := ti δ s1 (kSub2 d δ Q o)
def gSubD (to ti : TEd) (d : DV) (δ : Ed) (s : Sto) (Q : Ed → Sto → Prop) : Prop := to δ s (kSub1 ti d δ Q)
section
variable {X : Cx}
theorem set_dict (hu : X.A.units + 1 < cLine) : PSet X (fun o i v H Q => ∃ a H', o = .ref a ∧ DPut H a i v H' ∧ Q H') := by
  intro pins s σ H o i v ov iv u Q I ro ri rv h
  obtain ⟨a, H', rfl, g, q⟩ := h
  obtain rfl : ov = Value.ref a := ro
  exact d_setItem hu I g ri rv fun s4 I4 => ⟨H', I4, q⟩
theorem Paired.length' {α β : Type} {R : α → β → Prop} {xs : List α} {ys : List β} (h : Paired R xs ys) : xs.length = ys.length := Paired.length h
theorem set_d (hu : X.A.units + 1 < cLine) : PSet X (lSet X.K) := by
  intro pins s σ H o i v ov iv u Q I ro ri rv h
  obtain ⟨do_, di, dv, s0, Q', rep, ho, hi, hv, r, k⟩ := h
  unfold dSetR at r
  split at r
  · rename_i a
    cases ho
    split at r
    · rename_i ds e
      split at r
      · rename_i kk
        cases hi
        split at r
        · rename_i j ej
          obtain ⟨xs, h1, l⟩ := rep a _ e
          have st : Stp s0 H (up s0 a (.lst (ds.set j dv))) (upd H a (.lst (xs.set j v))) := Stp.wr (by rw [e]; trivial)
          refine set_list pins s σ H _ _ v ov iv u Q I ro ri rv ⟨a, xs, kk, j, rfl, rfl, h1, by rw [l.length]; exact ej, ?_⟩
          exact k _ _ st (rep.put st ⟨_, upd_same, (l.setAt hv j).step st rep⟩) r
        · exact r.elim
      · exact r.elim
    · rename_i ks e
      split at r
      · rename_i kk ek
        obtain ⟨kvs, h1, l⟩ := rep a _ e
        have st : Stp s0 H (up s0 a (.dK (putP ks kk dv))) (upd H a (.dK (putK kvs kk v))) := Stp.wr (by rw [e]; trivial)
        refine set_dict hu pins s σ H _ _ v ov iv u Q I ro ri rv ⟨a, _, rfl, .inl ⟨kvs, kk, h1, keyD_ok hi ek, by rw [Paired.length' l]; exact r.1, rfl⟩, ?_⟩
        exact k _ _ st (rep.put st ⟨_, upd_same, (putP_ok kk hv l).step st rep⟩) r.2
      · exact r.elim
    · exact r.elim
  · exact r.elim
variable {A : Anc} {o i : Expr} {to ti : TEd} {pos : Pos}
theorem dgsub (hu : X.A.units + 1 < cLine) (ho : PD A X o to) (hi : PD A X i ti) (ha : ∀ v, assign (.Subscript o i pos) X.env v = (do
      let ov ← holding [v] (eval o X.env)
      let iv ← holding [v, ov] (eval i X.env)
      standAt pos
      holding [v, ov, iv] (setItem ov iv v)
      release [v, ov, iv] []) := by intro _; rfl) : PGd A X (.Subscript o i pos) (gSubD to ti) := pgImp (pg_sub ho hi (set_d hu) ha) fun v σ H Q h => by
  obtain ⟨d, δ, s, Q', S, dv, g, k⟩ := h
  refine ⟨δ, s, _, S, g, fun x1 H1 d1 s1 st1 rep1 dv1 q1 => ?_⟩
  have S1 := S.go st1 rep1
  refine ⟨δ, s1, _, S1, q1, fun x2 H2 d2 s2 st2 rep2 dv2 q2 => ?_⟩
  refine ⟨d1, d2, d, s2, _, rep2, dv1.step st2 rep1, dv2, (dv.step st1 S.rep).step st2 rep1, q2, fun H3 s3 st3 rep3 q3 => ?_⟩
  exact k σ H3 δ s3 ((S1.go st2 rep2).go st3 rep3) q3
end

/-! ### calls of what is built in -/
abbrev RCd := List DV → Sto → KD → Prop
def lC (K : PySem.W.Frag) (r : RCd) : List V → Hp → VK → Prop := fun xs H Q => ∃ ds s Q', Rep K s H ∧ DatL K s H xs ds ∧ r ds s Q' ∧ ∀ v H2 d s2, Stp s H s2 H2 → Rep K s2 H2 → Dat K s2 H2 v d → Q' d s2 → Q v H2
def kCB (r : RCd) (Q : KD) (ds : List DV) (s1 : Sto) : Prop := r ds s1 Q
def dCB (r : RCd) (t : TAd) (δ : Ed) (s : Sto) (Q : KD) : Prop := t δ s (kCB r Q)
section
variable {X : Cx} {A : Anc} {x : Str} {id T : String} {r : RCd} {e : Expr} {es : List Expr} {t : TAd} {p pos : Pos}
theorem lE_CB {K : PySem.W.Frag} {σ : L2.St} {H : Hp} {Q : VK} (h : lE K A (dCB r t) σ H Q) : tCB (lC K r) (lA K A t) σ H Q := by
  obtain ⟨δ, s, Q', S, t, k⟩ := h
  exact ⟨δ, s, _, S, t, fun vs H2 ds s2 st rep dv q => ⟨ds, s2, _, rep, dv, q, fun v3 H3 d3 s3 st3 => k v3 H3 d3 s3 (st.trans st3)⟩⟩
theorem dcallB (hc : CallR X (.builtin id) (lC X.K r)) (hm : X.mg x = none) (hv : bootBuiltins x = some (.builtin id)) (ha : PAd A X (e :: es) t) (hg : Gl X x := by rfl) (hn : x ≠ "__name__" := by decide) (hdb : (x == ("__debug__" : Str)) = false := by decide)
    (he : starEach (e :: es) X.env = (false, eval e X.env) :: starEach es X.env := by rfl) (hpl : (backTo pos (starEach es X.env)).any (·.1) = false := by rfl) : PD A X (.Call (.Name x p) (e :: es) [] pos) (dCB r t) :=
  peImp (pe_callB hc hg hm hv ha hn hdb he hpl) fun _ _ _ h => lE_CB h
theorem dcallTy (hc : CallR X (.type T) (lC X.K r)) (hm : X.mg x = none) (hv : bootBuiltins x = some (.type T)) (ha : PAd A X (e :: es) t) (hg : Gl X x := by rfl) (hn : x ≠ "__name__" := by decide) (hdb : (x == ("__debug__" : Str)) = false := by decide)
    (he : starEach (e :: es) X.env = (false, eval e X.env) :: starEach es X.env := by rfl) (hpl : (backTo pos (starEach es X.env)).any (·.1) = false := by rfl) : PD A X (.Call (.Name x p) (e :: es) [] pos) (dCB r t) :=
  peImp (pe_callTy hc hg hm hv ha hn hdb he hpl) fun _ _ _ h => lE_CB h
theorem callImp {f : Value} {r r' : List V → Hp → VK → Prop} (h : CallR X f r) (w : ∀ xs H Q, r' xs H Q → r xs H Q) : CallR X f r' := fun pins s σ H xs us Q I rx q => h pins s σ H xs us Q I rx (w _ _ _ q)
theorem callOr {f : Value} {r r' : List V → Hp → VK → Prop} (h : CallR X f r) (h' : CallR X f r') : CallR X f (fun xs H Q => r xs H Q ∨ r' xs H Q) := fun pins s σ H xs us Q I rx q =>
  q.elim (fun q => h pins s σ H xs us Q I rx q) fun q => h' pins s σ H xs us Q I rx q
def lenD (s : Sto) (d : DV) : Option Nat := match d with
  | .str z => if z.length ≤ sizeLine then some z.length else none
  | d => (seqD s d).map (·.length)
def dLen (ds : List DV) (s : Sto) (Q : KD) : Prop := match ds with
  | [d] => match lenD s d with
    | some n => Q (.int n) s
    | none => False
  | _ => False
theorem cd_len : CallR X (.builtin "len") (lC X.K dLen) := callImp call_len fun xs H Q h => by
  obtain ⟨ds, s, Q', rep, hx, r, k⟩ := h
  unfold dLen at r
  split at r
  · rename_i d
    cases hx with
    | cons h t =>
      cases t
      split at r
      · rename_i n e
        have fin := fun v d hv q => k v H d s (Stp.refl s H) rep hv q
        unfold lenD at e
        split at e
        · cases h
          split at e
          · cases e
            exact ⟨_, _, rfl, ⟨‹_›, rfl⟩, fin _ _ (.int _) r⟩
          · cases e
        · cases q : seqD s d with
          | none => rw [q] at e; cases e
          | some ds =>
            rw [q] at e
            cases e
            obtain ⟨a, xs, rfl, hs, l⟩ := seqD_ok rep h q
            refine ⟨_, xs.length, rfl, ?_, by rw [l.length]; exact fin _ _ (.int _) r⟩
            rcases hs with hs | hs
            · exact .inl ⟨xs, hs, rfl⟩
            · exact .inr ⟨xs, hs, rfl⟩
      · exact r.elim
  · exact r.elim
def dAbs (ds : List DV) (s : Sto) (Q : KD) : Prop := match ds with
  | [.int i] => Q (.int (if i < 0 then -i else i)) s
  | _ => False
theorem cd_abs : CallR X (.builtin "abs") (lC X.K dAbs) := callImp call_abs fun xs H Q h => by
  obtain ⟨ds, s, Q', rep, hx, r, k⟩ := h
  unfold dAbs at r
  split at r
  · cases hx with
    | cons h t => cases t; cases h; exact ⟨_, rfl, k _ H _ s (Stp.refl s H) rep (.int _) r⟩
  · exact r.elim
def dMin2 (ds : List DV) (s : Sto) (Q : KD) : Prop := match ds with
  | [.int i, .int j] => Q (.int (if j < i then j else i)) s
  | _ => False
theorem cd_min2 (hc : X.calm = true) : CallR X (.builtin "min") (lC X.K dMin2) := callImp (call_min2 hc) fun xs H Q h => by
  obtain ⟨ds, s, Q', rep, hx, r, k⟩ := h
  unfold dMin2 at r
  split at r
  · cases hx with
    | cons h t => cases t with
      | cons h2 t => cases t; cases h; cases h2; exact ⟨_, _, rfl, k _ H _ s (Stp.refl s H) rep (.int _) r⟩
  · exact r.elim
def dMax2 (ds : List DV) (s : Sto) (Q : KD) : Prop := match ds with
  | [.int i, .int j] => Q (.int (if j > i then j else i)) s
  | _ => False
theorem cd_max2 (hc : X.calm = true) : CallR X (.builtin "max") (lC X.K dMax2) := callImp (call_max2 hc) fun xs H Q h => by
  obtain ⟨ds, s, Q', rep, hx, r, k⟩ := h
  unfold dMax2 at r
  split at r
  · cases hx with
    | cons h t => cases t with
      | cons h2 t => cases t; cases h; cases h2; exact ⟨_, _, rfl, k _ H _ s (Stp.refl s H) rep (.int _) r⟩
  · exact r.elim
/-- list(x): kept apart in the store, or seen through -/
def dListM (ds : List DV) (s : Sto) (Q : KD) : Prop := match ds with
  | [d] => match seqD s d with
    | some es => ∀ p, s p = none → Q (.ref p) (up s p (.lst es))
    | none => False
  | _ => False
def dListF (ds : List DV) (s : Sto) (Q : KD) : Prop := match ds with
  | [d] => match seqD s d with
    | some es => Q (.lst es) s
    | none => False
  | _ => False
def dTupF (ds : List DV) (s : Sto) (Q : KD) : Prop := match ds with
  | [d] => match seqD s d with
    | some es => Q (.tup es) s
    | none => False
  | _ => False
theorem cd_listM : CallR X (.type "list") (lC X.K dListM) := callImp call_list_of fun xs H Q h => by
  obtain ⟨ds, s, Q', rep, hx, r, k⟩ := h
  unfold dListM at r
  split at r
  · cases hx with
    | cons h t =>
      cases t
      split at r
      · rename_i es e
        obtain ⟨a, ys, rfl, hs, l⟩ := seqD_ok rep h e
        refine ⟨a, ys, rfl, hs, fun p hp => ?_⟩
        obtain ⟨st2, rep2⟩ := new_lst rep hp l
        exact k _ _ _ _ st2 rep2 (.ref p) (r p (rep.fresh hp))
      · exact r.elim
  · exact r.elim
theorem cd_listF : CallR X (.type "list") (lC X.K dListF) := callImp call_list_of fun xs H Q h => by
  obtain ⟨ds, s, Q', rep, hx, r, k⟩ := h
  unfold dListF at r
  split at r
  · cases hx with
    | cons h t =>
      cases t
      split at r
      · rename_i es e
        obtain ⟨a, ys, rfl, hs, l⟩ := seqD_ok rep h e
        exact ⟨a, ys, rfl, hs, fun p hp => k _ _ _ s (Stp.newF hp) (rep.newF hp) (.lst upd_same (rep.fresh hp) (l.step (Stp.newF hp) rep)) r⟩
      · exact r.elim
  · exact r.elim
theorem cd_tup : CallR X (.type "tuple") (lC X.K dTupF) := callImp call_tuple_of fun xs H Q h => by
  obtain ⟨ds, s, Q', rep, hx, r, k⟩ := h
  unfold dTupF at r
  split at r
  · cases hx with
    | cons h t =>
      cases t
      split at r
      · rename_i es e
        obtain ⟨a, ys, rfl, hs, l⟩ := seqD_ok rep h e
        refine ⟨a, ys, rfl, ?_⟩
        rcases hs with hs | hs
        · exact .inl ⟨hs, fun p hp => k _ _ _ s (Stp.newF hp) (rep.newF hp) (.tup (SqT.of upd_same) (l.step (Stp.newF hp) rep)) r⟩
        · exact .inr ⟨hs, k _ H _ s (Stp.refl s H) rep (.tup hs l) r⟩
      · exact r.elim
  · exact r.elim
def dOrd (ds : List DV) (s : Sto) (Q : KD) : Prop := match ds with
  | [.str z] => z.length = 1 ∧ Q (.int (z.cps.getD 0 0 : Nat)) s
  | _ => False
theorem cd_ord : CallR X (.builtin "ord") (lC X.K dOrd) := callImp call_ord fun xs H Q h => by
  obtain ⟨ds, s, Q', rep, hx, r, k⟩ := h
  unfold dOrd at r
  split at r
  · cases hx with
    | cons h t => cases t; cases h; exact ⟨_, rfl, r.1, k _ H _ s (Stp.refl s H) rep (.int _) r.2⟩
  · exact r.elim
def dStr (ds : List DV) (s : Sto) (Q : KD) : Prop := match ds with
  | [.int i] => i.natAbs.log2 < 1920 ∧ Q (.str (toString i)) s
  | _ => False
theorem cd_str : CallR X (.type "str") (lC X.K dStr) := callImp call_str_int fun xs H Q h => by
  obtain ⟨ds, s, Q', rep, hx, r, k⟩ := h
  unfold dStr at r
  split at r
  · cases hx with
    | cons h t => cases t; cases h; exact ⟨_, rfl, r.1, k _ H _ s (Stp.refl s H) rep (.str _) r.2⟩
  · exact r.elim
end

/-! ### methods of what is built in -/
abbrev RMd := DV → List DV → Sto → KD → Prop
def lM (K : PySem.W.Frag) (r : RMd) : V → List V → Hp → VK → Prop := fun x xs H Q => ∃ d ds s Q', Rep K s H ∧ Dat K s H x d ∧ DatL K s H xs ds ∧ r d ds s Q' ∧ ∀ v H2 d s2, Stp s H s2 H2 → Rep K s2 H2 → Dat K s2 H2 v d → Q' d s2 → Q v H2
def tyD (T : String) (s : Sto) (d : DV) : Bool := match d with
  | .str _ => T == "str"
  | .int _ => T == "int"
  | .ref a => match s a with
    | some (.lst _) => T == "list"
    | some (.dK _) => T == "dict"
    | _ => false
  | .lst _ => T == "list"
  | .scr _ => T == "list"
  | _ => false
def kBM2 (r : RMd) (Q : KD) (x : DV) (xs : List DV) (s2 : Sto) : Prop := r x xs s2 Q
def kBM1 (T : String) (r : RMd) (t : TAd) (δ : Ed) (Q : KD) (x : DV) (s1 : Sto) : Prop := tyD T s1 x = true ∧ t δ s1 (kBM2 r Q x)
def dBM (T : String) (r : RMd) (to : TEd) (t : TAd) (δ : Ed) (s : Sto) (Q : KD) : Prop := to δ s (kBM1 T r t δ Q)
section
variable {X : Cx} {A : Anc} {T id : String} {name : Str} {r : RMd} {o e : Expr} {es : List Expr} {to : TEd} {t : TAd} {apos cpos : Pos}
theorem tyD_ok {K : PySem.W.Frag} {s : Sto} {H : Hp} {v : V} {d : DV} (rep : Rep K s H) (h : Dat K s H v d) (e : tyD T s d = true) : tyV K T v H := by
  cases d with
  | str z => cases h; exact beq_iff_eq.mp e
  | int z => cases h; exact beq_iff_eq.mp e
  | lst ds => obtain ⟨a, xs, rfl, h1, _, l⟩ := h.lstInv; exact .inl ⟨beq_iff_eq.mp e, xs, SqL.of h1⟩
  | scr ds => obtain ⟨a, xs, rfl, h1, l⟩ := h.scrInv; exact .inl ⟨beq_iff_eq.mp e, xs, h1.sq⟩
  | ref a =>
    cases h
    cases q : s a with
    | none => simp only [tyD, q] at e; cases e
    | some m =>
      cases m with
      | lst ds => simp only [tyD, q] at e; obtain ⟨xs, h1, _⟩ := rep a _ q; exact .inl ⟨beq_iff_eq.mp e, xs, SqL.of h1⟩
      | dK ds => simp only [tyD, q] at e; obtain ⟨xs, h1, _⟩ := rep a _ q; exact .inr (.inr (.inl ⟨beq_iff_eq.mp e, .inl ⟨xs, h1⟩⟩))
      | hid => simp only [tyD, q] at e; cases e
      | ins C fs => simp only [tyD, q] at e; cases e
  | _ => cases e
theorem dbm (pa : PlainAttrs T) (slot : Slot T name id) (hty : typeOf (.builtin id) = pure (.type "method_descriptor")) (hm : MtR X id (lM X.K r)) (ho : PD A X o to) (ha : PAd A X (e :: es) t)
    (hbase : attributeBase o name X.env (eval o X.env) = eval o X.env := by rfl)
    (hfew : ((backTo cpos (starEach (e :: es) X.env)).all (fun x => !x.1) && (backToKw cpos (keywordEach [] X.env)).all (fun x => x.1.isSome)
      && decide ((e :: es).length + ([] : List Keyword).length + (if ([] : List Keyword).isEmpty then 0 else 1) < 30)) = true := by rfl)
    (hline : (apos.endLine == cpos.line) = true := by rfl) (hs : starEach (e :: es) X.env = (false, eval e X.env) :: starEach es X.env := by rfl) (hplain : (backTo cpos (starEach es X.env)).any (·.1) = false := by rfl) :
    PD A X (.Call (.Attribute o name apos) (e :: es) [] cpos) (dBM T r to t) := peImp (pe_bm pa slot hty hm ho ha hbase hfew hline hs hplain) fun σ H Q h => by
  obtain ⟨δ, s, Q', S, t, k⟩ := h
  refine ⟨δ, s, _, S, t, fun v H1 d s1 st1 rep1 dv ⟨ty, q1⟩ => ⟨tyD_ok rep1 dv ty, ?_⟩⟩
  refine ⟨δ, s1, _, S.go st1 rep1, q1, fun vs H2 ds s2 st2 rep2 dvs q2 => ?_⟩
  exact ⟨d, ds, s2, _, rep2, dv.step st2 rep1, dvs, q2, fun v3 H3 d3 s3 st3 => k v3 H3 d3 s3 ((st1.trans st2).trans st3)⟩
theorem dbm0 (pa : PlainAttrs T) (slot : Slot T name id) (hty : typeOf (.builtin id) = pure (.type "method_descriptor")) (hm : MtR X id (lM X.K r)) (ho : PD A X o to)
    (hbase : attributeBase o name X.env (eval o X.env) = eval o X.env := by rfl) (hline : (apos.endLine == cpos.line) = true := by rfl) :
    PD A X (.Call (.Attribute o name apos) [] [] cpos) (dBM T r to dNil) := peImp (pe_bm0 pa slot hty hm ho hbase hline) fun σ H Q h => by
  obtain ⟨δ, s, Q', S, t, k⟩ := h
  refine ⟨δ, s, _, S, t, fun v H1 d s1 st1 rep1 dv ⟨ty, q1⟩ => ⟨tyD_ok rep1 dv ty, ?_⟩⟩
  exact ⟨d, [], s1, _, rep1, dv, .nil, q1, fun v3 H3 d3 s3 st3 => k v3 H3 d3 s3 (st1.trans st3)⟩
theorem mtImp {r r' : V → List V → Hp → VK → Prop} (h : MtR X id r) (w : ∀ x xs H Q, r' x xs H Q → r x xs H Q) : MtR X id r' := fun pins s σ H x xs v us Q I rx rxs q => h pins s σ H x xs v us Q I rx rxs (w _ _ _ _ q)
def dAppend (x : DV) (xs : List DV) (s : Sto) (Q : KD) : Prop := match x, xs with
  | .ref a, [d] => match s a with
    | some (.lst ds) => ds.length < sizeLine ∧ Q .non (up s a (.lst (ds ++ [d])))
    | _ => False
  | _, _ => False
theorem md_append : MtR X "list.append" (lM X.K dAppend) := mtImp mt_append fun x xs H Q h => by
  obtain ⟨d, ds, s, Q', rep, hx, hxs, r, k⟩ := h
  unfold dAppend at r
  split at r
  · rename_i a d
    cases hx
    cases hxs with
    | cons hd t =>
      cases t
      split at r
      · rename_i v0 _ ds e
        obtain ⟨ys, h1, l⟩ := rep a _ e
        have st : Stp s H (up s a (.lst (ds ++ [d]))) (upd H a (.lst (ys ++ [v0]))) := Stp.wr (by rw [e]; trivial)
        exact ⟨a, ys, v0, rfl, rfl, h1, by rw [l.length]; exact r.1, k _ _ _ _ st (rep.put st ⟨_, upd_same, (l.append (.cons hd .nil)).step st rep⟩) .non r.2⟩
      · exact r.elim
  · exact r.elim
def dPop (x : DV) (xs : List DV) (s : Sto) (Q : KD) : Prop := match x, xs with
  | .ref a, [] => match s a with
    | some (.lst ds) => match ds[ds.length - 1]? with
      | some d => Q d (up s a (.lst ds.dropLast))
      | none => False
    | _ => False
  | _, _ => False
theorem DatL.dropLast {K : PySem.W.Frag} {s : Sto} {H : Hp} {xs : List V} {ds : List DV} (l : DatL K s H xs ds) : DatL K s H xs.dropLast ds.dropLast := by
  rw [List.dropLast_eq_take, List.dropLast_eq_take, l.length]
  exact l.take _
theorem md_pop : MtR X "list.pop" (lM X.K dPop) := mtImp mt_pop fun x xs H Q h => by
  obtain ⟨d, ds, s, Q', rep, hx, hxs, r, k⟩ := h
  unfold dPop at r
  split at r
  · rename_i a
    cases hx
    cases hxs
    split at r
    · rename_i ds e
      split at r
      · rename_i d ed
        obtain ⟨ys, h1, l⟩ := rep a _ e
        obtain ⟨v, hv1, hv2⟩ := l.get' ed
        have st : Stp s H (up s a (.lst ds.dropLast)) (upd H a (.lst ys.dropLast)) := Stp.wr (by rw [e]; trivial)
        exact ⟨a, ys, v, rfl, rfl, h1, by rw [l.length]; exact hv1, k _ _ _ _ st (rep.put st ⟨_, upd_same, l.dropLast.step st rep⟩) (hv2.step st rep) r⟩
      · exact r.elim
    · exact r.elim
  · exact r.elim
/-- the texts of a list -/
def strsD : List DV → Option (List Str)
  | [] => some []
  | .str z :: ds => (strsD ds).map (z :: ·)
  | _ :: _ => none
theorem strsD_map : ∀ zs : List Str, strsD (zs.map DV.str) = some zs
  | [] => rfl
  | z :: zs => by
    show (strsD (zs.map DV.str)).map (z :: ·) = some (z :: zs)
    rw [strsD_map zs]
    rfl
theorem strsD_ok : ∀ {ds : List DV} {zs : List Str}, strsD ds = some zs → ds = zs.map DV.str
  | [], _, e => by cases e; rfl
  | .str z :: ds, _, e => by
    cases q : strsD ds with
    | none => simp only [strsD, q] at e; cases e
    | some ys => simp only [strsD, q] at e; cases e; rw [strsD_ok q]; rfl
  | .non :: _, _, e => by cases e
  | .bl _ :: _, _, e => by cases e
  | .int _ :: _, _, e => by cases e
  | .tup _ :: _, _, e => by cases e
  | .lst _ :: _, _, e => by cases e
  | .scr _ :: _, _, e => by cases e
  | .ref _ :: _, _, e => by cases e
  | .ty _ :: _, _, e => by cases e
def dJoin (x : DV) (xs : List DV) (s : Sto) (Q : KD) : Prop := match x, xs with
  | .str a, [d] => match seqD s d with
    | some ds => match strsD ds with
      | some ys => (ys.map (·.length)).sum + ys.length * a.length ≤ 16777216 ∧ Q (.str (Txt.join a ys)) s
      | none => False
    | none => False
  | _, _ => False
theorem md_join : MtR X "str.join" (lM X.K dJoin) := mtImp mt_join fun x xs H Q h => by
  obtain ⟨d, ds, s, Q', rep, hx, hxs, r, k⟩ := h
  unfold dJoin at r
  split at r
  · cases hx
    cases hxs with
    | cons hd t =>
      cases t
      split at r
      · rename_i ds e
        split at r
        · rename_i zs ez
          obtain ⟨a, ys, rfl, hs, l⟩ := seqD_ok rep hd e
          rw [strsD_ok ez] at l
          have el := DatL.strs l
          subst el
          exact ⟨_, a, zs, rfl, rfl, hs, r.1, k _ H _ s (Stp.refl s H) rep (.str _) r.2⟩
        · exact r.elim
      · exact r.elim
  · exact r.elim
end
end DL

set_option Elab.async false
set_option linter.all false
set_option maxRecDepth 100000
set_option maxHeartbeats 4000000
namespace DL
open PySem PySem.Spec PyProof.Rows L2

/-! ### targets made of names -/
structure PatOk (K : PySem.W.Frag) (g : TG) (g' : TGd) (sl : List Nat) : Prop where
  ok : ∀ (v : V) (d : DV) (σ : L2.St) (H : Hp) (δ : Ed) (s : Sto) (Q : Ed → Sto → Prop), Rep K s H → EnvR K s H σ δ → Dat K s H v d → g' d δ s Q →
    g v σ H fun σ2 H2 => H2 = H ∧ (∃ δ2, EnvR K s H σ2 δ2 ∧ Q δ2 s) ∧ ∀ vs : List Nat, (∀ i ∈ sl, i ∈ vs) → wipe σ2 vs = wipe σ vs
structure PatsOk (K : PySem.W.Frag) (g : TGs) (g' : TGsd) (sl : List Nat) (n : Nat) : Prop where
  ok : ∀ (v : List V) (d : List DV) (σ : L2.St) (H : Hp) (δ : Ed) (s : Sto) (Q : Ed → Sto → Prop), Rep K s H → EnvR K s H σ δ → DatL K s H v d → g' d δ s Q →
    g v σ H fun σ2 H2 => H2 = H ∧ (∃ δ2, EnvR K s H σ2 δ2 ∧ Q δ2 s) ∧ ∀ vs : List Nat, (∀ i ∈ sl, i ∈ vs) → wipe σ2 vs = wipe σ vs
theorem wipe_set (x : Option V) : ∀ (vs : List Nat) (σ : L2.St) (i : Nat), i ∈ vs → wipe (σ.set i x) vs = wipe σ vs
  | v :: vs, σ, i, h => by
    show (wipe (σ.set i x) vs).set v none = (wipe σ vs).set v none
    by_cases c : i ∈ vs
    · rw [wipe_set x vs σ i c]
    · have e : i = v := by
        cases h with
        | head => rfl
        | tail _ h => exact absurd h c
      subst e
      have comm : ∀ (ws : List Nat) (τ : L2.St), wipe (τ.set i x) ws = if i ∈ ws then wipe τ ws else (wipe τ ws).set i x := by
        intro ws
        induction ws with
        | nil => intro τ; simp [wipe]
        | cons w ws ih =>
          intro τ
          show (wipe (τ.set i x) ws).set w none = _
          rw [ih τ]
          by_cases c2 : i ∈ ws
          · rw [if_pos c2, if_pos (List.mem_cons_of_mem _ c2)]; rfl
          · rw [if_neg c2]
            by_cases c3 : i = w
            · subst c3
              rw [if_pos List.mem_cons_self, List.set_set]; rfl
            · rw [if_neg (fun z => by rcases List.mem_cons.mp z with z | z; exact c3 z; exact c2 z), List.set_comm _ _ c3]; rfl
      rw [comm vs σ, if_neg c, List.set_set]
def wipeD (δ : Ed) : List Nat → Ed
  | [] => δ
  | v :: vs => (wipeD δ vs).set v none
theorem env_wipe {K : PySem.W.Frag} {s : Sto} {H : Hp} {σ : L2.St} {δ : Ed} (e : EnvR K s H σ δ) : ∀ vs : List Nat, EnvR K s H (wipe σ vs) (wipeD δ vs)
  | [] => e
  | v :: vs => (env_wipe e vs).unset v none
section
variable {K : PySem.W.Frag}
theorem patN (i : Nat) : PatOk K (gName i) (gNameD i) [i] := ⟨fun v d σ H δ s Q _ e dv q => ⟨rfl, ⟨_, e.set dv i, q⟩, fun vs h => wipe_set _ vs σ i (h i List.mem_cons_self)⟩⟩
theorem patsN : PatsOk K gNil gNilD [] 0 := ⟨fun v d σ H δ s Q _ e dv q => by
  obtain ⟨h, q⟩ := q
  subst h
  cases dv
  exact ⟨rfl, rfl, ⟨δ, e, q⟩, fun _ _ => rfl⟩⟩
end
/-- a target that is moved on keeps what it does -/
structure GMono (g : TG) : Prop where
  mono : ∀ v σ H (Q Q' : L2.St → Hp → Prop), (∀ σ H, Q σ H → Q' σ H) → g v σ H Q → g v σ H Q'
structure GsMono (g : TGs) : Prop where
  mono : ∀ v σ H (Q Q' : L2.St → Hp → Prop), (∀ σ H, Q σ H → Q' σ H) → g v σ H Q → g v σ H Q'
theorem gmName (i : Nat) : GMono (gName i) := ⟨fun _ _ _ _ _ h q => h _ _ q⟩
theorem gmNil : GsMono gNil := ⟨fun _ _ _ _ _ h q => ⟨q.1, h _ _ q.2⟩⟩
theorem gmCons {t : TG} {u : TGs} (a : GMono t) (b : GsMono u) : GsMono (gCons t u) := ⟨fun _ _ _ _ _ h ⟨v, r, e, q⟩ => ⟨v, r, e, a.mono _ _ _ _ _ (fun _ _ q => b.mono _ _ _ _ _ h q) q⟩⟩
theorem gmTup {K : PySem.W.Frag} {n : Nat} {u : TGs} (b : GsMono u) : GMono (gTup K n u) := ⟨fun _ _ _ _ _ h ⟨a, xs, e, t, l, q⟩ => ⟨a, xs, e, t, l, b.mono _ _ _ _ _ h q⟩⟩
section
variable {K : PySem.W.Frag}
theorem patsC {t : TG} {u : TGs} {t' : TGd} {u' : TGsd} {a b : List Nat} {n : Nat} (mt : GMono t) (mu : GsMono u) (h1 : PatOk K t t' a) (h2 : PatsOk K u u' b n) : PatsOk K (gCons t u) (gConsD t' u') (a ++ b) (n + 1) := ⟨fun v d σ H δ s Q rep e dv q => by
  unfold gConsD at q
  cases dv with
  | nil => exact False.elim q
  | cons hd tl =>
    refine ⟨_, _, rfl, mt.mono _ _ _ _ _ ?_ (h1.ok _ _ σ H δ s _ rep e hd q)⟩
    rintro σ2 H2 ⟨rfl, ⟨δ2, e2, q2⟩, w2⟩
    refine mu.mono _ _ _ _ _ ?_ (h2.ok _ _ σ2 H2 δ2 s _ rep e2 tl q2)
    rintro σ3 H3 ⟨rfl, q3, w3⟩
    refine ⟨rfl, q3, fun vs hvs => ?_⟩
    rw [w3 vs fun i hi => hvs i (List.mem_append_right _ hi), w2 vs fun i hi => hvs i (List.mem_append_left _ hi)]⟩
theorem patT {u : TGs} {u' : TGsd} {b : List Nat} {n : Nat} (mu : GsMono u) (h2 : PatsOk K u u' b n) : PatOk K (gTup K n u) (gTupD n u') b := ⟨fun v d σ H δ s Q rep e dv q => by
  cases d with
  | tup ds =>
    obtain ⟨hl, q⟩ := q
    obtain ⟨a, xs, rfl, hs, l⟩ := dv.tupInv
    exact ⟨a, xs, rfl, hs, by rw [l.length]; exact hl, h2.ok xs ds σ H δ s Q rep e l q⟩
  | _ => exact False.elim q⟩
/-- a target made of names is a target -/
theorem dgpat {A : Anc} {X : Cx} {e : Expr} {g : TG} {g' : TGd} {sl : List Nat} (h : PG X e g) (m : GMono g) (p : PatOk X.K g g' sl) : PGd A X e g' := pgImp h fun v σ H Q hh => by
  obtain ⟨d, δ, s, Q', S, dv, q, k⟩ := hh
  refine m.mono _ _ _ _ _ ?_ (p.ok v d σ H δ s Q' S.rep S.env dv q)
  rintro σ2 H2 ⟨rfl, ⟨δ2, e2, q2⟩, _⟩
  exact k σ2 H2 δ2 s ⟨S.stp, S.rep, e2⟩ q2
end

/-! ### what a loop walks -/
structure ItD (K : PySem.W.Frag) (s0 : Sto) (H0 : Hp) (ds : List DV) (G : Sto → Prop) (J : It) : Prop where
  go : ∀ i s H, Stp s0 H0 s H → Rep K s H → G s → i < ds.length → J.go i H
  yld : ∀ i s H x H', Stp s0 H0 s H → Rep K s H → G s → i < ds.length → J.yld i H x H' → Stp s H s H' ∧ Rep K s H' ∧ ∃ d, ds[i]? = some d ∧ Dat K s H' x d
  stop : ∀ s H, Stp s0 H0 s H → Rep K s H → G s → J.stop ds.length H
abbrev TId := Ed → Sto → (List DV → (Sto → Prop) → Sto → Prop) → Prop
def lI (K : PySem.W.Frag) (A : Anc) (it : TId) : TI := fun σ H R => ∃ δ s R', Sd K A σ H δ s ∧ it δ s R' ∧ ∀ ds G s2 H2 J, Stp s H s2 H2 → Rep K s2 H2 → ItD K s2 H2 ds G J → R' ds G s2 → R J H2
abbrev PId (A : Anc) (X : Cx) (tg iter : Expr) (it : TId) : Prop := PI X tg iter (lI X.K A it)
theorem piImp {X : Cx} {tg e : Expr} {t t' : TI} (h : PI X tg e t) (w : ∀ σ H Q, t' σ H Q → t σ H Q) : PI X tg e t' := ⟨fun pins s σ H Q I q => h.run pins s σ H Q I (w _ _ _ q)⟩
def gTrue (_ : Sto) : Prop := True
/-- the items of a list, a tuple, a text, and what must stay -/
def itemsD (s : Sto) (d : DV) : Option (List DV × (Sto → Prop)) := match d with
  | .lst ds => some (ds, gTrue)
  | .scr ds => some (ds, gTrue)
  | .tup ds => some (ds, gTrue)
  | .str z => some (z.cps.toList.map fun c => .str ⟨#[c]⟩, gTrue)
  | .ref a => match s a with
    | some (.lst ds) => some (ds, fun s => s a = some (.lst ds))
    | _ => none
  | _ => none
def kIt (R : List DV → (Sto → Prop) → Sto → Prop) (d : DV) (s1 : Sto) : Prop := match itemsD s1 d with
  | some p => R p.1 p.2 s1
  | none => False
def dIt (te : TEd) (δ : Ed) (s : Sto) (R : List DV → (Sto → Prop) → Sto → Prop) : Prop := te δ s (kIt R)
def iAny (K : PySem.W.Frag) (te : TE) : TI := fun σ H R => te σ H fun x H1 => (∃ a, x = .ref a ∧ (∃ xs, SqL K H1 a xs) ∧ R (Itl K a) H1) ∨ (∃ a, x = .ref a ∧ (∃ xs, SqT K H1 a xs) ∧ R (Itt K a) H1) ∨ ∃ z, x = .str z ∧ R (Its z) H1
theorem sql_inj {K : PySem.W.Frag} {s : Sto} {H : Hp} {a : Addr} {xs ys : List V} (h : H a = some (.lst xs)) (h' : H a = some (.lst ys)) : xs = ys := by
  rw [h] at h'; cases h'; rfl
section
variable {X : Cx} {A : Anc} {tg e : Expr} {te : TEd}
theorem pi_any {te : TE} (hl : PE X e te) : PI X tg e (iAny X.K te) := by
  refine ⟨fun pins s σ H R I h => ?_⟩
  refine thn (hl.run pins s σ H _ I h) fun v s1 ⟨x, H1, I1, r1, q1⟩ => ?_
  rcases q1 with ⟨a, e, ⟨xs, hq⟩, q⟩ | ⟨a, e, ⟨xs, hq⟩, q⟩ | ⟨z, e, q⟩
  · subst e
    cases r1
    obtain ⟨its, rv, p, hz⟩ := I1.list hq
    refine wpAny_pyIter_list p.isList ?_
    refine ⟨s1.heap.objs.size, [s1.heap.objs.size], _, _, H1, rfl, I1.kept (t' := s1.toks) fun b o e => Heap.get?_push_of_some _ e, turn_list a _, ⟨_, Heap.get?_push_size _ rfl, rfl, rfl⟩, fun b hb => ?_, q⟩
    have e : b = s1.heap.objs.size := by simpa using hb
    subst e
    exact I1.fpOk (Nat.le_refl _) (I1.hok.fresh (Nat.le_refl _))
  · subst e
    cases r1
    obtain ⟨its, rv, p, hz⟩ := I1.tuple hq
    refine wpAny_pyIter_tuple (show s1.heap.IsTuple a its.toArray from p) ?_
    refine ⟨s1.heap.objs.size, [s1.heap.objs.size], _, _, H1, rfl, I1.kept (t' := s1.toks) fun b o e => Heap.get?_push_of_some _ e, turn_tuple a _, ⟨_, Heap.get?_push_size _ rfl, rfl, rfl⟩, fun b hb => ?_, q⟩
    have e : b = s1.heap.objs.size := by simpa using hb
    subst e
    exact I1.fpOk (Nat.le_refl _) (I1.hok.fresh (Nat.le_refl _))
  · subst e
    obtain ⟨t, rfl⟩ := r1
    cases ha : z.cps.all (· < 128)
    · exact wpAny_pyIter_wide ha (pi_one (tk := s1.toks) I1 _ (turn_str _ z t "str_iterator" (.inr rfl)) ⟨_, Heap.get?_push_size _ rfl, rfl, rfl⟩ q)
    · exact wpAny_pyIter_ascii ha (pi_one (tk := s1.toks) I1 _ (turn_str _ z t "str_ascii_iterator" (.inl rfl)) ⟨_, Heap.get?_push_size _ rfl, rfl, rfl⟩ q)
theorem get_lt {α : Type} {xs : List α} {i : Nat} (h : i < xs.length) : ∃ x, xs[i]? = some x := ⟨xs[i], List.getElem?_eq_getElem h⟩
/-- a list that is there (written, the script, of the store) -/
theorem itd_list {K : PySem.W.Frag} {s0 : Sto} {H0 : Hp} {a : Addr} {ds : List DV} {G : Sto → Prop} (w : ∀ s H, Stp s0 H0 s H → Rep K s H → G s → ∃ xs, SqL K H a xs ∧ DatL K s H xs ds) : ItD K s0 H0 ds G (Itl K a) := ⟨
  fun i s H st rep g hi => by
    obtain ⟨xs, h1, l⟩ := w s H st rep g
    obtain ⟨x, hx⟩ := get_lt (xs := xs) (i := i) (by rw [l.length]; exact hi)
    exact ⟨xs, x, h1, hx⟩,
  fun i s H x H' st rep g hi y => by
    obtain ⟨xs, h1, l⟩ := w s H st rep g
    obtain ⟨e, y⟩ := y
    subst e
    exact ⟨Stp.refl s _, rep, l.get (y xs h1)⟩,
  fun s H st rep g => by
    obtain ⟨xs, h1, l⟩ := w s H st rep g
    exact ⟨xs, h1, by rw [l.length]; exact Nat.le_refl _⟩⟩
theorem itd_tup {K : PySem.W.Frag} {s0 : Sto} {H0 : Hp} {a : Addr} {ds : List DV} {G : Sto → Prop} (w : ∀ s H, Stp s0 H0 s H → Rep K s H → G s → ∃ xs, SqT K H a xs ∧ DatL K s H xs ds) : ItD K s0 H0 ds G (Itt K a) := ⟨
  fun i s H st rep g hi => by
    obtain ⟨xs, h1, l⟩ := w s H st rep g
    obtain ⟨x, hx⟩ := get_lt (xs := xs) (i := i) (by rw [l.length]; exact hi)
    exact ⟨xs, x, h1, hx⟩,
  fun i s H x H' st rep g hi y => by
    obtain ⟨xs, h1, l⟩ := w s H st rep g
    obtain ⟨e, y⟩ := y
    subst e
    exact ⟨Stp.refl s _, rep, l.get (y xs h1)⟩,
  fun s H st rep g => by
    obtain ⟨xs, h1, l⟩ := w s H st rep g
    exact ⟨xs, h1, by rw [l.length]; exact Nat.le_refl _⟩⟩
theorem itd_str {K : PySem.W.Frag} {s0 : Sto} {H0 : Hp} {z : Str} {G : Sto → Prop} : ItD K s0 H0 (z.cps.toList.map fun c => DV.str ⟨#[c]⟩) G (Its z) := ⟨
  fun i s H st rep g hi => by
    show i < z.cps.size
    simpa using hi,
  fun i s H x H' st rep g hi y => by
    obtain ⟨e, c, hc, ex⟩ := y
    subst e ex
    refine ⟨Stp.refl s _, rep, .str ⟨#[c]⟩, ?_, .str _⟩
    rw [List.getElem?_map, Array.getElem?_toList, hc]
    rfl,
  fun s H st rep g => by
    show z.cps.size ≤ _
    simp⟩
theorem diter (he : PD A X e te) : PId A X tg e (dIt te) := piImp (pi_any he) fun σ H R h => by
  obtain ⟨δ, s, R', S, t, k⟩ := h
  refine ⟨δ, s, _, S, t, fun v H1 d s1 st1 rep1 dv q => ?_⟩
  cases d with
  | lst ds =>
    obtain ⟨a, xs, rfl, h1, n1, l⟩ := dv.lstInv
    refine .inl ⟨a, rfl, ⟨xs, SqL.of h1⟩, k ds gTrue s1 H1 _ st1 rep1 (itd_list fun s2 H2 st2 _ _ => ?_) q⟩
    exact ⟨xs, SqL.of (st2 a _ h1 (.inl n1)).1, l.step st2 rep1⟩
  | scr ds =>
    obtain ⟨a, xs, rfl, h1, l⟩ := dv.scrInv
    exact .inl ⟨a, rfl, ⟨xs, h1.sq⟩, k ds gTrue s1 H1 _ st1 rep1 (itd_list fun s2 H2 st2 _ _ => ⟨xs, (scrL_step st2 rep1 h1).sq, l.step st2 rep1⟩) q⟩
  | tup ds =>
    obtain ⟨a, xs, rfl, h1, l⟩ := dv.tupInv
    exact .inr (.inl ⟨a, rfl, ⟨xs, h1⟩, k ds gTrue s1 H1 _ st1 rep1 (itd_tup fun s2 H2 st2 _ _ => ⟨xs, sqT_step st2 rep1 h1, l.step st2 rep1⟩) q⟩)
  | str z => cases dv; exact .inr (.inr ⟨z, rfl, k _ gTrue s1 H1 _ st1 rep1 itd_str q⟩)
  | ref a =>
    cases dv
    cases e : s1 a with
    | none => simp only [kIt, itemsD, e] at q
    | some m =>
      cases m with
      | lst ds =>
        simp only [kIt, itemsD, e] at q
        obtain ⟨xs, h1, l⟩ := rep1 a _ e
        refine .inl ⟨a, rfl, ⟨xs, SqL.of h1⟩, k ds _ s1 H1 _ st1 rep1 (itd_list fun s2 H2 st2 rep2 g => ?_) q⟩
        obtain ⟨ys, h2, l2⟩ := rep2 a _ g
        exact ⟨ys, SqL.of h2, l2⟩
      | hid => simp only [kIt, itemsD, e] at q
      | dK ks => simp only [kIt, itemsD, e] at q
      | ins C fs => simp only [kIt, itemsD, e] at q
  | _ => exact False.elim q
def rngD (lo : Int) (n : Nat) : List DV := (List.range n).map fun i : Nat => .int (lo + i)
theorem rngD_get {lo : Int} {n i : Nat} {d : DV} (h : (rngD lo n)[i]? = some d) : i < n ∧ d = .int (lo + i) := by
  unfold rngD at h
  rw [List.getElem?_map] at h
  by_cases c : i < n
  · rw [List.getElem?_range c] at h
    exact ⟨c, (Option.some.inj h).symm⟩
  · rw [List.getElem?_eq_none (by simpa using c)] at h; cases h
theorem rngD_length {lo : Int} {n : Nat} : (rngD lo n).length = n := by unfold rngD; simp
theorem itd_rng {K : PySem.W.Frag} {s0 : Sto} {H0 : Hp} {lo : Int} {n : Nat} : ItD K s0 H0 (rngD lo n) gTrue (Itr lo n) := ⟨
  fun i s H st rep g hi => by rw [rngD_length] at hi; exact hi,
  fun i s H x H' st rep g hi y => by
    obtain ⟨e, y⟩ := y
    subst e y
    refine ⟨Stp.refl s _, rep, .int (lo + i), ?_, .int _⟩
    unfold rngD
    rw [List.getElem?_map, List.getElem?_range (by rw [rngD_length] at hi; exact hi)]
    rfl,
  fun s H st rep g => by rw [rngD_length]; exact Nat.le_refl _⟩
def kRng1 (R : List DV → (Sto → Prop) → Sto → Prop) (ds : List DV) (s1 : Sto) : Prop := match ds with
  | [.int j] => (-(2 ^ 62) ≤ j ∧ j < 2 ^ 62) ∧ R (rngD 0 j.toNat) gTrue s1
  | _ => False
def dRng1 (ta : TAd) (δ : Ed) (s : Sto) (R : List DV → (Sto → Prop) → Sto → Prop) : Prop := ta δ s (kRng1 R)
def kRng2 (R : List DV → (Sto → Prop) → Sto → Prop) (ds : List DV) (s1 : Sto) : Prop := match ds with
  | [.int i, .int j] => (-(2 ^ 62) ≤ i ∧ i < 2 ^ 62 ∧ -(2 ^ 62) ≤ j ∧ j < 2 ^ 62) ∧ R (rngD i (j - i).toNat) gTrue s1
  | _ => False
def dRng2 (ta : TAd) (δ : Ed) (s : Sto) (R : List DV → (Sto → Prop) → Sto → Prop) : Prop := ta δ s (kRng2 R)
theorem drange1 {a : Expr} {ta : TAd} {p pos : Pos} (hm : X.mg "range" = none) (ha : PAd A X [a] ta) (hg : Gl X "range" := by rfl) (hs : starEach [a] X.env = [(false, eval a X.env)] := by rfl) : PId A X tg (.Call (.Name "range" p) [a] [] pos) (dRng1 ta) :=
  piImp (pi_range1 hg hm ha hs) fun σ H R h => by
  obtain ⟨δ, s, R', S, t, k⟩ := h
  refine ⟨δ, s, _, S, t, fun vs H1 ds s1 st1 rep1 dv q => ?_⟩
  unfold kRng1 at q
  split at q
  · cases dv with
    | cons h t => cases t; cases h; exact ⟨_, rfl, q.1.1, q.1.2, k _ _ s1 H1 _ st1 rep1 itd_rng q.2⟩
  · exact False.elim q
theorem drange2 {a b : Expr} {ta : TAd} {p pos : Pos} (hm : X.mg "range" = none) (ha : PAd A X [a, b] ta) (hg : Gl X "range" := by rfl) (hs : starEach [a, b] X.env = [(false, eval a X.env), (false, eval b X.env)] := by rfl) (hs2 : starEach [b] X.env = [(false, eval b X.env)] := by rfl) :
    PId A X tg (.Call (.Name "range" p) [a, b] [] pos) (dRng2 ta) :=
  piImp (pi_range2 hg hm ha hs hs2) fun σ H R h => by
  obtain ⟨δ, s, R', S, t, k⟩ := h
  refine ⟨δ, s, _, S, t, fun vs H1 ds s1 st1 rep1 dv q => ?_⟩
  unfold kRng2 at q
  split at q
  · cases dv with
    | cons h t => cases t with
      | cons h2 t => cases t; cases h; cases h2; exact ⟨_, _, rfl, q.1, k _ _ s1 H1 _ st1 rep1 itd_rng q.2⟩
  · exact False.elim q
end

/-! ### loops -/
def Anc.le (A B : Anc) : Prop := Stp A.s A.H B.s B.H
/-- W: what holds ahead of turn i -/
def dForW (g : TGd) (tb : TSd) (D : EndsD) (δ : Ed) (ds : List DV) (G : Sto → Prop) (s1 : Sto) : Prop := ∃ W : Nat → Ed → Sto → Prop, W 0 δ s1 ∧
  (∀ i d δ s, ds[i]? = some d → W i δ s → G s ∧ g d δ s (tb ⟨W (i + 1), D.rt, D.nx, W (i + 1)⟩)) ∧ ∀ δ s, W ds.length δ s → G s ∧ D.nx δ s
def dFor (it : TId) (g : TGd) (tb : TSd) (D : EndsD) (δ : Ed) (s : Sto) : Prop := it δ s (dForW g tb D δ)
def lessW (W : Nat → Ed → Sto → Prop) (m : Nat) (δ' : Ed) (s' : Sto) : Prop := ∃ m', m' < m ∧ W m' δ' s'
def kWhile (tb : TSd) (D : EndsD) (W : Nat → Ed → Sto → Prop) (m : Nat) (δ : Ed) (b : Bool) (s1 : Sto) : Prop := dGif b (tb { D with nx := lessW W m, ct := lessW W m, bk := D.nx } δ) (D.nx δ) s1
def dWhile (c : TTd) (tb : TSd) (D : EndsD) (δ : Ed) (s : Sto) : Prop := ∃ W : Nat → Ed → Sto → Prop, (∃ m, W m δ s) ∧ ∀ m δ s, W m δ s →
  c δ s (kWhile tb D W m δ)
section
variable {X : Cx} {A : Anc} {tg iter : Expr} {it : TId} {g : TGd} {body : List Stmt} {tb : TSd} {pos : Pos}
theorem dsfor (hp : PassesOwn (model X.prog X.w) X.A X.env X.xe) (hc : X.calm = true) (hi : PId A X tg iter it) (hg : ∀ B, A.le B → PGd B X tg g) (hb : ∀ B, A.le B → PSsd B X body tb)
    (hs : ∀ x, foldedSetIterable iter X.env x = pure x := by intro _; rfl) : PSd A X (.For tg iter body [] pos) (dFor it g tb) := by
  -- the body is read from where the walk began
  have key : ∀ (B : Anc), A.le B → PS X (.For tg iter body [] pos) (tFor (lI X.K A it) (lG X.K B g) (lS X.K B tb)) := fun B hB => ps_for hp hc hi (hg B hB) (hb B hB) hs
  refine ⟨fun pins s σ H D I h => ?_⟩
  -- the walk's own rule once more, the anchor chosen behind the iterator
  obtain ⟨δ, s0, D', S, t, L⟩ := h
  -- choose the anchor when the iterator is there: by a union over anchors
  have all : PS X (.For tg iter body [] pos) (tFor (lI X.K A it) (fun v σ H Q => ∃ B, A.le B ∧ lG X.K B g v σ H Q) (fun D σ H => ∃ B, A.le B ∧ lS X.K B tb D σ H)) := by
    refine ps_for hp hc hi ⟨fun pins s σ H v u Q I r q => ?_⟩ ⟨fun pins s σ H D I q => ?_⟩ hs
    · obtain ⟨B, hB, q⟩ := q
      exact (hg B hB).run pins s σ H v u Q I r q
    · obtain ⟨B, hB, q⟩ := q
      exact (hb B hB).run pins s σ H D I q
  refine all.run pins s σ H D I ?_
  refine ⟨δ, s0, _, S, t, fun ds G s1 H1 J st1 rep1 iD ⟨W, w0, step, fin⟩ => ?_⟩
  have S1 := S.go st1 rep1
  have hB : A.le ⟨s1, H1⟩ := S1.stp
  refine ⟨fun i m σ2 H2 => m = ds.length - i ∧ i ≤ ds.length ∧ ∃ δ2 s2, Sd X.K ⟨s1, H1⟩ σ2 H2 δ2 s2 ∧ W i δ2 s2, ⟨ds.length, by simp, Nat.zero_le _, δ, s1, ⟨Stp.refl s1 H1, rep1, S1.env⟩, w0⟩, ?_⟩
  rintro i m σ2 H2 ⟨rfl, hi, δ2, s2, S2, w2⟩
  have up : ∀ {σ H δ s}, Sd X.K ⟨s1, H1⟩ σ H δ s → Sd X.K A σ H δ s := fun S => ⟨S1.stp.trans S.stp, S.rep, S.env⟩
  by_cases hlt : i < ds.length
  · obtain ⟨d, hd⟩ := get_lt hlt
    obtain ⟨gs, _⟩ := step i d δ2 s2 hd w2
    refine .inr ⟨iD.go i s2 H2 S2.stp S2.rep gs hlt, fun σ3 H3 => ∃ δ3 s3, Sd X.K ⟨s1, H1⟩ σ3 H3 δ3 s3 ∧ W (i + 1) δ3 s3, fun σ3 H3 ⟨δ3, s3, S3, w3⟩ => ⟨ds.length - (i + 1), by omega, rfl, hlt, δ3, s3, S3, w3⟩, fun x H3 y => ?_⟩
    obtain ⟨st3, rep3, d3, hd3, dv3⟩ := iD.yld i s2 H2 x H3 S2.stp S2.rep gs hlt y
    obtain ⟨_, q3⟩ := step i d3 δ2 s2 hd3 w2
    refine ⟨⟨s1, H1⟩, hB, d3, δ2, s2, _, S2.go st3 rep3, dv3, q3, fun σ4 H4 δ4 s4 S4 q4 => ?_⟩
    exact ⟨⟨s1, H1⟩, hB, δ4, s4, _, S4, q4, ⟨fun σ H δ s S q => ⟨δ, s, S, q⟩, fun σ H δ s S q => L.nx σ H δ s (up S) q, fun σ H δ s S q => ⟨δ, s, S, q⟩, fun v H d s st rep dv q => L.rt v H d s (S1.stp.trans st) rep dv q⟩⟩
  · have e : i = ds.length := by omega
    subst e
    obtain ⟨gs, q⟩ := fin δ2 s2 w2
    exact .inl ⟨iD.stop s2 H2 S2.stp S2.rep gs, L.nx σ2 H2 δ2 s2 (up S2) q⟩
theorem dswhile {c : Expr} {tc : TTd} (hp : PassesOwn (model X.prog X.w) X.A X.env X.xe) (hc : PTd A X c tc) (hb : PSsd A X body tb) : PSd A X (.While c body [] pos) (dWhile tc tb) := psImp (ps_while hp hc hb) fun D σ H h => by
  obtain ⟨δ, s, D', S, ⟨W, ⟨m, w0⟩, step⟩, L⟩ := h
  refine ⟨fun m σ2 H2 => ∃ δ2 s2, Sd X.K A σ2 H2 δ2 s2 ∧ W m δ2 s2, ⟨m, δ, s, S, w0⟩, ?_⟩
  rintro m σ2 H2 ⟨δ2, s2, S2, w2⟩
  refine ⟨δ2, s2, _, S2, step m δ2 s2 w2, fun b H3 s3 st3 rep3 q => ?_⟩
  have S3 := S2.go st3 rep3
  cases b with
  | false => exact iteF (L.nx σ2 H3 δ2 s3 S3 q)
  | true =>
    refine iteT ?_
    refine ⟨fun σ4 H4 => ∃ δ4 s4, Sd X.K A σ4 H4 δ4 s4 ∧ ∃ m', m' < m ∧ W m' δ4 s4, fun σ4 H4 ⟨δ4, s4, S4, m', hm, w4⟩ => ⟨m', hm, δ4, s4, S4, w4⟩, δ2, s3, _, S3, q, ?_⟩
    exact ⟨fun σ H δ s S q => ⟨δ, s, S, q⟩, fun σ H δ s S q => L.nx σ H δ s S q, fun σ H δ s S q => ⟨δ, s, S, q⟩, L.rt⟩
end

/-! ### comprehensions -/
def dYes (_ : Ed) (s : Sto) (Q : Bool → Sto → Prop) : Prop := Q true s
abbrev PTsd (A : Anc) (X : Cx) (ifs : List Expr) (t : TTd) : Prop := PTs X ifs (lT X.K A t)
/-- the list under way is hidden at D -/
def kLc3 (W : Nat → List DV → Sto → Prop) (i : Nat) (acc : List DV) (y : DV) (s3 : Sto) : Prop := acc.length < sizeLine ∧ W (i + 1) (acc ++ [y]) s3
def kLc2' (te : TEd) (W : Nat → List DV → Sto → Prop) (i : Nat) (acc : List DV) (δ' : Ed) (s2 : Sto) : Prop := te δ' s2 (kLc3 W i acc)
def kLc2 (te : TEd) (W : Nat → List DV → Sto → Prop) (i : Nat) (acc : List DV) (δ' : Ed) (b : Bool) (s2 : Sto) : Prop := dGif b (kLc2' te W i acc δ') (W (i + 1) acc) s2
def kLc1 (tt : TTd) (te : TEd) (W : Nat → List DV → Sto → Prop) (i : Nat) (acc : List DV) (δ' : Ed) (s' : Sto) : Prop := tt δ' s' (kLc2 te W i acc δ')
def dLcW (g : TGd) (tt : TTd) (te : TEd) (vs : List Nat) (δ : Ed) (fin : Addr → List DV → Sto → Prop) (ds : List DV) (G : Sto → Prop) (s1 : Sto) : Prop := ∀ D, s1 D = none → ∃ W : Nat → List DV → Sto → Prop, W 0 [] (up s1 D .hid) ∧
  (∀ i d acc s, ds[i]? = some d → W i acc s → G s ∧ g d (wipeD δ vs) s (kLc1 tt te W i acc)) ∧
  ∀ acc s, W ds.length acc s → G s ∧ fin D acc s
def finF (Q : KD) (D : Addr) (acc : List DV) (s : Sto) : Prop := Q (.lst acc) (er s D)
def finM (Q : KD) (D : Addr) (acc : List DV) (s : Sto) : Prop := Q (.ref D) (up s D (.lst acc))
def dLc (it : TId) (g : TGd) (tt : TTd) (te : TEd) (vs : List Nat) (δ : Ed) (s : Sto) (Q : KD) : Prop := it δ s (dLcW g tt te vs δ (finF Q))
def dLcM (it : TId) (g : TGd) (tt : TTd) (te : TEd) (vs : List Nat) (δ : Ed) (s : Sto) (Q : KD) : Prop := it δ s (dLcW g tt te vs δ (finM Q))
section
variable {X : Cx} {A : Anc} {tg iter elt : Expr} {ifs : List Expr} {scope : Scope} {own : List (Str × Nat)} {it : TId} {g : TG} {g' : TGd} {tt : TTd} {te : TEd} {sl : List Nat} {pos : Pos}
theorem dtsn : PTsd A X [] dYes := ⟨fun pins s σ H Q I h => pts_nil.run pins s σ H Q I (by
  obtain ⟨δ, s, Q', S, t, k⟩ := h
  exact k true H s (Stp.refl s H) S.rep t)⟩
theorem dts1 {c : Expr} (h : PTd A X c tt) : PTsd A X [c] tt := pts_one h
/-- the end of a comprehension -/
structure LcEnd (K : PySem.W.Frag) (D : Addr) (acc : List DV) (s : Sto) (H : Hp) : Prop where
  rep : Rep K s H
  hid : s D = some .hid
  at_ : ∃ xs, H D = some (.lst xs) ∧ DatL K s H xs acc
theorem lc_run {K : PySem.W.Frag} {σ : L2.St} {H : Hp} {Q : VK} {δ : Ed} {s : Sto} {vs : List Nat} {fin : Addr → List DV → Sto → Prop} (mg : GMono g) (hp : PatOk K g g' sl) (hsl : ∀ i ∈ sl, i ∈ vs) (S : Sd K A σ H δ s)
    (t : it δ s (dLcW g' tt te vs δ fin))
    (k : ∀ D acc s1 H1 s2 H2, Stp s H s1 H1 → H1 D = none → Stp s1 H1 s2 H2 → LcEnd K D acc s2 H2 → fin D acc s2 → Q (.ref D) H2) : tLc (lI K A it) g (lT K A tt) (lE K A te) vs σ H Q := by
  refine ⟨δ, s, _, S, t, fun ds G s1 H1 J st1 rep1 iD q1 D hD => ?_⟩
  obtain ⟨W, w0, step, fn⟩ := q1 D (rep1.fresh hD)
  have S1 := S.go st1 rep1
  have L0 : LcEnd K D [] (up s1 D .hid) (upd H1 D (.lst [])) := ⟨rep1.put (Stp.new hD) ⟨_, upd_same⟩, up_same, [], upd_same, .nil⟩
  refine ⟨fun i m H2 => m = ds.length - i ∧ i ≤ ds.length ∧ ∃ acc s2, Stp s1 H1 s2 H2 ∧ LcEnd K D acc s2 H2 ∧ W i acc s2, ⟨ds.length, by simp, Nat.zero_le _, [], _, Stp.new hD, L0, w0⟩, ?_⟩
  rintro i m H2 ⟨rfl, hi, acc, s2, st2, Le, w2⟩
  by_cases hlt : i < ds.length
  · obtain ⟨d, hd⟩ := get_lt hlt
    obtain ⟨gs, _⟩ := step i d acc s2 hd w2
    refine .inr ⟨iD.go i s2 H2 st2 Le.rep gs hlt, fun H3 => ∃ acc s3, Stp s1 H1 s3 H3 ∧ LcEnd K D acc s3 H3 ∧ W (i + 1) acc s3, fun H3 ⟨acc, s3, a, b, c⟩ => ⟨ds.length - (i + 1), by omega, rfl, hlt, acc, s3, a, b, c⟩, fun x H3 y => ?_⟩
    obtain ⟨st3, rep3, d3, hd3, dv3⟩ := iD.yld i s2 H2 x H3 st2 Le.rep gs hlt y
    obtain ⟨_, q3⟩ := step i d3 acc s2 hd3 w2
    have env3 : EnvR K s2 H3 (wipe σ vs) (wipeD δ vs) := env_wipe (S1.env.step (st2.trans st3) rep1) vs
    refine mg.mono _ _ _ _ _ ?_ (hp.ok x d3 _ H3 _ s2 _ rep3 env3 dv3 q3)
    rintro σ4 H4 ⟨rfl, ⟨δ4, env4, q4⟩, wp⟩
    refine ⟨?_, ?_⟩
    · rw [wp vs hsl]
      have idem : ∀ (ws vs : List Nat) (τ : L2.St), (∀ i ∈ ws, i ∈ vs) → wipe (wipe τ ws) vs = wipe τ vs := by
        intro ws
        induction ws with
        | nil => intro vs τ _; rfl
        | cons w ws ih =>
          intro vs τ h
          show wipe ((wipe τ ws).set w none) vs = _
          rw [wipe_set none vs _ w (h w List.mem_cons_self), ih vs τ fun i hi => h i (List.mem_cons_of_mem _ hi)]
      exact idem vs vs σ fun _ h => h
    · have S4 : Sd K A σ4 H4 δ4 s2 := ⟨(S1.stp.trans st2).trans st3, rep3, env4⟩
      refine ⟨δ4, s2, _, S4, q4, fun b H5 s5 st5 rep5 q5 => ?_⟩
      obtain ⟨xs, hx, lx⟩ := Le.at_
      have hx4 := (st3 D _ hx (.inr Le.hid)).1
      have hx5 := st5 D _ hx4 (.inr Le.hid)
      have lx5 := (lx.step st3 Le.rep).step st5 rep3
      cases b with
      | false =>
        refine iteF ?_
        exact ⟨acc, s5, (st2.trans st3).trans st5, ⟨rep5, hx5.2.trans Le.hid, xs, hx5.1, lx5⟩, q5⟩
      | true =>
        refine iteT ?_
        refine ⟨δ4, s5, _, S4.go st5 rep5, q5, fun y6 H6 d6 s6 st6 rep6 dv6 ⟨hl, q6⟩ => ?_⟩
        have hx6 := st6 D _ hx5.1 (.inr (hx5.2.trans Le.hid))
        have hh : s6 D = some .hid := hx6.2.trans (hx5.2.trans Le.hid)
        have lx6 := lx5.step st6 rep5
        refine ⟨xs, hx6.1, by rw [lx.length]; exact hl, acc ++ [d6], s6, ?_, ⟨rep6.hidden hh hx6.1, hh, xs ++ [y6], upd_same, (lx6.append (.cons dv6 .nil)).hid hh hx6.1⟩, q6⟩
        intro a o ha hn
        have ne : a ≠ D := ne_of_none ha hD
        rw [upd_ne ne]
        exact ((st2.trans st3).trans (st5.trans st6)) a o ha hn
  · have e : i = ds.length := by omega
    subst e
    obtain ⟨gs, q⟩ := fn acc s2 w2
    exact .inl ⟨iD.stop s2 H2 st2 Le.rep gs, k D acc s1 H1 s2 H2 st1 hD st2 Le q⟩
theorem LcEnd.lst {K : PySem.W.Frag} {D : Addr} {acc : List DV} {s0 s : Sto} {H0 H : Hp} (L : LcEnd K D acc s H) (st : Stp s0 H0 s H) (hD : H0 D = none) : Stp s0 H0 (er s D) H ∧ Rep K (er s D) H ∧ Dat K (er s D) H (.ref D) (.lst acc) := by
  obtain ⟨xs, hx, lx⟩ := L.at_
  refine ⟨fun a o ha hn => ?_, L.rep.erase D, .lst hx er_same (lx.subN erN)⟩
  have ne : a ≠ D := ne_of_none ha hD
  rw [er_ne ne]
  exact st a o ha hn
theorem LcEnd.mut {K : PySem.W.Frag} {D : Addr} {acc : List DV} {s0 s : Sto} {H0 H : Hp} (L : LcEnd K D acc s H) (st : Stp s0 H0 s H) (hD : H0 D = none) : Stp s0 H0 (up s D (.lst acc)) H ∧ Rep K (up s D (.lst acc)) H := by
  obtain ⟨xs, hx, lx⟩ := L.at_
  have sub : ∀ a, s a = none → up s D (.lst acc) a = none := fun a h => by
    have ne : a ≠ D := fun z => by rw [z, L.hid] at h; cases h
    rw [up_ne ne]; exact h
  refine ⟨fun a o ha hn => ?_, fun a m e => ?_⟩
  · have ne : a ≠ D := ne_of_none ha hD
    rw [up_ne ne]
    exact st a o ha hn
  · by_cases z : a = D
    · subst z
      rw [up_same] at e; cases e
      exact ⟨xs, hx, lx.subN sub⟩
    · rw [up_ne z] at e
      exact (L.rep a m e).subN sub
theorem dlc (hc : X.calm = true) (hN : X.N.Nodup) (hi : PId A X tg iter it) (ok : BlkOk X.N X.env.scope scope own) (mg : GMono g) (hp : PatOk X.K g g' sl) (hsl : ∀ i ∈ sl, i ∈ own.map (·.2))
    (hg : ∀ (s : Shared) (H : Hp) (C : Addr) (cl : List (Str × Addr)) (fp : List Addr), PG (X.blk s H scope (compEnvC scope cl C X.env) fp) tg g)
    (ht : ∀ (s : Shared) (H : Hp) (C : Addr) (cl : List (Str × Addr)) (fp : List Addr), PTsd A (X.blk s H scope (compEnvC scope cl C X.env) fp) ifs tt)
    (he : ∀ (s : Shared) (H : Hp) (C : Addr) (cl : List (Str × Addr)) (fp : List Addr), PD A (X.blk s H scope (compEnvC scope cl C X.env) fp) elt te) (hs : ∀ x, foldedSetIterable iter X.env x = pure x := by intro _; rfl) :
    PD A X (.ListComp elt [⟨tg, iter, ifs, 0⟩] scope pos) (dLc it g' tt te (own.map (·.2))) := peImp (pe_lc hc hN hi ok hg ht he hs) fun σ H Q h => by
  obtain ⟨δ, s, Q', S, t, k⟩ := h
  refine lc_run mg hp hsl S t fun D acc s1 H1 s2 H2 st1 hD st2 L q => ?_
  obtain ⟨a, b, c⟩ := L.lst st2 hD
  exact k _ H2 _ _ (st1.trans a) b c q
theorem dlcM (hc : X.calm = true) (hN : X.N.Nodup) (hi : PId A X tg iter it) (ok : BlkOk X.N X.env.scope scope own) (mg : GMono g) (hp : PatOk X.K g g' sl) (hsl : ∀ i ∈ sl, i ∈ own.map (·.2))
    (hg : ∀ (s : Shared) (H : Hp) (C : Addr) (cl : List (Str × Addr)) (fp : List Addr), PG (X.blk s H scope (compEnvC scope cl C X.env) fp) tg g)
    (ht : ∀ (s : Shared) (H : Hp) (C : Addr) (cl : List (Str × Addr)) (fp : List Addr), PTsd A (X.blk s H scope (compEnvC scope cl C X.env) fp) ifs tt)
    (he : ∀ (s : Shared) (H : Hp) (C : Addr) (cl : List (Str × Addr)) (fp : List Addr), PD A (X.blk s H scope (compEnvC scope cl C X.env) fp) elt te) (hs : ∀ x, foldedSetIterable iter X.env x = pure x := by intro _; rfl) :
    PD A X (.ListComp elt [⟨tg, iter, ifs, 0⟩] scope pos) (dLcM it g' tt te (own.map (·.2))) := peImp (pe_lc hc hN hi ok hg ht he hs) fun σ H Q h => by
  obtain ⟨δ, s, Q', S, t, k⟩ := h
  refine lc_run mg hp hsl S t fun D acc s1 H1 s2 H2 st1 hD st2 L q => ?_
  obtain ⟨a, b⟩ := L.mut st2 hD
  exact k _ H2 _ _ (st1.trans a) b (.ref D) q
end
end DL

set_option Elab.async false
set_option linter.all false
set_option maxRecDepth 100000
set_option maxHeartbeats 4000000
namespace DL
open PySem PySem.Spec PyProof.Rows L2

/-! ### promises over data -/
abbrev XDd := Value → List (Str × DV) → Sto → Prop
def noX : XDd := fun _ _ _ => False
abbrev Spd := List DV → Sto → KD → XDd → Prop
/-- a promise called: the simplifier looks at what is handed in alone -/
def cSp (sp : Spd) (ds : List DV) (s : Sto) (Q : KD) (E : XDd) : Prop := sp ds s Q E
def XdR (K : PySem.W.Frag) (s : Sto) (H : Hp) (dd : Option Addr) (fs : List (Str × DV)) : Prop := (dd = none ∧ fs = []) ∨ ∃ a gs, dd = some a ∧ H a = some (.xd gs) ∧ DatP K s H gs fs
def ExL (K : PySem.W.Frag) (s0 : Sto) (H0 : Hp) (E' : XDd) (E : XK) : Prop := ∀ cls dd fs s H, Stp s0 H0 s H → Rep K s H → XdR K s H dd fs → E' cls fs s → E cls dd H
theorem ExL.no {K : PySem.W.Frag} {s0 : Sto} {H0 : Hp} {E : XK} : ExL K s0 H0 noX E := fun _ _ _ _ _ _ _ _ z => z.elim
theorem ExL.go {K : PySem.W.Frag} {s0 s1 : Sto} {H0 H1 : Hp} {E' : XDd} {E : XK} (h : ExL K s0 H0 E' E) (st : Stp s0 H0 s1 H1) : ExL K s1 H1 E' E := fun cls dd fs s H st' => h cls dd fs s H (st.trans st')
def lSp (K : PySem.W.Frag) (sp : Spd) : Sp := fun vs H Q E => ∃ ds s Q' E', Rep K s H ∧ DatL K s H vs ds ∧ sp ds s Q' E' ∧ (∀ v H2 d s2, Stp s H s2 H2 → Rep K s2 H2 → Dat K s2 H2 v d → Q' d s2 → Q v H2) ∧ ExL K s H E' E
def startD (n : Nat) (ds : List DV) : Ed := ds.map some ++ List.replicate (n - ds.length) none
theorem env_start {K : PySem.W.Frag} {s : Sto} {H : Hp} {vs : List V} {ds : List DV} (N : List Str) (h : DatL K s H vs ds) : EnvR K s H (L2.start N vs) (startD N.length ds) := ⟨by simp [L2.start, startD, h.length], fun i d e => by
  unfold startD at e
  by_cases c : i < ds.length
  · rw [List.getElem?_append_left (by simpa using c), List.getElem?_map] at e
    obtain ⟨d', hd⟩ := get_lt c
    rw [hd] at e
    cases e
    obtain ⟨v, h1, h2⟩ := h.get' hd
    refine ⟨v, ?_, h2⟩
    show (vs.map some ++ _)[i]? = _
    rw [List.getElem?_append_left (by simpa [h.length] using c), List.getElem?_map, h1]
    rfl
  · rw [List.getElem?_append_right (by simpa using Nat.le_of_not_lt c)] at e
    rw [List.getElem?_replicate] at e
    split at e <;> cases e⟩
section
variable {P : Program} {w : World} {K : PySem.W.Frag} {mg : Str → Option Value} {base : Heap}
/-- THE RULE for a def from which nothing is raised -/
theorem defOk {x qual : Str} {st : Stmt} {f : Addr} {fd : FuncData} {N ps : List Str} {k : Nat} {sp : Spd} {t : TSd} (F : Fun K x qual st f fd) (S : FnScope N ps (defScope st)) (len : ∀ ds s Q E, sp ds s Q E → ds.length = ps.length)
    (hbody : ∀ (A : Anc) (cdv : Value) (Ar : Around) (outer : List Env) (s : Shared) (H : Hp) (E : XK), Room k (Ar.deeper (envOfC qual (defScope st) s.heap.objs.size f cdv)) →
      PSsd A (cxOf CX0 P w K mg base N qual (defScope st) f cdv Ar outer s H E).nox (defBody st) t)
    (hread : ∀ ds s Q E, sp ds s Q E → t { nx := fun _ s => Q .non s, rt := Q } (startD N.length ds) s) : FnOk P w K mg base CX0 (k + 1) f fd ps (lSp K sp) := by
  refine F.ok S (fun vs H Q E h => ?_) (fun cdv Ar outer s H vs Q E hr h => ?_)
  · obtain ⟨ds, s, Q', E', rep, dv, q, _⟩ := h
    rw [dv.length]
    exact len ds s Q' E' q
  · obtain ⟨ds, s0, Q', E', rep, dv, q, kq, ke⟩ := h
    refine ⟨_, hbody ⟨s0, H⟩ cdv Ar outer s H E hr, startD N.length ds, s0, _, ⟨Stp.refl s0 H, rep, env_start N dv⟩, hread ds s0 Q' E' q, ?_⟩
    exact ⟨fun σ H2 δ s2 S2 q2 => kq .non H2 .non s2 S2.stp S2.rep .non q2, fun _ _ _ _ _ z => z.elim, fun _ _ _ _ _ z => z.elim, fun v H2 d s2 st rep2 dv2 q2 => kq v H2 d s2 st rep2 dv2 q2⟩
theorem fnImp {CX : CXT} {k : Nat} {f : Addr} {fd : FuncData} {ps : List Str} {sp sp' : Spd} (F : FnOk P w K mg base CX k f fd ps (lSp K sp)) (h : ∀ ds s Q E, sp' ds s Q E → sp ds s Q E) : FnOk P w K mg base CX k f fd ps (lSp K sp') :=
  F.imp fun vs H Q E ⟨ds, s, Q', E', rep, dv, q, kq, ke⟩ => ⟨ds, s, Q', E', rep, dv, h _ _ _ _ q, kq, ke⟩
end

/-! ### calls -/
def kCall (sp : Spd) (dvs : List DV) (Q : KD) (ds : List DV) (s1 : Sto) : Prop := cSp sp (ds ++ dvs) s1 Q noX
def dCall (sp : Spd) (dvs : List DV) (t : TAd) (δ : Ed) (s : Sto) (Q : KD) : Prop := t δ s (kCall sp dvs Q)
def kCallK2 (sp : Spd) (n m : Nat) (g : List DV → List DV → List DV) (Q : KD) (ds es : List DV) (s2 : Sto) : Prop := (ds.length = n ∧ es.length = m) ∧ cSp sp (g ds es) s2 Q noX
def kCallK (sp : Spd) (n m : Nat) (g : List DV → List DV → List DV) (tk : TAd) (δ : Ed) (Q : KD) (ds : List DV) (s1 : Sto) : Prop := tk δ s1 (kCallK2 sp n m g Q ds)
def dCallK (sp : Spd) (n m : Nat) (g : List DV → List DV → List DV) (t tk : TAd) (δ : Ed) (s : Sto) (Q : KD) : Prop := t δ s (kCallK sp n m g tk δ Q)
def kMeth2 (sp : Spd) (dvs : List DV) (Q : KD) (a : Addr) (ds : List DV) (s2 : Sto) : Prop := cSp sp (.ref a :: (ds ++ dvs)) s2 Q noX
def kMeth (C : Addr) (m : Str) (sp : Spd) (dvs : List DV) (t : TAd) (δ : Ed) (Q : KD) (o : DV) (s1 : Sto) : Prop := match o with
  | .ref a => match s1 a with
    | some (.ins C' fs) => C' = C ∧ fs.lookup m = none ∧ t δ s1 (kMeth2 sp dvs Q a)
    | _ => False
  | _ => False
def dMeth (C : Addr) (m : Str) (sp : Spd) (dvs : List DV) (to : TEd) (t : TAd) (δ : Ed) (s : Sto) (Q : KD) : Prop := to δ s (kMeth C m sp dvs t δ Q)
def kMade (Q : KD) (x : Addr) (d : DV) (s2 : Sto) : Prop := d = .non ∧ Q (.ref x) s2
def kMake (C : Addr) (sp : Spd) (dvs : List DV) (Q : KD) (ds : List DV) (s1 : Sto) : Prop := ∀ x, s1 x = none → cSp sp (.ref x :: (ds ++ dvs)) (up s1 x (.ins C [])) (kMade Q x) noX
def dMake (C : Addr) (sp : Spd) (dvs : List DV) (t : TAd) (δ : Ed) (s : Sto) (Q : KD) : Prop := t δ s (kMake C sp dvs Q)
def kMakeK2 (C : Addr) (sp : Spd) (n m : Nat) (g : List DV → List DV → List DV) (Q : KD) (ds es : List DV) (s2 : Sto) : Prop := (ds.length = n ∧ es.length = m) ∧ ∀ x, s2 x = none → cSp sp (g (.ref x :: ds) es) (up s2 x (.ins C [])) (kMade Q x) noX
def kMakeK (C : Addr) (sp : Spd) (n m : Nat) (g : List DV → List DV → List DV) (tk : TAd) (δ : Ed) (Q : KD) (ds : List DV) (s1 : Sto) : Prop := tk δ s1 (kMakeK2 C sp n m g Q ds)
def dMakeK (C : Addr) (sp : Spd) (n m : Nat) (g : List DV → List DV → List DV) (t tk : TAd) (δ : Ed) (s : Sto) (Q : KD) : Prop := t δ s (kMakeK C sp n m g tk δ Q)
def kFld (C : Addr) (f : Str) (Q : KD) (d : DV) (s1 : Sto) : Prop := match d with
  | .ref a => match s1 a with
    | some (.ins C' fs) => C' = C ∧ match fs.lookup f with
      | some d => Q d s1
      | none => False
    | _ => False
  | _ => False
def dFld (C : Addr) (f : Str) (t : TEd) (δ : Ed) (s : Sto) (Q : KD) : Prop := t δ s (kFld C f Q)
def putFD (f : Str) (v : DV) : List (Str × DV) → List (Str × DV)
  | [] => [(f, v)]
  | (g, x) :: r => if g = f then (g, v) :: r else (g, x) :: putFD f v r
def kSetFld2 (C : Addr) (f : Str) (D : EndsD) (δ : Ed) (v o : DV) (s2 : Sto) : Prop := match o with
  | .ref a => match s2 a with
    | some (.ins C' fs) => C' = C ∧ fs.length < 1000 ∧ D.nx δ (up s2 a (.ins C (putFD f v fs)))
    | _ => False
  | _ => False
def kSetFld (C : Addr) (f : Str) (to : TEd) (D : EndsD) (δ : Ed) (v : DV) (s1 : Sto) : Prop := to δ s1 (kSetFld2 C f D δ v)
def dSetFld (C : Addr) (f : Str) (to tv : TEd) (D : EndsD) (δ : Ed) (s : Sto) : Prop := tv δ s (kSetFld C f to D δ)
/-- o.f += j, j written -/
def kAugFld (C : Addr) (f : Str) (g : Int → Int) (D : EndsD) (δ : Ed) (o : DV) (s1 : Sto) : Prop := match o with
  | .ref a => match s1 a with
    | some (.ins C' fs) => C' = C ∧ match fs.lookup f with
      | some (.int i) => fs.length < 1000 ∧ D.nx δ (up s1 a (.ins C (putFD f (.int (g i)) fs)))
      | _ => False
    | _ => False
  | _ => False
def dAugFld (C : Addr) (f : Str) (g : Int → Int) (to : TEd) (D : EndsD) (δ : Ed) (s : Sto) : Prop := to δ s (kAugFld C f g D δ)
theorem lookP {K : PySem.W.Frag} {s : Sto} {H : Hp} (f : Str) : ∀ {gs : List (Str × V)} {fs : List (Str × DV)}, DatP K s H gs fs → (fs.lookup f = none → gs.lookup f = none) ∧ ∀ d, fs.lookup f = some d → ∃ v, gs.lookup f = some v ∧ Dat K s H v d
  | _, _, .nil => ⟨fun _ => rfl, fun _ e => by cases e⟩
  | _, _, .cons (a := p) (b := q) h t => by
    obtain ⟨i1, i2⟩ := lookP f t
    obtain ⟨p1, p2⟩ := p
    obtain ⟨q1, q2⟩ := q
    obtain ⟨e, hv⟩ := h
    have e' : p1 = q1 := e
    subst e'
    by_cases c : f = p1
    · subst c
      simp only [List.lookup, beq_self_eq_true]
      exact ⟨fun z => (nomatch z), fun d hd => ⟨p2, rfl, by cases hd; exact hv⟩⟩
    · have cb : (f == p1) = false := by simpa using c
      simp only [List.lookup, cb]
      exact ⟨i1, i2⟩
theorem putF_ok {K : PySem.W.Frag} {s : Sto} {H : Hp} {f : Str} {v : V} {d : DV} (hv : Dat K s H v d) : ∀ {gs : List (Str × V)} {fs : List (Str × DV)}, DatP K s H gs fs → DatP K s H (putF f v gs) (putFD f d fs)
  | _, _, .nil => .cons ⟨rfl, hv⟩ .nil
  | _, _, .cons (a := p) (b := q) h t => by
    obtain ⟨p1, p2⟩ := p
    obtain ⟨q1, q2⟩ := q
    obtain ⟨e, hv'⟩ := h
    have e' : p1 = q1 := e
    subst e'
    unfold putF putFD
    by_cases c : p1 = f
    · rw [if_pos c, if_pos c]; exact .cons ⟨rfl, hv⟩ t
    · rw [if_neg c, if_neg c]; exact .cons ⟨rfl, hv'⟩ (putF_ok hv t)
section
variable {X : Cx} {A : Anc} {k : Nat} {f C : Addr} {fd : FuncData} {ps ks : List Str} {sp : Spd} {dvs : List V} {dds : List DV} {ds : List Value} {x m : Str} {p pos apos kpos : Pos} {e o : Expr} {es : List Expr} {kws : List Keyword} {te to tv : TEd} {t tk : TAd}
theorem lSp_of {K : PySem.W.Frag} {s : Sto} {H : Hp} {vs : List V} {es : List DV} {Q' : KD} {Q : VK} {E : XK} (rep : Rep K s H) (dv : DatL K s H vs es) (q : sp es s Q' noX) (k : ∀ v H2 d s2, Stp s H s2 H2 → Rep K s2 H2 → Dat K s2 H2 v d → Q' d s2 → Q v H2) : lSp K sp vs H Q E :=
  ⟨es, s, Q', noX, rep, dv, q, k, ExL.no⟩
theorem dcall (F : FnOk X.prog X.w X.K X.mg X.base CX0 k f fd ps (lSp X.K sp)) (hr : Room k X.A) (hm : X.mg x = some (.ref f)) (hk : PySem.W.keepIn X.K (.ref f) = true) (hb : Binds X.K fd ps ds) (hd : Vals dvs ds) (hdd : ∀ s H, DatL X.K s H dvs dds)
    (ha : PAd A X (e :: es) t) (hg : Gl X x := by rfl) (hdb : (x == ("__debug__" : Str)) = false := by decide) (he : starEach (e :: es) X.env = (false, eval e X.env) :: starEach es X.env := by rfl) (hpl : (backTo pos (starEach es X.env)).any (·.1) = false := by rfl) :
    PD A X (.Call (.Name x p) (e :: es) [] pos) (dCall sp dds t) := peImp (pe_call F hr hg hm hk hb hd pass0 ha hdb he hpl) fun σ H Q h => by
  obtain ⟨δ, s, Q', S, t, k⟩ := h
  exact ⟨δ, s, _, S, t, fun vs H1 es s1 st1 rep1 dv q => lSp_of rep1 (dv.append (hdd s1 H1)) q fun v2 H2 d2 s2 st2 => k v2 H2 d2 s2 (st1.trans st2)⟩
theorem dcall0 (F : FnOk X.prog X.w X.K X.mg X.base CX0 k f fd ps (lSp X.K sp)) (hr : Room k X.A) (hm : X.mg x = some (.ref f)) (hk : PySem.W.keepIn X.K (.ref f) = true) (hb : Binds X.K fd ps ds) (hd : Vals dvs ds) (hdd : ∀ s H, DatL X.K s H dvs dds)
    (hg : Gl X x := by rfl) (hdb : (x == ("__debug__" : Str)) = false := by decide) :
    PD A X (.Call (.Name x p) [] [] pos) (dCall sp dds dNil) := peImp (pe_call0 F hr hg hm hk hb hd pass0 hdb) fun σ H Q h => by
  obtain ⟨δ, s, Q', S, t, k⟩ := h
  exact lSp_of S.rep (hdd s H) t fun v2 H2 d2 s2 st2 => k v2 H2 d2 s2 st2
theorem dmeth {pl : Sem Bool} (ho : PD A X o to) (c : Cls X.K C) (hm : Meth X.K C m f) (F : FnOk X.prog X.w X.K X.mg X.base CX0 k f fd ps (lSp X.K sp)) (hr : Room k X.A) (hb : Binds X.K fd ps ds) (hd : Vals dvs ds) (hdd : ∀ s H, DatL X.K s H dvs dds) (ha : PAd A X (e :: es) t)
    (hst : starEach (e :: es) X.env = (false, eval e X.env) :: starEach es X.env := by rfl) (hpl : (backTo pos (starEach es X.env)).any (·.1) = false := by rfl)
    (ht : eval (.Call (.Attribute o m apos) (e :: es) [] pos) X.env = (do
      let ov ← eval o X.env
      standAt apos.atName
      let (f, first) ← holding [ov] (getMethod ov m pl)
      callWith pos f first (backTo pos (starEach (e :: es) X.env)) (backToKw pos (keywordEach [] X.env))) := by rfl) :
    PD A X (.Call (.Attribute o m apos) (e :: es) [] pos) (dMeth C m sp dds to t) := peImp (pe_meth ho c hm F hr hb hd pass0 ha hst hpl ht) fun σ H Q h => by
  obtain ⟨δ, s, Q', S, t, k⟩ := h
  refine ⟨δ, s, _, S, t, fun v H1 d s1 st1 rep1 dv q => ?_⟩
  unfold kMeth at q
  split at q
  · rename_i a
    cases dv
    split at q
    · rename_i C' fs e
      obtain ⟨rfl, hl, q⟩ := q
      obtain ⟨dx, gs, h1, hp⟩ := rep1 a _ e
      refine ⟨a, dx, gs, rfl, h1, (lookP m hp).1 hl, δ, s1, _, S.go st1 rep1, q, fun vs H2 es s2 st2 rep2 dvv q2 => ?_⟩
      exact lSp_of rep2 (.cons (.ref a) (dvv.append (hdd s2 H2))) q2 fun v3 H3 d3 s3 st3 => k v3 H3 d3 s3 ((st1.trans st2).trans st3)
    · exact False.elim q
  · exact False.elim q
theorem dmeth0 {pl : Sem Bool} (ho : PD A X o to) (c : Cls X.K C) (hm : Meth X.K C m f) (F : FnOk X.prog X.w X.K X.mg X.base CX0 k f fd ps (lSp X.K sp)) (hr : Room k X.A) (hb : Binds X.K fd ps ds) (hd : Vals dvs ds) (hdd : ∀ s H, DatL X.K s H dvs dds)
    (ht : eval (.Call (.Attribute o m apos) [] [] pos) X.env = (do
      let ov ← eval o X.env
      standAt apos.atName
      let (f, first) ← holding [ov] (getMethod ov m pl)
      callWith pos f first (backTo pos (starEach [] X.env)) (backToKw pos (keywordEach [] X.env))) := by rfl) :
    PD A X (.Call (.Attribute o m apos) [] [] pos) (dMeth C m sp dds to dNil) := peImp (pe_meth0 ho c hm F hr hb hd pass0 ht) fun σ H Q h => by
  obtain ⟨δ, s, Q', S, t, k⟩ := h
  refine ⟨δ, s, _, S, t, fun v H1 d s1 st1 rep1 dv q => ?_⟩
  unfold kMeth at q
  split at q
  · rename_i a
    cases dv
    split at q
    · rename_i C' fs e
      obtain ⟨rfl, hl, q⟩ := q
      obtain ⟨dx, gs, h1, hp⟩ := rep1 a _ e
      refine ⟨a, dx, gs, rfl, h1, (lookP m hp).1 hl, ?_⟩
      exact lSp_of rep1 (.cons (.ref a) (hdd s1 H1)) q fun v3 H3 d3 s3 st3 => k v3 H3 d3 s3 (st1.trans st3)
    · exact False.elim q
  · exact False.elim q
theorem made_ok {K : PySem.W.Frag} {s : Sto} {H : Hp} {x dx : Addr} (rep : Rep K s H) (hx : H x = none) (hdx : H dx = none) (ne : dx ≠ x) :
    Stp s H (up s x (.ins C [])) (upd (upd H dx (.own x)) x (.ins C dx [])) ∧ Rep K (up s x (.ins C [])) (upd (upd H dx (.own x)) x (.ins C dx [])) := by
  have hx' : upd H dx (.own x) x = none := by rw [upd_ne (Ne.symm ne)]; exact hx
  have st1 : Stp s H s (upd H dx (.own x)) := Stp.newF hdx
  have st2 : Stp s (upd H dx (.own x)) (up s x (.ins C [])) (upd (upd H dx (.own x)) x (.ins C dx [])) := Stp.new hx'
  exact ⟨st1.trans st2, (rep.newF hdx).put st2 ⟨dx, [], upd_same, .nil⟩⟩
theorem dmake (M : Mk X.K C f) (F : FnOk X.prog X.w X.K X.mg X.base CX0 k f fd ps (lSp X.K sp)) (hr : Room (k + 1) X.A) (hm : X.mg x = some (.ref C)) (hb : Binds X.K fd ps ds) (hd : Vals dvs ds) (hdd : ∀ s H, DatL X.K s H dvs dds)
    (ha : PAd A X (e :: es) t) (hg : Gl X x := by rfl) (hdb : (x == ("__debug__" : Str)) = false := by decide) (he : starEach (e :: es) X.env = (false, eval e X.env) :: starEach es X.env := by rfl) (hpl : (backTo pos (starEach es X.env)).any (·.1) = false := by rfl) :
    PD A X (.Call (.Name x p) (e :: es) [] pos) (dMake C sp dds t) := peImp (pe_make M F hr hg hm hb hd pass0 ha hdb he hpl) fun σ H Q h => by
  obtain ⟨δ, s, Q', S, t, k⟩ := h
  refine ⟨δ, s, _, S, t, fun vs H1 es s1 st1 rep1 dv q y dy hy hdy ne => ?_⟩
  obtain ⟨st2, rep2⟩ := made_ok (C := C) rep1 hy hdy ne
  refine lSp_of rep2 (.cons (.ref y) ((dv.step st2 rep1).append (hdd _ _))) (q y (rep1.fresh hy)) fun v3 H3 d3 s3 st3 rep3 dv3 q3 => ?_
  obtain ⟨rfl, q3⟩ := q3
  exact ⟨dv3.nonInv, k _ H3 _ s3 ((st1.trans st2).trans st3) rep3 (.ref y) q3⟩
theorem dmake0 (M : Mk X.K C f) (F : FnOk X.prog X.w X.K X.mg X.base CX0 k f fd ps (lSp X.K sp)) (hr : Room (k + 1) X.A) (hm : X.mg x = some (.ref C)) (hb : Binds X.K fd ps ds) (hd : Vals dvs ds) (hdd : ∀ s H, DatL X.K s H dvs dds)
    (hg : Gl X x := by rfl) (hdb : (x == ("__debug__" : Str)) = false := by decide) :
    PD A X (.Call (.Name x p) [] [] pos) (dMake C sp dds dNil) := peImp (pe_make0 M F hr hg hm hb hd pass0 hdb) fun σ H Q h => by
  obtain ⟨δ, s, Q', S, t, k⟩ := h
  intro y dy hy hdy ne
  obtain ⟨st2, rep2⟩ := made_ok (C := C) S.rep hy hdy ne
  refine lSp_of rep2 (.cons (.ref y) (hdd _ _)) (t y (S.rep.fresh hy)) fun v3 H3 d3 s3 st3 rep3 dv3 q3 => ?_
  obtain ⟨rfl, q3⟩ := q3
  exact ⟨dv3.nonInv, k _ H3 _ s3 (st2.trans st3) rep3 (.ref y) q3⟩
/-- keywords -/
abbrev PKd (A : Anc) (X : Cx) (kws : List Keyword) (t : TAd) : Prop := PK X kws (lA X.K A t)
theorem pkImp {t t' : TA} (h : PK X kws t) (w : ∀ σ H Q, t' σ H Q → t σ H Q) : PK X kws t' := ⟨fun pos pins s σ H Q I q => h.run pos pins s σ H Q I (w _ _ _ q)⟩
theorem dkn : PKd A X [] dNil := pkImp pk_nil fun σ H Q h => by
  obtain ⟨δ, s, Q', S, t, k⟩ := h
  exact k [] H [] s (Stp.refl s H) S.rep .nil t
theorem dkc {nm : Option Str} (ha : PD A X e te) (hr : PKd A X kws tk) : PKd A X (⟨nm, e, kpos⟩ :: kws) (dCons te tk) := pkImp (pk_cons ha hr) fun σ H Q h => by
  obtain ⟨δ, s, Q', S, t, k⟩ := h
  refine ⟨δ, s, _, S, t, fun v H1 d s1 st1 rep1 dv q1 => ?_⟩
  refine ⟨δ, s1, _, S.go st1 rep1, q1, fun vs H2 ds s2 st2 rep2 dvs q2 => ?_⟩
  exact k (v :: vs) H2 (d :: ds) s2 (st1.trans st2) rep2 (.cons (dv.step st2 rep1) dvs) q2
variable {n : Nat} {g : List Value → List Value → List Value} {gV : List V → List V → List V} {gD : List DV → List DV → List DV}
theorem dcallK (F : FnOk X.prog X.w X.K X.mg X.base CX0 k f fd ps (lSp X.K sp)) (hr : Room k X.A) (hm : X.mg x = some (.ref f)) (hk : PySem.W.keepIn X.K (.ref f) = true) (hb : KBn X.K fd ps n ks g gV) (hgD : ∀ s H vs es zs us, DatL X.K s H vs es → DatL X.K s H zs us → DatL X.K s H (gV vs zs) (gD es us))
    (ha : PAd A X (e :: es) t) (hkw : PKd A X kws tk) (hg : Gl X x := by rfl) (hall : (backToKw pos (keywordEach kws X.env)).all (·.1.isSome) = true := by rfl) (hks : (backToKw pos (keywordEach kws X.env)).filterMap (·.1) = ks := by rfl)
    (hdb : (x == ("__debug__" : Str)) = false := by decide) (he : starEach (e :: es) X.env = (false, eval e X.env) :: starEach es X.env := by rfl)
    (hpl : ((backTo pos (starEach (e :: es) X.env)).any (·.1) || (backToKw pos (keywordEach kws X.env)).any (·.1.isNone)) = false := by rfl) :
    PD A X (.Call (.Name x p) (e :: es) kws pos) (dCallK sp n ks.length gD t tk) := peImp (pe_callN F hr hg hm hk hb pass0 ha hkw hall hks hdb he hpl) fun σ H Q h => by
  obtain ⟨δ, s, Q', S, t, k⟩ := h
  refine ⟨δ, s, _, S, t, fun vs H1 es s1 st1 rep1 dv q => ?_⟩
  refine ⟨δ, s1, _, S.go st1 rep1, q, fun zs H2 us s2 st2 rep2 dvz q2 => ⟨by rw [dv.length]; exact q2.1.1, by rw [dvz.length]; exact q2.1.2, ?_⟩⟩
  exact lSp_of rep2 (hgD _ _ _ _ _ _ (dv.step st2 rep1) dvz) q2.2 fun v3 H3 d3 s3 st3 => k v3 H3 d3 s3 ((st1.trans st2).trans st3)
theorem dmakeK (M : Mk X.K C f) (F : FnOk X.prog X.w X.K X.mg X.base CX0 k f fd ps (lSp X.K sp)) (hr : Room (k + 1) X.A) (hm : X.mg x = some (.ref C)) (hb : KBn X.K fd ps (n + 1) ks g gV) (hgD : ∀ s H vs es zs us, DatL X.K s H vs es → DatL X.K s H zs us → DatL X.K s H (gV vs zs) (gD es us))
    (ha : PAd A X (e :: es) t) (hkw : PKd A X kws tk) (hg : Gl X x := by rfl) (hall : (backToKw pos (keywordEach kws X.env)).all (·.1.isSome) = true := by rfl) (hks : (backToKw pos (keywordEach kws X.env)).filterMap (·.1) = ks := by rfl) (hdb : (x == ("__debug__" : Str)) = false := by decide)
    (he : starEach (e :: es) X.env = (false, eval e X.env) :: starEach es X.env := by rfl) (hpl : ((backTo pos (starEach (e :: es) X.env)).any (·.1) || (backToKw pos (keywordEach kws X.env)).any (·.1.isNone)) = false := by rfl) :
    PD A X (.Call (.Name x p) (e :: es) kws pos) (dMakeK C sp n ks.length gD t tk) := peImp (pe_makeK M F hr hg hm hb pass0 ha hkw hall hks hdb he hpl) fun σ H Q h => by
  obtain ⟨δ, s, Q', S, t, k⟩ := h
  refine ⟨δ, s, _, S, t, fun vs H1 es s1 st1 rep1 dv q => ?_⟩
  refine ⟨δ, s1, _, S.go st1 rep1, q, fun zs H2 us s2 st2 rep2 dvz q2 => ⟨by rw [dv.length]; exact q2.1.1, by rw [dvz.length]; exact q2.1.2, fun y dy hy hdy ne => ?_⟩⟩
  obtain ⟨st3, rep3⟩ := made_ok (C := C) rep2 hy hdy ne
  refine lSp_of rep3 (hgD _ _ _ _ _ _ (.cons (.ref y) ((dv.step st2 rep1).step st3 rep2)) (dvz.step st3 rep2)) (q2.2 y (rep2.fresh hy)) fun v4 H4 d4 s4 st4 rep4 dv4 q4 => ?_
  obtain ⟨rfl, q4⟩ := q4
  exact ⟨dv4.nonInv, k _ H4 _ s4 (((st1.trans st2).trans st3).trans st4) rep4 (.ref y) q4⟩
theorem dmakeK0 (M : Mk X.K C f) (F : FnOk X.prog X.w X.K X.mg X.base CX0 k f fd ps (lSp X.K sp)) (hr : Room (k + 1) X.A) (hm : X.mg x = some (.ref C)) (hb : KBn X.K fd ps 1 ks g gV) (hgD : ∀ s H vs es zs us, DatL X.K s H vs es → DatL X.K s H zs us → DatL X.K s H (gV vs zs) (gD es us))
    (hkw : PKd A X kws tk) (hg : Gl X x := by rfl) (hall : (backToKw pos (keywordEach kws X.env)).all (·.1.isSome) = true := by rfl) (hks : (backToKw pos (keywordEach kws X.env)).filterMap (·.1) = ks := by rfl) (hdb : (x == ("__debug__" : Str)) = false := by decide)
    (hpl : ((backTo pos (starEach [] X.env)).any (·.1) || (backToKw pos (keywordEach kws X.env)).any (·.1.isNone)) = false := by rfl) :
    PD A X (.Call (.Name x p) [] kws pos) (dMakeK C sp 0 ks.length gD dNil tk) := peImp (pe_makeK0 M F hr hg hm hb pass0 hkw hall hks hdb hpl) fun σ H Q h => by
  obtain ⟨δ, s, Q', S, t, k⟩ := h
  refine ⟨δ, s, _, S, t, fun zs H2 us s2 st2 rep2 dvz q2 => ⟨rfl, by rw [dvz.length]; exact q2.1.2, fun y dy hy hdy ne => ?_⟩⟩
  obtain ⟨st3, rep3⟩ := made_ok (C := C) rep2 hy hdy ne
  refine lSp_of rep3 (hgD _ _ _ _ _ _ (.cons (.ref y) .nil) (dvz.step st3 rep2)) (q2.2 y (rep2.fresh hy)) fun v4 H4 d4 s4 st4 rep4 dv4 q4 => ?_
  obtain ⟨rfl, q4⟩ := q4
  exact ⟨dv4.nonInv, k _ H4 _ s4 ((st2.trans st3).trans st4) rep4 (.ref y) q4⟩
variable {fl : Str}
theorem dfld (T : Cls X.K C) (nf : NoAttr X.K C fl) (he : PD A X e te) (hb : attributeBase e fl X.env (eval e X.env) = eval e X.env := by rfl) : PD A X (.Attribute e fl pos) (dFld C fl te) := peImp (pe_fld he hb) fun σ H Q h => by
  obtain ⟨δ, s, Q', S, t, k⟩ := h
  refine ⟨δ, s, _, S, t, fun v H1 d s1 st1 rep1 dv q => ?_⟩
  unfold kFld at q
  split at q
  · rename_i a
    cases dv
    split at q
    · rename_i C' fs e
      obtain ⟨rfl, q⟩ := q
      split at q
      · rename_i d el
        obtain ⟨dx, gs, h1, hp⟩ := rep1 a _ e
        obtain ⟨v2, h2, dv2⟩ := (lookP fl hp).2 d el
        exact ⟨a, _, dx, gs, v2, rfl, h1, T, nf, h2, k v2 H1 d s1 st1 rep1 dv2 q⟩
      · exact False.elim q
    · exact False.elim q
  · exact False.elim q
theorem ins_put {K : PySem.W.Frag} {s : Sto} {H : Hp} {a dx : Addr} {fs : List (Str × DV)} {gs : List (Str × V)} {v : V} {d : DV} (rep : Rep K s H) (e : s a = some (.ins C fs)) (h1 : H a = some (.ins C dx gs)) (hp : DatP K s H gs fs) (dv : Dat K s H v d) :
    Stp s H (up s a (.ins C (putFD fl d fs))) (upd H a (.ins C dx (putF fl v gs))) ∧ Rep K (up s a (.ins C (putFD fl d fs))) (upd H a (.ins C dx (putF fl v gs))) := by
  have st : Stp s H (up s a (.ins C (putFD fl d fs))) (upd H a (.ins C dx (putF fl v gs))) := Stp.wr (by rw [e]; trivial)
  exact ⟨st, rep.put st ⟨dx, _, upd_same, (putF_ok dv hp).step st rep⟩⟩
theorem dssetfld {pos' : Pos} (T : Cls X.K C) (nf : NoAttr X.K C fl) (ha : PD A X o to) (hv : PD A X e tv) (hs : swapsWith e (some (.Attribute o fl pos')) pos.line X.env = pure false := by rfl) : PSd A X (.Assign [.Attribute o fl pos'] e pos) (dSetFld C fl to tv) := psImp (ps_fld ha hv hs) fun D σ H h => by
  obtain ⟨δ, s, D', S, t, L⟩ := h
  refine ⟨δ, s, _, S, t, fun v H1 d s1 st1 rep1 dv q => ?_⟩
  have S1 := S.go st1 rep1
  refine ⟨δ, s1, _, S1, q, fun v2 H2 d2 s2 st2 rep2 dv2 q => ?_⟩
  unfold kSetFld2 at q
  split at q
  · rename_i a
    cases dv2
    split at q
    · rename_i C' fs e
      obtain ⟨rfl, hl, q⟩ := q
      obtain ⟨dx, gs, h1, hp⟩ := rep2 a _ e
      obtain ⟨st3, rep3⟩ := ins_put (fl := fl) rep2 e h1 hp (dv.step st2 rep1)
      exact ⟨a, _, dx, gs, rfl, h1, T, nf, by rw [Paired.length' hp]; exact hl, L.nx σ _ δ _ ((S1.go st2 rep2).go st3 rep3) q⟩
    · exact False.elim q
  · exact False.elim q
theorem dsaugfld {tpos : Pos} {op : Operator} {gI : Int → Int → Int} {j : Int} (T : Cls X.K C) (nf : NoAttr X.K C fl) (hop : InOp X op (fun x y H Q => ∃ i j, x = .int i ∧ y = .int j ∧ Q (.int (gI i j)) H)) (ha : PD A X o to) (hv : PE X e (tC (.int j))) :
    PSd A X (.AugAssign (.Attribute o fl tpos) op e pos) (dAugFld C fl (fun i => gI i j) to) := psImp (ps_fldaug ha hv hop) fun D σ H h => by
  obtain ⟨δ, s, D', S, t, L⟩ := h
  refine ⟨δ, s, _, S, t, fun v H1 d s1 st1 rep1 dv q => ?_⟩
  have S1 := S.go st1 rep1
  unfold kAugFld at q
  split at q
  · rename_i a
    cases dv
    split at q
    · rename_i C' fs e
      obtain ⟨rfl, q⟩ := q
      split at q
      · rename_i i el
        obtain ⟨hl, q⟩ := q
        obtain ⟨dx, gs, h1, hp⟩ := rep1 a _ e
        obtain ⟨v2, h2, dv2⟩ := (lookP fl hp).2 _ el
        cases dv2
        obtain ⟨st4, rep4⟩ := ins_put (fl := fl) (v := V.int (gI i j)) (d := DV.int (gI i j)) rep1 e h1 hp (.int _)
        exact ⟨a, _, dx, gs, _, rfl, h1, T, nf, h2, i, j, rfl, rfl, dx, gs, h1, by rw [Paired.length' hp]; exact hl, L.nx σ _ δ _ (S1.go st4 rep4) q⟩
      · exact False.elim q
    · exact False.elim q
  · exact False.elim q
end

/-! ### x += e at a name; a written dict -/
def kAugN2 (i : Nat) (D : EndsD) (δ : Ed) (z : DV) (s2 : Sto) : Prop := D.nx (δ.set i (some z)) s2
def kAugN1 (i : Nat) (r : R2d) (x : DV) (D : EndsD) (δ : Ed) (y : DV) (s1 : Sto) : Prop := r x y s1 (kAugN2 i D δ)
def dAugN (i : Nat) (r : R2d) (te : TEd) (D : EndsD) (δ : Ed) (s : Sto) : Prop := match δ.getD i none with
  | some x => te δ s (kAugN1 i r x D δ)
  | none => False
def dIpAdd (x y : DV) (s : Sto) (Q : KD) : Prop := match x, y with
  | .int i, .int j => Q (.int (i + j)) s
  | _, _ => False
section
variable {X : Cx} {A : Anc} {e : Expr} {te : TEd} {r : R2d} {pos pos' : Pos}
theorem ipd_add : PIp X .Add (lR X.K dIpAdd) := fun pins s σ H x y v u Q I rx ry q => ip_add pins s σ H x y v u Q I rx ry (by
  obtain ⟨dx, dy, s, Q', rep, hx, hy, r, k⟩ := q
  unfold dIpAdd at r
  split at r
  · cases hx; cases hy
    exact ⟨_, _, rfl, rfl, k _ H _ s (Stp.refl s H) rep (.int _) r⟩
  · exact r.elim)
theorem dsaug {i : Nat} {x : Str} {op : Operator} (hN : X.N.Nodup) (hi : X.N[i]? = some x) (hx : Loc X.env.scope x) (he : PD A X e te) (ho : PIp X op (lR X.K r)) (hf : X.fn x = true ∨ X.env.scope.names.lookup x = some .local := by first | exact .inl rfl | exact .inr rfl | assumption) :
    PSd A X (.AugAssign (.Name x pos') op e pos) (dAugN i r te) := psImp (ps_aug hN hi hx he ho hf) fun D σ H h => by
  obtain ⟨δ, s, D', S, t, L⟩ := h
  unfold dAugN at t
  split at t
  · rename_i d ed
    have e2 : δ[i]? = some (some d) := by
      rw [List.getD_eq_getElem?_getD] at ed
      cases q : δ[i]? with
      | none => rw [q] at ed; cases ed
      | some o => rw [q] at ed; exact congrArg some ed
    obtain ⟨v, h1, h2⟩ := S.env.at_ i d e2
    refine ⟨v, h1, δ, s, _, S, t, fun v2 H2 d2 s2 st2 rep2 dv2 q => ?_⟩
    refine ⟨d, d2, s2, _, rep2, h2.step st2 S.rep, dv2, q, fun v3 H3 d3 s3 st3 rep3 dv3 q3 => ?_⟩
    have S3 := (S.go st2 rep2).go st3 rep3
    exact L.nx _ H3 _ s3 ⟨S3.stp, S3.rep, S3.env.set dv3 i⟩ q3
  · exact False.elim t
end
/-- a written dict: the pairs' values, in order, the dict hidden meanwhile -/
def kPair3 (Q : List (DV × DV) → Sto → Prop) (x y : DV) (ps : List (DV × DV)) (s3 : Sto) : Prop := Q ((x, y) :: ps) s3
def kPair2 (rest : Ed → Sto → (List (DV × DV) → Sto → Prop) → Prop) (δ : Ed) (Q : List (DV × DV) → Sto → Prop) (x y : DV) (s2 : Sto) : Prop := rest δ s2 (kPair3 Q x y)
def kPair1 (tv : TEd) (rest : Ed → Sto → (List (DV × DV) → Sto → Prop) → Prop) (δ : Ed) (Q : List (DV × DV) → Sto → Prop) (x : DV) (s1 : Sto) : Prop := tv δ s1 (kPair2 rest δ Q x)
def dPairs : List (TEd × TEd) → Ed → Sto → (List (DV × DV) → Sto → Prop) → Prop
  | [], _, s, Q => Q [] s
  | (tk, tv) :: r, δ, s, Q => tk δ s (kPair1 tv (dPairs r) δ Q)
def keysD : List (DV × DV) → Option (List (Key × DV))
  | [] => some []
  | (x, y) :: r => match keyD x, keysD r with
    | some k, some ks => some ((k, y) :: ks)
    | _, _ => none
def mergeP (ks more : List (Key × DV)) : List (Key × DV) := more.foldl (fun acc kv => putP acc kv.1 kv.2) ks
def kDisp (p : Addr) (Q : KD) (ps : List (DV × DV)) (s2 : Sto) : Prop := match keysD ps with
  | some ks => ks.length ≤ 15 ∧ Q (.ref p) (up s2 p (.dK (mergeP [] ks)))
  | none => False
def dDisp (trs : List (TEd × TEd)) (δ : Ed) (s : Sto) (Q : KD) : Prop := ∀ p, s p = none → dPairs trs δ (up s p .hid) (kDisp p Q)
end DL

set_option Elab.async false
set_option linter.all false
set_option maxRecDepth 100000
set_option maxHeartbeats 4000000
namespace DL
open PySem PySem.Spec PyProof.Rows L2

/-! ### what is never reached -/
def dDead (_ : EndsD) (_ : Ed) (_ : Sto) : Prop := False
theorem dsdead {A : Anc} {X : Cx} {st : Stmt} : PSd A X st dDead := ⟨fun pins s σ H D I h => by
  obtain ⟨δ, s, D', S, t, L⟩ := h
  exact False.elim t⟩
theorem dssdead {A : Anc} {X : Cx} {st : List Stmt} : PSsd A X st dDead := ⟨fun pins s σ H D I h => by
  obtain ⟨δ, s, D', S, t, L⟩ := h
  exact False.elim t⟩
def dDeadE (_ : Ed) (_ : Sto) (_ : KD) : Prop := False
theorem ddeadE {A : Anc} {X : Cx} {e : Expr} : PD A X e dDeadE := ⟨fun pins s σ H Q I h => by
  obtain ⟨δ, s, Q', S, t, L⟩ := h
  exact False.elim t⟩

/-! ### and, or, not as values (truths) -/
def kAndE (tb : TEd) (δ : Ed) (Q : KD) (d : DV) (s1 : Sto) : Prop := match d with
  | .bl true => tb δ s1 Q
  | .bl false => Q (.bl false) s1
  | _ => False
def dAndE (ta tb : TEd) (δ : Ed) (s : Sto) (Q : KD) : Prop := ta δ s (kAndE tb δ Q)
def kOrE (tb : TEd) (δ : Ed) (Q : KD) (d : DV) (s1 : Sto) : Prop := match d with
  | .bl false => tb δ s1 Q
  | .bl true => Q (.bl true) s1
  | _ => False
def dOrE (ta tb : TEd) (δ : Ed) (s : Sto) (Q : KD) : Prop := ta δ s (kOrE tb δ Q)
def kNotE (Q : KD) (d : DV) (s1 : Sto) : Prop := match d with
  | .bl b => Q (.bl (!b)) s1
  | _ => False
def dNotE (ta : TEd) (δ : Ed) (s : Sto) (Q : KD) : Prop := ta δ s (kNotE Q)
section
variable {A : Anc} {X : Cx} {a b : Expr} {rest : List Expr} {ta tb : TEd} {pos : Pos}
theorem deand1 {op : BoolOp} (ha : PD A X a ta) : PD A X (.BoolOp op [a] pos) ta := pe_one ha
theorem deand (ha : PD A X a ta) (hb : PD A X (.BoolOp .And (b :: rest) pos) tb) : PD A X (.BoolOp .And (a :: b :: rest) pos) (dAndE ta tb) := peImp (pe_and ha hb) fun σ H Q h => by
  obtain ⟨δ, s, Q', S, t, k⟩ := h
  refine ⟨δ, s, _, S, t, fun v H1 d s1 st1 rep1 dv q => ?_⟩
  cases d with
  | bl c =>
    refine ⟨c, dv.blInv, ?_⟩
    cases c with
    | true => exact iteT ⟨δ, s1, _, S.go st1 rep1, q, fun v2 H2 d2 s2 st2 => k v2 H2 d2 s2 (st1.trans st2)⟩
    | false => exact iteF (k _ H1 _ s1 st1 rep1 (.bl false) q)
  | _ => exact False.elim q
theorem deor (ha : PD A X a ta) (hb : PD A X (.BoolOp .Or (b :: rest) pos) tb) : PD A X (.BoolOp .Or (a :: b :: rest) pos) (dOrE ta tb) := peImp (pe_or ha hb) fun σ H Q h => by
  obtain ⟨δ, s, Q', S, t, k⟩ := h
  refine ⟨δ, s, _, S, t, fun v H1 d s1 st1 rep1 dv q => ?_⟩
  cases d with
  | bl c =>
    refine ⟨c, dv.blInv, ?_⟩
    cases c with
    | true => exact iteT (k _ H1 _ s1 st1 rep1 (.bl true) q)
    | false => exact iteF ⟨δ, s1, _, S.go st1 rep1, q, fun v2 H2 d2 s2 st2 => k v2 H2 d2 s2 (st1.trans st2)⟩
  | _ => exact False.elim q
theorem denot (ha : PD A X a ta) : PD A X (.UnaryOp .Not a pos) (dNotE ta) := peImp (pe_not ha) fun σ H Q h => by
  obtain ⟨δ, s, Q', S, t, k⟩ := h
  refine ⟨δ, s, _, S, t, fun v H1 d s1 st1 rep1 dv q => ?_⟩
  cases d with
  | bl c => exact ⟨c, dv.blInv, k _ H1 _ s1 st1 rep1 (.bl _) q⟩
  | _ => exact False.elim q
end

/-! ### y = [..] where the store swaps -/
section
variable {X : Cx} {A : Anc} {tg iter elt : Expr} {ifs : List Expr} {scope : Scope} {own : List (Str × Nat)} {it : TId} {g : TG} {g' : TGd} {tt : TTd} {te : TEd} {sl : List Nat} {pos spos py : Pos} {i : Nat} {y : Str}
theorem dssetLc (hc : X.calm = true) (hN : X.N.Nodup) (hy : X.N[i]? = some y) (hyl : X.env.scope.names.lookup y = some .local) (hsw : swapsWith (.ListComp elt [⟨tg, iter, ifs, 0⟩] scope pos) (some (.Name y py)) spos.line X.env = pure true)
    (hi : PId A X tg iter it) (ok : BlkOk X.N X.env.scope scope own) (mg : GMono g) (hp : PatOk X.K g g' sl) (hsl : ∀ i ∈ sl, i ∈ own.map (·.2))
    (hg : ∀ (s : Shared) (H : Hp) (C : Addr) (cl : List (Str × Addr)) (fp : List Addr), PG (X.blk s H scope (compEnvC scope cl C X.env) fp) tg g)
    (ht : ∀ (s : Shared) (H : Hp) (C : Addr) (cl : List (Str × Addr)) (fp : List Addr), PTsd A (X.blk s H scope (compEnvC scope cl C X.env) fp) ifs tt)
    (he : ∀ (s : Shared) (H : Hp) (C : Addr) (cl : List (Str × Addr)) (fp : List Addr), PD A (X.blk s H scope (compEnvC scope cl C X.env) fp) elt te) (hs : ∀ x, foldedSetIterable iter X.env x = pure x := by intro _; rfl) :
    PSd A X (.Assign [.Name y py] (.ListComp elt [⟨tg, iter, ifs, 0⟩] scope pos) spos) (dAsg (dLc it g' tt te (own.map (·.2))) (gNameD i)) := psImp (ps_setLc hc hN hy hyl hsw hi ok hg ht he hs) fun D σ H h => by
  obtain ⟨δ, s, D', S, t, L⟩ := h
  refine lc_run mg hp hsl S t fun Dd acc s1 H1 s2 H2 st1 hD st2 Le q => ?_
  obtain ⟨a, b, c⟩ := Le.lst st2 hD
  exact L.nx _ H2 _ _ ⟨S.stp.trans (st1.trans a), b, (S.env.step (st1.trans a) S.rep).set c i⟩ q
theorem dssetLcM (hc : X.calm = true) (hN : X.N.Nodup) (hy : X.N[i]? = some y) (hyl : X.env.scope.names.lookup y = some .local) (hsw : swapsWith (.ListComp elt [⟨tg, iter, ifs, 0⟩] scope pos) (some (.Name y py)) spos.line X.env = pure true)
    (hi : PId A X tg iter it) (ok : BlkOk X.N X.env.scope scope own) (mg : GMono g) (hp : PatOk X.K g g' sl) (hsl : ∀ i ∈ sl, i ∈ own.map (·.2))
    (hg : ∀ (s : Shared) (H : Hp) (C : Addr) (cl : List (Str × Addr)) (fp : List Addr), PG (X.blk s H scope (compEnvC scope cl C X.env) fp) tg g)
    (ht : ∀ (s : Shared) (H : Hp) (C : Addr) (cl : List (Str × Addr)) (fp : List Addr), PTsd A (X.blk s H scope (compEnvC scope cl C X.env) fp) ifs tt)
    (he : ∀ (s : Shared) (H : Hp) (C : Addr) (cl : List (Str × Addr)) (fp : List Addr), PD A (X.blk s H scope (compEnvC scope cl C X.env) fp) elt te) (hs : ∀ x, foldedSetIterable iter X.env x = pure x := by intro _; rfl) :
    PSd A X (.Assign [.Name y py] (.ListComp elt [⟨tg, iter, ifs, 0⟩] scope pos) spos) (dAsg (dLcM it g' tt te (own.map (·.2))) (gNameD i)) := psImp (ps_setLc hc hN hy hyl hsw hi ok hg ht he hs) fun D σ H h => by
  obtain ⟨δ, s, D', S, t, L⟩ := h
  refine lc_run mg hp hsl S t fun Dd acc s1 H1 s2 H2 st1 hD st2 Le q => ?_
  obtain ⟨a, b⟩ := Le.mut st2 hD
  exact L.nx _ H2 _ _ ⟨S.stp.trans (st1.trans a), b, (S.env.step (st1.trans a) S.rep).set (.ref Dd) i⟩ q
end

/-! ### a written dict -/
section
variable {X : Cx} {A : Anc}
inductive TrsD (K : PySem.W.Frag) (A : Anc) : List (TE × TE) → List (TEd × TEd) → Prop
  | nil : TrsD K A [] []
  | cons {tk tv : TEd} {trs : List (TE × TE)} {tds : List (TEd × TEd)} : TrsD K A trs tds → TrsD K A ((lE K A tk, lE K A tv) :: trs) ((tk, tv) :: tds)
def DatPP (K : PySem.W.Frag) (s : Sto) (H : Hp) : List (V × V) → List (DV × DV) → Prop := Paired fun p q => Dat K s H p.1 q.1 ∧ Dat K s H p.2 q.2
theorem pairs_run {K : PySem.W.Frag} {σ : L2.St} {δ : Ed} : ∀ {trs : List (TE × TE)} {tds : List (TEd × TEd)} {H : Hp} {s : Sto} {Q' : List (DV × DV) → Sto → Prop} {Q : List (V × V) → Hp → Prop}, TrsD K A trs tds → Sd K A σ H δ s → dPairs tds δ s Q' →
    (∀ vs H2 ds s2, Stp s H s2 H2 → Rep K s2 H2 → DatPP K s2 H2 vs ds → Q' ds s2 → Q vs H2) → tPairs trs σ H Q
  | _, _, H, s, Q', Q, .nil, S, t, k => k [] H [] s (Stp.refl s H) S.rep .nil t
  | _, _, H, s, Q', Q, .cons r, S, t, k => by
    refine ⟨δ, s, _, S, t, fun v H1 d s1 st1 rep1 dv q1 => ?_⟩
    refine ⟨δ, s1, _, S.go st1 rep1, q1, fun v2 H2 d2 s2 st2 rep2 dv2 q2 => ?_⟩
    refine pairs_run r ((S.go st1 rep1).go st2 rep2) q2 fun vs H3 ds s3 st3 rep3 dvs q3 => ?_
    exact k _ H3 _ s3 ((st1.trans st2).trans st3) rep3 (.cons ⟨(dv.step st2 rep1).step st3 rep2, dv2.step st3 rep2⟩ dvs) q3
theorem keys_ok {K : PySem.W.Frag} {s : Sto} {H : Hp} : ∀ {vs : List (V × V)} {ds : List (DV × DV)} {ks : List (Key × DV)}, DatPP K s H vs ds → keysD ds = some ks → ∃ kvs : List (Key × V), vs = kvs.map (fun kv => (kV kv.1, kv.2)) ∧ DatP K s H kvs ks
  | _, _, _, .nil, e => by cases e; exact ⟨[], rfl, .nil⟩
  | _, _, _, .cons (a := p) (b := q) (l₂ := rest) h t, e => by
    obtain ⟨q1, q2⟩ := q
    obtain ⟨p1, p2⟩ := p
    cases e1 : keyD q1 with
    | none => simp only [keysD, e1] at e; cases e
    | some k =>
      cases e2 : keysD rest with
      | none => simp only [keysD, e1, e2] at e; cases e
      | some ks =>
        simp only [keysD, e1, e2] at e
        cases e
        obtain ⟨kvs, h1, h2⟩ := keys_ok t e2
        exact ⟨(k, p2) :: kvs, by rw [h1]; show (p1, p2) :: _ = (kV k, p2) :: _; rw [show p1 = kV k from keyD_ok h.1 e1], .cons ⟨rfl, h.2⟩ h2⟩
theorem mergeP_ok {K : PySem.W.Frag} {s : Sto} {H : Hp} : ∀ {more : List (Key × V)} {mks : List (Key × DV)} {kvs : List (Key × V)} {ks : List (Key × DV)}, DatP K s H kvs ks → DatP K s H more mks → DatP K s H (mergeK kvs more) (mergeP ks mks)
  | _, _, _, _, h, .nil => h
  | _, _, kvs, ks, h, .cons (a := p) (b := q) h1 t => by
    show DatP K s H (mergeK (putK kvs p.1 p.2) _) (mergeP (putP ks q.1 q.2) _)
    refine mergeP_ok ?_ t
    rw [h1.1]
    exact putP_ok q.1 h1.2 h
theorem ddisp {pos : Pos} {keys : List (Option Expr)} {values : List Expr} {trs : List (TE × TE)} {tds : List (TEd × TEd)} (h : PPs X pos keys values trs) (r : TrsD X.K A trs tds) (hall : keys.all (·.isSome) = true := by rfl) (hl : keys.length = values.length := by rfl) (h0 : keys ≠ [] := by exact fun z => nomatch z)
    (h15 : keys.length ≤ 15 := by decide) : PD A X (.Dict keys values pos) (dDisp tds) := peImp (pe_disp h hall hl h0 h15) fun σ H Q h => by
  obtain ⟨δ, s, Q', S, t, k⟩ := h
  intro p hp
  have st1 : Stp s H (up s p .hid) (upd H p (.dK [])) := Stp.new hp
  have rep1 : Rep X.K (up s p .hid) (upd H p (.dK [])) := S.rep.put st1 ⟨_, upd_same⟩
  refine pairs_run r (S.go st1 rep1) (t p (S.rep.fresh hp)) fun vs H2 ds s2 st2 rep2 dvs q => ?_
  have hh := st2 p _ upd_same (.inr up_same)
  refine ⟨hh.1, ?_⟩
  unfold kDisp at q
  split at q
  · rename_i ks ek
    obtain ⟨kvs, h1, h2⟩ := keys_ok dvs ek
    have hlen : kvs.length = ks.length := Paired.length' h2
    refine ⟨kvs, h1, by rw [hlen]; exact q.1, ?_⟩
    have hs2 : s2 p = some .hid := hh.2.trans up_same
    have sub : ∀ a, s2 a = none → up s2 p (.dK (mergeP [] ks)) a = none := fun a e => by
      have ne : a ≠ p := fun z => by rw [z, hs2] at e; cases e
      rw [up_ne ne]; exact e
    have hidD : ∀ {v : V} {d : DV}, Dat X.K s2 H2 v d → Dat X.K (up s2 p (.dK (mergeP [] ks))) (upd H2 p (.dK (mergeK [] kvs))) v d := by
      -- nothing that is known leans on the hidden dict
      have tupP : ∀ {a : Addr} {xs : List V}, SqT X.K H2 a xs → SqT X.K (upd H2 p (.dK (mergeK [] kvs))) a xs := fun {a xs} h => by
        rcases h with (h | ⟨u, h⟩) | h
        · exact .inl (.inl (by rw [upd_ne (ne_of h hh.1 (fun z => nomatch z))]; exact h))
        · exact .inl (.inr ⟨u, by rw [upd_ne (ne_of h hh.1 (fun z => nomatch z))]; exact h⟩)
        · exact .inr h
      intro v d hd
      refine Dat.rec (motive_1 := fun v d _ => Dat X.K (up s2 p (.dK (mergeP [] ks))) (upd H2 p (.dK (mergeK [] kvs))) v d) (motive_2 := fun vs ds _ => DatL X.K (up s2 p (.dK (mergeP [] ks))) (upd H2 p (.dK (mergeK [] kvs))) vs ds)
        .non .bl .int .str .ty .ref (fun h _ l => .tup (tupP h) l) (fun {a xs ds} h n _ l => .lst (by rw [upd_ne (fun z => by rw [z, hs2] at n; cases n)]; exact h) (sub a n) l)
        (fun {a xs ds} h _ l => .scr (by
          rcases h with ⟨u, h⟩ | h
          · exact .inl ⟨u, by rw [upd_ne (ne_of h hh.1 (fun z => nomatch z))]; exact h⟩
          · exact .inr h) l) .nil (fun _ _ h t => .cons h t) hd
    have hidP : ∀ {κ : Type} {a : List (κ × V)} {b : List (κ × DV)}, DatP X.K s2 H2 a b → DatP X.K (up s2 p (.dK (mergeP [] ks))) (upd H2 p (.dK (mergeK [] kvs))) a b := fun {κ a b} h => by
      induction h with
      | nil => exact .nil
      | cons h t ih => exact .cons ⟨h.1, hidD h.2⟩ ih
    have hidL : ∀ {a : List V} {b : List DV}, DatL X.K s2 H2 a b → DatL X.K (up s2 p (.dK (mergeP [] ks))) (upd H2 p (.dK (mergeK [] kvs))) a b := fun {a} => by
      induction a with
      | nil => intro b h; cases h; exact .nil
      | cons x a ih => intro b h; cases h with | cons h t => exact .cons (hidD h) (ih t)
    refine k (.ref p) _ (.ref p) (up s2 p (.dK (mergeP [] ks))) ?_ ?_ (.ref p) q.2
    · intro a o ha hn
      have ne : a ≠ p := ne_of_none ha hp
      rw [upd_ne ne, up_ne ne]
      exact (st1.trans st2) a o ha hn
    · intro a m e
      by_cases z : a = p
      · subst z
        rw [up_same] at e; cases e
        exact ⟨_, upd_same, hidP (mergeP_ok .nil h2)⟩
      · rw [up_ne z] at e
        have ro := rep2 a m e
        cases m with
        | hid => obtain ⟨u, ro⟩ := ro; exact ⟨u, by rw [upd_ne z]; exact ro⟩
        | lst ds => obtain ⟨ys, ro, l⟩ := ro; exact ⟨ys, by rw [upd_ne z]; exact ro, hidL l⟩
        | dK ks => obtain ⟨ys, ro, l⟩ := ro; exact ⟨ys, by rw [upd_ne z]; exact ro, hidP l⟩
        | ins C fs => obtain ⟨dx, ys, ro, l⟩ := ro; exact ⟨dx, ys, by rw [upd_ne z]; exact ro, hidP l⟩
  · exact False.elim q
theorem dppn {pos : Pos} : PPs X pos [] [] [] := pps_nil
theorem dppc {pos : Pos} {k v : Expr} {ks : List (Option Expr)} {vs : List Expr} {tk tv : TEd} {trs : List (TE × TE)} (hk : PD A X k tk) (hv : PD A X v tv) (hr : PPs X pos ks vs trs) : PPs X pos (some k :: ks) (v :: vs) ((lE X.K A tk, lE X.K A tv) :: trs) := pps_cons hk hv hr
end

/-! ### defs and classes as they stand -/
structure DefAt (K : PySem.W.Frag) (mg : Str → Option Value) (x : Str) (st : Stmt) (ps : List Str) : Prop where
  ex : ∃ f fd, Fun K x x st f fd ∧ mg x = some (.ref f) ∧ PySem.W.keepIn K (.ref f) = true ∧ Binds K fd ps []
/-- a def that keeps a promise -/
structure Fn (P : Program) (w : World) (K : PySem.W.Frag) (mg : Str → Option Value) (base : Heap) (x : Str) (k : Nat) (ps : List Str) (sp : Spd) : Prop where
  ex : ∃ f fd, FnOk P w K mg base CX0 k f fd ps (lSp K sp) ∧ mg x = some (.ref f) ∧ PySem.W.keepIn K (.ref f) = true ∧ Binds K fd ps []
/-- a method that keeps a promise -/
structure Mt (P : Program) (w : World) (K : PySem.W.Frag) (mg : Str → Option Value) (base : Heap) (C : Addr) (m : Str) (k : Nat) (ps : List Str) (sp : Spd) : Prop where
  ex : ∃ f fd, FnOk P w K mg base CX0 k f fd ps (lSp K sp) ∧ Meth K C m f ∧ Binds K fd ps []
structure MethAt (K : PySem.W.Frag) (C : Addr) (m qual : Str) (st : Stmt) (ps : List Str) : Prop where
  ex : ∃ f fd, Fun K m qual st f fd ∧ Meth K C m f ∧ Binds K fd ps []
section
variable {P : Program} {w : World} {K : PySem.W.Frag} {mg : Str → Option Value} {base : Heap}
theorem fnOk {x : Str} {st : Stmt} {N ps : List Str} {k : Nat} {sp : Spd} {t : TSd} (D : DefAt K mg x st ps) (S : FnScope N ps (defScope st)) (len : ∀ ds s Q E, sp ds s Q E → ds.length = ps.length)
    (hbody : ∀ (A : Anc) (f : Addr) (cdv : Value) (Ar : Around) (outer : List Env) (s : Shared) (H : Hp) (E : XK), Room k (Ar.deeper (envOfC x (defScope st) s.heap.objs.size f cdv)) →
      PSsd A (cxOf CX0 P w K mg base N x (defScope st) f cdv Ar outer s H E).nox (defBody st) t)
    (hread : ∀ ds s Q E, sp ds s Q E → t { nx := fun _ s => Q .non s, rt := Q } (startD N.length ds) s) : Fn P w K mg base x (k + 1) ps sp := by
  obtain ⟨f, fd, F, g, kp, b⟩ := D.ex
  exact ⟨f, fd, defOk F S len (fun A cdv Ar outer s H E hr => hbody A f cdv Ar outer s H E hr) hread, g, kp, b⟩
theorem mtOk {C : Addr} {m qual : Str} {st : Stmt} {N ps : List Str} {k : Nat} {sp : Spd} {t : TSd} (D : MethAt K C m qual st ps) (S : FnScope N ps (defScope st)) (len : ∀ ds s Q E, sp ds s Q E → ds.length = ps.length)
    (hbody : ∀ (A : Anc) (f : Addr) (cdv : Value) (Ar : Around) (outer : List Env) (s : Shared) (H : Hp) (E : XK), Room k (Ar.deeper (envOfC qual (defScope st) s.heap.objs.size f cdv)) →
      PSsd A (cxOf CX0 P w K mg base N qual (defScope st) f cdv Ar outer s H E).nox (defBody st) t)
    (hread : ∀ ds s Q E, sp ds s Q E → t { nx := fun _ s => Q .non s, rt := Q } (startD N.length ds) s) : Mt P w K mg base C m (k + 1) ps sp := by
  obtain ⟨f, fd, F, g, b⟩ := D.ex
  exact ⟨f, fd, defOk F S len (fun A cdv Ar outer s H E hr => hbody A f cdv Ar outer s H E hr) hread, g, b⟩
end
section
variable {X : Cx} {A : Anc} {k : Nat} {C : Addr} {ps : List Str} {sp : Spd} {x m : Str} {p pos apos : Pos} {e o : Expr} {es : List Expr} {te to : TEd} {t : TAd}
theorem dF (G : Fn X.prog X.w X.K X.mg X.base x k ps sp) (hr : Room k X.A) (ha : PAd A X (e :: es) t) (hg : Gl X x := by rfl) (hdb : (x == ("__debug__" : Str)) = false := by decide) (he : starEach (e :: es) X.env = (false, eval e X.env) :: starEach es X.env := by rfl)
    (hpl : (backTo pos (starEach es X.env)).any (·.1) = false := by rfl) : PD A X (.Call (.Name x p) (e :: es) [] pos) (dCall sp [] t) := by
  obtain ⟨f, fd, F, hm, hk, hb⟩ := G.ex
  exact dcall F hr hm hk hb .nil (fun _ _ => .nil) ha hg hdb he hpl
theorem dF0 (G : Fn X.prog X.w X.K X.mg X.base x k ps sp) (hr : Room k X.A) (hg : Gl X x := by rfl) (hdb : (x == ("__debug__" : Str)) = false := by decide) : PD A X (.Call (.Name x p) [] [] pos) (dCall sp [] dNil) := by
  obtain ⟨f, fd, F, hm, hk, hb⟩ := G.ex
  exact dcall0 F hr hm hk hb .nil (fun _ _ => .nil) hg hdb
theorem dM {pl : Sem Bool} (c : Cls X.K C) (G : Mt X.prog X.w X.K X.mg X.base C m k ps sp) (hr : Room k X.A) (ho : PD A X o to) (ha : PAd A X (e :: es) t)
    (hst : starEach (e :: es) X.env = (false, eval e X.env) :: starEach es X.env := by rfl) (hpl : (backTo pos (starEach es X.env)).any (·.1) = false := by rfl)
    (ht : eval (.Call (.Attribute o m apos) (e :: es) [] pos) X.env = (do
      let ov ← eval o X.env
      standAt apos.atName
      let (f, first) ← holding [ov] (getMethod ov m pl)
      callWith pos f first (backTo pos (starEach (e :: es) X.env)) (backToKw pos (keywordEach [] X.env))) := by rfl) : PD A X (.Call (.Attribute o m apos) (e :: es) [] pos) (dMeth C m sp [] to t) := by
  obtain ⟨f, fd, F, hm, hb⟩ := G.ex
  exact dmeth ho c hm F hr hb .nil (fun _ _ => .nil) ha hst hpl ht
theorem dM0 {pl : Sem Bool} (c : Cls X.K C) (G : Mt X.prog X.w X.K X.mg X.base C m k ps sp) (hr : Room k X.A) (ho : PD A X o to)
    (ht : eval (.Call (.Attribute o m apos) [] [] pos) X.env = (do
      let ov ← eval o X.env
      standAt apos.atName
      let (f, first) ← holding [ov] (getMethod ov m pl)
      callWith pos f first (backTo pos (starEach [] X.env)) (backToKw pos (keywordEach [] X.env))) := by rfl) : PD A X (.Call (.Attribute o m apos) [] [] pos) (dMeth C m sp [] to dNil) := by
  obtain ⟨f, fd, F, hm, hb⟩ := G.ex
  exact dmeth0 ho c hm F hr hb .nil (fun _ _ => .nil) ht
end
end DL

set_option Elab.async false
set_option linter.all false
set_option maxRecDepth 100000
set_option maxHeartbeats 4000000
namespace DL
open PySem PySem.Spec PyProof.Rows L2

/-- kept from the simplifier -/
structure Kp (p : Prop) : Prop where
  out : p
/-! ### for the simplifier -/
def refL : Option MO → Option (List DV)
  | some (.lst ds) => some ds
  | _ => none
theorem refL_lst {ds : List DV} : refL (some (.lst ds)) = some ds := rfl
theorem refL_dK {ds : List (Key × DV)} : refL (some (.dK ds)) = none := rfl
theorem refL_ins {C : Addr} {fs : List (Str × DV)} : refL (some (.ins C fs)) = none := rfl
theorem lstD_lst {s : Sto} {ds : List DV} : lstD s (.lst ds) = some ds := rfl
theorem lstD_scr {s : Sto} {ds : List DV} : lstD s (.scr ds) = some ds := rfl
theorem lstD_tup {s : Sto} {ds : List DV} : lstD s (.tup ds) = none := rfl
theorem lstD_str {s : Sto} {z : Str} : lstD s (.str z) = none := rfl
theorem lstD_int {s : Sto} {z : Int} : lstD s (.int z) = none := rfl
theorem lstD_re {s : Sto} {a : Addr} : lstD s (.ref a) = refL (s a) := by
  show (match s a with | some (.lst ds) => some ds | _ => none) = refL (s a)
  unfold refL
  rfl
theorem lstW_lst {s : Sto} {ds : List DV} : lstW s (.lst ds) = some ds := rfl
theorem lstW_tup {s : Sto} {ds : List DV} : lstW s (.tup ds) = none := rfl
theorem lstW_str {s : Sto} {z : Str} : lstW s (.str z) = none := rfl
theorem lstW_int {s : Sto} {z : Int} : lstW s (.int z) = none := rfl
theorem lstW_re {s : Sto} {a : Addr} : lstW s (.ref a) = refL (s a) := lstD_re
theorem seqD_tup {s : Sto} {ds : List DV} : seqD s (.tup ds) = some ds := rfl
theorem seqD_lst {s : Sto} {ds : List DV} : seqD s (.lst ds) = some ds := rfl
theorem seqD_scr {s : Sto} {ds : List DV} : seqD s (.scr ds) = some ds := rfl
theorem seqD_str {s : Sto} {z : Str} : seqD s (.str z) = none := rfl
theorem seqD_int {s : Sto} {z : Int} : seqD s (.int z) = none := rfl
theorem seqD_re {s : Sto} {a : Addr} : seqD s (.ref a) = refL (s a) := lstD_re
def frzR (s : Sto) (a : Addr) : Option MO → DV × Sto
  | some (.lst ds) => (.lst ds, er s a)
  | _ => (.ref a, s)
theorem frzR_lst {s : Sto} {a : Addr} {ds : List DV} : frzR s a (some (.lst ds)) = (.lst ds, er s a) := rfl
theorem frzR_dK {s : Sto} {a : Addr} {ds : List (Key × DV)} : frzR s a (some (.dK ds)) = (.ref a, s) := rfl
theorem frzR_ins {s : Sto} {a C : Addr} {ds : List (Str × DV)} : frzR s a (some (.ins C ds)) = (.ref a, s) := rfl
theorem frz_int {s : Sto} {i : Int} : frzD s (.int i) = (.int i, s) := rfl
theorem frz_str {s : Sto} {i : Str} : frzD s (.str i) = (.str i, s) := rfl
theorem frz_bl {s : Sto} {i : Bool} : frzD s (.bl i) = (.bl i, s) := rfl
theorem frz_non {s : Sto} : frzD s .non = (.non, s) := rfl
theorem frz_tup {s : Sto} {i : List DV} : frzD s (.tup i) = (.tup i, s) := rfl
theorem frz_lst {s : Sto} {i : List DV} : frzD s (.lst i) = (.lst i, s) := rfl
theorem frz_scr {s : Sto} {i : List DV} : frzD s (.scr i) = (.scr i, s) := rfl
theorem frz_re {s : Sto} {a : Addr} : frzD s (.ref a) = frzR s a (s a) := by
  show (match s a with | some (.lst ds) => (DV.lst ds, er s a) | _ => (.ref a, s)) = frzR s a (s a)
  unfold frzR
  rfl
/-! ### facts about data -/
theorem pdL_ints : ∀ ns : List Int, pdL (ns.map DV.int) = some (ns.map PyData.int)
  | [] => rfl
  | n :: ns => by rw [List.map_cons, pdL, pdL_ints ns]; rfl
theorem pdL_strs : ∀ ns : List Str, pdL (ns.map DV.str) = some (ns.map PyData.str)
  | [] => rfl
  | n :: ns => by rw [List.map_cons, pdL, pdL_strs ns]; rfl
theorem depth_ints : ∀ ns : List Int, PyData.depthAll (ns.map PyData.int) = 0
  | [] => by simp [PyData.depthAll]
  | n :: ns => by rw [List.map_cons, PyData.depthAll, depth_ints ns]; simp [PyData.depth]
theorem lay_ints : ∀ ns : List Int, PyData.canLayAll0 (ns.map PyData.int) = true
  | [] => by simp [PyData.canLayAll0]
  | n :: ns => by rw [List.map_cons, PyData.canLayAll0, lay_ints ns]; simp [PyData.canLay0]
theorem shaped_ints (ns : List Int) : SeqAt.shaped (.list (ns.map PyData.int)) = true := by
  unfold SeqAt.shaped
  rw [PyData.canLay0, lay_ints, PyData.depth, depth_ints]
  rfl
theorem shaped_nil : SeqAt.shaped (.list []) = true := shaped_ints []
theorem depth_strs : ∀ ns : List Str, PyData.depthAll (ns.map PyData.str) = 0
  | [] => by simp [PyData.depthAll]
  | n :: ns => by rw [List.map_cons, PyData.depthAll, depth_strs ns]; simp [PyData.depth]
/-- a text of signs that are signs -/
abbrev okS (z : Str) : Prop := PySem.PyData.strOk z = true
theorem eqv_nil (xs : List PyData) : PyData.eqv (.list xs) (.list []) = xs.isEmpty := by
  cases xs with
  | nil => simp [PyData.eqv, PyData.eqvAll]
  | cons x xs => simp [PyData.eqv, PyData.eqvAll]
mutual
theorem eqv_refl : ∀ d : PyData, PyData.canLay0 d = true → PyData.eqv d d = true
  | .none, _ => by simp [PyData.eqv]
  | .bool b, _ => by simp [PyData.eqv]
  | .int i, _ => by simp [PyData.eqv]
  | .str x, _ => by simp [PyData.eqv]
  | .list xs, h => by rw [PyData.eqv]; exact eqvAll_refl xs (by simpa [PyData.canLay0] using h)
  | .tuple xs, h => by rw [PyData.eqv]; exact eqvAll_refl xs (by simpa [PyData.canLay0] using h)
  | .dict _, h => by simp [PyData.canLay0] at h
theorem eqvAll_refl : ∀ ds : List PyData, PyData.canLayAll0 ds = true → PyData.eqvAll ds ds = true
  | [], _ => by simp [PyData.eqvAll]
  | d :: ds, h => by
    rw [PyData.canLayAll0, Bool.and_eq_true] at h
    rw [PyData.eqvAll, eqv_refl d h.1, eqvAll_refl ds h.2]
    rfl
end
theorem size_lt {n : Nat} (h : n ≤ 1000000) : n < sizeLine := Nat.lt_of_le_of_lt h (by decide)
theorem size_le {n : Nat} (h : n ≤ 1000000) : n ≤ sizeLine := Nat.le_of_lt (size_lt h)
theorem atI_pos {α : Type} {xs : List α} {i : Int} (h0 : 0 ≤ i) (h1 : i < xs.length) : ∃ x, atI xs i = some x ∧ xs[i.toNat]? = some x := by
  have hl : i.toNat < xs.length := by omega
  refine ⟨xs[i.toNat], ?_, List.getElem?_eq_getElem hl⟩
  unfold atI ixN
  rw [if_pos h0, if_pos h1]
  exact List.getElem?_eq_getElem hl
theorem atI_zero {α : Type} {x : α} {xs : List α} : atI (x :: xs) 0 = some x := by
  unfold atI ixN
  rw [if_pos (by decide), if_pos (by first | (simp; done) | (simp; omega))]
  rfl
theorem atI_one {α : Type} {x y : α} {xs : List α} : atI (x :: y :: xs) 1 = some y := by
  unfold atI ixN
  rw [if_pos (by decide), if_pos (by first | (simp; done) | (simp; omega))]
  rfl
theorem ixN_zero {n : Nat} : ixN (n + 1) 0 = some 0 := by
  unfold ixN
  rw [if_pos (by decide), if_pos (by omega)]
  rfl
theorem ixN_one {n : Nat} : ixN (n + 2) 1 = some 1 := by
  unfold ixN
  rw [if_pos (by decide), if_pos (by omega)]
  rfl
theorem atI_nat {α : Type} {xs : List α} {i : Nat} {x : α} (h : xs[i]? = some x) : atI xs (i : Int) = some x := by
  have hl : i < xs.length := (List.getElem?_eq_some_iff.mp h).1
  unfold atI ixN
  rw [if_pos (by omega), if_pos (by omega)]
  simpa using h
theorem int_of_get {ns : List Int} {i : Nat} {d : DV} (h : (ns.map DV.int)[i]? = some d) : ∃ z, d = .int z := by
  rw [List.getElem?_map] at h
  cases e : ns[i]? with
  | none => rw [e] at h; cases h
  | some z => rw [e] at h; exact ⟨z, (Option.some.inj h).symm⟩
theorem ltI_t {i j : Int} (h : ltI i j = true) : i < j := of_decide_eq_true h
theorem ltI_f {i j : Int} (h : ltI i j = false) : j ≤ i := by have := of_decide_eq_false h; omega
theorem leI_t {i j : Int} (h : leI i j = true) : i ≤ j := of_decide_eq_true h
theorem leI_f {i j : Int} (h : leI i j = false) : j < i := by have := of_decide_eq_false h; omega
theorem mulS {i j : Int} (h0 : -(2 ^ 64) < i) (h1 : i < 2 ^ 64) : CMul i j ∨ CMulW i j := .inl (.inl ⟨h0, h1⟩)
theorem mulS' {i j : Int} (h0 : -(2 ^ 64) < j) (h1 : j < 2 ^ 64) : CMul i j ∨ CMulW i j := .inl (.inr ⟨h0, h1⟩)
theorem cdiv {i m : Int} (h1 : 1 ≤ m) (h2 : m ≤ 2 ^ 40) : CDivW i m := wide_div (b := 41) (by omega) (by omega) (by decide) (by decide)
/-- two ways meet again -/
theorem gif_join {b : Bool} {t u : TSd} {R : Ed → Sto → Prop} {rt : KD} {bk ct : Ed → Sto → Prop} {δ : Ed} {s : Sto} (M : Ed → Sto → Prop) (h1 : b = true → ∀ R', (∀ δ s, M δ s → R' δ s) → t ⟨R', rt, bk, ct⟩ δ s)
    (h2 : b = false → ∀ R', (∀ δ s, M δ s → R' δ s) → u ⟨R', rt, bk, ct⟩ δ s) (hk : ∀ δ s, M δ s → R δ s) : dGif b (t ⟨R, rt, bk, ct⟩ δ) (u ⟨R, rt, bk, ct⟩ δ) s := by
  cases b with
  | true => exact h1 rfl R hk
  | false => exact h2 rfl R hk
theorem ifS {c : TTd} {t u : TSd} {D : EndsD} {δ : Ed} {s : Sto} (h : c δ s (kIfS t u D δ)) : dIfS c t u D δ s := h
/-- an if whose ways meet again -/
theorem ifJ {c : TTd} {t u : TSd} {R : Ed → Sto → Prop} {rt : KD} {bk ct : Ed → Sto → Prop} {δ : Ed} {s : Sto} (M : Ed → Sto → Prop)
    (h : ∀ R', (∀ δ s, M δ s → R' δ s) → c δ s (kIfS t u ⟨R', rt, bk, ct⟩ δ)) (hk : ∀ δ s, M δ s → R δ s) : dIfS c t u ⟨R, rt, bk, ct⟩ δ s := h R hk
theorem gifT {t u : Sto → Prop} {s : Sto} : dGif true t u s = t s := rfl
theorem gifF {t u : Sto → Prop} {s : Sto} : dGif false t u s = u s := rfl
/-- a for over a range -/
theorem for_rng {lo : Int} {n : Nat} {g : TGd} {tb : TSd} {D : EndsD} {δ : Ed} {s : Sto} (W : Nat → Ed → Sto → Prop) (h0 : W 0 δ s) (hs : ∀ (i : Nat) δ s, i < n → W i δ s → g (.int (lo + i)) δ s (tb ⟨W (i + 1), D.rt, D.nx, W (i + 1)⟩))
    (hd : ∀ δ s, W n δ s → D.nx δ s) : dForW g tb D δ (rngD lo n) gTrue s := by
  refine ⟨W, h0, fun i d δ s hd' w => ?_, fun δ s w => ⟨trivial, hd δ s (by rw [rngD_length] at w; exact w)⟩⟩
  obtain ⟨hi, rfl⟩ := rngD_get hd'
  exact ⟨trivial, hs i δ s hi w⟩
/-- a for over items that stay -/
theorem for_its {ds : List DV} {G : Sto → Prop} {g : TGd} {tb : TSd} {D : EndsD} {δ : Ed} {s : Sto} (W : Nat → Ed → Sto → Prop) (h0 : W 0 δ s) (hG : ∀ i δ s, W i δ s → G s) (hs : ∀ (i : Nat) d δ s, ds[i]? = some d → W i δ s → g d δ s (tb ⟨W (i + 1), D.rt, D.nx, W (i + 1)⟩))
    (hd : ∀ δ s, W ds.length δ s → D.nx δ s) : dForW g tb D δ ds G s :=
  ⟨W, h0, fun i d δ s hd' w => ⟨hG i δ s w, hs i d δ s hd' w⟩, fun δ s w => ⟨hG _ δ s w, hd δ s w⟩⟩
/-- a list by a comprehension -/
theorem lc_its {ds : List DV} {G : Sto → Prop} {g : TGd} {tt : TTd} {te : TEd} {vs : List Nat} {δ : Ed} {fin : Addr → List DV → Sto → Prop} {s : Sto} (W : Addr → Nat → List DV → Sto → Prop) (h0 : ∀ D, s D = none → W D 0 [] (up s D .hid)) (hG : ∀ D i acc s', s D = none → W D i acc s' → G s')
    (hs : ∀ D (i : Nat) d acc s', s D = none → ds[i]? = some d → W D i acc s' → g d (wipeD δ vs) s' (kLc1 tt te (W D) i acc))
    (hd : ∀ D acc s', s D = none → W D ds.length acc s' → fin D acc s') : dLcW g tt te vs δ fin ds G s := fun D hD =>
  ⟨W D, h0 D hD, fun i d acc s' hd' w => ⟨hG D i acc s' hD w, hs D i d acc s' hD hd' w⟩, fun acc s' w => ⟨hG D _ acc s' hD w, hd D acc s' hD w⟩⟩
theorem lc_rng {lo : Int} {n : Nat} {g : TGd} {tt : TTd} {te : TEd} {vs : List Nat} {δ : Ed} {fin : Addr → List DV → Sto → Prop} {s : Sto} (W : Addr → Nat → List DV → Sto → Prop) (h0 : ∀ D, s D = none → W D 0 [] (up s D .hid))
    (hs : ∀ D (i : Nat) acc s', s D = none → i < n → W D i acc s' → g (.int (lo + i)) (wipeD δ vs) s' (kLc1 tt te (W D) i acc))
    (hd : ∀ D acc s', s D = none → W D n acc s' → fin D acc s') : dLcW g tt te vs δ fin (rngD lo n) gTrue s := by
  refine lc_its W h0 (fun _ _ _ _ _ _ => trivial) (fun D i d acc s' hD hd' w => ?_) (fun D acc s' hD w => hd D acc s' hD (by rw [rngD_length] at w; exact w))
  obtain ⟨hi, rfl⟩ := rngD_get hd'
  exact hs D i acc s' hD hi w
end DL

set_option Elab.async false
set_option linter.all false
set_option maxRecDepth 100000
set_option maxHeartbeats 4000000
namespace DL
open PySem PySem.Spec PyProof.Rows L2

/-! ### texts by their signs -/
abbrev tl (x : Str) : List Nat := x.cps.toList
theorem len_tl (x : Str) : x.length = (tl x).length := by simp [Str.length]
theorem okS_iff (x : Str) : okS x ↔ ∀ c ∈ tl x, c < 1114112 := by
  unfold okS PyData.strOk
  rw [← Array.all_toList, List.all_eq_true]
  simp
theorem ext_tl {a b : Str} (h : tl a = tl b) : a = b := TL.ext_tl h
theorem tl_app (a b : Str) : tl (a ++ b) = tl a ++ tl b := TL.tl_append a b
theorem joinL_nil : ∀ xs : List (List Nat), TL.joinL [] xs = xs.flatten
  | [] => rfl
  | [x] => by simp [TL.joinL]
  | x :: y :: r => by
    show x ++ ([] ++ TL.joinL [] (y :: r)) = _
    rw [joinL_nil (y :: r)]
    simp
theorem tl_join0 (ys : List Str) : tl (Txt.join (Str.ofString "") ys) = (ys.map tl).flatten := by
  have e := TL.tl_join (Str.ofString "") ys
  rw [← TL.join_eq] at e
  have e2 : TL.tl (Str.ofString "") = [] := by decide +kernel
  rw [e2, joinL_nil] at e
  exact e
theorem okS_app {a b : Str} (h : okS a) (h' : okS b) : okS (a ++ b) := by
  rw [okS_iff] at *
  intro c hc
  rw [tl_app] at hc
  rcases List.mem_append.mp hc with q | q
  · exact h c q
  · exact h' c q
theorem okS_join0 {ys : List Str} (h : ∀ y ∈ ys, okS y) : okS (Txt.join (Str.ofString "") ys) := by
  rw [okS_iff]
  intro c hc
  rw [tl_join0] at hc
  obtain ⟨l, hl, hc⟩ := List.mem_flatten.mp hc
  obtain ⟨y, hy, rfl⟩ := List.mem_map.mp hl
  exact (okS_iff y).mp (h y hy) c hc
theorem len_join0 (ys : List Str) : (Txt.join (Str.ofString "") ys).length = (ys.map (·.length)).sum := by
  rw [len_tl, tl_join0, List.length_flatten, List.map_map]
  exact congrArg List.sum (List.map_congr_left fun y _ => (len_tl y).symm)
theorem sum_ones {ys : List Str} {m : Nat} (h : ∀ y ∈ ys, y.length ≤ m) : (ys.map (·.length)).sum ≤ m * ys.length := by
  induction ys with
  | nil => simp
  | cons y ys ih =>
    have h1 := h y List.mem_cons_self
    have h2 := ih fun z hz => h z (List.mem_cons_of_mem _ hz)
    rw [List.map_cons, List.sum_cons, List.length_cons, Nat.mul_succ]
    omega
theorem one_len (c : Nat) : (⟨#[c]⟩ : Str).length = 1 := rfl
theorem okS_one {c : Nat} (h : c < 1114112) : okS ⟨#[c]⟩ := by
  rw [okS_iff]
  intro d hd
  have e : d = c := by simpa using hd
  rw [e]; exact h
theorem lay_strs : ∀ {ns : List Str}, (∀ z ∈ ns, okS z) → PyData.canLayAll0 (ns.map PyData.str) = true
  | [], _ => by simp [PyData.canLayAll0]
  | n :: ns, h => by
    rw [List.map_cons, PyData.canLayAll0, lay_strs fun z hz => h z (List.mem_cons_of_mem _ hz), Bool.and_true, PyData.canLay0]
    exact h n List.mem_cons_self
theorem shaped_strs {ns : List Str} (h : ∀ z ∈ ns, okS z) : SeqAt.shaped (.list (ns.map PyData.str)) = true := by
  unfold SeqAt.shaped
  rw [PyData.canLay0, lay_strs h, PyData.depth, depth_strs]
  rfl
theorem eqv_strs {ns : List Str} (h : ∀ z ∈ ns, okS z) : PyData.eqv (.list (ns.map PyData.str)) (.list (ns.map PyData.str)) = true := eqv_refl _ (by rw [PyData.canLay0]; exact lay_strs h)
theorem strs_get {ns : List Str} {i : Nat} {d : DV} (h : (ns.map DV.str)[i]? = some d) : ∃ z, d = .str z ∧ ns[i]? = some z := by
  rw [List.getElem?_map] at h
  cases e : ns[i]? with
  | none => rw [e] at h; cases h
  | some z => rw [e] at h; exact ⟨z, (Option.some.inj h).symm, rfl⟩
theorem map_snoc {α β : Type} (f : α → β) (xs : List α) (x : α) : xs.map f ++ [f x] = (xs ++ [x]).map f := by simp
theorem er_fresh {s : Sto} {D : Addr} {m : MO} (h : s D = none) : er (up s D m) D = s := by rw [er_up, er_none h]
theorem ne_up {s : Sto} {a D : Addr} {m : MO} (h : s a = some m) (hD : s D = none) : a ≠ D := fun e => by rw [e, hD] at h; cases h
end DL
namespace DL
open PySem PySem.Spec PyProof.Rows L2
section
variable {P : Program} {w : World} {K : PySem.W.Frag} {mg : Str → Option Value} {base : Heap}
/-- THE RULE for a def with defaults from which nothing is raised -/
theorem defOkD {x qual : Str} {st : Stmt} {dvs : List V} {kws : List (Str × V)} {f : Addr} {fd : FuncData} {N ps : List Str} {k : Nat} {sp : Spd} {t : TSd} (F : FunD K x qual (defArgs st) (defBody st) (defScope st) dvs kws f fd) (S : FnScope N ps (defScope st)) (len : ∀ ds s Q E, sp ds s Q E → ds.length = ps.length)
    (hbody : ∀ (A : Anc) (cdv : Value) (Ar : Around) (outer : List Env) (s : Shared) (H : Hp) (E : XK), Room k (Ar.deeper (envOfC qual (defScope st) s.heap.objs.size f cdv)) →
      PSsd A (cxOf CX0 P w K mg base N qual (defScope st) f cdv Ar outer s H E).nox (defBody st) t)
    (hread : ∀ ds s Q E, sp ds s Q E → t { nx := fun _ s => Q .non s, rt := Q } (startD N.length ds) s) : FnOk P w K mg base CX0 (k + 1) f fd ps (lSp K sp) := by
  refine F.ok S (fun vs H Q E h => ?_) (fun cdv Ar outer s H vs Q E hr h => ?_)
  · obtain ⟨ds, s, Q', E', rep, dv, q, _⟩ := h
    rw [dv.length]
    exact len ds s Q' E' q
  · obtain ⟨ds, s0, Q', E', rep, dv, q, kq, ke⟩ := h
    refine ⟨_, (hbody ⟨s0, H⟩ cdv Ar outer s H E hr).nox, startD N.length ds, s0, _, ⟨Stp.refl s0 H, rep, env_start N dv⟩, hread ds s0 Q' E' q, ?_⟩
    exact ⟨fun σ H2 δ s2 S2 q2 => kq .non H2 .non s2 S2.stp S2.rep .non q2, fun _ _ _ _ _ z => z.elim, fun _ _ _ _ _ z => z.elim, fun v H2 d s2 st rep2 dv2 q2 => kq v H2 d s2 st rep2 dv2 q2⟩
end
def kNeg (Q : KD) (d : DV) (s1 : Sto) : Prop := match d with
  | .int i => Q (.int (-i)) s1
  | _ => False
def dNeg (te : TEd) (δ : Ed) (s : Sto) (Q : KD) : Prop := te δ s (kNeg Q)
theorem dneg {A : Anc} {X : Cx} {a : Expr} {ta : TEd} {pos : Pos} (ha : PD A X a ta) : PD A X (.UnaryOp .USub a pos) (dNeg ta) := peImp (pe_un un_neg ha) fun σ H Q h => by
  obtain ⟨δ, s, Q', S, t, k⟩ := h
  refine ⟨δ, s, _, S, t, fun v H1 d s1 st1 rep1 dv q => ?_⟩
  cases d with
  | int i => exact ⟨i, dv.intInv, k _ H1 _ s1 st1 rep1 (.int _) q⟩
  | _ => exact False.elim q
theorem er_up2 {s : Sto} {p D : Addr} {m x : MO} (ne : p ≠ D) (h : s D = none) : er (up (up s D m) p x) D = up s p x := by
  rw [up_comm ne.symm, er_up, er_none]
  rw [up_ne ne.symm]
  exact h
theorem up_up2 {s : Sto} {p D : Addr} {m n x : MO} (ne : p ≠ D) : up (up (up s D m) p x) D n = up (up s p x) D n := by
  rw [up_comm ne.symm, up_up]
theorem sub_up {s : Sto} {q : Addr} {m : MO} (h : s q = none) (hm : m ≠ .hid) : Sub s (up s q m) := ⟨fun a n e => by
  rw [up_ne (ne_up e h)]; exact e, fun a e => by
  by_cases z : a = q
  · subst z; rw [up_same] at e; exact absurd (Option.some.inj e) hm
  · rw [up_ne z] at e; exact e⟩
theorem cut_last (xs : List DV) : DL.cutD xs none (some (-1)) = xs.dropLast := by
  cases xs with
  | nil => rfl
  | cons x xs =>
    have h2 : HT.sIx (x :: xs).length (x :: xs).length (some (-1)) = xs.length := by
      show (if (-1 : Int) < 0 then ((-1 : Int) + ((xs.length + 1 : Nat) : Int)).toNat else min (-1 : Int).toNat (xs.length + 1)) = xs.length
      rw [if_pos (by decide)]
      omega
    unfold DL.cutD
    rw [h2, HT.sIx_none, List.dropLast_eq_take]
    simp
end DL

set_option Elab.async false
set_option linter.all false
set_option maxRecDepth 100000
set_option maxHeartbeats 4000000
/-! The head: what the top leaves, by names; from there to the texts of this layer. -/
namespace DL
open PySem PySem.Spec PyProof.Rows L2
section
variable {P : Program} {w : World} {K : PySem.W.Frag} {mg : Str → Option Value} {h : Heap}
theorem fun_of {x qual : Str} {st : Stmt} {f : Addr} {fd : FuncData} (F : FunD K x qual (defArgs st) (defBody st) (defScope st) [] [] f fd) : Fun K x qual st f fd := by
  have kp := F.kp
  obtain ⟨oc, od, dV, kV, doc, pm, an, cdv, ct, osl, rfl, lk, hcd, hd, _⟩ := F.ex
  rcases hd with ⟨_, rfl⟩ | ⟨h, _⟩
  · exact fun_mk lk hcd kp
  · exact absurd rfl h
abbrev BArgs (x qual : Str) (st : Stmt) (ps : List Str) : Prop := ∀ (kV doc pm : Value) (an : Option Addr) (cdv ct : Value) (us : List Value), us.length = ps.length → bindArgs (PySem.W.fnOf x qual (defArgs st) (defBody st) (defScope st) .none kV doc pm an cdv ct) ⟨us, []⟩ = pure (ps.zip us)
theorem defAt_of {x : Str} {st : Stmt} {ps : List Str} (X : K.In h) (G : h.Ns mainGlobals mg) (F : ∃ fd, FunD K x x (defArgs st) (defBody st) (defScope st) [] [] (He.fAd K (x, none)) fd) (g : (He.Fa.glo x).ok K = true) (b : BArgs x x st ps) : DefAt K mg x st ps := by
  obtain ⟨fd, F⟩ := F
  exact ⟨He.ga K x, fd, fun_of F, He.glo_ok X G g, F.kp, F.bindsN b⟩
theorem methAt_of {C m qual : Str} {st : Stmt} {ps : List Str} (F : ∃ fd, FunD K m qual (defArgs st) (defBody st) (defScope st) [] [] (He.fAd K (C, some m)) fd) (g : (He.Fa.meth C m).ok K = true) (b : BArgs m qual st ps) : MethAt K (He.ga K C) m qual st ps := by
  obtain ⟨fd, F⟩ := F
  exact ⟨He.ma K (He.ga K C) m, fd, fun_of F, He.meth_ok g, F.bindsN b⟩
/-- the object at an address is a tuple of these -/
def tupA (K : PySem.W.Frag) (a : Addr) (vs : List He.Dv) : Bool := match K.lookup a with
  | some ⟨.type c, _, .seq its _, _⟩ => decide (c = "tuple") && (decide (its.size ≤ sizeLine) && He.relAll (vs.map (He.Dv.v K)) its.toList)
  | _ => false
theorem tupA_ok {a : Addr} {vs : List He.Dv} (h : tupA K a vs = true) (H : Hp) : SqT K H a (vs.map (He.Dv.v K)) := by
  unfold tupA at h
  cases q : K.lookup a with
  | none =>
    rw [q] at h
    cases h
  | some o =>
    obtain ⟨oc, od, dt, osl⟩ := o
    rw [q] at h
    cases oc with
    | type c =>
      cases dt with
      | seq its n =>
        obtain ⟨h1, h2⟩ := He.ba (show (decide (c = "tuple") && (decide (its.size ≤ sizeLine) && He.relAll (vs.map (He.Dv.v K)) its.toList)) = true from h)
        obtain ⟨h3, h4⟩ := He.ba h2
        exact .inr ⟨_, its, n, q, congrArg Value.type (of_decide_eq_true h1), rfl, of_decide_eq_true h3, He.relAll_ok h4⟩
      | _ => cases h
    | _ => cases dt <;> cases h
/-! ### the Hook -/
def obB (n : Nat) (fa : List He.Fa) (fn : List He.DefD) (ex : PySem.W.Frag → Bool) (g : Addr → Option Obj) : He.AlD × Bool := (He.obsDG n fa fn g, ex (He.frG g (He.asD g n)))
def SaysB (fa : List He.Fa) (fn : List He.DefD) (ex : PySem.W.Frag → Bool) (K : PySem.W.Frag) : Prop := He.SaysD fa fn K ∧ ex K = true
def hookB (n : Nat) (fa : List He.Fa) (fn : List He.DefD) (ex : PySem.W.Frag → Bool) : PySem.W.Hook where
  α := He.AlD × Bool
  obs := fun s => obB n fa fn ex s.heap.get?
  val := fun _ => (He.valD fn, true)
  says := fun _ h => ∃ K : PySem.W.Frag, K.In h ∧ SaysB fa fn ex K
  of := fun _ _ e => ⟨_, He.frG_in, congrArg Prod.fst e, congrArg Prod.snd e⟩
  keeps := fun _ _ _ ⟨K, hK, c⟩ k => ⟨K, PySem.W.Frag.In.keeps hK k, c⟩
theorem obB_eq {n : Nat} {fa : List He.Fa} {fn : List He.DefD} {ex : PySem.W.Frag → Bool} {g : Addr → Option Obj} {s : Shared} (h : ∀ a, g a = s.heap.get? a) : obB n fa fn ex g = (hookB n fa fn ex).obs s := by
  have e : g = s.heap.get? := funext h
  rw [e] <;> rfl
/-- the script as data -/
theorem scr_of {H : Hp} {a : Addr} {ns : List Int} (hO : Only H) (hS : SqL K H a (ns.map V.int)) : DatL K (fun _ => none) H [.ref a] [.scr (ns.map DV.int)] := by
  have hin : ∀ l : List Int, DatL K (fun _ => none) H (l.map V.int) (l.map DV.int) := fun l => by
    induction l with
    | nil => exact .nil
    | cons x r ih => exact .cons (.int x) ih
  refine .cons (.scr ?_ (hin ns)) .nil
  rcases hS with (h | ⟨o, h⟩) | h
  · rcases hO a with e | ⟨o, xs, e⟩
    · rw [e] at h
      cases h
    · rw [e] at h
      cases h
  · exact .inl ⟨o, h⟩
  · exact .inr h
theorem law_of {sp : Spd} {H : Hp} {a : Addr} {ns : List Int} {E : XK} (hO : Only H) (hS : SqL K H a (ns.map V.int)) (q : sp [.scr (ns.map DV.int)] (fun _ => none) (fun d _ => d = .bl true) noX) : lSp K sp [.ref a] H (fun v _ => v = .bl true) E := by
  refine ⟨_, _, _, _, ?_, scr_of hO hS, q, ?_, ExL.no⟩
  · intro b m e
    cases e
  · intro v H2 d s2 _ _ dv e
    subst e
    cases dv
    rfl
end
end DL

set_option Elab.async false
set_option linter.all false
set_option maxRecDepth 100000
set_option maxHeartbeats 4000000
namespace Law
open PySem PySem.Spec PyProof.Rows L2 DL
def top (i : Nat) : Stmt := PySem.Challenge.pw_eventledger_k06_a_store_and_its_steps.main.body.getD i (.Pass ⟨0, 0, 0, 0⟩)
abbrev s__law_draw : Stmt := top 7
abbrev n__law_draw : List Str := ["pen", "many", "digit", "at", "cell", "number", "again"]
theorem sc__law_draw : FnScope n__law_draw ["pen", "many"] (defScope s__law_draw) := ⟨rfl, rfl, rfl, by decide +kernel, rfl, by decide +kernel, by decide +kernel⟩
abbrev s__law_pen : Stmt := top 6
abbrev n__law_pen : List Str := ["script", "cell"]
theorem sc__law_pen : FnScope n__law_pen ["script"] (defScope s__law_pen) := ⟨rfl, rfl, rfl, by decide +kernel, rfl, by decide +kernel, by decide +kernel⟩
abbrev s__law_text : Stmt := top 8
abbrev n__law_text : List Str := ["pen", "signs", "k"]
theorem sc__law_text : FnScope n__law_text ["pen"] (defScope s__law_text) := ⟨rfl, rfl, rfl, by decide +kernel, rfl, by decide +kernel, by decide +kernel⟩
abbrev s__law_is : Stmt := top 9
abbrev n__law_is : List Str := ["store", "a_rows", "many"]
theorem sc__law_is : FnScope n__law_is ["store", "a_rows", "many"] (defScope s__law_is) := ⟨rfl, rfl, rfl, by decide +kernel, rfl, by decide +kernel, by decide +kernel⟩
abbrev s_law : Stmt := top 10
abbrev n_law : List Str := ["script", "pen", "again", "k", "lots", "a_rows", "handed", "stores", "counts", "step", "way", "told", "row", "many", "j"]
theorem sc_law : FnScope n_law ["script"] (defScope s_law) := ⟨rfl, rfl, rfl, by decide +kernel, rfl, by decide +kernel, by decide +kernel⟩
abbrev s_Store___init__ : Stmt := inClass (top 4) 0
abbrev n_Store___init__ : List Str := ["self", "rows", "fall", "signs"]
theorem sc_Store___init__ : FnScope n_Store___init__ ["self", "rows", "fall", "signs"] (defScope s_Store___init__) := ⟨rfl, rfl, rfl, by decide +kernel, rfl, by decide +kernel, by decide +kernel⟩
abbrev s_Store_rows : Stmt := inClass (top 4) 2
abbrev n_Store_rows : List Str := ["self"]
theorem sc_Store_rows : FnScope n_Store_rows ["self"] (defScope s_Store_rows) := ⟨rfl, rfl, rfl, by decide +kernel, rfl, by decide +kernel, by decide +kernel⟩
abbrev s_Store_steps : Stmt := inClass (top 4) 3
abbrev n_Store_steps : List Str := ["self"]
theorem sc_Store_steps : FnScope n_Store_steps ["self"] (defScope s_Store_steps) := ⟨rfl, rfl, rfl, by decide +kernel, rfl, by decide +kernel, by decide +kernel⟩
abbrev s_Store_is_up : Stmt := inClass (top 4) 4
abbrev n_Store_is_up : List Str := ["self"]
theorem sc_Store_is_up : FnScope n_Store_is_up ["self"] (defScope s_Store_is_up) := ⟨rfl, rfl, rfl, by decide +kernel, rfl, by decide +kernel, by decide +kernel⟩
abbrev s_Store_falls_now : Stmt := inClass (top 4) 5
abbrev n_Store_falls_now : List Str := ["self"]
theorem sc_Store_falls_now : FnScope n_Store_falls_now ["self"] (defScope s_Store_falls_now) := ⟨rfl, rfl, rfl, by decide +kernel, rfl, by decide +kernel, by decide +kernel⟩
abbrev s_Store_write : Stmt := inClass (top 4) 6
abbrev n_Store_write : List Str := ["self", "row"]
theorem sc_Store_write : FnScope n_Store_write ["self", "row"] (defScope s_Store_write) := ⟨rfl, rfl, rfl, by decide +kernel, rfl, by decide +kernel, by decide +kernel⟩
abbrev s_Store_let_go : Stmt := inClass (top 4) 7
abbrev n_Store_let_go : List Str := ["self", "many"]
theorem sc_Store_let_go : FnScope n_Store_let_go ["self", "many"] (defScope s_Store_let_go) := ⟨rfl, rfl, rfl, by decide +kernel, rfl, by decide +kernel, by decide +kernel⟩
abbrev s_Store_cut : Stmt := inClass (top 4) 8
abbrev n_Store_cut : List Str := ["self"]
theorem sc_Store_cut : FnScope n_Store_cut ["self"] (defScope s_Store_cut) := ⟨rfl, rfl, rfl, by decide +kernel, rfl, by decide +kernel, by decide +kernel⟩
structure Txt (K : PySem.W.Frag) (mg : Str → Option Value) (C : Addr) : Prop where
  d__law_draw : DefAt K mg "_law_draw" s__law_draw ["pen", "many"]
  d__law_pen : DefAt K mg "_law_pen" s__law_pen ["script"]
  d__law_text : DefAt K mg "_law_text" s__law_text ["pen"]
  d__law_is : DefAt K mg "_law_is" s__law_is ["store", "a_rows", "many"]
  d_law : DefAt K mg "law" s_law ["script"]
  b_len : mg "len" = none
  b_abs : mg "abs" = none
  b_min : mg "min" = none
  b_range : mg "range" = none
  b_list : mg "list" = none
  b_tuple : mg "tuple" = none
  g_Store : mg "Store" = some (.ref C)
  c_Store : Cls K C
  n_Store_held : NoAttr K C "held"
  n_Store_many : NoAttr K C "many"
  n_Store_down : NoAttr K C "down"
  n_Store_limit : NoAttr K C "limit"
  n_Store_first_signs : NoAttr K C "first_signs"
  m_Store_rows : MethAt K C "rows" "Store.rows" s_Store_rows ["self"]
  m_Store_steps : MethAt K C "steps" "Store.steps" s_Store_steps ["self"]
  m_Store_is_up : MethAt K C "is_up" "Store.is_up" s_Store_is_up ["self"]
  m_Store_falls_now : MethAt K C "falls_now" "Store.falls_now" s_Store_falls_now ["self"]
  m_Store_write : MethAt K C "write" "Store.write" s_Store_write ["self", "row"]
  m_Store_let_go : MethAt K C "let_go" "Store.let_go" s_Store_let_go ["self", "many"]
  m_Store_cut : MethAt K C "cut" "Store.cut" s_Store_cut ["self"]
local macro_rules | `(tactic| walk_at "dl") => `(tactic| (try simp only [kOp1, kOp2, kTest, kChain1, kChain2, kChain3, dChain, kAnd, kOr, kNot, kIf, kTru, kCons1, kCons2, kTup, kLst, kLstM, kFrz, kDrop, kRetS, kIfS, kAsg, kGCons, kPart, kSl1, kSl2, kSl3, kSub1, kSub2, kCB, kBM1, kBM2, kIt, kRng1, kRng2, kWhile, kLc1, kLc2, kLc2', kLc3, finF, finM, kAndE, kOrE, kNotE, kNeg, kCall, kCallK, kCallK2, dCallK, kMeth, kMeth2, kMade, kMake, kMakeK, kMakeK2, dMakeK, kFld, kSetFld, kSetFld2, kAugFld, kAugN1, kAugN2, kPair1, kPair2, kPair3, kDisp, dSeq, dAsg, dVar, dC, dOp, gNameD, gNilD, gConsD, gTupD, gifT, gifF, dTest, dTru, truD, dAnd, dOr, dNot, dAndE, dOrE, dNotE, dNeg, dIf, dRet, dRetN, dRetS, dNext, dDrop, dBreak, dCont, dCB, dCons, dNil, dIx, ixD, dSl, dSlR, dSlM, dPart, dNoPart, dI, dI0, dAdd, dMul, dLtB, dEq, dNe, dIs, isNonD, dIn, scalEq, eqData, pdS, pd, pdL, pdL_ints, pdL_strs, eqv_nil, List.isEmpty_map, refL_lst, refL_dK, refL_ins, lstD_lst, lstD_scr, lstD_tup, lstD_str, lstD_int, lstD_re, lstW_lst, lstW_tup, lstW_str, lstW_int, lstW_re, seqD_tup, seqD_lst, seqD_scr, seqD_str, seqD_int, seqD_re, dictD, keyD, dLen, lenD, dAbs, dMin2, dMax2, dListM, dListF, dTupF, dOrd, dStr, dLst, dLstM, dTup, gSubD, dSetR, dFld, dSetFld, dAugFld, dAugN, dIpAdd, dBM, tyD, dAppend, dPop, dJoin, strsD_map, dMeth, dCall, dMake, dFrz, frzR_lst, frzR_dK, frzR_ins, frz_int, frz_str, frz_bl, frz_non, frz_tup, frz_lst, frz_scr, frz_re, er_none, atI_zero, atI_one, ixN_zero, ixN_one, dDisp, dPairs, keysD, dLc, dLcM, dFor, wipeD, dYes, dIt, itemsD, dRng1, dRng2, startD, up_same, up_up, er_up, Option.map_some, List.map_cons, List.map_nil, List.length_map, List.length_cons, List.length_nil, List.replicate_succ, List.replicate_zero, List.cons_append, List.nil_append, List.append_nil, List.getD_cons_succ, List.getD_cons_zero, List.set_cons_succ, List.set_cons_zero, Nat.reduceSub, Nat.reduceAdd, Nat.zero_add, Nat.sub_zero, Bool.not_true, Bool.not_false, if_true, if_false, Bool.true_eq_false, Bool.false_eq_true, reduceIte, true_and, and_true, beq_self_eq_true, Int.reduceEq, Int.reduceLT, Int.reduceLE, Int.reduceAdd, Int.reduceSub, Int.reduceNeg, Int.reduceMul, decide_true, decide_false, *]))
local macro_rules | `(tactic| walk_at "side") => `(tactic| first | omega | exact size_lt (by omega) | exact size_le (by omega) | exact mulS (by omega) (by omega) | exact mulS' (by omega) (by omega) | exact cdiv (by omega) (by omega) | exact shaped_ints _ | exact shaped_nil | assumption)
local macro_rules | `(tactic| walk_at "sides") => `(tactic| repeat ((with_reducible refine And.intro ?_ ?_); next => walk_at "side"))
local macro_rules | `(tactic| walk_at "if") => `(tactic| (refine ifS ?_; walk_at "dl"))
local macro_rules | `(tactic| walk_at "for") => `(tactic| (unfold dFor; walk_at "dl"; walk_at "sides"))
local macro_rules | `(tactic| walk_at "upf") => `(tactic| first | exact up_same | assumption | ((rw [up_ne (by first | assumption | exact Ne.symm (by assumption))]); walk_at "upf") | ((rw [er_ne (by first | assumption | exact Ne.symm (by assumption))]); walk_at "upf"))

variable {P : Program} {w : World} {K : PySem.W.Frag} {mg : Str → Option Value} {base : Heap} {C : Addr}
/-! ### the pen -/
def penL (ns : List Int) (a l : Int) : List (Key × DV) := [(.inr "cells", .lst (ns.map DV.int)), (.inr "at", .int a), (.inr "left", .int l)]
theorem pen_cells (ns : List Int) (a l : Int) : getP (penL ns a l) (Sum.inr (Str.ofString "cells")) = some (.lst (ns.map DV.int)) := by rfl
theorem pen_at (ns : List Int) (a l : Int) : getP (penL ns a l) (Sum.inr (Str.ofString "at")) = some (.int a) := by rfl
theorem pen_left (ns : List Int) (a l : Int) : getP (penL ns a l) (Sum.inr (Str.ofString "left")) = some (.int l) := by rfl
theorem pen_pat (ns : List Int) (a l a' : Int) : putP (penL ns a l) (Sum.inr (Str.ofString "at")) (.int a') = penL ns a' l := by rfl
theorem pen_pleft (ns : List Int) (a l l' : Int) : putP (penL ns a l) (Sum.inr (Str.ofString "left")) (.int l') = penL ns a l' := by rfl
theorem pen_len (ns : List Int) (a l : Int) : (penL ns a l).length = 3 := rfl
theorem pen_merge (ns : List Int) : mergeP [] [(.inr (Str.ofString "cells"), .lst (ns.map DV.int)), (.inr (Str.ofString "at"), .int 0), (.inr (Str.ofString "left"), .int 0)] = penL ns 0 0 := by rfl
def spPen : Spd := fun ds s Q _ => ∃ ns : List Int, ds = [.scr (ns.map DV.int)] ∧ ns.length ≤ 63 ∧ Kp (∀ p, s p = none → Q (.ref p) (up s p (.dK (penL ns 0 0))))
theorem ok_pen (T : Txt K mg C) : Fn P w K mg base "_law_pen" 1 ["script"] spPen := by
  refine fnOk T.d__law_pen sc__law_pen (fun ds s Q E h => ?_) (fun A f cdv Ar outer s H E hr => (ds1 (dsret (ddisp (dppc dstr (dlc (own := [("cell", 1)]) rfl sc__law_pen.nd (diter (dslice sl_d (dpv 0) dpn (dpo dint))) (blkOk_by (own := [("cell", 1)]) (N := n__law_pen) (sc := defScope s__law_pen) (by decide +kernel)) (gmName 1) (patN 1) (by decide) (fun _ _ _ _ _ => (pg_name (i := 1) sc__law_pen.nd rfl (Or.inl rfl))) (fun _ _ _ _ _ => dtsn) (fun _ _ _ _ _ => (dpv 1))) (dppc dstr dint (dppc dstr dint dppn))) (.cons (.cons (.cons .nil))))))) (fun ds s Q E h => ?_)
  · obtain ⟨ns, rfl, q⟩ := h
    rfl
  · obtain ⟨ns, rfl, hn, q⟩ := h
    walk_at "dl"
    intro p hp
    have e63 : cutD (ns.map DV.int) none (some 63) = ns.map DV.int := by
      have h1 : HT.sIx (ns.map DV.int).length 0 none = 0 := rfl
      have h2 : HT.sIx (ns.map DV.int).length (ns.map DV.int).length (some 63) = (ns.map DV.int).length := by
        show min 63 _ = _
        rw [List.length_map]
        exact Nat.min_eq_right hn
      exact cutD_whole h1 h2
    rw [e63]
    refine lc_its (fun D i acc s' => acc = (ns.map DV.int).take i ∧ s' = up (up s p .hid) D .hid) (fun D hD => ⟨rfl, rfl⟩) (fun _ _ _ _ _ _ => trivial) (fun D i d acc s' hD hd ⟨e1, e2⟩ => ?_) (fun D acc s' hD ⟨e1, e2⟩ => ?_)
    · subst e1 e2
      walk_at "dl"
      refine ⟨size_lt (by rw [List.length_take, List.length_map]; omega), ?_⟩
      rw [List.take_add_one, hd]
      rfl
    · subst e1 e2
      walk_at "dl"
      refine ⟨by decide, ?_⟩
      rw [List.take_of_length_le (by simp), pen_merge]
      exact q.out p hp
def spDraw : Spd := fun ds s Q _ => ∃ (p : Addr) (many : Int) (ns : List Int) (a l : Int), ds = [.ref p, .int many] ∧ s p = some (.dK (penL ns a l)) ∧ ns.length ≤ 63 ∧ 0 ≤ a ∧ a ≤ 2 ^ 40 ∧ 1 ≤ many ∧ many ≤ 2 ^ 40 ∧
  Kp (∀ (r a' l' : Int), 0 ≤ r → r < many → a ≤ a' → a' ≤ a + 1 → Q (.int r) (up s p (.dK (penL ns a' l'))))
theorem ok_draw (T : Txt K mg C) : Fn P w K mg base "_law_draw" 1 ["pen", "many"] spDraw := by
  refine fnOk T.d__law_draw sc__law_draw (fun ds s Q E h => ?_) (fun A f cdv Ar outer s H E hr => (dsc (dsif (dtcmp od_gt (dix (hu_of hr) (dpv 0) dstr) dint (nomark _))
  (dsc (dsset (i := 2) sc__law_draw.nd rfl (Or.inl rfl) (dop od_mod (dix (hu_of hr) (dpv 0) dstr) (dpv 1)))
  (dsc (dsasg (dop od_fdiv (dix (hu_of hr) (dpv 0) dstr) (dpv 1)) (dgsub (hu_of hr) (dpv 0) dstr))
  (ds1 (dsret (dpv 2)))))
  dsn)
  (dsc (dsset (i := 3) sc__law_draw.nd rfl (Or.inl rfl) (dix (hu_of hr) (dpv 0) dstr))
  (dsc (dsasg (dop od_add (dpv 3) dint) (dgsub (hu_of hr) (dpv 0) dstr))
  (dsc (dsset (i := 4) sc__law_draw.nd rfl (Or.inl rfl) (dop od_add (dop od_mul (dpv 3) (dpv 3)) dint))
  (dsc (dsif (dtcmp (od_ne hr.units) (dix (hu_of hr) (dpv 0) dstr) (dlst dan) (nomark _))
  (ds1 (dsset (i := 4) sc__law_draw.nd rfl (Or.inl rfl) (dix (hu_of hr) (dix (hu_of hr) (dpv 0) dstr) (dop od_mod (dpv 3) (dcallB cd_len T.b_len PySem.boot_len (dac (dix (hu_of hr) (dpv 0) dstr) dan))))))
  dsn)
  (dsc (dsif ((dpand (dtcmp od_lt (dpv 3) (dcallB cd_len T.b_len PySem.boot_len (dac (dix (hu_of hr) (dpv 0) dstr) dan)) (nomark _)) (dpand1 (dtcmp od_ge (dcallB cd_abs T.b_abs (by decide +kernel) (dac (dpv 4) dan)) (dop od_pow dint dint) (nomark _))))).pt
  (dsc (dsasg (dop od_fdiv (dcallB cd_abs T.b_abs (by decide +kernel) (dac (dpv 4) dan)) (dpv 1)) (dgsub (hu_of hr) (dpv 0) dstr))
  (ds1 (dsret (dop od_mod (dcallB cd_abs T.b_abs (by decide +kernel) (dac (dpv 4) dan)) (dpv 1)))))
  dsn)
  (dsc (dsset (i := 5) sc__law_draw.nd rfl (Or.inl rfl) (dop od_mod (dop od_mul (dop od_add (dop od_add (dop od_mod (dpv 4) dint) (dop od_mul dint (dpv 3))) dint) dint) dint))
  (dsc (dsfor PassesOwn.never rfl (drange1 T.b_range (dac dint dan)) (fun _ _ => dgpat (pg_name (i := 6) sc__law_draw.nd rfl (Or.inl rfl)) (gmName 6) (patN 6)) (fun _ _ => (dsc (dsset (i := 5) sc__law_draw.nd rfl (Or.inl rfl) (dop od_add (dop od_add (dop od_add (dop od_mul (dpv 5) (dpv 5)) (dop od_mul dint (dpv 5))) (dpv 3)) (dpv 6)))
  (ds1 (dsset (i := 5) sc__law_draw.nd rfl (Or.inl rfl) (dop od_mod (dpv 5) dint))))))
  (ds1 (dsret (dop od_mod (dop od_fdiv (dpv 5) dint) (dpv 1))))))))))))) (fun ds s Q E h => ?_)
  · obtain ⟨p, many, ns, a, l, rfl, h1, q⟩ := h
    rfl
  · obtain ⟨p, many, ns, a, l, rfl, h1, hn, ha0, ha, hm1, hm2, q⟩ := h
    have g1 := pen_left
    have g2 := pen_at
    have g3 := pen_cells
    have e1 := pen_pleft
    have e2 := pen_pat
    have e3 := pen_len
    walk_at "dl"
    walk_at "if"
    refine dGif_of (fun hl => ?_) (fun hl => ?_)
    · walk_at "dl"
      walk_at "sides"
      exact q.out _ a _ (Int.emod_nonneg _ (by omega)) (Int.emod_lt_of_pos _ (by omega)) (by omega) (by omega)
    · walk_at "dl"
      walk_at "sides"
      refine ifJ (fun δ s' => ∃ cell : Int, δ = [some (.ref p), some (.int many), none, some (.int a), some (.int cell), none, none] ∧ s' = up s p (.dK (penL ns (a + 1) l))) (fun R hR => ?_) (fun δ s' ⟨cell, e1, e2⟩ => ?_)
      · walk_at "dl"
        walk_at "sides"
        refine dGif_of (fun h => ?_) (fun h => ?_)
        · have hne : 0 < ns.length := by
            cases ns with
            | nil => simp at h
            | cons x xs => simp
          walk_at "dl"
          walk_at "sides"
          obtain ⟨c, e1, e2⟩ := atI_pos (xs := ns.map DV.int) (i := a % (ns.length : Int)) (Int.emod_nonneg _ (by omega)) (by rw [List.length_map]; exact Int.emod_lt_of_pos _ (by omega))
          obtain ⟨z, rfl⟩ := int_of_get e2
          rw [e1]
          exact hR _ _ ⟨_, rfl, rfl⟩
        · walk_at "dl"
          exact hR _ _ ⟨_, rfl, rfl⟩
      · subst e1 e2
        walk_at "dl"
        refine ifJ (fun δ s' => δ = [some (.ref p), some (.int many), none, some (.int a), some (.int cell), none, none] ∧ s' = up s p (.dK (penL ns (a + 1) l))) (fun R hR => ?_) (fun δ s' ⟨e1, e2⟩ => ?_)
        · walk_at "dl"
          cases hc : ltI a (ns.length : Int) with
          | false => trivial
          | true =>
            walk_at "dl"
            refine ⟨by unfold CPowD; decide, ?_⟩
            refine dGif_of (fun h => ?_) (fun h => ?_)
            · walk_at "dl"
              walk_at "sides"
              exact q.out _ _ _ (Int.emod_nonneg _ (by omega)) (Int.emod_lt_of_pos _ (by omega)) (by omega) (by omega)
            · exact hR _ _ ⟨rfl, rfl⟩
        · subst e1 e2
          walk_at "dl"
          walk_at "sides"
          refine for_rng (fun i δ s' => ∃ (number : Int) (x : Option DV), 0 ≤ number ∧ number < 4294967311 ∧ δ = [some (.ref p), some (.int many), none, some (.int a), some (.int cell), some (.int number), x] ∧ s' = up s p (.dK (penL ns (a + 1) l))) ⟨_, _, Int.emod_nonneg _ (by omega), Int.emod_lt_of_pos _ (by omega), rfl, rfl⟩ (fun i δ s' hi ⟨number, x, h0, h1, e1, e2⟩ => ?_) (fun δ s' ⟨number, x, h0, h1, e1, e2⟩ => ?_)
          · subst e1 e2
            walk_at "dl"
            walk_at "sides"
            exact ⟨_, _, Int.emod_nonneg _ (by omega), Int.emod_lt_of_pos _ (by omega), rfl⟩
          · subst e1 e2
            walk_at "dl"
            walk_at "sides"
            exact q.out _ _ _ (Int.emod_nonneg _ (by omega)) (Int.emod_lt_of_pos _ (by omega)) (by omega) (by omega)

/-! ### a text -/
def spText : Spd := fun ds s Q _ => ∃ (p : Addr) (ns : List Int) (a l : Int), ds = [.ref p] ∧ s p = some (.dK (penL ns a l)) ∧ ns.length ≤ 63 ∧ 0 ≤ a ∧ a ≤ 2 ^ 39 ∧
  Kp (∀ (z : Str) (a' l' : Int), z.length ≤ 8 → okS z → a ≤ a' → a' ≤ a + 9 → Q (.str z) (up s p (.dK (penL ns a' l'))))
theorem ok_text (T : Txt K mg C) (G__law_draw : Fn P w K mg base "_law_draw" 1 ["pen", "many"] spDraw) : Fn P w K mg base "_law_text" 2 ["pen"] spText := by
  refine fnOk T.d__law_text sc__law_text (fun ds s Q E h => ?_) (fun A f cdv Ar outer s H E hr => (dsc (dsset (i := 1) sc__law_text.nd rfl (Or.inr rfl) dstr)
  (ds1 (dsret (dbm PySem.F.plainAttrs_str PySem.F.slot_str_join PySem.F.type_str_join md_join dstr (dac (dlc (own := [("k", 2)]) rfl sc__law_text.nd (drange1 T.b_range (dac (dfrz (dF G__law_draw (hr.mono (by decide)) (dac (dpv 0) (dac dint dan)))) dan)) (blkOk_by (own := [("k", 2)]) (N := n__law_text) (sc := defScope s__law_text) (by decide +kernel)) (gmName 2) (patN 2) (by decide) (fun _ _ _ _ _ => (pg_name (i := 2) sc__law_text.nd rfl (Or.inl rfl))) (fun _ _ _ _ _ => dtsn) (fun _ _ _ _ _ => (dix (hu_of hr) (dpv 1) (dfrz (dF G__law_draw (hr.mono (by decide)) (dac (dpv 0) (dac dint dan))))))) dan)))))) (fun ds s Q E h => ?_)
  · obtain ⟨p, ns, a, l, rfl, h1, q⟩ := h
    rfl
  · obtain ⟨p, ns, a, l, rfl, h1, hn, ha0, ha, q⟩ := h
    walk_at "dl"
    refine ⟨p, 9, ns, a, l, rfl, h1, hn, ha0, by omega, by decide, by decide, ⟨fun r a1 l1 hr0 hr1 ha1 ha2 => ?_⟩⟩
    walk_at "dl"
    walk_at "sides"
    have er : (r.toNat : Int) = r := Int.toNat_of_nonneg hr0
    refine lc_rng (fun D i acc s' => ∃ (zs : List Str) (a' l' : Int), acc = zs.map DV.str ∧ zs.length = i ∧ (∀ z ∈ zs, z.length = 1 ∧ okS z) ∧ a1 ≤ a' ∧ a' ≤ a1 + i ∧ s' = up (up s D .hid) p (.dK (penL ns a' l')))
      (fun D hD => ⟨[], a1, l1, rfl, rfl, fun z hz => (nomatch hz), by omega, by omega, ?_⟩) (fun D i acc s' hD hi ⟨zs, a', l', e1, hz, h3, h4, h5, e3⟩ => ?_) (fun D acc s' hD ⟨zs, a', l', e1, hz, h3, h4, h5, e3⟩ => ?_)
    · have ne : p ≠ D := ne_up up_same hD
      exact up_comm ne
    · have ne : p ≠ D := ne_up up_same hD
      subst e1 e3
      walk_at "dl"
      refine ⟨p, 7, ns, a', l', rfl, up_same, hn, by omega, by omega, by decide, by decide, ⟨fun r2 a2 l2 hr2 hr3 ha3 ha4 => ?_⟩⟩
      walk_at "dl"
      refine ⟨by decide +kernel, ?_⟩
      have h7 : (tl (Str.ofString "a0 (\"-z")).length = 7 := by decide +kernel
      obtain ⟨c, hc1, hc2⟩ := atI_pos (xs := tl (Str.ofString "a0 (\"-z")) (i := r2) hr2 (by rw [h7]; exact hr3)
      rw [show atI (Str.ofString "a0 (\"-z").cps.toList r2 = some c from hc1]
      have hcl : ∀ d ∈ tl (Str.ofString "a0 (\"-z"), d < 1114112 := by decide +kernel
      have hcm := hcl c (List.mem_of_getElem? hc2)
      refine ⟨size_lt (by omega), zs ++ [⟨#[c]⟩], a2, l2, map_snoc DV.str zs _, by simp [hz], fun z hz' => ?_, by omega, by omega, rfl⟩
      rcases List.mem_append.mp hz' with h | h
      · exact h3 z h
      · rw [List.mem_singleton.mp h]
        exact ⟨rfl, okS_one hcm⟩
    · have ne : p ≠ D := ne_up up_same hD
      subst e1 e3
      have hsum := sum_ones (m := 1) fun z h => Nat.le_of_eq (h3 z h).1
      walk_at "dl"
      refine ⟨by have : (Str.ofString "").length = 0 := by decide +kernel
                 rw [this]; omega, ?_⟩
      rw [up_ne ne.symm] at hD
      rw [up_comm ne.symm, er_fresh (by rw [up_ne ne.symm]; exact hD)]
      exact q.out _ a' l' (by rw [len_join0]; omega) (okS_join0 fun z h => (h3 z h).2) (by omega) (by omega)
/-! ### the store -/
def stoF (l : Addr) (n : Int) : List (Str × DV) := [(Str.ofString "held", .ref l), (Str.ofString "many", .int n), (Str.ofString "down", .non), (Str.ofString "limit", .non), (Str.ofString "first_signs", .int 0)]
structure StoAt (C : Addr) (s : Sto) (p l : Addr) (rows : List Str) (n : Int) : Prop where
  ob : s p = some (.ins C (stoF l n))
  ls : s l = some (.lst (rows.map DV.str))
theorem sf_held (l : Addr) (n : Int) : (stoF l n).lookup (Str.ofString "held") = some (.ref l) := by rfl
theorem sf_many (l : Addr) (n : Int) : (stoF l n).lookup (Str.ofString "many") = some (.int n) := by rfl
theorem sf_down (l : Addr) (n : Int) : (stoF l n).lookup (Str.ofString "down") = some .non := by rfl
theorem sf_limit (l : Addr) (n : Int) : (stoF l n).lookup (Str.ofString "limit") = some .non := by rfl
theorem sf_pheld (l l' : Addr) (n : Int) : putFD (Str.ofString "held") (.ref l') (stoF l n) = stoF l' n := by rfl
theorem sf_pmany (l : Addr) (n n' : Int) : putFD (Str.ofString "many") (.int n') (stoF l n) = stoF l n' := by rfl
theorem sf_len (l : Addr) (n : Int) : (stoF l n).length = 5 := rfl
theorem sf_no1 (l : Addr) (n : Int) : (stoF l n).lookup (Str.ofString "rows") = none := by rfl
theorem sf_no2 (l : Addr) (n : Int) : (stoF l n).lookup (Str.ofString "steps") = none := by rfl
theorem sf_no3 (l : Addr) (n : Int) : (stoF l n).lookup (Str.ofString "is_up") = none := by rfl
theorem sf_no4 (l : Addr) (n : Int) : (stoF l n).lookup (Str.ofString "falls_now") = none := by rfl
theorem sf_no5 (l : Addr) (n : Int) : (stoF l n).lookup (Str.ofString "write") = none := by rfl
theorem sf_no6 (l : Addr) (n : Int) : (stoF l n).lookup (Str.ofString "let_go") = none := by rfl
theorem sf_no7 (l : Addr) (n : Int) : (stoF l n).lookup (Str.ofString "cut") = none := by rfl
def spRows (C : Addr) : Spd := fun ds s Q _ => ∃ p l rows n, ds = [.ref p] ∧ StoAt C s p l rows n ∧ Kp (∀ q, s q = none → Q (.ref q) (up s q (.lst (rows.map DV.str))))
theorem ok_rows (T : Txt K mg C) : Mt P w K mg base C "rows" 1 ["self"] (spRows C) := by
  refine mtOk T.m_Store_rows sc_Store_rows (fun ds s Q E h => ?_) (fun A f cdv Ar outer s H E hr => (ds1 (dsret (dcallTy cd_listM T.b_list (by decide +kernel) (dac (dfld T.c_Store T.n_Store_held (dpv 0)) dan))))) (fun ds s Q E h => ?_)
  · obtain ⟨p, l, rows, n, rfl, q⟩ := h
    rfl
  · obtain ⟨p, l, rows, n, rfl, ⟨h1, h2⟩, q⟩ := h
    have g1 := sf_held
    walk_at "dl"
    exact q.out
def spSteps (C : Addr) : Spd := fun ds s Q _ => ∃ p l rows n, ds = [.ref p] ∧ StoAt C s p l rows n ∧ Kp (Q (.int n) s)
theorem ok_steps (T : Txt K mg C) : Mt P w K mg base C "steps" 1 ["self"] (spSteps C) := by
  refine mtOk T.m_Store_steps sc_Store_steps (fun ds s Q E h => ?_) (fun A f cdv Ar outer s H E hr => (ds1 (dsret (dfld T.c_Store T.n_Store_many (dpv 0))))) (fun ds s Q E h => ?_)
  · obtain ⟨p, l, rows, n, rfl, q⟩ := h
    rfl
  · obtain ⟨p, l, rows, n, rfl, ⟨h1, h2⟩, q⟩ := h
    have g1 := sf_many
    walk_at "dl"
    exact q.out
def spUp (C : Addr) : Spd := fun ds s Q _ => ∃ p l rows n, ds = [.ref p] ∧ StoAt C s p l rows n ∧ Kp (Q (.bl true) s)
theorem ok_up (T : Txt K mg C) : Mt P w K mg base C "is_up" 1 ["self"] (spUp C) := by
  refine mtOk T.m_Store_is_up sc_Store_is_up (fun ds s Q E h => ?_) (fun A f cdv Ar outer s H E hr => (ds1 (dsret (dcmp od_is (dfld T.c_Store T.n_Store_down (dpv 0)) dnon (nomark _))))) (fun ds s Q E h => ?_)
  · obtain ⟨p, l, rows, n, rfl, q⟩ := h
    rfl
  · obtain ⟨p, l, rows, n, rfl, ⟨h1, h2⟩, q⟩ := h
    have g1 := sf_down
    walk_at "dl"
    exact q.out
def spFalls (C : Addr) : Spd := fun ds s Q _ => ∃ p l rows n, ds = [.ref p] ∧ StoAt C s p l rows n ∧ Kp (Q (.bl false) s)
theorem ok_falls (T : Txt K mg C) : Mt P w K mg base C "falls_now" 1 ["self"] (spFalls C) := by
  refine mtOk T.m_Store_falls_now sc_Store_falls_now (fun ds s Q E h => ?_) (fun A f cdv Ar outer s H E hr => (dsc (dsif (dtcmp od_isnot (dfld T.c_Store T.n_Store_down (dpv 0)) dnon (nomark _))
  (ds1 dsdead)
  dsn)
  (dsc (dsif (dtcmp (od_ne hr.units) (dfld T.c_Store T.n_Store_limit (dpv 0)) (dfld T.c_Store T.n_Store_many (dpv 0)) (nomark _))
  (ds1 (dsret dbl))
  dsn)
  (dsc (dssetfld T.c_Store T.n_Store_down (dpv 0) (dfld T.c_Store T.n_Store_many (dpv 0)))
  (ds1 (dsret dbl)))))) (fun ds s Q E h => ?_)
  · obtain ⟨p, l, rows, n, rfl, q⟩ := h
    rfl
  · obtain ⟨p, l, rows, n, rfl, ⟨h1, h2⟩, q⟩ := h
    have g1 := sf_down
    have g2 := sf_limit
    have g3 := sf_many
    walk_at "dl"
    walk_at "if"
    walk_at "if"
    exact q.out
/-- a step: the rows change -/
def spWrite (C : Addr) : Spd := fun ds s Q _ => ∃ p l rows n z, ds = [.ref p, .str z] ∧ StoAt C s p l rows n ∧ p ≠ l ∧ rows.length ≤ 1000 ∧ Kp (Q .non (up (up s l (.lst ((rows ++ [z]).map DV.str))) p (.ins C (stoF l (n + 1)))))
theorem ok_write (T : Txt K mg C) (G_Store_falls_now : Mt P w K mg base C "falls_now" 1 ["self"] (spFalls C)) : Mt P w K mg base C "write" 2 ["self", "row"] (spWrite C) := by
  refine mtOk T.m_Store_write sc_Store_write (fun ds s Q E h => ?_) (fun A f cdv Ar outer s H E hr => (dsc (dsif (dtruth (dfrz (dM0 T.c_Store G_Store_falls_now (hr.mono (by decide)) (dpv 0))))
  (dsc (dsif (dtcmp od_gt (dfld T.c_Store T.n_Store_first_signs (dpv 0)) dint (nomark _))
  (ds1 (dsexpr (dbm PySem.F.plainAttrs_list PySem.F.slot_list_append PySem.F.type_list_append md_append (dfld T.c_Store T.n_Store_held (dpv 0)) (dac (dslice sl_d (dpv 1) dpn (dpo (dfld T.c_Store T.n_Store_first_signs (dpv 0)))) dan))))
  dsn)
  (ds1 dsdead))
  dsn)
  (dsc (dsexpr (dbm PySem.F.plainAttrs_list PySem.F.slot_list_append PySem.F.type_list_append md_append (dfld T.c_Store T.n_Store_held (dpv 0)) (dac (dpv 1) dan)))
  (ds1 (dsaugfld T.c_Store T.n_Store_many in_add (dpv 0) pe_int))))) (fun ds s Q E h => ?_)
  · obtain ⟨p, l, rows, n, z, rfl, q⟩ := h
    rfl
  · obtain ⟨p, l, rows, n, z, rfl, ⟨h1, h2⟩, ne, hl, q⟩ := h
    have g1 := sf_held
    have g2 := sf_many
    have g3 := sf_no4
    have g4 := sf_pmany
    have g5 := sf_len
    walk_at "dl"
    walk_at "if"
    refine ⟨p, l, rows, n, rfl, ⟨h1, h2⟩, ⟨?_⟩⟩
    walk_at "dl"
    refine ⟨size_lt (by omega), ?_⟩
    have e1 : up s l (.lst (rows.map DV.str ++ [.str z])) p = some (.ins C (stoF l n)) := by rw [up_ne ne]; exact h1
    walk_at "dl"
    walk_at "sides"
    rw [map_snoc]
    exact q.out
def spLetGo (C : Addr) : Spd := fun ds s Q _ => ∃ p l rows n m, ds = [.ref p, .int m] ∧ StoAt C s p l rows n ∧ 0 ≤ m ∧ m ≤ rows.length ∧ Kp (∀ l', s l' = none → Q .non (up (up s l' (.lst ((rows.drop m.toNat).map DV.str))) p (.ins C (stoF l' (n + 1)))))
theorem cut_drop (rows : List DV) (m : Int) (h0 : 0 ≤ m) (h1 : m ≤ rows.length) : DL.cutD rows (some m) none = rows.drop m.toNat := by
  have h2 : HT.sIx rows.length 0 (some m) = m.toNat := by
    show (if m < 0 then _ else min m.toNat rows.length) = _
    rw [if_neg (by omega)]
    omega
  unfold DL.cutD
  rw [h2, HT.sIx_none]
  rw [← List.length_drop]
  exact List.take_length
theorem ok_let_go (T : Txt K mg C) (G_Store_falls_now : Mt P w K mg base C "falls_now" 1 ["self"] (spFalls C)) : Mt P w K mg base C "let_go" 2 ["self", "many"] (spLetGo C) := by
  refine mtOk T.m_Store_let_go sc_Store_let_go (fun ds s Q E h => ?_) (fun A f cdv Ar outer s H E hr => (dsc (dsif (dtruth (dfrz (dM0 T.c_Store G_Store_falls_now (hr.mono (by decide)) (dpv 0))))
  (ds1 dsdead)
  dsn)
  (dsc (dssetfld T.c_Store T.n_Store_held (dpv 0) (dslice sl_m (dfld T.c_Store T.n_Store_held (dpv 0)) (dpo (dpv 1)) dpn))
  (ds1 (dsaugfld T.c_Store T.n_Store_many in_add (dpv 0) pe_int))))) (fun ds s Q E h => ?_)
  · obtain ⟨p, l, rows, n, m, rfl, q⟩ := h
    rfl
  · obtain ⟨p, l, rows, n, m, rfl, ⟨h1, h2⟩, hm0, hm1, q⟩ := h
    have g1 := sf_held
    have g2 := sf_many
    have g3 := sf_no4
    have g4 := sf_pmany
    have g5 := sf_len
    have g6 := sf_pheld
    walk_at "dl"
    walk_at "if"
    refine ⟨p, l, rows, n, rfl, ⟨h1, h2⟩, ⟨?_⟩⟩
    walk_at "dl"
    intro l' hl'
    have ne : p ≠ l' := ne_up h1 hl'
    rw [cut_drop _ _ hm0 (by rw [List.length_map]; exact hm1), ← List.map_drop]
    have e1 : up s l' (.lst ((rows.drop m.toNat).map DV.str)) p = some (.ins C (stoF l n)) := by rw [up_ne ne]; exact h1
    walk_at "dl"
    walk_at "sides"
    exact q.out l' hl'
def spCut (C : Addr) : Spd := fun ds s Q _ => ∃ p l rows n, ds = [.ref p] ∧ StoAt C s p l rows n ∧ p ≠ l ∧ rows ≠ [] ∧ Kp (Q .non (up (up s l (.lst (rows.dropLast.map DV.str))) p (.ins C (stoF l (n + 1)))))
theorem ok_cut (T : Txt K mg C) (G_Store_falls_now : Mt P w K mg base C "falls_now" 1 ["self"] (spFalls C)) : Mt P w K mg base C "cut" 2 ["self"] (spCut C) := by
  refine mtOk T.m_Store_cut sc_Store_cut (fun ds s Q E h => ?_) (fun A f cdv Ar outer s H E hr => (dsc (dsif (dtruth (dfrz (dM0 T.c_Store G_Store_falls_now (hr.mono (by decide)) (dpv 0))))
  (ds1 dsdead)
  dsn)
  (dsc (dsexpr (dbm0 PySem.F.plainAttrs_list PySem.F.slot_list_pop PySem.F.type_list_pop md_pop (dfld T.c_Store T.n_Store_held (dpv 0))))
  (ds1 (dsaugfld T.c_Store T.n_Store_many in_add (dpv 0) pe_int))))) (fun ds s Q E h => ?_)
  · obtain ⟨p, l, rows, n, rfl, q⟩ := h
    rfl
  · obtain ⟨p, l, rows, n, rfl, ⟨h1, h2⟩, ne, hne, q⟩ := h
    have g1 := sf_held
    have g2 := sf_many
    have g3 := sf_no4
    have g4 := sf_pmany
    have g5 := sf_len
    walk_at "dl"
    walk_at "if"
    refine ⟨p, l, rows, n, rfl, ⟨h1, h2⟩, ⟨?_⟩⟩
    walk_at "dl"
    obtain ⟨x, hx⟩ : ∃ x, (rows.map DV.str)[rows.length - 1]? = some x := get_lt (by rw [List.length_map]; have := List.length_pos_iff.mpr hne; omega)
    have e1 : up s l (.lst (rows.map DV.str).dropLast) p = some (.ins C (stoF l n)) := by rw [up_ne ne]; exact h1
    walk_at "dl"
    walk_at "sides"
    rw [← List.map_dropLast]
    exact q.out
end Law

set_option Elab.async false
set_option linter.all false
set_option maxRecDepth 100000
set_option maxHeartbeats 4000000
namespace Law
open PySem PySem.Spec PyProof.Rows L2 DL
local macro_rules | `(tactic| walk_at "dl") => `(tactic| (try simp only [kOp1, kOp2, kTest, kChain1, kChain2, kChain3, dChain, kAnd, kOr, kNot, kIf, kTru, kCons1, kCons2, kTup, kLst, kLstM, kFrz, kDrop, kRetS, kIfS, kAsg, kGCons, kPart, kSl1, kSl2, kSl3, kSub1, kSub2, kCB, kBM1, kBM2, kIt, kRng1, kRng2, kWhile, kLc1, kLc2, kLc2', kLc3, finF, finM, kAndE, kOrE, kNotE, kNeg, kCall, kCallK, kCallK2, dCallK, kMeth, kMeth2, kMade, kMake, kMakeK, kMakeK2, dMakeK, kFld, kSetFld, kSetFld2, kAugFld, kAugN1, kAugN2, kPair1, kPair2, kPair3, kDisp, dSeq, dAsg, dVar, dC, dOp, gNameD, gNilD, gConsD, gTupD, gifT, gifF, dTest, dTru, truD, dAnd, dOr, dNot, dAndE, dOrE, dNotE, dNeg, dIf, dRet, dRetN, dRetS, dNext, dDrop, dBreak, dCont, dCB, dCons, dNil, dIx, ixD, dSl, dSlR, dSlM, dPart, dNoPart, dI, dI0, dAdd, dMul, dLtB, dEq, dNe, dIs, isNonD, dIn, scalEq, eqData, pdS, pd, pdL, pdL_ints, pdL_strs, eqv_nil, List.isEmpty_map, refL_lst, refL_dK, refL_ins, lstD_lst, lstD_scr, lstD_tup, lstD_str, lstD_int, lstD_re, lstW_lst, lstW_tup, lstW_str, lstW_int, lstW_re, seqD_tup, seqD_lst, seqD_scr, seqD_str, seqD_int, seqD_re, dictD, keyD, dLen, lenD, dAbs, dMin2, dMax2, dListM, dListF, dTupF, dOrd, dStr, dLst, dLstM, dTup, gSubD, dSetR, dFld, dSetFld, dAugFld, dAugN, dIpAdd, dBM, tyD, dAppend, dPop, dJoin, strsD_map, dMeth, dCall, dMake, dFrz, frzR_lst, frzR_dK, frzR_ins, frz_int, frz_str, frz_bl, frz_non, frz_tup, frz_lst, frz_scr, frz_re, er_none, atI_zero, atI_one, ixN_zero, ixN_one, dDisp, dPairs, keysD, dLc, dLcM, dFor, wipeD, dYes, dIt, itemsD, dRng1, dRng2, startD, up_same, up_up, er_up, Option.map_some, List.map_cons, List.map_nil, List.length_map, List.length_cons, List.length_nil, List.replicate_succ, List.replicate_zero, List.cons_append, List.nil_append, List.append_nil, List.getD_cons_succ, List.getD_cons_zero, List.set_cons_succ, List.set_cons_zero, Nat.reduceSub, Nat.reduceAdd, Nat.zero_add, Nat.sub_zero, Bool.not_true, Bool.not_false, if_true, if_false, Bool.true_eq_false, Bool.false_eq_true, reduceIte, true_and, and_true, beq_self_eq_true, Int.reduceEq, Int.reduceLT, Int.reduceLE, Int.reduceAdd, Int.reduceSub, Int.reduceNeg, Int.reduceMul, decide_true, decide_false, *]))
local macro_rules | `(tactic| walk_at "side") => `(tactic| first | omega | exact size_lt (by omega) | exact size_le (by omega) | exact mulS (by omega) (by omega) | exact mulS' (by omega) (by omega) | exact cdiv (by omega) (by omega) | exact shaped_ints _ | exact shaped_nil | assumption)
local macro_rules | `(tactic| walk_at "sides") => `(tactic| repeat ((with_reducible refine And.intro ?_ ?_); next => walk_at "side"))
local macro_rules | `(tactic| walk_at "if") => `(tactic| (refine ifS ?_; walk_at "dl"))
local macro_rules | `(tactic| walk_at "for") => `(tactic| (unfold dFor; walk_at "dl"; walk_at "sides"))
local macro_rules | `(tactic| walk_at "upf") => `(tactic| first | exact up_same | assumption | ((rw [up_ne (by first | assumption | exact Ne.symm (by assumption))]); walk_at "upf") | ((rw [er_ne (by first | assumption | exact Ne.symm (by assumption))]); walk_at "upf"))

variable {P : Program} {w : World} {K : PySem.W.Frag} {mg : Str → Option Value} {base : Heap} {C : Addr}
/-! ### a store is made -/
theorem sf_mk (l : Addr) : putFD (Str.ofString "first_signs") (.int 0) (putFD (Str.ofString "limit") .non (putFD (Str.ofString "down") .non (putFD (Str.ofString "many") (.int 0) (putFD (Str.ofString "held") (.ref l) [])))) = stoF l 0 := by rfl
def spInit (C : Addr) : Spd := fun ds s Q _ => ∃ (p : Addr) (d : DV) (rows : List Str), ds = [.ref p, d, .non, .int 0] ∧ s p = some (.ins C []) ∧ seqD s d = some (rows.map DV.str) ∧ Kp (∀ l, s l = none → Q .non (up (up s l (.lst (rows.map DV.str))) p (.ins C (stoF l 0))))
theorem ok_init {f : Addr} {fd : FuncData} {T0 : Addr} (T : Txt K mg C) (F : FunD K "__init__" "Store.__init__" (defArgs s_Store___init__) (defBody s_Store___init__) (defScope s_Store___init__) [.ref T0] [("fall", .non), ("signs", .int 0)] f fd) :
    FnOk P w K mg base CX0 1 f fd ["self", "rows", "fall", "signs"] (lSp K (spInit C)) := by
  refine defOkD F sc_Store___init__ (fun ds s Q E h => ?_) (fun A cdv Ar outer s H E hr => (dsc (dssetfld T.c_Store T.n_Store_held (dpv 0) (dcallTy cd_listM T.b_list (by decide +kernel) (dac (dpv 1) dan)))
  (dsc (dssetfld T.c_Store T.n_Store_many (dpv 0) dint)
  (dsc (dssetfld T.c_Store T.n_Store_down (dpv 0) dnon)
  (dsc (dssetfld T.c_Store T.n_Store_limit (dpv 0) (dpv 2))
  (ds1 (dssetfld T.c_Store T.n_Store_first_signs (dpv 0) (dpv 3)))))))) (fun ds s Q E h => ?_)
  · obtain ⟨p, d, rows, rfl, q⟩ := h
    rfl
  · obtain ⟨p, d, rows, rfl, h1, h2, q⟩ := h
    walk_at "dl"
    intro l hl
    have ne : p ≠ l := ne_up h1 hl
    have e0 : up s l (.lst (rows.map DV.str)) p = some (.ins C []) := by rw [up_ne ne]; exact h1
    walk_at "dl"
    walk_at "sides"
    refine ⟨(by show (1 : Nat) < 1000; decide), (by show (2 : Nat) < 1000; decide), (by show (3 : Nat) < 1000; decide), (by show (4 : Nat) < 1000; decide), ?_⟩
    rw [sf_mk]
    exact q.out l hl
structure StoMk (P : Program) (w : World) (K : PySem.W.Frag) (mg : Str → Option Value) (base : Heap) (C : Addr) : Prop where
  ex : ∃ f fd T0, FnOk P w K mg base CX0 1 f fd ["self", "rows", "fall", "signs"] (lSp K (spInit C)) ∧ Mk K C f ∧ (∃ ds, Vals [V.non, .int 0] ds ∧ Binds K fd ["self", "rows", "fall", "signs"] ds) ∧
    (∃ ds, Vals [V.ref T0, .non, .int 0] ds ∧ Binds K fd ["self", "rows", "fall", "signs"] ds) ∧ (∃ g, KBn K fd ["self", "rows", "fall", "signs"] 1 ["rows"] g (fun vs zs => vs ++ zs ++ [V.non, .int 0])) ∧ ∀ s H, DatL K s H [V.ref T0, .non, .int 0] [.tup [], .non, .int 0]
/-! ### the law's look -/
def spIs (C : Addr) : Spd := fun ds s Q _ => ∃ (p l : Addr) (rows : List Str) (n : Int), ds = [.ref p, .lst (rows.map DV.str), .int n] ∧ StoAt C s p l rows n ∧ (∀ z ∈ rows, okS z) ∧ rows.length ≤ 1000 ∧ Kp (Q (.bl true) s)
theorem ok_is (T : Txt K mg C) (G_Store_rows : Mt P w K mg base C "rows" 1 ["self"] (spRows C)) (G_Store_steps : Mt P w K mg base C "steps" 1 ["self"] (spSteps C)) (G_Store_is_up : Mt P w K mg base C "is_up" 1 ["self"] (spUp C)) : Fn P w K mg base "_law_is" 2 ["store", "a_rows", "many"] (spIs C) := by
  refine fnOk T.d__law_is sc__law_is (fun ds s Q E h => ?_) (fun A f cdv Ar outer s H E hr => (dsc (dsif ((dpor (dtcmp (od_ne hr.units) (dfrz (dM0 T.c_Store G_Store_rows (hr.mono (by decide)) (dpv 0))) (dpv 1) (nomark _)) (dpor (dtcmp (od_ne hr.units) (dfrz (dM0 T.c_Store G_Store_steps (hr.mono (by decide)) (dpv 0))) (dpv 2) (nomark _)) (dpor1 (dtcmp od_isnot (dfrz (dM0 T.c_Store G_Store_is_up (hr.mono (by decide)) (dpv 0))) dbl (nomark _)))))).pt
  (ds1 (dsret dbl))
  dsn)
  (dsc (dsexpr (dbm PySem.F.plainAttrs_list PySem.F.slot_list_append PySem.F.type_list_append md_append (dM0 T.c_Store G_Store_rows (hr.mono (by decide)) (dpv 0)) (dac dstr dan)))
  (ds1 (dsretS (dcmp (od_eq hr.units) (dfrz (dM0 T.c_Store G_Store_rows (hr.mono (by decide)) (dpv 0))) (dpv 1) (nomark _))))))) (fun ds s Q E h => ?_)
  · obtain ⟨p, l, rows, n, rfl, q⟩ := h
    rfl
  · obtain ⟨p, l, rows, n, rfl, S, ho, hl, q⟩ := h
    obtain ⟨h1, h2⟩ := id S
    have g1 := sf_no1
    have g2 := sf_no2
    have g3 := sf_no3
    have sh := shaped_strs ho
    have ev := eqv_strs ho
    walk_at "dl"
    walk_at "if"
    refine ⟨p, l, rows, n, rfl, S, ⟨fun q1 hq1 => ?_⟩⟩
    walk_at "dl"
    refine ⟨p, l, rows, n, rfl, S, ⟨?_⟩⟩
    walk_at "dl"
    refine ⟨p, l, rows, n, rfl, S, ⟨?_⟩⟩
    walk_at "dl"
    refine ⟨p, l, rows, n, rfl, S, ⟨fun q2 hq2 => ?_⟩⟩
    have e1 : ∀ x, up s q2 x p = some (.ins C (stoF l n)) := fun x => by rw [up_ne (ne_up h1 hq2)]; exact h1
    have e2 : ∀ x, up s q2 x l = some (.lst (rows.map DV.str)) := fun x => by rw [up_ne (ne_up h2 hq2)]; exact h2
    walk_at "dl"
    refine ⟨size_lt (by omega), p, l, rows, n, rfl, ⟨e1 _, e2 _⟩, ⟨fun q3 hq3 => ?_⟩⟩
    walk_at "dl"
    exact ⟨s, sub_up hq2 (fun z => nomatch z), q.out⟩
def spLaw : Spd := fun ds s Q _ => ∃ ns : List Int, ds = [.scr (ns.map DV.int)] ∧ ns.length ≤ 63 ∧ Kp (∀ s', Q (.bl true) s')
abbrev rwD (r : List Str) : DV := .lst (r.map DV.str)
/-- what holds between the turns -/
structure Inv (C : Addr) (s : Sto) (p L c p1 p2 l1 l2 : Addr) (ns : List Int) (a l : Int) (r1 r2 : List Str) (n1 n2 m1 m2 : Int) (B : Nat) (A : Int) : Prop where
  hp : s p = some (.dK (penL ns a l))
  hL : s L = some (.lst [rwD r1, rwD r2])
  hc : s c = some (.lst [.int m1, .int m2])
  S1 : StoAt C s p1 l1 r1 n1
  S2 : StoAt C s p2 l2 r2 n2
  nd : [p, L, c, p1, p2, l1, l2].Nodup
  o1 : ∀ z ∈ r1, okS z
  o2 : ∀ z ∈ r2, okS z
  b1 : r1.length ≤ B
  b2 : r2.length ≤ B
  a0 : 0 ≤ a
  ab : a ≤ A
theorem Inv.pen {C : Addr} {s : Sto} {p L c p1 p2 l1 l2 : Addr} {ns : List Int} {a l a' l' : Int} {r1 r2 : List Str} {n1 n2 m1 m2 : Int} {B : Nat} {A A' : Int} (V : Inv C s p L c p1 p2 l1 l2 ns a l r1 r2 n1 n2 m1 m2 B A) (h1 : a ≤ a') (h2 : a' ≤ A') :
    Inv C (up s p (.dK (penL ns a' l'))) p L c p1 p2 l1 l2 ns a' l' r1 r2 n1 n2 m1 m2 B A' := by
  have nd := V.nd
  simp only [List.nodup_cons, List.mem_cons, List.not_mem_nil, or_false, not_or, List.nodup_nil, and_true, not_false_eq_true] at nd
  obtain ⟨⟨x1, x2, x3, x4, x5, x6⟩, _⟩ := nd
  exact { hp := up_same, hL := by rw [up_ne (Ne.symm x1)]; exact V.hL, hc := by rw [up_ne (Ne.symm x2)]; exact V.hc, S1 := ⟨by rw [up_ne (Ne.symm x3)]; exact V.S1.ob, by rw [up_ne (Ne.symm x5)]; exact V.S1.ls⟩,
          S2 := ⟨by rw [up_ne (Ne.symm x4)]; exact V.S2.ob, by rw [up_ne (Ne.symm x6)]; exact V.S2.ls⟩, nd := V.nd, o1 := V.o1, o2 := V.o2, b1 := V.b1, b2 := V.b2, a0 := Int.le_trans V.a0 h1, ab := h2 }
theorem ok_law (T : Txt K mg C) (G__law_pen : Fn P w K mg base "_law_pen" 1 ["script"] spPen) (G__law_draw : Fn P w K mg base "_law_draw" 1 ["pen", "many"] spDraw) (G__law_text : Fn P w K mg base "_law_text" 2 ["pen"] spText) (G__law_is : Fn P w K mg base "_law_is" 2 ["store", "a_rows", "many"] (spIs C))
    (G_Store_write : Mt P w K mg base C "write" 2 ["self", "row"] (spWrite C)) (G_Store_let_go : Mt P w K mg base C "let_go" 2 ["self", "many"] (spLetGo C)) (G_Store_cut : Mt P w K mg base C "cut" 2 ["self"] (spCut C)) (MK : StoMk P w K mg base C) {f : Addr} {fd : FuncData} (FL : Fun K "law" "law" s_law f fd) : FnOk P w K mg base CX0 4 f fd ["script"] (lSp K spLaw) := by
  obtain ⟨f0, fd0, T0, F0, M0, ⟨dv1, V1, B1⟩, ⟨dv0, V0, B0⟩, ⟨g0, KB⟩, HT0⟩ := MK.ex
  refine defOk FL sc_law (fun ds s Q E h => ?_) (fun A cdv Ar outer s H E hr => (dsc (dsset (i := 1) sc_law.nd rfl (Or.inr rfl) (dfrz (dF G__law_pen (hr.mono (by decide)) (dac (dpv 0) dan))))
  (dsc (dsset (i := 4) sc_law.nd rfl (Or.inr rfl) (dlcM (own := [("again", 2)]) rfl sc_law.nd (drange1 T.b_range (dac dint dan)) (blkOk_by (own := [("again", 2)]) (N := n_law) (sc := defScope s_law) (by decide +kernel)) (gmName 2) (patN 2) (by decide) (fun _ _ _ _ _ => (pg_name (i := 2) sc_law.nd rfl (Or.inl rfl))) (fun _ _ _ _ _ => dtsn) (fun _ _ _ _ _ => (dlc (own := [("k", 3)]) rfl sc_law.nd (drange1 T.b_range (dac (dfrz (dF G__law_draw (hr.mono (by decide)) (dac (dpv 1) (dac dint dan)))) dan)) (blkOk_by (own := [("k", 3)]) (N := n_law) (by rfl)) (gmName 3) (patN 3) (by decide) (fun _ _ _ _ _ => (pg_name (i := 3) sc_law.nd rfl (Or.inl rfl))) (fun _ _ _ _ _ => dtsn) (fun _ _ _ _ _ => (dfrz (dF G__law_text (hr.mono (by decide)) (dac (dpv 1) dan))))))))
  (dsc (dssetLc (i := 6) (own := [("a_rows", 5)]) rfl sc_law.nd rfl rfl (sw_true rfl rfl rfl (by decide +kernel)) (diter (dpv 4)) (blkOk_by (own := [("a_rows", 5)]) (N := n_law) (sc := defScope s_law) (by decide +kernel)) (gmName 5) (patN 5) (by decide) (fun _ _ _ _ _ => (pg_name (i := 5) sc_law.nd rfl (Or.inl rfl))) (fun _ _ _ _ _ => dtsn) (fun _ _ _ _ _ => (dcallTy cd_listM T.b_list (by decide +kernel) (dac (dpv 5) dan))))
  (dsc (dsset (i := 7) sc_law.nd rfl (Or.inr rfl) (dlst (dac (dmake M0 F0 (hr.mono (by decide)) T.g_Store B1 V1 (fun _ _ => .cons .non (.cons (.int 0) .nil)) (dac (dix (hu_of hr) (dpv 6) dint) dan)) (dac (dmakeK0 M0 F0 (hr.mono (by decide)) T.g_Store KB (gD := fun es us => es ++ us ++ [.non, .int 0]) (fun _ _ _ _ _ _ h1 h2 => (h1.append h2).append (.cons .non (.cons (.int 0) .nil))) (dkc (dcallTy cd_tup T.b_tuple (by decide +kernel) (dac (dix (hu_of hr) (dpv 6) dint) dan)) dkn)) dan))))
  (dsc (dsexpr (dbm PySem.F.plainAttrs_list PySem.F.slot_list_append PySem.F.type_list_append md_append (dix (hu_of hr) (dpv 6) dint) (dac dstr dan)))
  (dsc (dsset (i := 8) sc_law.nd rfl (Or.inr rfl) (dlstM (dac dint (dac dint dan))))
  (dsc (dsfor PassesOwn.never rfl (drange1 T.b_range (dac (dop od_add dint (dcallB (cd_min2 rfl) T.b_min (by decide +kernel) (dac dint (dac (dcallB cd_len T.b_len PySem.boot_len (dac (dpv 0) dan)) dan)))) dan)) (fun _ _ => dgpat (pg_name (i := 9) sc_law.nd rfl (Or.inl rfl)) (gmName 9) (patN 9)) (fun _ _ => (dsc (dsset (i := 3) sc_law.nd rfl (Or.inl rfl) (dfrz (dF G__law_draw (hr.mono (by decide)) (dac (dpv 1) (dac dint dan)))))
  (dsc (dsset (i := 10) sc_law.nd rfl (Or.inl rfl) (dfrz (dF G__law_draw (hr.mono (by decide)) (dac (dpv 1) (dac dint dan)))))
  (dsc (dsset (i := 11) sc_law.nd rfl (Or.inl rfl) dnon)
  (dsc (dsif ((dpor (dtcmp od_lt (dpv 10) dint (nomark _)) (dpor1 (dtcmp (od_eq hr.units) (dix (hu_of hr) (dpv 4) (dpv 3)) (dlst dan) (nomark _))))).pt
  (dsc (dsset (i := 12) sc_law.nd rfl (Or.inl rfl) (dfrz (dF G__law_text (hr.mono (by decide)) (dac (dpv 1) dan))))
  (dsc (dsasg (dop od_add (dix (hu_of hr) (dpv 4) (dpv 3)) (dlst (dac (dpv 12) dan))) (dgsub (hu_of hr) (dpv 4) (dpv 3)))
  (ds1 (dsset (i := 11) sc_law.nd rfl (Or.inl rfl) (dfrz (dM T.c_Store G_Store_write (hr.mono (by decide)) (dix (hu_of hr) (dpv 7) (dpv 3)) (dac (dpv 12) dan)))))))
  (ds1 (dsif (dtcmp (od_eq hr.units) (dpv 10) dint (nomark _))
  (dsc (dsset (i := 13) sc_law.nd rfl (Or.inl rfl) (dfrz (dF G__law_draw (hr.mono (by decide)) (dac (dpv 1) (dac (dop od_add (dcallB cd_len T.b_len PySem.boot_len (dac (dix (hu_of hr) (dpv 4) (dpv 3)) dan)) dint) dan)))))
  (dsc (dsasg (dslice sl_d (dix (hu_of hr) (dpv 4) (dpv 3)) (dpo (dpv 13)) dpn) (dgsub (hu_of hr) (dpv 4) (dpv 3)))
  (ds1 (dsset (i := 11) sc_law.nd rfl (Or.inl rfl) (dfrz (dM T.c_Store G_Store_let_go (hr.mono (by decide)) (dix (hu_of hr) (dpv 7) (dpv 3)) (dac (dpv 13) dan)))))))
  (dsc (dsasg (dslice sl_d (dix (hu_of hr) (dpv 4) (dpv 3)) dpn (dpo (dneg dint))) (dgsub (hu_of hr) (dpv 4) (dpv 3)))
  (ds1 (dsset (i := 11) sc_law.nd rfl (Or.inl rfl) (dfrz (dM0 T.c_Store G_Store_cut (hr.mono (by decide)) (dix (hu_of hr) (dpv 7) (dpv 3))))))))))
  (dsc (dsasg (dop od_add (dix (hu_of hr) (dpv 8) (dpv 3)) dint) (dgsub (hu_of hr) (dpv 8) (dpv 3)))
  (dsc (dsif (dtcmp od_isnot (dpv 11) dnon (nomark _))
  (ds1 (dsret dbl))
  dsn)
  (ds1 (dsif (dtcmp (od_ne hr.units) (dlc (own := [("j", 14)]) rfl sc_law.nd (drange1 T.b_range (dac dint dan)) (blkOk_by (own := [("j", 14)]) (N := n_law) (sc := defScope s_law) (by decide +kernel)) (gmName 14) (patN 14) (by decide) (fun _ _ _ _ _ => (pg_name (i := 14) sc_law.nd rfl (Or.inl rfl))) (fun _ _ _ _ _ => (dts1 (dpnot (dtruth (dfrz (dF G__law_is (hr.mono (by decide)) (dac (dix (hu_of hr) (dpv 7) (dpv 14)) (dac (dix (hu_of hr) (dpv 4) (dpv 14)) (dac (dix (hu_of hr) (dpv 8) (dpv 14)) dan))))))))) (fun _ _ _ _ _ => (dpv 14))) (dlst dan) (nomark _))
  (ds1 (dsret dbl))
  dsn))))))))))
  (ds1 (dsret (dfrz (dF G__law_is (hr.mono (by decide)) (dac (dmake0 M0 F0 (hr.mono (by decide)) T.g_Store B0 V0 HT0) (dac (dlst dan) (dac dint dan))))))))))))))) (fun ds s Q E h => ?_)
  · obtain ⟨ns, rfl, q⟩ := h
    rfl
  · obtain ⟨ns, rfl, hn, q⟩ := h
    walk_at "dl"
    refine ⟨ns, rfl, hn, ⟨fun p hp => ?_⟩⟩
    walk_at "dl"
    walk_at "sides"
    -- lots
    refine lc_rng (fun D i acc s' => ∃ (rs : List (List Str)) (a' l' : Int), acc = rs.map rwD ∧ rs.length = i ∧ (∀ r ∈ rs, r.length ≤ 3 ∧ ∀ z ∈ r, okS z) ∧ 0 ≤ a' ∧ a' ≤ 40 * i ∧ s' = up (up s D .hid) p (.dK (penL ns a' l')))
      (fun D hD => ⟨[], 0, 0, rfl, rfl, fun z hz => (nomatch hz), by omega, by omega, ?_⟩) (fun D i acc s' hD hi ⟨rs, a', l', e1, h1, h2, h3, h4, e2⟩ => ?_) (fun D acc s' hD ⟨rs, a', l', e1, h1, h2, h3, h4, e2⟩ => ?_)
    · exact up_comm (ne_up up_same hD)
    · have ne : p ≠ D := ne_up up_same hD
      subst e1 e2
      walk_at "dl"
      refine ⟨p, 4, ns, a', l', rfl, up_same, hn, by omega, by omega, by decide, by decide, ⟨fun r a1 l1 hr0 hr1 ha1 ha2 => ?_⟩⟩
      walk_at "dl"
      walk_at "sides"
      have er : (r.toNat : Int) = r := Int.toNat_of_nonneg hr0
      refine lc_rng (fun D2 i2 acc2 s2 => ∃ (zs : List Str) (a2 l2 : Int), acc2 = zs.map DV.str ∧ zs.length = i2 ∧ (∀ z ∈ zs, okS z) ∧ a1 ≤ a2 ∧ a2 ≤ a1 + 9 * i2 ∧ s2 = up (up (up s D .hid) D2 .hid) p (.dK (penL ns a2 l2)))
        (fun D2 hD2 => ⟨[], a1, l1, rfl, rfl, fun z hz => (nomatch hz), by omega, by omega, ?_⟩) (fun D2 i2 acc2 s2 hD2 hi2 ⟨zs, a2, l2, e1, g1, g2, g3, g4, e2⟩ => ?_) (fun D2 acc2 s2 hD2 ⟨zs, a2, l2, e1, g1, g2, g3, g4, e2⟩ => ?_)
      · exact up_comm (ne_up up_same hD2)
      · have ne2 : p ≠ D2 := ne_up up_same hD2
        subst e1 e2
        walk_at "dl"
        refine ⟨p, ns, a2, l2, rfl, up_same, hn, by omega, by omega, ⟨fun z a3 l3 hz1 hz2 ha3 ha4 => ?_⟩⟩
        walk_at "dl"
        refine ⟨size_lt (by omega), zs ++ [z], a3, l3, map_snoc DV.str zs z, by simp [g1], fun y hy => ?_, by omega, by omega, rfl⟩
        rcases List.mem_append.mp hy with h | h
        · exact g2 y h
        · rw [List.mem_singleton.mp h]; exact hz2
      · have ne2 : p ≠ D2 := ne_up up_same hD2
        rw [up_ne ne2.symm] at hD2
        subst e1 e2
        walk_at "dl"
        rw [er_up2 ne2 hD2]
        refine ⟨size_lt (by omega), rs ++ [zs], a2, l2, map_snoc rwD rs zs, by simp [h1], fun y hy => ?_, by omega, by omega, rfl⟩
        rcases List.mem_append.mp hy with h | h
        · exact h2 y h
        · rw [List.mem_singleton.mp h]; exact ⟨by omega, g2⟩
    · have ne : p ≠ D := ne_up up_same hD
      match rs, h1 with
      | [r1, r2], _ =>
      subst e1 e2
      have o1 := h2 r1 (by simp)
      have o2 := h2 r2 (by simp)
      walk_at "dl"
      rw [up_up2 ne]
      have f_p : up (up s p (.dK (penL ns a' l'))) D (.lst [rwD r1, rwD r2]) p = some (.dK (penL ns a' l')) := by rw [up_ne ne]; exact up_same
      have f_L : up (up s p (.dK (penL ns a' l'))) D (.lst [rwD r1, rwD r2]) D = some (.lst [rwD r1, rwD r2]) := up_same
      generalize up (up s p (.dK (penL ns a' l'))) D (.lst [rwD r1, rwD r2]) = s1 at f_p f_L ⊢
      clear hD hp
      have npL := ne
      -- handed
      refine lc_its (fun D2 i acc s' => match i with
        | 0 => acc = [] ∧ s' = up s1 D2 .hid
        | 1 => ∃ h1, acc = [.ref h1] ∧ s1 h1 = none ∧ h1 ≠ D2 ∧ s' = up (up s1 D2 .hid) h1 (.lst (r1.map DV.str))
        | _ => ∃ h1 h2, acc = [.ref h1, .ref h2] ∧ s1 h1 = none ∧ s1 h2 = none ∧ h1 ≠ D2 ∧ h2 ≠ D2 ∧ h1 ≠ h2 ∧ s' = up (up (up s1 D2 .hid) h1 (.lst (r1.map DV.str))) h2 (.lst (r2.map DV.str)))
        (fun D2 hD2 => ⟨rfl, rfl⟩) (fun D2 i acc s' hD2 w => ?_) (fun D2 i d acc s' hD2 hi w => ?_) (fun D2 acc s' hD2 w => ?_)
      · have n1 : D ≠ D2 := ne_up f_L hD2
        match i, w with
        | 0, ⟨_, e⟩ => rw [e]; walk_at "upf"
        | 1, ⟨h1, _, z1, _, e⟩ => have n2 : D ≠ h1 := ne_up f_L z1
                                  rw [e]; walk_at "upf"
        | (i + 2), ⟨h1, h2, _, z1, z2, _, _, _, e⟩ => have n2 : D ≠ h1 := ne_up f_L z1
                                                      have n3 : D ≠ h2 := ne_up f_L z2
                                                      rw [e]; walk_at "upf"
      · have n1 : D ≠ D2 := ne_up f_L hD2
        match i, hi, w with
        | 0, hi, ⟨e1, e2⟩ =>
          cases hi
          subst e1 e2
          walk_at "dl"
          intro q1 hq1
          have n2 : q1 ≠ D2 := fun z => by rw [z, up_same] at hq1; cases hq1
          rw [up_ne n2] at hq1
          exact ⟨by decide, q1, rfl, hq1, n2, rfl⟩
        | 1, hi, ⟨h1, e1, z1, n3, e2⟩ =>
          cases hi
          subst e1 e2
          walk_at "dl"
          intro q1 hq1
          have n4 : q1 ≠ h1 := fun z => by rw [z, up_same] at hq1; cases hq1
          rw [up_ne n4] at hq1
          have n2 : q1 ≠ D2 := fun z => by rw [z, up_same] at hq1; cases hq1
          rw [up_ne n2] at hq1
          exact ⟨by decide, h1, q1, rfl, z1, hq1, n3, n2, n4.symm, rfl⟩
      · obtain ⟨h1, h2, e1, z1, z2, n1, n2, n3, e2⟩ := w
        have m1 := ne_up f_p hD2
        have m2 := ne_up f_L hD2
        have m3 := ne_up f_p z1
        have m4 := ne_up f_p z2
        have m5 := ne_up f_L z1
        have m6 := ne_up f_L z2
        have g_p : er s' D2 p = some (.dK (penL ns a' l')) := by rw [e2]; walk_at "upf"
        have g_L : er s' D2 D = some (.lst [rwD r1, rwD r2]) := by rw [e2]; walk_at "upf"
        have g_1 : er s' D2 h1 = some (.lst (r1.map DV.str)) := by rw [e2]; walk_at "upf"
        have g_2 : er s' D2 h2 = some (.lst (r2.map DV.str)) := by rw [e2]; walk_at "upf"
        subst e1
        clear e2
        unfold finF
        generalize er s' D2 = s2 at g_p g_L g_1 g_2 ⊢
        clear hD2 m1 m2 n1 n2 z1 z2
        walk_at "dl"
        intro x1 hx1
        have a1 := ne_up g_p hx1
        have a2 := ne_up g_L hx1
        have a3 := ne_up g_1 hx1
        have a4 := ne_up g_2 hx1
        refine ⟨x1, .ref h1, r1, rfl, up_same, by rw [seqD_re, up_ne a3, g_1]; rfl, ⟨fun l1 hl1 => ⟨rfl, ?_⟩⟩⟩
        have b0 : l1 ≠ x1 := fun z => by rw [z, up_same] at hl1; cases hl1
        rw [up_ne b0] at hl1
        have b1 := ne_up g_p hl1
        have b2 := ne_up g_L hl1
        have b3 := ne_up g_1 hl1
        have b4 := ne_up g_2 hl1
        have k_p : up (up (up s2 x1 (.ins C [])) l1 (.lst (r1.map DV.str))) x1 (.ins C (stoF l1 0)) p = some (.dK (penL ns a' l')) := by walk_at "upf"
        have k_L : up (up (up s2 x1 (.ins C [])) l1 (.lst (r1.map DV.str))) x1 (.ins C (stoF l1 0)) D = some (.lst [rwD r1, rwD r2]) := by walk_at "upf"
        have k_1 : up (up (up s2 x1 (.ins C [])) l1 (.lst (r1.map DV.str))) x1 (.ins C (stoF l1 0)) h1 = some (.lst (r1.map DV.str)) := by walk_at "upf"
        have k_2 : up (up (up s2 x1 (.ins C [])) l1 (.lst (r1.map DV.str))) x1 (.ins C (stoF l1 0)) h2 = some (.lst (r2.map DV.str)) := by walk_at "upf"
        have k_x : up (up (up s2 x1 (.ins C [])) l1 (.lst (r1.map DV.str))) x1 (.ins C (stoF l1 0)) x1 = some (.ins C (stoF l1 0)) := by walk_at "upf"
        have k_l : up (up (up s2 x1 (.ins C [])) l1 (.lst (r1.map DV.str))) x1 (.ins C (stoF l1 0)) l1 = some (.lst (r1.map DV.str)) := by walk_at "upf"
        generalize up (up (up s2 x1 (.ins C [])) l1 (.lst (r1.map DV.str))) x1 (.ins C (stoF l1 0)) = s3 at k_p k_L k_1 k_2 k_x k_l ⊢
        clear g_p g_L g_1 g_2 hx1 hl1
        walk_at "dl"
        intro x2 hx2
        have c1 := ne_up k_p hx2
        have c2 := ne_up k_L hx2
        have c3 := ne_up k_1 hx2
        have c4 := ne_up k_2 hx2
        have c5 := ne_up k_x hx2
        have c6 := ne_up k_l hx2
        refine ⟨x2, .tup (r2.map DV.str), r2, rfl, up_same, rfl, ⟨fun l2 hl2 => ⟨rfl, ?_⟩⟩⟩
        have d0 : l2 ≠ x2 := fun z => by rw [z, up_same] at hl2; cases hl2
        rw [up_ne d0] at hl2
        have d1 := ne_up k_p hl2
        have d2 := ne_up k_L hl2
        have d3 := ne_up k_1 hl2
        have d4 := ne_up k_2 hl2
        have d5 := ne_up k_x hl2
        have d6 := ne_up k_l hl2
        have j_p : up (up (up s3 x2 (.ins C [])) l2 (.lst (r2.map DV.str))) x2 (.ins C (stoF l2 0)) p = some (.dK (penL ns a' l')) := by walk_at "upf"
        have j_L : up (up (up s3 x2 (.ins C [])) l2 (.lst (r2.map DV.str))) x2 (.ins C (stoF l2 0)) D = some (.lst [rwD r1, rwD r2]) := by walk_at "upf"
        have j_1 : up (up (up s3 x2 (.ins C [])) l2 (.lst (r2.map DV.str))) x2 (.ins C (stoF l2 0)) h1 = some (.lst (r1.map DV.str)) := by walk_at "upf"
        have j_x : up (up (up s3 x2 (.ins C [])) l2 (.lst (r2.map DV.str))) x2 (.ins C (stoF l2 0)) x1 = some (.ins C (stoF l1 0)) := by walk_at "upf"
        have j_l : up (up (up s3 x2 (.ins C [])) l2 (.lst (r2.map DV.str))) x2 (.ins C (stoF l2 0)) l1 = some (.lst (r1.map DV.str)) := by walk_at "upf"
        have j_y : up (up (up s3 x2 (.ins C [])) l2 (.lst (r2.map DV.str))) x2 (.ins C (stoF l2 0)) x2 = some (.ins C (stoF l2 0)) := by walk_at "upf"
        have j_m : up (up (up s3 x2 (.ins C [])) l2 (.lst (r2.map DV.str))) x2 (.ins C (stoF l2 0)) l2 = some (.lst (r2.map DV.str)) := by walk_at "upf"
        generalize up (up (up s3 x2 (.ins C [])) l2 (.lst (r2.map DV.str))) x2 (.ins C (stoF l2 0)) = s4 at j_p j_L j_1 j_x j_l j_y j_m ⊢
        clear k_p k_L k_1 k_2 k_x k_l hx2 hl2
        walk_at "dl"
        refine ⟨by decide, size_lt (by omega), by decide, fun c hc => ?_⟩
        have h1c : h1 ≠ c := fun z => by rw [z, up_same] at hc; cases hc
        rw [up_ne h1c.symm] at hc
        have e1 := ne_up j_p hc
        have e2 := ne_up j_L hc
        have e3 := ne_up j_x hc
        have e4 := ne_up j_l hc
        have e5 := ne_up j_y hc
        have e6 := ne_up j_m hc
        have hlt : (ns.length : Int) < 64 := by omega
        have V0 : ∀ X, Inv C (up (up s4 h1 X) c (.lst [.int 0, .int 0])) p D c x1 x2 l1 l2 ns a' l' r1 r2 0 0 0 0 3 200 := fun X => {
          hp := by walk_at "upf"
          hL := by walk_at "upf"
          hc := by walk_at "upf"
          S1 := ⟨by walk_at "upf", by walk_at "upf"⟩
          S2 := ⟨by walk_at "upf", by walk_at "upf"⟩
          nd := by
            simp only [List.nodup_cons, List.mem_cons, List.not_mem_nil, or_false, not_or, List.nodup_nil, and_true, not_false_eq_true, true_and]
            exact ⟨⟨npL, e1, a1, c1, b1, d1⟩, ⟨e2, a2, c2, b2, d2⟩, ⟨e3.symm, e5.symm, e4.symm, e6.symm⟩, ⟨c5, b0.symm, d5⟩, ⟨c6.symm, d0.symm⟩, d6⟩
          o1 := o1.2
          o2 := o2.2
          b1 := o1.1
          b2 := o2.1
          a0 := h3
          ab := by omega }
        replace V0 := V0 (.lst (List.map DV.str r1 ++ [DV.str (Str.ofString "more")]))
        generalize up (up s4 h1 (.lst (List.map DV.str r1 ++ [DV.str (Str.ofString "more")]))) c (.lst [.int 0, .int 0]) = s5 at V0 ⊢
        refine ⟨by split <;> omega, ?_⟩
        have hturns : (6 + if (ns.length : Int) < 24 then (ns.length : Int) else 24).toNat ≤ 30 := by split <;> omega
        generalize (6 + if (ns.length : Int) < 24 then (ns.length : Int) else 24).toNat = turns at hturns ⊢
        clear j_p j_L j_1 j_x j_l j_y j_m hc e1 e2 e3 e4 e5 e6 a1 a2 a3 a4 b0 b1 b2 b3 b4 c1 c2 c3 c4 c5 c6 d0 d1 d2 d3 d4 d5 d6 n3 m3 m4 m5 m6 npL h1c o1 o2 hlt f_p f_L h3 h4
        refine for_rng (fun i δ s' => ∃ a l r1 r2 n1 n2 l1 l2 o3 o9 o10 o11 o12 o13, Inv C s' p D c x1 x2 l1 l2 ns a l r1 r2 n1 n2 n1 n2 (3 + i) (200 + 20 * i) ∧ δ = [some (.scr (ns.map DV.int)), some (.ref p), none, o3, some (.ref D), none, some (.lst [.ref h1, .ref h2]), some (.lst [.ref x1, .ref x2]), some (.ref c), o9, o10, o11, o12, o13, none])
          ⟨a', l', r1, r2, 0, 0, l1, l2, _, _, _, _, _, _, by simpa using V0, rfl⟩ (fun i δ s' hi ⟨a, l, r1, r2, n1, n2, l1, l2, o3, o9, o10, o11, o12, o13, V, eδ⟩ => ?_) (fun δ s' ⟨a, l, r1, r2, n1, n2, l1, l2, o3, o9, o10, o11, o12, o13, V, eδ⟩ => ?_)
        · subst eδ
          clear V0
          walk_at "dl"
          refine ⟨p, 2, ns, a, l, rfl, V.hp, hn, V.a0, by have := V.ab; omega, by decide, by decide, ⟨fun k a1 y1 hk0 hk1 ha1 ha2 => ?_⟩⟩
          replace V := V.pen (l' := y1) ha1 (A' := 200 + 20 * (i : Int) + 1) (by have := V.ab; omega)
          generalize up s' p _ = s1 at V ⊢
          walk_at "dl"
          refine ⟨p, 4, ns, a1, y1, rfl, V.hp, hn, V.a0, by have := V.ab; omega, by decide, by decide, ⟨fun way a2 y2 hw0 hw1 hb1 hb2 => ?_⟩⟩
          replace V := V.pen (l' := y2) hb1 (A' := 200 + 20 * (i : Int) + 2) (by have := V.ab; omega)
          generalize up s1 p _ = s2 at V ⊢
          have hk : k = 0 ∨ k = 1 := by omega
          rcases hk with rfl | rfl
          · walk_at "dl"
            refine ifJ (fun δ s' => ∃ a l rk lk o9 o12 o13, Inv C s' p D c x1 x2 lk l2 ns a l rk r2 (n1 + 1) n2 n1 n2 (3 + i + 1) (200 + 20 * (i : Int) + 20) ∧ δ = [some (.scr (ns.map DV.int)), some (.ref p), none, some (.int 0), some (.ref D), none, some (.lst [.ref h1, .ref h2]), some (.lst [.ref x1, .ref x2]), some (.ref c), o9, some (.int way), some .non, o12, o13, none]) (fun R hR => ?_) (fun δ s' ⟨a, l, rk, lk, o9, o12, o13, V, eδ⟩ => ?_)
            · have hL := V.hL
              have gw := sf_no5
              have gl := sf_no6
              have gc := sf_no7
              have sh := shaped_strs V.o1
              have hb := V.b1
              walk_at "dl"
              have hcase : ltI way 2 = true ∨ (ltI way 2 = false ∧ r1.isEmpty = true) ∨ (ltI way 2 = false ∧ r1.isEmpty = false) := by
                cases ltI way 2 <;> cases r1.isEmpty <;> simp
              have wr : ∀ D0 : EndsD, (∀ δ s, D0.nx δ s ↔ R δ s) → True := fun _ _ => trivial
              clear wr
              rcases hcase with hw | ⟨hw, he⟩ | ⟨hw, he⟩
              · walk_at "dl"
                walk_at "sides"
                refine ⟨p, ns, a2, y2, rfl, V.hp, hn, V.a0, by have := V.ab; omega, ⟨fun z a3 y3 hz1 hz2 hc1 hc2 => ?_⟩⟩
                replace V := V.pen (l' := y3) hc1 (A' := 200 + 20 * (i : Int) + 12) (by have := V.ab; omega)
                generalize up s2 p _ = s3 at V ⊢
                have hL := V.hL
                have nd := V.nd
                simp only [List.nodup_cons, List.mem_cons, List.not_mem_nil, or_false, not_or, List.nodup_nil, and_true, not_false_eq_true] at nd
                obtain ⟨⟨q1, q2, q3, q4, q5, q6⟩, ⟨q7, q8, q9, q10, q11⟩, ⟨q12, q13, q14, q15⟩, ⟨q16, q17, q18⟩, ⟨q19, q20⟩, q21⟩ := nd
                have fo : ∀ X, up s3 D X x1 = some (.ins C (stoF l1 n1)) := fun X => by rw [up_ne (by first | assumption | exact Ne.symm (by assumption))]; exact V.S1.ob
                have fl : ∀ X, up s3 D X l1 = some (.lst (r1.map DV.str)) := fun X => by rw [up_ne (by first | assumption | exact Ne.symm (by assumption))]; exact V.S1.ls
                walk_at "dl"
                refine ⟨by decide, size_le (by omega), x1, l1, r1, n1, z, rfl, ⟨fo _, fl _⟩, by assumption, by omega, ⟨?_⟩⟩
                have v1 := V.hp
                have v2 := V.hc
                have v3 := V.S1.ob
                have v4 := V.S2.ob
                have v5 := V.S1.ls
                have v6 := V.S2.ls
                walk_at "dl"
                rw [map_snoc]
                refine hR _ _ ⟨a3, y3, r1 ++ [z], l1, _, _, _, { hp := by walk_at "upf", hL := by walk_at "upf", hc := by walk_at "upf", S1 := ⟨by walk_at "upf", by walk_at "upf"⟩, S2 := ⟨by walk_at "upf", by walk_at "upf"⟩, nd := V.nd, o1 := ?_, o2 := ?_, b1 := ?_, b2 := ?_, a0 := Int.le_trans V.a0 (Int.le_refl _), ab := by have := V.ab; omega }, rfl⟩
                · first | exact V.o1 | (intro y hy; rcases List.mem_append.mp hy with h | h; exact V.o1 y h; rw [List.mem_singleton.mp h]; exact hz2)
                · first | exact V.o2 | (intro y hy; rcases List.mem_append.mp hy with h | h; exact V.o2 y h; rw [List.mem_singleton.mp h]; exact hz2)
                · have := V.b1; first | omega | (rw [List.length_append]; show _ + 1 ≤ _; omega)
                · have := V.b2; first | omega | (rw [List.length_append]; show _ + 1 ≤ _; omega)
              · walk_at "dl"
                walk_at "sides"
                refine ⟨p, ns, a2, y2, rfl, V.hp, hn, V.a0, by have := V.ab; omega, ⟨fun z a3 y3 hz1 hz2 hc1 hc2 => ?_⟩⟩
                replace V := V.pen (l' := y3) hc1 (A' := 200 + 20 * (i : Int) + 12) (by have := V.ab; omega)
                generalize up s2 p _ = s3 at V ⊢
                have hL := V.hL
                have nd := V.nd
                simp only [List.nodup_cons, List.mem_cons, List.not_mem_nil, or_false, not_or, List.nodup_nil, and_true, not_false_eq_true] at nd
                obtain ⟨⟨q1, q2, q3, q4, q5, q6⟩, ⟨q7, q8, q9, q10, q11⟩, ⟨q12, q13, q14, q15⟩, ⟨q16, q17, q18⟩, ⟨q19, q20⟩, q21⟩ := nd
                have fo : ∀ X, up s3 D X x1 = some (.ins C (stoF l1 n1)) := fun X => by rw [up_ne (by first | assumption | exact Ne.symm (by assumption))]; exact V.S1.ob
                have fl : ∀ X, up s3 D X l1 = some (.lst (r1.map DV.str)) := fun X => by rw [up_ne (by first | assumption | exact Ne.symm (by assumption))]; exact V.S1.ls
                walk_at "dl"
                refine ⟨by decide, size_le (by omega), x1, l1, r1, n1, z, rfl, ⟨fo _, fl _⟩, by assumption, by omega, ⟨?_⟩⟩
                have v1 := V.hp
                have v2 := V.hc
                have v3 := V.S1.ob
                have v4 := V.S2.ob
                have v5 := V.S1.ls
                have v6 := V.S2.ls
                walk_at "dl"
                rw [map_snoc]
                refine hR _ _ ⟨a3, y3, r1 ++ [z], l1, _, _, _, { hp := by walk_at "upf", hL := by walk_at "upf", hc := by walk_at "upf", S1 := ⟨by walk_at "upf", by walk_at "upf"⟩, S2 := ⟨by walk_at "upf", by walk_at "upf"⟩, nd := V.nd, o1 := ?_, o2 := ?_, b1 := ?_, b2 := ?_, a0 := Int.le_trans V.a0 (Int.le_refl _), ab := by have := V.ab; omega }, rfl⟩
                · first | exact V.o1 | (intro y hy; rcases List.mem_append.mp hy with h | h; exact V.o1 y h; rw [List.mem_singleton.mp h]; exact hz2)
                · first | exact V.o2 | (intro y hy; rcases List.mem_append.mp hy with h | h; exact V.o2 y h; rw [List.mem_singleton.mp h]; exact hz2)
                · have := V.b1; first | omega | (rw [List.length_append]; show _ + 1 ≤ _; omega)
                · have := V.b2; first | omega | (rw [List.length_append]; show _ + 1 ≤ _; omega)
              · walk_at "dl"
                walk_at "sides"
                walk_at "if"
                have hne : r1 ≠ [] := fun z => by rw [z] at he; cases he
                have hw2 : 2 ≤ way := ltI_f hw
                have hway : way = 2 ∨ way = 3 := by omega
                rcases hway with rfl | rfl
                · walk_at "dl"
                  refine ⟨p, _, ns, a2, y2, rfl, V.hp, hn, V.a0, by have := V.ab; omega, by omega, by omega, ⟨fun m a3 y3 hm0 hm1 hc1 hc2 => ?_⟩⟩
                  replace V := V.pen (l' := y3) hc1 (A' := 200 + 20 * (i : Int) + 12) (by have := V.ab; omega)
                  generalize up s2 p _ = s3 at V ⊢
                  have hL := V.hL
                  have nd := V.nd
                  simp only [List.nodup_cons, List.mem_cons, List.not_mem_nil, or_false, not_or, List.nodup_nil, and_true, not_false_eq_true] at nd
                  obtain ⟨⟨q1, q2, q3, q4, q5, q6⟩, ⟨q7, q8, q9, q10, q11⟩, ⟨q12, q13, q14, q15⟩, ⟨q16, q17, q18⟩, ⟨q19, q20⟩, q21⟩ := nd
                  have fo : ∀ X, up s3 D X x1 = some (.ins C (stoF l1 n1)) := fun X => by rw [up_ne (by first | assumption | exact Ne.symm (by assumption))]; exact V.S1.ob
                  have fl : ∀ X, up s3 D X l1 = some (.lst (r1.map DV.str)) := fun X => by rw [up_ne (by first | assumption | exact Ne.symm (by assumption))]; exact V.S1.ls
                  walk_at "dl"
                  refine ⟨x1, l1, r1, n1, m, rfl, ⟨fo _, fl _⟩, hm0, by omega, ⟨fun l' hl' => ?_⟩⟩
                  rw [cut_drop _ _ hm0 (by rw [List.length_map]; omega), ← List.map_drop] at hl' ⊢
                  have g0 : l' ≠ D := fun z => by rw [z, up_same] at hl'; cases hl'
                  rw [up_ne g0] at hl'
                  have g1 := ne_up V.hp hl'
                  have g2 := ne_up V.hc hl'
                  have g3 := ne_up V.S1.ob hl'
                  have g4 := ne_up V.S2.ob hl'
                  have g5 := ne_up V.S1.ls hl'
                  have g6 := ne_up V.S2.ls hl'
                  have v1 := V.hp
                  have v2 := V.hc
                  have v3 := V.S1.ob
                  have v4 := V.S2.ob
                  have v5 := V.S1.ls
                  have v6 := V.S2.ls
                  walk_at "dl"
                  refine hR _ _ ⟨a3, y3, r1.drop m.toNat, l', _, _, _, { hp := by walk_at "upf", hL := by walk_at "upf", hc := by walk_at "upf", S1 := ⟨by walk_at "upf", by walk_at "upf"⟩, S2 := ⟨by walk_at "upf", by walk_at "upf"⟩, nd := ?_, o1 := ?_, o2 := ?_, b1 := ?_, b2 := ?_, a0 := Int.le_trans V.a0 (Int.le_refl _), ab := by have := V.ab; omega }, rfl⟩
                  · simp only [List.nodup_cons, List.mem_cons, List.not_mem_nil, or_false, not_or, List.nodup_nil, and_true, not_false_eq_true, true_and]
                    refine ⟨⟨?_, ?_, ?_, ?_, ?_, ?_⟩, ⟨?_, ?_, ?_, ?_, ?_⟩, ⟨?_, ?_, ?_, ?_⟩, ⟨?_, ?_, ?_⟩, ⟨?_, ?_⟩, ?_⟩ <;> first | assumption | exact Ne.symm (by assumption)
                  · first | exact V.o1 | exact fun z hz => V.o1 z (List.mem_of_mem_drop hz)
                  · first | exact V.o2 | exact fun z hz => V.o2 z (List.mem_of_mem_drop hz)
                  · have := V.b1; first | omega | (rw [List.length_drop]; omega)
                  · have := V.b2; first | omega | (rw [List.length_drop]; omega)
                · walk_at "dl"
                  have nd := V.nd
                  simp only [List.nodup_cons, List.mem_cons, List.not_mem_nil, or_false, not_or, List.nodup_nil, and_true, not_false_eq_true] at nd
                  obtain ⟨⟨q1, q2, q3, q4, q5, q6⟩, ⟨q7, q8, q9, q10, q11⟩, ⟨q12, q13, q14, q15⟩, ⟨q16, q17, q18⟩, ⟨q19, q20⟩, q21⟩ := nd
                  have fo : ∀ X, up s2 D X x1 = some (.ins C (stoF l1 n1)) := fun X => by rw [up_ne (by first | assumption | exact Ne.symm (by assumption))]; exact V.S1.ob
                  have fl : ∀ X, up s2 D X l1 = some (.lst (r1.map DV.str)) := fun X => by rw [up_ne (by first | assumption | exact Ne.symm (by assumption))]; exact V.S1.ls
                  walk_at "dl"
                  refine ⟨x1, l1, r1, n1, rfl, ⟨fo _, fl _⟩, by assumption, hne, ⟨?_⟩⟩
                  have v1 := V.hp
                  have v2 := V.hc
                  have v3 := V.S1.ob
                  have v4 := V.S2.ob
                  have v5 := V.S1.ls
                  have v6 := V.S2.ls
                  walk_at "dl"
                  rw [cut_last, ← List.map_dropLast]
                  refine hR _ _ ⟨a2, y2, r1.dropLast, l1, _, _, _, { hp := by walk_at "upf", hL := by walk_at "upf", hc := by walk_at "upf", S1 := ⟨by walk_at "upf", by walk_at "upf"⟩, S2 := ⟨by walk_at "upf", by walk_at "upf"⟩, nd := V.nd, o1 := ?_, o2 := ?_, b1 := ?_, b2 := ?_, a0 := Int.le_trans V.a0 (Int.le_refl _), ab := by have := V.ab; omega }, rfl⟩
                  · first | exact V.o1 | exact fun z hz => V.o1 z (List.dropLast_subset _ hz)
                  · first | exact V.o2 | exact fun z hz => V.o2 z (List.dropLast_subset _ hz)
                  · have := V.b1; first | omega | (rw [List.length_dropLast]; omega)
                  · have := V.b2; first | omega | (rw [List.length_dropLast]; omega)
            · subst eδ
              have hc := V.hc
              walk_at "dl"
              have nd := V.nd
              simp only [List.nodup_cons, List.mem_cons, List.not_mem_nil, or_false, not_or, List.nodup_nil, and_true, not_false_eq_true] at nd
              obtain ⟨⟨q1, q2, q3, q4, q5, q6⟩, ⟨q7, q8, q9, q10, q11⟩, ⟨q12, q13, q14, q15⟩, ⟨q16, q17, q18⟩, ⟨q19, q20⟩, q21⟩ := nd
              have v1 := V.hp
              have v2 := V.hL
              have v3 := V.S1.ob
              have v4 := V.S2.ob
              have v5 := V.S1.ls
              have v6 := V.S2.ls
              have W : Inv C (up s' c (.lst [.int (n1 + 1), .int n2])) p D c x1 x2 lk l2 ns a l rk r2 (n1 + 1) n2 (n1 + 1) n2 (3 + (i + 1)) (200 + 20 * ((i + 1 : Nat) : Int)) := { hp := by walk_at "upf", hL := by walk_at "upf", hc := by walk_at "upf", S1 := ⟨by walk_at "upf", by walk_at "upf"⟩, S2 := ⟨by walk_at "upf", by walk_at "upf"⟩, nd := V.nd, o1 := V.o1, o2 := V.o2, b1 := V.b1, b2 := V.b2, a0 := V.a0, ab := by have := V.ab; omega }
              clear v1 v2 v3 v4 v5 v6 hc
              walk_at "dl"
              generalize up s' c _ = s7 at W ⊢
              walk_at "if"
              walk_at "if"
              have wL := W.hL
              have wc := W.hc
              refine ⟨by decide, lc_rng (fun Z _ acc s' => acc = [] ∧ s' = up s7 Z .hid) (fun Z hZ => ⟨rfl, rfl⟩) (fun Z j acc s' hZ hj ⟨e1, e2⟩ => ?_) (fun Z acc s' hZ ⟨e1, e2⟩ => ?_)⟩
              · subst e1 e2
                have wL' : up s7 Z .hid D = _ := (up_ne (ne_up wL hZ)).trans wL
                have wc' : up s7 Z .hid c = _ := (up_ne (ne_up wc hZ)).trans wc
                have S1 : StoAt C (up s7 Z .hid) _ _ _ _ := ⟨(up_ne (ne_up W.S1.ob hZ)).trans W.S1.ob, (up_ne (ne_up W.S1.ls hZ)).trans W.S1.ls⟩
                have S2 : StoAt C (up s7 Z .hid) _ _ _ _ := ⟨(up_ne (ne_up W.S2.ob hZ)).trans W.S2.ob, (up_ne (ne_up W.S2.ls hZ)).trans W.S2.ls⟩
                match j, hj with
                | 0, _ =>
                  walk_at "dl"
                  refine ⟨x1, _, _, _, rfl, S1, W.o1, by have := W.b1; omega, ⟨?_⟩⟩
                  walk_at "dl"
                | 1, _ =>
                  walk_at "dl"
                  refine ⟨x2, _, _, _, rfl, S2, W.o2, by have := W.b2; omega, ⟨?_⟩⟩
                  walk_at "dl"
              · subst e1 e2
                unfold finF
                rw [er_fresh hZ]
                walk_at "dl"
                walk_at "sides"
                simp only [List.isEmpty_nil]
                walk_at "dl"
                exact ⟨_, _, _, _, _, _, _, _, _, _, _, _, _, _, W, rfl⟩

          · walk_at "dl"
            refine ifJ (fun δ s' => ∃ a l rk lk o9 o12 o13, Inv C s' p D c x1 x2 l1 lk ns a l r1 rk n1 (n2 + 1) n1 n2 (3 + i + 1) (200 + 20 * (i : Int) + 20) ∧ δ = [some (.scr (ns.map DV.int)), some (.ref p), none, some (.int 1), some (.ref D), none, some (.lst [.ref h1, .ref h2]), some (.lst [.ref x1, .ref x2]), some (.ref c), o9, some (.int way), some .non, o12, o13, none]) (fun R hR => ?_) (fun δ s' ⟨a, l, rk, lk, o9, o12, o13, V, eδ⟩ => ?_)
            · have hL := V.hL
              have gw := sf_no5
              have gl := sf_no6
              have gc := sf_no7
              have sh := shaped_strs V.o2
              have hb := V.b2
              walk_at "dl"
              have hcase : ltI way 2 = true ∨ (ltI way 2 = false ∧ r2.isEmpty = true) ∨ (ltI way 2 = false ∧ r2.isEmpty = false) := by
                cases ltI way 2 <;> cases r2.isEmpty <;> simp
              have wr : ∀ D0 : EndsD, (∀ δ s, D0.nx δ s ↔ R δ s) → True := fun _ _ => trivial
              clear wr
              rcases hcase with hw | ⟨hw, he⟩ | ⟨hw, he⟩
              · walk_at "dl"
                walk_at "sides"
                refine ⟨p, ns, a2, y2, rfl, V.hp, hn, V.a0, by have := V.ab; omega, ⟨fun z a3 y3 hz1 hz2 hc1 hc2 => ?_⟩⟩
                replace V := V.pen (l' := y3) hc1 (A' := 200 + 20 * (i : Int) + 12) (by have := V.ab; omega)
                generalize up s2 p _ = s3 at V ⊢
                have hL := V.hL
                have nd := V.nd
                simp only [List.nodup_cons, List.mem_cons, List.not_mem_nil, or_false, not_or, List.nodup_nil, and_true, not_false_eq_true] at nd
                obtain ⟨⟨q1, q2, q3, q4, q5, q6⟩, ⟨q7, q8, q9, q10, q11⟩, ⟨q12, q13, q14, q15⟩, ⟨q16, q17, q18⟩, ⟨q19, q20⟩, q21⟩ := nd
                have fo : ∀ X, up s3 D X x2 = some (.ins C (stoF l2 n2)) := fun X => by rw [up_ne (by first | assumption | exact Ne.symm (by assumption))]; exact V.S2.ob
                have fl : ∀ X, up s3 D X l2 = some (.lst (r2.map DV.str)) := fun X => by rw [up_ne (by first | assumption | exact Ne.symm (by assumption))]; exact V.S2.ls
                walk_at "dl"
                refine ⟨by decide, size_le (by omega), x2, l2, r2, n2, z, rfl, ⟨fo _, fl _⟩, by assumption, by omega, ⟨?_⟩⟩
                have v1 := V.hp
                have v2 := V.hc
                have v3 := V.S1.ob
                have v4 := V.S2.ob
                have v5 := V.S1.ls
                have v6 := V.S2.ls
                walk_at "dl"
                rw [map_snoc]
                refine hR _ _ ⟨a3, y3, r2 ++ [z], l2, _, _, _, { hp := by walk_at "upf", hL := by walk_at "upf", hc := by walk_at "upf", S1 := ⟨by walk_at "upf", by walk_at "upf"⟩, S2 := ⟨by walk_at "upf", by walk_at "upf"⟩, nd := V.nd, o1 := ?_, o2 := ?_, b1 := ?_, b2 := ?_, a0 := Int.le_trans V.a0 (Int.le_refl _), ab := by have := V.ab; omega }, rfl⟩
                · first | exact V.o1 | (intro y hy; rcases List.mem_append.mp hy with h | h; exact V.o1 y h; rw [List.mem_singleton.mp h]; exact hz2)
                · first | exact V.o2 | (intro y hy; rcases List.mem_append.mp hy with h | h; exact V.o2 y h; rw [List.mem_singleton.mp h]; exact hz2)
                · have := V.b1; first | omega | (rw [List.length_append]; show _ + 1 ≤ _; omega)
                · have := V.b2; first | omega | (rw [List.length_append]; show _ + 1 ≤ _; omega)
              · walk_at "dl"
                walk_at "sides"
                refine ⟨p, ns, a2, y2, rfl, V.hp, hn, V.a0, by have := V.ab; omega, ⟨fun z a3 y3 hz1 hz2 hc1 hc2 => ?_⟩⟩
                replace V := V.pen (l' := y3) hc1 (A' := 200 + 20 * (i : Int) + 12) (by have := V.ab; omega)
                generalize up s2 p _ = s3 at V ⊢
                have hL := V.hL
                have nd := V.nd
                simp only [List.nodup_cons, List.mem_cons, List.not_mem_nil, or_false, not_or, List.nodup_nil, and_true, not_false_eq_true] at nd
                obtain ⟨⟨q1, q2, q3, q4, q5, q6⟩, ⟨q7, q8, q9, q10, q11⟩, ⟨q12, q13, q14, q15⟩, ⟨q16, q17, q18⟩, ⟨q19, q20⟩, q21⟩ := nd
                have fo : ∀ X, up s3 D X x2 = some (.ins C (stoF l2 n2)) := fun X => by rw [up_ne (by first | assumption | exact Ne.symm (by assumption))]; exact V.S2.ob
                have fl : ∀ X, up s3 D X l2 = some (.lst (r2.map DV.str)) := fun X => by rw [up_ne (by first | assumption | exact Ne.symm (by assumption))]; exact V.S2.ls
                walk_at "dl"
                refine ⟨by decide, size_le (by omega), x2, l2, r2, n2, z, rfl, ⟨fo _, fl _⟩, by assumption, by omega, ⟨?_⟩⟩
                have v1 := V.hp
                have v2 := V.hc
                have v3 := V.S1.ob
                have v4 := V.S2.ob
                have v5 := V.S1.ls
                have v6 := V.S2.ls
                walk_at "dl"
                rw [map_snoc]
                refine hR _ _ ⟨a3, y3, r2 ++ [z], l2, _, _, _, { hp := by walk_at "upf", hL := by walk_at "upf", hc := by walk_at "upf", S1 := ⟨by walk_at "upf", by walk_at "upf"⟩, S2 := ⟨by walk_at "upf", by walk_at "upf"⟩, nd := V.nd, o1 := ?_, o2 := ?_, b1 := ?_, b2 := ?_, a0 := Int.le_trans V.a0 (Int.le_refl _), ab := by have := V.ab; omega }, rfl⟩
                · first | exact V.o1 | (intro y hy; rcases List.mem_append.mp hy with h | h; exact V.o1 y h; rw [List.mem_singleton.mp h]; exact hz2)
                · first | exact V.o2 | (intro y hy; rcases List.mem_append.mp hy with h | h; exact V.o2 y h; rw [List.mem_singleton.mp h]; exact hz2)
                · have := V.b1; first | omega | (rw [List.length_append]; show _ + 1 ≤ _; omega)
                · have := V.b2; first | omega | (rw [List.length_append]; show _ + 1 ≤ _; omega)
              · walk_at "dl"
                walk_at "sides"
                walk_at "if"
                have hne : r2 ≠ [] := fun z => by rw [z] at he; cases he
                have hw2 : 2 ≤ way := ltI_f hw
                have hway : way = 2 ∨ way = 3 := by omega
                rcases hway with rfl | rfl
                · walk_at "dl"
                  refine ⟨p, _, ns, a2, y2, rfl, V.hp, hn, V.a0, by have := V.ab; omega, by omega, by omega, ⟨fun m a3 y3 hm0 hm1 hc1 hc2 => ?_⟩⟩
                  replace V := V.pen (l' := y3) hc1 (A' := 200 + 20 * (i : Int) + 12) (by have := V.ab; omega)
                  generalize up s2 p _ = s3 at V ⊢
                  have hL := V.hL
                  have nd := V.nd
                  simp only [List.nodup_cons, List.mem_cons, List.not_mem_nil, or_false, not_or, List.nodup_nil, and_true, not_false_eq_true] at nd
                  obtain ⟨⟨q1, q2, q3, q4, q5, q6⟩, ⟨q7, q8, q9, q10, q11⟩, ⟨q12, q13, q14, q15⟩, ⟨q16, q17, q18⟩, ⟨q19, q20⟩, q21⟩ := nd
                  have fo : ∀ X, up s3 D X x2 = some (.ins C (stoF l2 n2)) := fun X => by rw [up_ne (by first | assumption | exact Ne.symm (by assumption))]; exact V.S2.ob
                  have fl : ∀ X, up s3 D X l2 = some (.lst (r2.map DV.str)) := fun X => by rw [up_ne (by first | assumption | exact Ne.symm (by assumption))]; exact V.S2.ls
                  walk_at "dl"
                  refine ⟨x2, l2, r2, n2, m, rfl, ⟨fo _, fl _⟩, hm0, by omega, ⟨fun l' hl' => ?_⟩⟩
                  rw [cut_drop _ _ hm0 (by rw [List.length_map]; omega), ← List.map_drop] at hl' ⊢
                  have g0 : l' ≠ D := fun z => by rw [z, up_same] at hl'; cases hl'
                  rw [up_ne g0] at hl'
                  have g1 := ne_up V.hp hl'
                  have g2 := ne_up V.hc hl'
                  have g3 := ne_up V.S1.ob hl'
                  have g4 := ne_up V.S2.ob hl'
                  have g5 := ne_up V.S1.ls hl'
                  have g6 := ne_up V.S2.ls hl'
                  have v1 := V.hp
                  have v2 := V.hc
                  have v3 := V.S1.ob
                  have v4 := V.S2.ob
                  have v5 := V.S1.ls
                  have v6 := V.S2.ls
                  walk_at "dl"
                  refine hR _ _ ⟨a3, y3, r2.drop m.toNat, l', _, _, _, { hp := by walk_at "upf", hL := by walk_at "upf", hc := by walk_at "upf", S1 := ⟨by walk_at "upf", by walk_at "upf"⟩, S2 := ⟨by walk_at "upf", by walk_at "upf"⟩, nd := ?_, o1 := ?_, o2 := ?_, b1 := ?_, b2 := ?_, a0 := Int.le_trans V.a0 (Int.le_refl _), ab := by have := V.ab; omega }, rfl⟩
                  · simp only [List.nodup_cons, List.mem_cons, List.not_mem_nil, or_false, not_or, List.nodup_nil, and_true, not_false_eq_true, true_and]
                    refine ⟨⟨?_, ?_, ?_, ?_, ?_, ?_⟩, ⟨?_, ?_, ?_, ?_, ?_⟩, ⟨?_, ?_, ?_, ?_⟩, ⟨?_, ?_, ?_⟩, ⟨?_, ?_⟩, ?_⟩ <;> first | assumption | exact Ne.symm (by assumption)
                  · first | exact V.o1 | exact fun z hz => V.o1 z (List.mem_of_mem_drop hz)
                  · first | exact V.o2 | exact fun z hz => V.o2 z (List.mem_of_mem_drop hz)
                  · have := V.b1; first | omega | (rw [List.length_drop]; omega)
                  · have := V.b2; first | omega | (rw [List.length_drop]; omega)
                · walk_at "dl"
                  have nd := V.nd
                  simp only [List.nodup_cons, List.mem_cons, List.not_mem_nil, or_false, not_or, List.nodup_nil, and_true, not_false_eq_true] at nd
                  obtain ⟨⟨q1, q2, q3, q4, q5, q6⟩, ⟨q7, q8, q9, q10, q11⟩, ⟨q12, q13, q14, q15⟩, ⟨q16, q17, q18⟩, ⟨q19, q20⟩, q21⟩ := nd
                  have fo : ∀ X, up s2 D X x2 = some (.ins C (stoF l2 n2)) := fun X => by rw [up_ne (by first | assumption | exact Ne.symm (by assumption))]; exact V.S2.ob
                  have fl : ∀ X, up s2 D X l2 = some (.lst (r2.map DV.str)) := fun X => by rw [up_ne (by first | assumption | exact Ne.symm (by assumption))]; exact V.S2.ls
                  walk_at "dl"
                  refine ⟨x2, l2, r2, n2, rfl, ⟨fo _, fl _⟩, by assumption, hne, ⟨?_⟩⟩
                  have v1 := V.hp
                  have v2 := V.hc
                  have v3 := V.S1.ob
                  have v4 := V.S2.ob
                  have v5 := V.S1.ls
                  have v6 := V.S2.ls
                  walk_at "dl"
                  rw [cut_last, ← List.map_dropLast]
                  refine hR _ _ ⟨a2, y2, r2.dropLast, l2, _, _, _, { hp := by walk_at "upf", hL := by walk_at "upf", hc := by walk_at "upf", S1 := ⟨by walk_at "upf", by walk_at "upf"⟩, S2 := ⟨by walk_at "upf", by walk_at "upf"⟩, nd := V.nd, o1 := ?_, o2 := ?_, b1 := ?_, b2 := ?_, a0 := Int.le_trans V.a0 (Int.le_refl _), ab := by have := V.ab; omega }, rfl⟩
                  · first | exact V.o1 | exact fun z hz => V.o1 z (List.dropLast_subset _ hz)
                  · first | exact V.o2 | exact fun z hz => V.o2 z (List.dropLast_subset _ hz)
                  · have := V.b1; first | omega | (rw [List.length_dropLast]; omega)
                  · have := V.b2; first | omega | (rw [List.length_dropLast]; omega)
            · subst eδ
              have hc := V.hc
              walk_at "dl"
              have nd := V.nd
              simp only [List.nodup_cons, List.mem_cons, List.not_mem_nil, or_false, not_or, List.nodup_nil, and_true, not_false_eq_true] at nd
              obtain ⟨⟨q1, q2, q3, q4, q5, q6⟩, ⟨q7, q8, q9, q10, q11⟩, ⟨q12, q13, q14, q15⟩, ⟨q16, q17, q18⟩, ⟨q19, q20⟩, q21⟩ := nd
              have v1 := V.hp
              have v2 := V.hL
              have v3 := V.S1.ob
              have v4 := V.S2.ob
              have v5 := V.S1.ls
              have v6 := V.S2.ls
              have W : Inv C (up s' c (.lst [.int n1, .int (n2 + 1)])) p D c x1 x2 l1 lk ns a l r1 rk n1 (n2 + 1) n1 (n2 + 1) (3 + (i + 1)) (200 + 20 * ((i + 1 : Nat) : Int)) := { hp := by walk_at "upf", hL := by walk_at "upf", hc := by walk_at "upf", S1 := ⟨by walk_at "upf", by walk_at "upf"⟩, S2 := ⟨by walk_at "upf", by walk_at "upf"⟩, nd := V.nd, o1 := V.o1, o2 := V.o2, b1 := V.b1, b2 := V.b2, a0 := V.a0, ab := by have := V.ab; omega }
              clear v1 v2 v3 v4 v5 v6 hc
              walk_at "dl"
              generalize up s' c _ = s7 at W ⊢
              walk_at "if"
              walk_at "if"
              have wL := W.hL
              have wc := W.hc
              refine ⟨by decide, lc_rng (fun Z _ acc s' => acc = [] ∧ s' = up s7 Z .hid) (fun Z hZ => ⟨rfl, rfl⟩) (fun Z j acc s' hZ hj ⟨e1, e2⟩ => ?_) (fun Z acc s' hZ ⟨e1, e2⟩ => ?_)⟩
              · subst e1 e2
                have wL' : up s7 Z .hid D = _ := (up_ne (ne_up wL hZ)).trans wL
                have wc' : up s7 Z .hid c = _ := (up_ne (ne_up wc hZ)).trans wc
                have S1 : StoAt C (up s7 Z .hid) _ _ _ _ := ⟨(up_ne (ne_up W.S1.ob hZ)).trans W.S1.ob, (up_ne (ne_up W.S1.ls hZ)).trans W.S1.ls⟩
                have S2 : StoAt C (up s7 Z .hid) _ _ _ _ := ⟨(up_ne (ne_up W.S2.ob hZ)).trans W.S2.ob, (up_ne (ne_up W.S2.ls hZ)).trans W.S2.ls⟩
                match j, hj with
                | 0, _ =>
                  walk_at "dl"
                  refine ⟨x1, _, _, _, rfl, S1, W.o1, by have := W.b1; omega, ⟨?_⟩⟩
                  walk_at "dl"
                | 1, _ =>
                  walk_at "dl"
                  refine ⟨x2, _, _, _, rfl, S2, W.o2, by have := W.b2; omega, ⟨?_⟩⟩
                  walk_at "dl"
              · subst e1 e2
                unfold finF
                rw [er_fresh hZ]
                walk_at "dl"
                walk_at "sides"
                simp only [List.isEmpty_nil]
                walk_at "dl"
                exact ⟨_, _, _, _, _, _, _, _, _, _, _, _, _, _, W, rfl⟩

        · subst eδ
          walk_at "dl"
          intro x hx
          refine ⟨x, .tup [], [], rfl, up_same, rfl, ⟨fun y hy => ?_⟩⟩
          have hxy : y ≠ x := fun z => by rw [z, up_same] at hy; cases hy
          walk_at "dl"
          walk_at "sides"
          refine ⟨x, y, [], 0, rfl, ⟨up_same, ?_⟩, (fun z hz => nomatch hz), by decide, ⟨?_⟩⟩
          · rw [up_ne hxy]; exact up_same
          · walk_at "dl"
            exact q.out _
end Law

set_option Elab.async false
set_option linter.all false
set_option maxRecDepth 100000
set_option maxHeartbeats 4000000
namespace Law
open PySem PySem.Spec PyProof.Rows L2 DL
/-! ### the head -/
def fnL : List He.DefD := [
  ⟨("_law_draw", none), "_law_draw", "_law_draw", defArgs s__law_draw, defBody s__law_draw, defScope s__law_draw, [], []⟩,
  ⟨("_law_pen", none), "_law_pen", "_law_pen", defArgs s__law_pen, defBody s__law_pen, defScope s__law_pen, [], []⟩,
  ⟨("_law_text", none), "_law_text", "_law_text", defArgs s__law_text, defBody s__law_text, defScope s__law_text, [], []⟩,
  ⟨("_law_is", none), "_law_is", "_law_is", defArgs s__law_is, defBody s__law_is, defScope s__law_is, [], []⟩,
  ⟨("law", none), "law", "law", defArgs s_law, defBody s_law, defScope s_law, [], []⟩,
  ⟨("Store", some "rows"), "rows", "Store.rows", defArgs s_Store_rows, defBody s_Store_rows, defScope s_Store_rows, [], []⟩,
  ⟨("Store", some "steps"), "steps", "Store.steps", defArgs s_Store_steps, defBody s_Store_steps, defScope s_Store_steps, [], []⟩,
  ⟨("Store", some "is_up"), "is_up", "Store.is_up", defArgs s_Store_is_up, defBody s_Store_is_up, defScope s_Store_is_up, [], []⟩,
  ⟨("Store", some "falls_now"), "falls_now", "Store.falls_now", defArgs s_Store_falls_now, defBody s_Store_falls_now, defScope s_Store_falls_now, [], []⟩,
  ⟨("Store", some "write"), "write", "Store.write", defArgs s_Store_write, defBody s_Store_write, defScope s_Store_write, [], []⟩,
  ⟨("Store", some "let_go"), "let_go", "Store.let_go", defArgs s_Store_let_go, defBody s_Store_let_go, defScope s_Store_let_go, [], []⟩,
  ⟨("Store", some "cut"), "cut", "Store.cut", defArgs s_Store_cut, defBody s_Store_cut, defScope s_Store_cut, [], []⟩,
  ⟨("Store", some "__init__"), "__init__", "Store.__init__", defArgs s_Store___init__, defBody s_Store___init__, defScope s_Store___init__, [.adr (He.dflAt ("Store", some "__init__") 0)], [("fall", .non), ("signs", .int 0)]⟩]
def faL : List He.Fa := [.glo "_law_draw", .glo "_law_pen", .glo "_law_text", .glo "_law_is", .glo "law", .free "len", .free "abs", .free "min", .free "range", .free "list", .free "tuple", .glo "Store", .cls "Store", .noat "Store" "held", .noat "Store" "many", .noat "Store" "down", .noat "Store" "limit", .noat "Store" "first_signs", .meth "Store" "rows", .meth "Store" "steps", .meth "Store" "is_up", .meth "Store" "falls_now", .meth "Store" "write", .meth "Store" "let_go", .meth "Store" "cut", .mkr "Store"]
def exL (K : PySem.W.Frag) : Bool := tupA K (He.dflAt ("Store", some "__init__") 0 K) []
abbrev RL : PySem.W.OpenRow := PySem.W.OpenLaw.row PySem.Challenge.rw_eventledger_k06_a_store_and_its_steps
abbrev hkL : PySem.W.Hook := hookB 6 faL fnL exL
def obL (s : PySem.W.SharedT) : He.AlD × Bool := obB 6 faL fnL exL (HandSHeadRun.getT s)
theorem obL_eq (s : PySem.W.SharedT) : obL s = hkL.obs s.abs := obB_eq (HandSHeadRun.getT_eq s)
theorem runL (w : World) : HandSHeadRun.RunEq RL (PySem.W.view RL.prog [10]) hkL obL 3000 ["_wall", "__name__", "Fell", "Store", "_law_pen", "_law_draw", "_law_text", "_law_is"] w := by
  intro os
  kernel_rfl
section
variable {P : Program} {w : World} {K : PySem.W.Frag} {h : Heap} {mg : Str → Option Value} {base : Heap}
theorem txtL (X : K.In h) (G : h.Ns mainGlobals mg) (c : SaysB faL fnL exL K) : Txt K mg (He.ga K "Store") := ⟨
  (defAt_of X G (c.1.def_ 0 rfl) (c.1.fact 0 rfl) fun _ _ _ _ _ _ us hl => match us, hl with | [_, _], _ => rfl),
  (defAt_of X G (c.1.def_ 1 rfl) (c.1.fact 1 rfl) fun _ _ _ _ _ _ us hl => match us, hl with | [_], _ => rfl),
  (defAt_of X G (c.1.def_ 2 rfl) (c.1.fact 2 rfl) fun _ _ _ _ _ _ us hl => match us, hl with | [_], _ => rfl),
  (defAt_of X G (c.1.def_ 3 rfl) (c.1.fact 3 rfl) fun _ _ _ _ _ _ us hl => match us, hl with | [_, _, _], _ => rfl),
  (defAt_of X G (c.1.def_ 4 rfl) (c.1.fact 4 rfl) fun _ _ _ _ _ _ us hl => match us, hl with | [_], _ => rfl),
  (He.free_ok X G (c.1.fact 5 rfl)),
  (He.free_ok X G (c.1.fact 6 rfl)),
  (He.free_ok X G (c.1.fact 7 rfl)),
  (He.free_ok X G (c.1.fact 8 rfl)),
  (He.free_ok X G (c.1.fact 9 rfl)),
  (He.free_ok X G (c.1.fact 10 rfl)),
  (He.glo_ok X G (c.1.fact 11 rfl)),
  (He.cls_ok (c.1.fact 12 rfl)),
  (He.noat_ok (c.1.fact 13 rfl)),
  (He.noat_ok (c.1.fact 14 rfl)),
  (He.noat_ok (c.1.fact 15 rfl)),
  (He.noat_ok (c.1.fact 16 rfl)),
  (He.noat_ok (c.1.fact 17 rfl)),
  (methAt_of (c.1.def_ 5 rfl) (c.1.fact 18 rfl) fun _ _ _ _ _ _ us hl => match us, hl with | [_], _ => rfl),
  (methAt_of (c.1.def_ 6 rfl) (c.1.fact 19 rfl) fun _ _ _ _ _ _ us hl => match us, hl with | [_], _ => rfl),
  (methAt_of (c.1.def_ 7 rfl) (c.1.fact 20 rfl) fun _ _ _ _ _ _ us hl => match us, hl with | [_], _ => rfl),
  (methAt_of (c.1.def_ 8 rfl) (c.1.fact 21 rfl) fun _ _ _ _ _ _ us hl => match us, hl with | [_], _ => rfl),
  (methAt_of (c.1.def_ 9 rfl) (c.1.fact 22 rfl) fun _ _ _ _ _ _ us hl => match us, hl with | [_, _], _ => rfl),
  (methAt_of (c.1.def_ 10 rfl) (c.1.fact 23 rfl) fun _ _ _ _ _ _ us hl => match us, hl with | [_, _], _ => rfl),
  (methAt_of (c.1.def_ 11 rfl) (c.1.fact 24 rfl) fun _ _ _ _ _ _ us hl => match us, hl with | [_], _ => rfl)⟩
theorem mkL {T0 fi : Addr} {fd : FuncData} (T : Txt K mg (He.ga K "Store")) (M : Mk K (He.ga K "Store") fi) (tz : ∀ H, SqT K H T0 []) (FI : FunD K "__init__" "Store.__init__" (defArgs s_Store___init__) (defBody s_Store___init__) (defScope s_Store___init__) [.ref T0] [("fall", .non), ("signs", .int 0)] fi fd) :
    StoMk P w K mg base (He.ga K "Store") := by
  refine ⟨⟨fi, fd, T0, ok_init T FI, M, ?_, ?_, ?_, fun s H => .cons (.tup (tz H) .nil) (.cons .non (.cons (.int 0) .nil))⟩⟩
  · refine FI.binds 2 1 (fun z => nomatch z) rfl (fun T D doc pm an cdv ct us its ks h1 h2 h3 => ?_) (fun z => nomatch z)
    match us, its, ks, h1, h2, h3 with
    | [u1, u2], [i1], [k1, k2], _, _, _ =>
      refine ⟨_, rfl, ?_⟩
      refine ⟨_, _, _, _, _, _, rfl, rfl, ?_⟩
      refine ⟨_, _, _, _, _, _, rfl, rfl, ?_⟩
      rfl
  · refine FI.binds 1 0 (fun z => nomatch z) rfl (fun T D doc pm an cdv ct us its ks h1 h2 h3 => ?_) (fun z => nomatch z)
    match us, its, ks, h1, h2, h3 with
    | [u1], [i1], [k1, k2], _, _, _ =>
      refine ⟨_, rfl, ?_⟩
      refine ⟨_, _, _, _, _, _, rfl, rfl, ?_⟩
      refine ⟨_, _, _, _, _, _, rfl, rfl, ?_⟩
      rfl
  · refine Exists.elim (FI.kbinds (ps := ["self", "rows", "fall", "signs"]) 1 ["rows"] [("fall", .non), ("signs", .int 0)] (fun vs ds mz zs => vs ++ zs ++ mz) (fun z => nomatch z) (fun z => nomatch z) (fun q h => h) (fun h1 h2 h3 h4 => (h1.append h4).append h3) (fun T D doc pm an cdv ct us its ks ws h1 h2 h3 h4 => ?_)) fun its h => Exists.elim h fun mv h => ⟨_, h⟩
    match us, its, ks, ws, h1, h2, h3, h4 with
    | [u1], [i1], [k1, k2], [w1], _, _, _, _ =>
      refine ⟨_, rfl, ?_⟩
      refine ⟨_, _, _, _, _, _, rfl, rfl, ?_⟩
      refine ⟨_, _, _, _, _, _, rfl, rfl, ?_⟩
      rfl
theorem facts {fl : Addr} (X : K.In h) (G : h.Ns mainGlobals mg) (hfa : mg ("law" : Str) = some (.ref fl)) (c : SaysB faL fnL exL K) :
    ∃ fd : FuncData, (∀ (s : Shared) (v : Value), BindsTo s fd ⟨[v], []⟩ [("script", v)]) ∧ ∀ base : Heap, K.In base → base.Ns mainGlobals mg → FnOk P w K mg base CX0 4 fl fd ["script"] (lSp K spLaw) := by
  have T := txtL X G c
  obtain ⟨fd, F⟩ := c.1.def_ 4 rfl
  have e := hfa.symm.trans (He.glo_ok X G (c.1.fact 4 rfl))
  cases e
  have b := FunD.bindsA (ps := ["script"]) F fun _ _ _ _ _ _ us hl => match us, hl with | [_], _ => rfl
  obtain ⟨fi, FI⟩ := c.1.def_ 12 rfl
  have M : Mk K (He.ga K "Store") _ := He.mkr_ok (c.1.fact 25 rfl)
  have tz : ∀ H, SqT K H (He.dflAt ("Store", some "__init__") 0 K) [] := tupA_ok (vs := []) c.2
  refine ⟨fd, fun s v => b s [v] rfl, fun base _ _ => ?_⟩
  have W : StoMk P w K mg base (He.ga K "Store") := mkL T M tz FI
  exact ok_law T (ok_pen T) (ok_draw T) (ok_text T (ok_draw T)) (ok_is T (ok_rows T) (ok_steps T) (ok_up T)) (ok_write T (ok_falls T)) (ok_let_go T (ok_falls T)) (ok_cut T (ok_falls T)) W (fun_of F)
end
end Law
open PySem PySem.W PySem.Calls PyProof.Rows
theorem PySem.Challenge.cw_eventledger_k06_a_store_and_its_steps_holds : PySem.Challenge.rw_eventledger_k06_a_store_and_its_steps.Holds := by
  w_on; o_law
  refine HandSHeadRun.head_any (r := OpenLaw.row PySem.Challenge.rw_eventledger_k06_a_store_and_its_steps) (q := view (OpenLaw.row PySem.Challenge.rw_eventledger_k06_a_store_and_its_steps).prog [10]) (H := Law.hkL) (ob := Law.obL) (M := 3000) (loose := ["_wall", "__name__", "Fell", "Store", "_law_pen", "_law_draw", "_law_text", "_law_is"]) (d := HandSHeadRun.topDef (OpenLaw.row PySem.Challenge.rw_eventledger_k06_a_store_and_its_steps).prog 10) (kwd := []) Law.obL_eq
    (by kernel_rfl) (fun s => by kernel_rfl) Law.runL (by kernel_rfl) (by kernel_rfl) (by kernel_rfl) (by rfl) (by first | assumption | decide +kernel) (by decide +kernel) ⟨rfl, rfl, rfl, rfl, rfl, by decide +kernel⟩ ?hw ?hc
  case hw => w_witness2
  case hc =>
    refine L2.walk_ofE (l := PySem.Challenge.rw_eventledger_k06_a_store_and_its_steps) (n := 63) (k := 4) (x := "script") (CX := L2.CX0) rfl (by decide) (by kernel_rfl) ⟨rfl, by decide, by decide⟩ ?F (fun _ _ _ _ z => z)
    intro w mg fa h Y G hmg0
    obtain ⟨K, KX, c⟩ := Y
    have hmg : mg ("law" : PySem.Str) = some (.ref fa) := by
      have e : (HandSHeadRun.topDef (OpenLaw.row PySem.Challenge.rw_eventledger_k06_a_store_and_its_steps).prog 10).name = ("law" : PySem.Str) := by kernel_rfl
      rw [← e]
      exact hmg0
    obtain ⟨fd, hb, hF⟩ := Law.facts (P := (PySem.Challenge.rw_eventledger_k06_a_store_and_its_steps).prog) (w := w) KX G hmg c
    exact ⟨K, fd, DL.lSp K Law.spLaw, KX, hb, fun H a ns hl hO hS => DL.law_of hO hS ⟨ns, rfl, hl, ⟨fun _ => rfl⟩⟩, hF⟩

