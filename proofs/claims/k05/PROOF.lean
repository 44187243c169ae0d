import PyProof.Rows.All
import Wide.All
import OpenK.AllK
import Wide.FinOn
import HandS.ForExc
import HandS.ForMost
import HandS.Wide
import HandS.TupAny
import HandS.TupLe
import HandS.TupMul
import HandS.Defaults
import HandS.MakeKwOnly
import HandS.IsInst
import HandS.Style
import HandS.Flow
import HandS.EndBits
import HandS.Codes
import KE.KStateDown
import HandS.Head0
import HandS.Head1
import HandS.Head2
import HandS.HeadEnd
import HandS.HeadHook1
import HandS.HeadHook2
import HandS.Text
import HandS.Zip
import KE.KRevSl
import KE.GoesEnumKw
import KE.GoesMore
import KE.KUnpack
import PyProof.CollectIter
import PyProof.Rows.CallKwBuiltin
import HandS.FStr
import HandS.StrSplit
import HandS.StrMore
import HandS.Replace
import PySem.Challenge.RW_eventledger_k05_whole_each_flip_is_found
set_option Elab.async false
set_option linter.all false
set_option maxRecDepth 100000
set_option maxHeartbeats 4000000
/-! A layer of plain data over the hand layer: values are data (tuples and lists that nobody changes are seen through), what changes stands in a store by its address; a piece of syntax is read as a predicate transformer over data and store. -/
namespace DL
open PySem PySem.Spec PyProof.Rows L2

inductive DV where
  | non | bl (b : Bool) | int (i : Int) | str (x : Str) | tup (ds : List DV) | lst (ds : List DV) | scr (ds : List DV) | ref (a : Addr) | ty (n : String)

inductive MO where
  | hid
  | lst (ds : List DV)
  | dK (ks : List (Key × DV))
  | ins (C : Addr) (fs : List (Str × DV))
  | exc (C : Addr) (fs : List (Str × DV))
/-- at a: an exception of the class at C that was caught, its dict at dx -/
def exk (a C dx : Addr) : HO := .ext fun h => ∃ oe : Obj, h.get? a = some oe ∧ oe.cls = .ref C ∧ oe.dict = some dx ∧ PySem.W.notCls oe = true

abbrev Sto := Addr → Option MO
def up (s : Sto) (a : Addr) (m : MO) : Sto := fun b => if b = a then some m else s b
def er (s : Sto) (a : Addr) : Sto := fun b => if b = a then none else s b
theorem up_same {s : Sto} {a : Addr} {m : MO} : up s a m a = some m := by unfold up; rw [if_pos rfl]
theorem up_ne {s : Sto} {a b : Addr} {m : MO} (h : b ≠ a) : up s a m b = s b := by unfold up; rw [if_neg h]
theorem er_same {s : Sto} {a : Addr} : er s a a = none := by unfold er; rw [if_pos rfl]
theorem er_ne {s : Sto} {a b : Addr} (h : b ≠ a) : er s a b = s b := by unfold er; rw [if_neg h]
theorem up_up {s : Sto} {a : Addr} {m n : MO} : up (up s a m) a n = up s a n := by
  funext b
  by_cases e : b = a
  · rw [e, up_same, up_same]
  · rw [up_ne e, up_ne e, up_ne e]
theorem er_up {s : Sto} {a : Addr} {m : MO} : er (up s a m) a = er s a := by
  funext b
  by_cases e : b = a
  · rw [e, er_same, er_same]
  · rw [er_ne e, up_ne e, er_ne e]
theorem er_none {s : Sto} {a : Addr} (h : s a = none) : er s a = s := by
  funext b
  unfold er
  split
  · rename_i e; rw [e, h]
  · rfl
theorem up_id {s : Sto} {a : Addr} {m : MO} (h : s a = some m) : up s a m = s := by
  funext b
  by_cases e : b = a
  · rw [e, up_same, h]
  · rw [up_ne e]
theorem up_comm {s : Sto} {a b : Addr} {m n : MO} (h : a ≠ b) : up (up s a m) b n = up (up s b n) a m := by
  funext c
  unfold up
  by_cases h1 : c = b
  · by_cases h2 : c = a
    · exact absurd (h2.symm.trans h1) h
    · simp [h1, Ne.symm h]
  · simp [h1]
theorem er_up_ne {s : Sto} {a b : Addr} {m : MO} (h : b ≠ a) : er (up s a m) b = up (er s b) a m := by
  funext c
  unfold up er
  by_cases h1 : c = b
  · by_cases h2 : c = a
    · exact absurd (h1.symm.trans h2) h
    · simp [h1, h]
  · simp [h1]

/-- a list of the written part -/
def KLst (K : PySem.W.Frag) (a : Addr) (xs : List V) : Prop :=
  ∃ (o : Obj) (its : Array Value) (n : Nat), K.lookup a = some o ∧ o.cls = .type "list" ∧ o.dict = none ∧ o.data = .seq its n ∧ its.size ≤ sizeLine ∧ Vals xs its.toList
/-- a list that cannot be changed (the script, a written one) -/
def ScrL (K : PySem.W.Frag) (H : Hp) (a : Addr) (xs : List V) : Prop := (∃ o, H a = some (.frz o (.lst xs))) ∨ KLst K a xs
mutual
/-- a value is some data -/
inductive Dat (K : PySem.W.Frag) (s : Sto) (H : Hp) : V → DV → Prop
  | non : Dat K s H .non .non
  | bl (b : Bool) : Dat K s H (.bl b) (.bl b)
  | int (i : Int) : Dat K s H (.int i) (.int i)
  | str (x : Str) : Dat K s H (.str x) (.str x)
  | ty (n : String) : Dat K s H (.ty n) (.ty n)
  | ref (a : Addr) : Dat K s H (.ref a) (.ref a)
  | tup {a : Addr} {xs : List V} {ds : List DV} : SqT K H a xs → DatL K s H xs ds → Dat K s H (.ref a) (.tup ds)
  | lst {a : Addr} {xs : List V} {ds : List DV} : H a = some (.lst xs) → s a = none → DatL K s H xs ds → Dat K s H (.ref a) (.lst ds)
  | scr {a : Addr} {xs : List V} {ds : List DV} : ScrL K H a xs → DatL K s H xs ds → Dat K s H (.ref a) (.scr ds)
inductive DatL (K : PySem.W.Frag) (s : Sto) (H : Hp) : List V → List DV → Prop
  | nil : DatL K s H [] []
  | cons {v : V} {vs : List V} {d : DV} {ds : List DV} : Dat K s H v d → DatL K s H vs ds → DatL K s H (v :: vs) (d :: ds)
end
def DatP (K : PySem.W.Frag) (s : Sto) (H : Hp) {κ : Type} : List (κ × V) → List (κ × DV) → Prop := Paired fun p q => p.1 = q.1 ∧ Dat K s H p.2 q.2

def RepO (K : PySem.W.Frag) (s : Sto) (H : Hp) (a : Addr) : MO → Prop
  | .hid => ∃ o, H a = some o
  | .lst ds => ∃ xs, H a = some (.lst xs) ∧ DatL K s H xs ds
  | .dK ks => ∃ kvs, H a = some (.dK kvs) ∧ DatP K s H kvs ks
  | .ins C fs => ∃ dx gs, H a = some (.ins C dx gs) ∧ DatP K s H gs fs
  | .exc C fs => ∃ dx gs, H a = some (exk a C dx) ∧ DatP K s H gs fs ∧ H dx = some (.xd gs) ∧ s dx = none
/-- the store is held -/
def Rep (K : PySem.W.Frag) (s : Sto) (H : Hp) : Prop := ∀ a m, s a = some m → RepO K s H a m
/-- what is not in the store stays -/
def Stp (s : Sto) (H : Hp) (s' : Sto) (H' : Hp) : Prop := ∀ a o, H a = some o → s a = none ∨ s a = some .hid → H' a = some o ∧ s' a = s a
theorem Stp.refl (s : Sto) (H : Hp) : Stp s H s H := fun _ _ h _ => ⟨h, rfl⟩
theorem Stp.trans {s s1 s2 : Sto} {H H1 H2 : Hp} (a : Stp s H s1 H1) (b : Stp s1 H1 s2 H2) : Stp s H s2 H2 := fun x o h n => by
  obtain ⟨h1, e1⟩ := a x o h n
  obtain ⟨h2, e2⟩ := b x o h1 (by rw [e1]; exact n)
  exact ⟨h2, e2.trans e1⟩
theorem Stp.new {s : Sto} {H : Hp} {p : Addr} {o : HO} {m : MO} (h : H p = none) : Stp s H (up s p m) (upd H p o) := fun a u e _ => by
  have n := ne_of_none e h
  exact ⟨by rw [upd_ne n]; exact e, up_ne n⟩
theorem Stp.newF {s : Sto} {H : Hp} {p : Addr} {o : HO} (h : H p = none) : Stp s H s (upd H p o) := fun a u e _ => by
  have n := ne_of_none e h
  exact ⟨by rw [upd_ne n]; exact e, rfl⟩
def Chg : Option MO → Prop
  | some (.lst _) => True
  | some (.dK _) => True
  | some (.ins _ _) => True
  | _ => False
theorem Stp.wr {s : Sto} {H : Hp} {p : Addr} {o : HO} {m : MO} (h : Chg (s p)) : Stp s H (up s p m) (upd H p o) := fun a u e n => by
  have ne : a ≠ p := fun z => by
    subst z
    rcases n with n | n
    · rw [n] at h; exact h
    · rw [n] at h; exact h
  exact ⟨by rw [upd_ne ne]; exact e, up_ne ne⟩
section
variable {K : PySem.W.Frag} {s s' : Sto} {H H' : Hp}
theorem Rep.known (rep : Rep K s H) {a : Addr} {m : MO} (h : s a = some m) : ∃ o, H a = some o := by
  have r := rep a m h
  cases m with
  | hid => exact r
  | lst ds => obtain ⟨xs, h, _⟩ := r; exact ⟨_, h⟩
  | dK ks => obtain ⟨xs, h, _⟩ := r; exact ⟨_, h⟩
  | ins C fs => obtain ⟨dx, gs, h, _⟩ := r; exact ⟨_, h⟩
  | exc C fs => obtain ⟨dx, gs, h, _⟩ := r; exact ⟨_, h⟩
theorem Rep.fresh (rep : Rep K s H) {a : Addr} (h : H a = none) : s a = none := by
  cases e : s a with
  | none => rfl
  | some m =>
    obtain ⟨o, q⟩ := rep.known e
    rw [h] at q
    cases q
theorem Rep.imm (rep : Rep K s H) {a : Addr} {o : HO} (h : H a = some o) (h1 : ∀ xs, o ≠ .lst xs) (h2 : ∀ kvs, o ≠ .dK kvs) (h3 : ∀ C dx fs, o ≠ .ins C dx fs) (h4 : ∀ φ, o ≠ .ext φ := by exact fun _ z => (nomatch z)) : s a = none ∨ s a = some .hid := by
  cases e : s a with
  | none => exact .inl rfl
  | some m =>
    have r := rep a m e
    cases m with
    | hid => exact .inr rfl
    | lst ds => obtain ⟨xs, q, _⟩ := r; rw [h] at q; cases q; exact absurd rfl (h1 xs)
    | dK ks => obtain ⟨xs, q, _⟩ := r; rw [h] at q; cases q; exact absurd rfl (h2 xs)
    | ins C fs => obtain ⟨dx, gs, q, _⟩ := r; rw [h] at q; cases q; exact absurd rfl (h3 C dx gs)
    | exc C fs => obtain ⟨dx, gs, q, _⟩ := r; rw [h] at q; exact absurd (Option.some.inj q) (h4 _)
theorem sqT_step (st : Stp s H s' H') (rep : Rep K s H) {a : Addr} {xs : List V} (h : SqT K H a xs) : SqT K H' a xs := by
  rcases h with (h | ⟨o, h⟩) | h
  · exact .inl (.inl (st a _ h (rep.imm h (fun _ z => nomatch z) (fun _ z => nomatch z) (fun _ _ _ z => nomatch z))).1)
  · exact .inl (.inr ⟨o, (st a _ h (rep.imm h (fun _ z => nomatch z) (fun _ z => nomatch z) (fun _ _ _ z => nomatch z))).1⟩)
  · exact .inr h
theorem scrL_step (st : Stp s H s' H') (rep : Rep K s H) {a : Addr} {xs : List V} (h : ScrL K H a xs) : ScrL K H' a xs := by
  rcases h with ⟨o, h⟩ | h
  · exact .inl ⟨o, (st a _ h (rep.imm h (fun _ z => nomatch z) (fun _ z => nomatch z) (fun _ _ _ z => nomatch z))).1⟩
  · exact .inr h
theorem ScrL.sq {a : Addr} {xs : List V} (h : ScrL K H a xs) : SqL K H a xs := by
  rcases h with ⟨o, h⟩ | h
  · exact .inl (.inr ⟨o, h⟩)
  · exact .inr h
mutual
theorem Dat.step (st : Stp s H s' H') (rep : Rep K s H) : ∀ {v : V} {d : DV}, Dat K s H v d → Dat K s' H' v d
  | _, _, .non => .non
  | _, _, .bl b => .bl b
  | _, _, .int i => .int i
  | _, _, .str x => .str x
  | _, _, .ty n => .ty n
  | _, _, .ref a => .ref a
  | _, _, .tup h l => .tup (sqT_step st rep h) (DatL.step st rep l)
  | _, _, .lst h n l => .lst (st _ _ h (.inl n)).1 ((st _ _ h (.inl n)).2.trans n) (DatL.step st rep l)
  | _, _, .scr h l => .scr (scrL_step st rep h) (DatL.step st rep l)
theorem DatL.step (st : Stp s H s' H') (rep : Rep K s H) : ∀ {vs : List V} {ds : List DV}, DatL K s H vs ds → DatL K s' H' vs ds
  | _, _, .nil => .nil
  | _, _, .cons h t => .cons (Dat.step st rep h) (DatL.step st rep t)
end
theorem DatP.step {κ : Type} (st : Stp s H s' H') (rep : Rep K s H) : ∀ {vs : List (κ × V)} {ds : List (κ × DV)}, DatP K s H vs ds → DatP K s' H' vs ds
  | _, _, .nil => .nil
  | _, _, .cons h t => .cons ⟨h.1, h.2.step st rep⟩ (DatP.step st rep t)
theorem RepO.step (st : Stp s H s' H') (rep : Rep K s H) {a : Addr} {m : MO} (ha : H' a = H a) (h : RepO K s H a m) : RepO K s' H' a m := by
  cases m with
  | hid => obtain ⟨o, h⟩ := h; exact ⟨o, ha.trans h⟩
  | lst ds => obtain ⟨xs, h, l⟩ := h; exact ⟨xs, ha.trans h, l.step st rep⟩
  | dK ks => obtain ⟨xs, h, l⟩ := h; exact ⟨xs, ha.trans h, l.step st rep⟩
  | ins C fs => obtain ⟨dx, xs, h, l⟩ := h; exact ⟨dx, xs, ha.trans h, l.step st rep⟩
  | exc C fs =>
    obtain ⟨dx, xs, h, l, hx, n⟩ := h
    obtain ⟨h1, e1⟩ := st dx _ hx (.inl n)
    exact ⟨dx, xs, ha.trans h, l.step st rep, h1, e1.trans n⟩
/-- one address changes (or is new) -/
theorem Rep.put (rep : Rep K s H) {p : Addr} {m : MO} {o : HO} (st : Stp s H (up s p m) (upd H p o)) (h : RepO K (up s p m) (upd H p o) p m) : Rep K (up s p m) (upd H p o) := fun a n e => by
  by_cases ne : a = p
  · subst ne
    rw [up_same] at e
    cases e
    exact h
  · rw [up_ne ne] at e
    exact (rep a n e).step st rep (upd_ne ne)
theorem Rep.newF (rep : Rep K s H) {p : Addr} {o : HO} (h : H p = none) : Rep K s (upd H p o) := fun a n e => by
  have ne : a ≠ p := fun z => by
    obtain ⟨u, q⟩ := rep.known e
    rw [z, h] at q
    cases q
  exact (rep a n e).step (Stp.newF h) rep (upd_ne ne)
/-- dropping entries of the store -/
structure Sub (s' s : Sto) : Prop where
  le : ∀ a m, s' a = some m → s a = some m
  hid : ∀ a, s a = some .hid → s' a = some .hid
theorem Sub.refl (s : Sto) : Sub s s := ⟨fun _ _ h => h, fun _ h => h⟩
theorem Sub.trans {s1 s2 s3 : Sto} (a : Sub s1 s2) (b : Sub s2 s3) : Sub s1 s3 := ⟨fun x m h => b.le x m (a.le x m h), fun x h => a.hid x (b.hid x h)⟩
theorem Sub.er {s : Sto} {a : Addr} (h : s a ≠ some .hid) : Sub (er s a) s := ⟨fun x m e => by
  by_cases z : x = a
  · rw [z, er_same] at e; cases e
  · rw [er_ne z] at e; exact e, fun x e => by
  by_cases z : x = a
  · rw [z] at e; exact absurd e h
  · rw [er_ne z]; exact e⟩
theorem Sub.none {s s' : Sto} (b : Sub s' s) {a : Addr} (h : s a = none) : s' a = Option.none := by
  cases e : s' a with
  | none => rfl
  | some m => rw [b.le a m e] at h; cases h
mutual
theorem Dat.subN (b : ∀ a, s a = none → s' a = none) : ∀ {v : V} {d : DV}, Dat K s H v d → Dat K s' H v d
  | _, _, .non => .non
  | _, _, .bl b => .bl b
  | _, _, .int i => .int i
  | _, _, .str x => .str x
  | _, _, .ty n => .ty n
  | _, _, .ref a => .ref a
  | _, _, .tup h l => .tup h (DatL.subN b l)
  | _, _, .lst h n l => .lst h (b _ n) (DatL.subN b l)
  | _, _, .scr h l => .scr h (DatL.subN b l)
theorem DatL.subN (b : ∀ a, s a = none → s' a = none) : ∀ {vs : List V} {ds : List DV}, DatL K s H vs ds → DatL K s' H vs ds
  | _, _, .nil => .nil
  | _, _, .cons h t => .cons (Dat.subN b h) (DatL.subN b t)
end
theorem DatP.subN {κ : Type} (b : ∀ a, s a = none → s' a = none) : ∀ {vs : List (κ × V)} {ds : List (κ × DV)}, DatP K s H vs ds → DatP K s' H vs ds
  | _, _, .nil => .nil
  | _, _, .cons h t => .cons ⟨h.1, h.2.subN b⟩ (DatP.subN b t)
theorem RepO.subN (b : ∀ a, s a = none → s' a = none) {a : Addr} {m : MO} (h : RepO K s H a m) : RepO K s' H a m := by
  cases m with
  | hid => exact h
  | lst ds => obtain ⟨xs, h, l⟩ := h; exact ⟨xs, h, l.subN b⟩
  | dK ks => obtain ⟨xs, h, l⟩ := h; exact ⟨xs, h, l.subN b⟩
  | ins C fs => obtain ⟨dx, xs, h, l⟩ := h; exact ⟨dx, xs, h, l.subN b⟩
  | exc C fs => obtain ⟨dx, xs, h, l, hx, n⟩ := h; exact ⟨dx, xs, h, l.subN b, hx, b dx n⟩
theorem Dat.sub (b : Sub s' s) {v : V} {d : DV} (h : Dat K s H v d) : Dat K s' H v d := h.subN fun _ => b.none
theorem DatL.sub (b : Sub s' s) {v : List V} {d : List DV} (h : DatL K s H v d) : DatL K s' H v d := h.subN fun _ => b.none
theorem DatP.sub {κ : Type} (b : Sub s' s) {v : List (κ × V)} {d : List (κ × DV)} (h : DatP K s H v d) : DatP K s' H v d := h.subN fun _ => b.none
theorem Rep.sub (b : Sub s' s) (rep : Rep K s H) : Rep K s' H := fun a m e => (rep a m (b.le a m e)).subN fun _ => b.none
/-- a hidden entry goes -/
theorem Rep.erase (rep : Rep K s H) (p : Addr) : Rep K (er s p) H := fun a m e => by
  have ne : a ≠ p := fun z => by rw [z, er_same] at e; cases e
  rw [er_ne ne] at e
  refine (rep a m e).subN fun x h => ?_
  by_cases z : x = p
  · rw [z, er_same]
  · rw [er_ne z]; exact h
theorem erN {p : Addr} : ∀ a, s a = none → er s p a = none := fun x h => by
  by_cases z : x = p
  · rw [z, er_same]
  · rw [er_ne z]; exact h
/-- a hidden list changes -/
theorem sqT_hid {D : Addr} {xs : List V} {o : HO} (hD : H D = some (.lst xs)) {a : Addr} {ys : List V} (h : SqT K H a ys) : SqT K (upd H D o) a ys := by
  rcases h with (h | ⟨u, h⟩) | h
  · exact .inl (.inl (by rw [upd_ne (ne_of h hD (fun z => nomatch z))]; exact h))
  · exact .inl (.inr ⟨u, by rw [upd_ne (ne_of h hD (fun z => nomatch z))]; exact h⟩)
  · exact .inr h
mutual
theorem Dat.hid {D : Addr} {xs : List V} {o : HO} (hs : s D = some .hid) (hD : H D = some (.lst xs)) : ∀ {v : V} {d : DV}, Dat K s H v d → Dat K s (upd H D o) v d
  | _, _, .non => .non
  | _, _, .bl b => .bl b
  | _, _, .int i => .int i
  | _, _, .str x => .str x
  | _, _, .ty n => .ty n
  | _, _, .ref a => .ref a
  | _, _, .tup h l => .tup (sqT_hid hD h) (DatL.hid hs hD l)
  | _, _, .lst (a := a) h n l => .lst (by rw [upd_ne (fun z => by rw [z, hs] at n; cases n)]; exact h) n (DatL.hid hs hD l)
  | _, _, .scr h l => .scr (by
      rcases h with ⟨u, h⟩ | h
      · exact .inl ⟨u, by rw [upd_ne (ne_of h hD (fun z => nomatch z))]; exact h⟩
      · exact .inr h) (DatL.hid hs hD l)
theorem DatL.hid {D : Addr} {xs : List V} {o : HO} (hs : s D = some .hid) (hD : H D = some (.lst xs)) : ∀ {vs : List V} {ds : List DV}, DatL K s H vs ds → DatL K s (upd H D o) vs ds
  | _, _, .nil => .nil
  | _, _, .cons h t => .cons (Dat.hid hs hD h) (DatL.hid hs hD t)
end
theorem DatP.hid {κ : Type} {D : Addr} {xs : List V} {o : HO} (hs : s D = some .hid) (hD : H D = some (.lst xs)) : ∀ {vs : List (κ × V)} {ds : List (κ × DV)}, DatP K s H vs ds → DatP K s (upd H D o) vs ds
  | _, _, .nil => .nil
  | _, _, .cons h t => .cons ⟨h.1, h.2.hid hs hD⟩ (DatP.hid hs hD t)
theorem Rep.hidden (rep : Rep K s H) {D : Addr} {xs : List V} {o : HO} (hs : s D = some .hid) (hD : H D = some (.lst xs)) : Rep K s (upd H D o) := fun a m e => by
  have h := rep a m e
  by_cases z : a = D
  · subst z
    rw [hs] at e; cases e
    exact ⟨o, upd_same⟩
  · cases m with
    | hid => obtain ⟨u, h⟩ := h; exact ⟨u, by rw [upd_ne z]; exact h⟩
    | lst ds => obtain ⟨ys, h, l⟩ := h; exact ⟨ys, by rw [upd_ne z]; exact h, l.hid hs hD⟩
    | dK ks => obtain ⟨ys, h, l⟩ := h; exact ⟨ys, by rw [upd_ne z]; exact h, l.hid hs hD⟩
    | ins C fs => obtain ⟨dx, ys, h, l⟩ := h; exact ⟨dx, ys, by rw [upd_ne z]; exact h, l.hid hs hD⟩
    | exc C fs => obtain ⟨dx, ys, h, l, hx, n⟩ := h; exact ⟨dx, ys, by rw [upd_ne z]; exact h, l.hid hs hD, by rw [upd_ne (fun e => by rw [e, hs] at n; cases n)]; exact hx, n⟩
theorem Stp.sub {s0 : Sto} {H0 : Hp} (st : Stp s0 H0 s H) (b : Sub s' s) : Stp s0 H0 s' H := fun a o h n => by
  obtain ⟨h1, e1⟩ := st a o h n
  refine ⟨h1, ?_⟩
  rcases n with n | n
  · rw [n]; exact b.none (e1.trans n)
  · rw [n]; exact b.hid a (e1.trans n)
theorem Dat.lstInv {v : V} {ds : List DV} (h : Dat K s H v (.lst ds)) : ∃ a xs, v = .ref a ∧ H a = some (.lst xs) ∧ s a = none ∧ DatL K s H xs ds := by
  cases h with
  | lst h n l => exact ⟨_, _, rfl, h, n, l⟩
theorem Dat.scrInv {v : V} {ds : List DV} (h : Dat K s H v (.scr ds)) : ∃ a xs, v = .ref a ∧ ScrL K H a xs ∧ DatL K s H xs ds := by
  cases h with
  | scr h l => exact ⟨_, _, rfl, h, l⟩
theorem Dat.tupInv {v : V} {ds : List DV} (h : Dat K s H v (.tup ds)) : ∃ a xs, v = .ref a ∧ SqT K H a xs ∧ DatL K s H xs ds := by
  cases h with
  | tup h l => exact ⟨_, _, rfl, h, l⟩
theorem Dat.intInv {v : V} {i : Int} (h : Dat K s H v (.int i)) : v = .int i := by cases h; rfl
theorem Dat.strInv {v : V} {i : Str} (h : Dat K s H v (.str i)) : v = .str i := by cases h; rfl
theorem Dat.blInv {v : V} {i : Bool} (h : Dat K s H v (.bl i)) : v = .bl i := by cases h; rfl
theorem Dat.nonInv {v : V} (h : Dat K s H v .non) : v = .non := by cases h; rfl
theorem Dat.refInv {v : V} {a : Addr} (h : Dat K s H v (.ref a)) : v = .ref a := by cases h; rfl
theorem Dat.tyInv {v : V} {n : String} (h : Dat K s H v (.ty n)) : v = .ty n := by cases h; rfl
theorem DatL.length : ∀ {vs : List V} {ds : List DV}, DatL K s H vs ds → vs.length = ds.length
  | _, _, .nil => rfl
  | _, _, .cons _ t => congrArg Nat.succ t.length
theorem DatL.get : ∀ {vs : List V} {ds : List DV} {i : Nat} {v : V}, DatL K s H vs ds → vs[i]? = some v → ∃ d, ds[i]? = some d ∧ Dat K s H v d
  | _, _, _, _, .nil, e => by simp at e
  | _, _, 0, _, .cons h _, e => ⟨_, rfl, by cases (Option.some.inj e); exact h⟩
  | _, _, i + 1, _, .cons _ t, e => DatL.get (i := i) t e
theorem DatL.get' : ∀ {vs : List V} {ds : List DV} {i : Nat} {d : DV}, DatL K s H vs ds → ds[i]? = some d → ∃ v, vs[i]? = some v ∧ Dat K s H v d
  | _, _, _, _, .nil, e => by simp at e
  | _, _, 0, _, .cons h _, e => ⟨_, rfl, by cases (Option.some.inj e); exact h⟩
  | _, _, i + 1, _, .cons _ t, e => DatL.get' (i := i) t e
theorem DatL.append : ∀ {vs ws : List V} {ds es : List DV}, DatL K s H vs ds → DatL K s H ws es → DatL K s H (vs ++ ws) (ds ++ es)
  | _, _, _, _, .nil, b => b
  | _, _, _, _, .cons h t, b => .cons h (t.append b)
theorem DatL.take : ∀ {vs : List V} {ds : List DV} (n : Nat), DatL K s H vs ds → DatL K s H (vs.take n) (ds.take n)
  | _, _, 0, _ => .nil
  | _, _, _ + 1, .nil => .nil
  | _, _, n + 1, .cons h t => .cons h (t.take n)
theorem DatL.drop : ∀ {vs : List V} {ds : List DV} (n : Nat), DatL K s H vs ds → DatL K s H (vs.drop n) (ds.drop n)
  | _, _, 0, r => r
  | _, _, _ + 1, .nil => .nil
  | _, _, n + 1, .cons _ t => t.drop n
theorem DatL.setAt {v : V} {d : DV} (h : Dat K s H v d) : ∀ {vs : List V} {ds : List DV} (i : Nat), DatL K s H vs ds → DatL K s H (vs.set i v) (ds.set i d)
  | _, _, _, .nil => .nil
  | _, _, 0, .cons _ t => .cons h t
  | _, _, i + 1, .cons q t => .cons q (t.setAt h i)
theorem DatL.strs : ∀ {vs : List V} {zs : List Str}, DatL K s H vs (zs.map DV.str) → vs = zs.map V.str
  | _, [], .nil => rfl
  | _, z :: zs, .cons h t => by cases h; rw [DatL.strs t]; rfl
theorem DatL.of_strs : ∀ (zs : List Str), DatL K s H (zs.map V.str) (zs.map DV.str)
  | [] => .nil
  | z :: zs => .cons (.str z) (DatL.of_strs zs)
theorem DatL.of_ints : ∀ (zs : List Int), DatL K s H (zs.map V.int) (zs.map DV.int)
  | [] => .nil
  | z :: zs => .cons (.int z) (DatL.of_ints zs)
theorem DatL.flatten_rep {vs : List V} {ds : List DV} (h : DatL K s H vs ds) : ∀ n, DatL K s H (List.replicate n vs).flatten (List.replicate n ds).flatten
  | 0 => .nil
  | n + 1 => by
    rw [List.replicate_succ, List.replicate_succ, List.flatten_cons, List.flatten_cons]
    exact h.append (h.flatten_rep n)
end
end DL

set_option Elab.async false
set_option linter.all false
set_option maxRecDepth 100000
set_option maxHeartbeats 4000000
namespace DL
open PySem PySem.Spec PyProof.Rows L2

abbrev Ed := List (Option DV)
abbrev KD := DV → Sto → Prop
abbrev TEd := Ed → Sto → KD → Prop
abbrev TTd := Ed → Sto → (Bool → Sto → Prop) → Prop
abbrev TAd := Ed → Sto → (List DV → Sto → Prop) → Prop
structure EndsD where
  nx : Ed → Sto → Prop
  rt : KD
  bk : Ed → Sto → Prop := fun _ _ => False
  ct : Ed → Sto → Prop := fun _ _ => False
abbrev TSd := EndsD → Ed → Sto → Prop
abbrev TGd := DV → Ed → Sto → (Ed → Sto → Prop) → Prop
abbrev TGsd := List DV → Ed → Sto → (Ed → Sto → Prop) → Prop
/-- where a def began -/
structure Anc where
  s : Sto
  H : Hp
structure EnvR (K : PySem.W.Frag) (s : Sto) (H : Hp) (σ : L2.St) (δ : Ed) : Prop where
  len : σ.length = δ.length
  at_ : ∀ (i : Nat) (d : DV), δ[i]? = some (some d) → ∃ v, σ[i]? = some (some v) ∧ Dat K s H v d
structure Sd (K : PySem.W.Frag) (A : Anc) (σ : L2.St) (H : Hp) (δ : Ed) (s : Sto) : Prop where
  stp : Stp A.s A.H s H
  rep : Rep K s H
  env : EnvR K s H σ δ
section
variable {K : PySem.W.Frag} {A : Anc} {σ : L2.St} {H H2 : Hp} {δ : Ed} {s s2 : Sto}
theorem EnvR.step (e : EnvR K s H σ δ) (st : Stp s H s2 H2) (rep : Rep K s H) : EnvR K s2 H2 σ δ := ⟨e.len, fun i d h => by
  obtain ⟨v, h1, h2⟩ := e.at_ i d h
  exact ⟨v, h1, h2.step st rep⟩⟩
theorem Sd.go (S : Sd K A σ H δ s) (st : Stp s H s2 H2) (rep : Rep K s2 H2) : Sd K A σ H2 δ s2 := ⟨S.stp.trans st, rep, S.env.step st S.rep⟩
theorem EnvR.set (e : EnvR K s H σ δ) {v : V} {d : DV} (h : Dat K s H v d) (i : Nat) : EnvR K s H (σ.set i (some v)) (δ.set i (some d)) := ⟨by simp [e.len], fun j x hj => by
  by_cases c : i = j
  · subst c
    have hl : i < (δ.set i (some d)).length := by
      rcases Nat.lt_or_ge i (δ.set i (some d)).length with z | z
      · exact z
      · rw [List.getElem?_eq_none z] at hj; cases hj
    have hd : i < δ.length := by simpa using hl
    rw [List.getElem?_set_self hd] at hj
    cases hj
    exact ⟨v, List.getElem?_set_self (by rw [e.len]; exact hd), h⟩
  · rw [List.getElem?_set_ne c] at hj
    rw [List.getElem?_set_ne c]
    exact e.at_ j x hj⟩
theorem EnvR.unset (e : EnvR K s H σ δ) (i : Nat) (v : Option V) : EnvR K s H (σ.set i v) (δ.set i none) := ⟨by simp [e.len], fun j x hj => by
  by_cases c : i = j
  · subst c
    rcases Nat.lt_or_ge i δ.length with z | z
    · rw [List.getElem?_set_self z] at hj; cases hj
    · rw [List.set_eq_of_length_le z, List.getElem?_eq_none z] at hj; cases hj
  · rw [List.getElem?_set_ne c] at hj
    rw [List.getElem?_set_ne c]
    exact e.at_ j x hj⟩
end
def lE (K : PySem.W.Frag) (A : Anc) (t : TEd) : TE := fun σ H Q => ∃ δ s Q', Sd K A σ H δ s ∧ t δ s Q' ∧ ∀ v H2 d s2, Stp s H s2 H2 → Rep K s2 H2 → Dat K s2 H2 v d → Q' d s2 → Q v H2
def lT (K : PySem.W.Frag) (A : Anc) (t : TTd) : TT := fun σ H Q => ∃ δ s Q', Sd K A σ H δ s ∧ t δ s Q' ∧ ∀ b H2 s2, Stp s H s2 H2 → Rep K s2 H2 → Q' b s2 → Q b H2
def lA (K : PySem.W.Frag) (A : Anc) (t : TAd) : TA := fun σ H Q => ∃ δ s Q', Sd K A σ H δ s ∧ t δ s Q' ∧ ∀ vs H2 ds s2, Stp s H s2 H2 → Rep K s2 H2 → DatL K s2 H2 vs ds → Q' ds s2 → Q vs H2
structure Lnk (K : PySem.W.Frag) (A : Anc) (D' : EndsD) (D : Ends) : Prop where
  nx : ∀ σ H δ s, Sd K A σ H δ s → D'.nx δ s → D.nx σ H
  bk : ∀ σ H δ s, Sd K A σ H δ s → D'.bk δ s → D.bk σ H
  ct : ∀ σ H δ s, Sd K A σ H δ s → D'.ct δ s → D.ct σ H
  rt : ∀ v H d s, Stp A.s A.H s H → Rep K s H → Dat K s H v d → D'.rt d s → D.rt v H
def lS (K : PySem.W.Frag) (A : Anc) (t : TSd) : TS := fun D σ H => ∃ δ s D', Sd K A σ H δ s ∧ t D' δ s ∧ Lnk K A D' D
def lG (K : PySem.W.Frag) (A : Anc) (g : TGd) : TG := fun v σ H Q => ∃ d δ s Q', Sd K A σ H δ s ∧ Dat K s H v d ∧ g d δ s Q' ∧ ∀ σ2 H2 δ2 s2, Sd K A σ2 H2 δ2 s2 → Q' δ2 s2 → Q σ2 H2
def lGs (K : PySem.W.Frag) (A : Anc) (g : TGsd) : TGs := fun v σ H Q => ∃ d δ s Q', Sd K A σ H δ s ∧ DatL K s H v d ∧ g d δ s Q' ∧ ∀ σ2 H2 δ2 s2, Sd K A σ2 H2 δ2 s2 → Q' δ2 s2 → Q σ2 H2
abbrev PD (A : Anc) (X : Cx) (e : Expr) (t : TEd) : Prop := PE X e (lE X.K A t)
abbrev PTd (A : Anc) (X : Cx) (e : Expr) (t : TTd) : Prop := PT X e (lT X.K A t)
abbrev PWd (A : Anc) (X : Cx) (e : Expr) (t : TTd) : Prop := PW X e (lT X.K A t)
abbrev PAd (A : Anc) (X : Cx) (es : List Expr) (t : TAd) : Prop := PA X es (lA X.K A t)
abbrev PSd (A : Anc) (X : Cx) (st : Stmt) (t : TSd) : Prop := PS X st (lS X.K A t)
abbrev PSsd (A : Anc) (X : Cx) (st : List Stmt) (t : TSd) : Prop := PSs X st (lS X.K A t)
abbrev PGd (A : Anc) (X : Cx) (e : Expr) (g : TGd) : Prop := PG X e (lG X.K A g)
abbrev PGsd (A : Anc) (X : Cx) (es : List Expr) (g : TGsd) : Prop := PGs X es (lGs X.K A g)

section
variable {X : Cx} {e : Expr} {es : List Expr} {st : Stmt} {sts : List Stmt}
theorem peImp {t t' : TE} (h : PE X e t) (w : ∀ σ H Q, t' σ H Q → t σ H Q) : PE X e t' := ⟨fun pins s σ H Q I q => h.run pins s σ H Q I (w _ _ _ q)⟩
theorem ptImp {t t' : TT} (h : PT X e t) (w : ∀ σ H Q, t' σ H Q → t σ H Q) : PT X e t' := ⟨fun pins s σ H Q I q => h.run pins s σ H Q I (w _ _ _ q)⟩
theorem pwImp {t t' : TT} (h : PW X e t) (w : ∀ σ H Q, t' σ H Q → t σ H Q) : PW X e t' := ⟨fun wh pins s σ H Q I q => h.run wh pins s σ H Q I (w _ _ _ q)⟩
theorem paImp {t t' : TA} (h : PA X es t) (w : ∀ σ H Q, t' σ H Q → t σ H Q) : PA X es t' := ⟨fun pos pins s σ H Q I q => h.run pos pins s σ H Q I (w _ _ _ q)⟩
theorem psImp {t t' : TS} (h : PS X st t) (w : ∀ D σ H, t' D σ H → t D σ H) : PS X st t' := ⟨fun pins s σ H D I q => h.run pins s σ H D I (w _ _ _ q)⟩
theorem pssImp {t t' : TS} (h : PSs X sts t) (w : ∀ D σ H, t' D σ H → t D σ H) : PSs X sts t' := ⟨fun pins s σ H D I q => h.run pins s σ H D I (w _ _ _ q)⟩
theorem pgImp {t t' : TG} (h : PG X e t) (w : ∀ v σ H Q, t' v σ H Q → t v σ H Q) : PG X e t' := ⟨fun pins s σ H v u Q I r q => h.run pins s σ H v u Q I r (w _ _ _ _ q)⟩
theorem pgsImp {t t' : TGs} (h : PGs X es t) (w : ∀ v σ H Q, t' v σ H Q → t v σ H Q) : PGs X es t' := ⟨fun pins s σ H v u Q I r q => h.run pins s σ H v u Q I r (w _ _ _ _ q)⟩
end

/-! ### names and constants -/
def dVar (i : Nat) (δ : Ed) (s : Sto) (Q : KD) : Prop := match δ.getD i none with
  | some d => Q d s
  | none => False
def dC (d : DV) (δ : Ed) (s : Sto) (Q : KD) : Prop := Q d s
section
variable {A : Anc} {X : Cx} {pos : Pos}
theorem dpv (i : Nat) {x : Str} (hN : X.N[i]? = some x := by rfl) (hv : Vis X.env.scope x := by first | exact Or.inl rfl | exact Or.inr (Or.inl rfl) | exact Or.inr (Or.inr rfl)) (hd : (x == ("__debug__" : Str)) = false := by decide)
    (hcd : (x == ("__classdict__" : Str)) = false := by decide) : PD A X (.Name x pos) (dVar i) := peImp (pe_var hN hv hd hcd) fun σ H Q h => by
  obtain ⟨δ, s, Q', S, t, k⟩ := h
  unfold dVar at t
  cases e : δ.getD i none with
  | none => rw [e] at t; exact False.elim t
  | some d =>
    rw [e] at t
    have e2 : δ[i]? = some (some d) := by
      rw [List.getD_eq_getElem?_getD] at e
      cases q : δ[i]? with
      | none => rw [q] at e; cases e
      | some o => rw [q] at e; exact congrArg some e
    obtain ⟨v, h1, h2⟩ := S.env.at_ i d e2
    exact ⟨v, h1, k v H d s (Stp.refl s H) S.rep h2 t⟩
theorem dconst {e : Expr} {v : V} {d : DV} (h : PE X e (tC v)) (hd : ∀ K s H, Dat K s H v d) : PD A X e (dC d) := peImp h fun σ H Q h => by
  obtain ⟨δ, s, Q', S, t, k⟩ := h
  exact k v H d s (Stp.refl s H) S.rep (hd _ _ _) t
theorem dint {i j} : PD A X (.Constant (.int i) j pos) (dC (.int i)) := dconst pe_int fun _ _ _ => .int _
theorem dbl {i j} : PD A X (.Constant (.bool i) j pos) (dC (.bl i)) := dconst pe_bl fun _ _ _ => .bl _
theorem dnon {j} : PD A X (.Constant .none j pos) (dC .non) := dconst pe_non fun _ _ _ => .non
theorem dstr {i j} : PD A X (.Constant (.str i) j pos) (dC (.str i)) := dconst pe_str fun _ _ _ => .str _
/-- a module's constant that is no object -/
theorem dglob {x : Str} {v : V} {u : Value} {d : DV} (hm : X.mg x = some u) (r : RelV v u) (hd : ∀ K s H, Dat K s H v d) (hg : Gl X x := by rfl) (hb : (x == ("__debug__" : Str)) = false := by decide) : PD A X (.Name x pos) (dC d) :=
  dconst (pe_glob hg hm r hb) hd
theorem dbltn {x : Str} {n : String} (hm : X.mg x = none) (hv : bootBuiltins x = some (.type n)) (hg : Gl X x := by rfl) (hn : x ≠ "__name__" := by decide) (hb : (x == ("__debug__" : Str)) = false := by decide) : PD A X (.Name x pos) (dC (.ty n)) :=
  dconst (pe_bltn (v := .ty n) hg hm hv rfl hn hb) fun _ _ _ => .ty n
end

/-! ### operators -/
abbrev R2d := DV → DV → Sto → KD → Prop
def kOp2 (r : R2d) (Q : KD) (x y : DV) (s2 : Sto) : Prop := r x y s2 Q
def kOp1 (r : R2d) (tb : TEd) (δ : Ed) (Q : KD) (x : DV) (s1 : Sto) : Prop := tb δ s1 (kOp2 r Q x)
def dOp (r : R2d) (ta tb : TEd) (δ : Ed) (s : Sto) (Q : KD) : Prop := ta δ s (kOp1 r tb δ Q)
def lR (K : PySem.W.Frag) (r : R2d) : R2 := fun x y H Q => ∃ dx dy s Q', Rep K s H ∧ Dat K s H x dx ∧ Dat K s H y dy ∧ r dx dy s Q' ∧ ∀ v H2 d s2, Stp s H s2 H2 → Rep K s2 H2 → Dat K s2 H2 v d → Q' d s2 → Q v H2
abbrev OpD (X : Cx) (f : Value → Value → Sem Value) (r : R2d) : Prop := OpR X f (lR X.K r)
theorem opImp {X : Cx} {f : Value → Value → Sem Value} {r r' : R2} (h : OpR X f r) (w : ∀ x y H Q, r' x y H Q → r x y H Q) : OpR X f r' := fun pins s σ H x y v u Q I rx ry q => h pins s σ H x y v u Q I rx ry (w _ _ _ _ q)
theorem opOr {X : Cx} {f : Value → Value → Sem Value} {r r' : R2} (h : OpR X f r) (h' : OpR X f r') : OpR X f (fun x y H Q => r x y H Q ∨ r' x y H Q) := fun pins s σ H x y v u Q I rx ry q =>
  q.elim (fun q => h pins s σ H x y v u Q I rx ry q) fun q => h' pins s σ H x y v u Q I rx ry q
theorem lE_bin {K : PySem.W.Frag} {A : Anc} {r : R2d} {ta tb : TEd} {σ : L2.St} {H : Hp} {Q : VK} (h : lE K A (dOp r ta tb) σ H Q) : tOp (lR K r) (lE K A ta) (lE K A tb) σ H Q := by
  obtain ⟨δ, s, Q', S, t, k⟩ := h
  refine ⟨δ, s, _, S, t, fun v H1 d s1 st1 rep1 dv q1 => ?_⟩
  have S1 := S.go st1 rep1
  refine ⟨δ, s1, _, S1, q1, fun v2 H2 d2 s2 st2 rep2 dv2 q2 => ?_⟩
  exact ⟨d, d2, s2, _, rep2, dv.step st2 rep1, dv2, q2, fun v3 H3 d3 s3 st3 => k v3 H3 d3 s3 ((st1.trans st2).trans st3)⟩
section
variable {A : Anc} {X : Cx} {a b : Expr} {ta tb : TEd} {r : R2d} {pos : Pos}
theorem dop {op : Operator} (ho : OpD X (binaryOp op) r) (ha : PD A X a ta) (hb : PD A X b tb) : PD A X (.BinOp a op b pos) (dOp r ta tb) := peImp (pe_op ho ha hb) fun _ _ _ h => lE_bin h
theorem dcmp {op : CmpOp} (ho : OpD X (compareOp op) r) (ha : PD A X a ta) (hb : PD A X b tb) (hm : behindInMarks op b = false) : PD A X (.Compare a [op] [b] pos) (dOp r ta tb) := peImp (pe_cmpR ho ha hb hm) fun _ _ _ h => lE_bin h
/-- a test by a comparison -/
def kTest (Q : Bool → Sto → Prop) (d : DV) (s1 : Sto) : Prop := match d with
  | .bl b => Q b s1
  | _ => False
def dTest (t : TEd) (δ : Ed) (s : Sto) (Q : Bool → Sto → Prop) : Prop := t δ s (kTest Q)
theorem lT_test {K : PySem.W.Frag} {t : TEd} {σ : L2.St} {H : Hp} {Q : Bool → Hp → Prop} (h : lT K A (dTest t) σ H Q) : tTest (lE K A t) σ H Q := by
  obtain ⟨δ, s, Q', S, t, k⟩ := h
  refine ⟨δ, s, _, S, t, fun v H2 d s2 st rep dv q => ?_⟩
  cases d with
  | bl b => exact ⟨b, dv.blInv, k b H2 s2 st rep q⟩
  | _ => exact False.elim q
theorem dtcmp {op : CmpOp} (ho : OpD X (compareOp op) r) (ha : PD A X a ta) (hb : PD A X b tb) (hm : behindInMarks op b = false) : PTd A X (.Compare a [op] [b] pos) (dTest (dOp r ta tb)) :=
  ptImp (pt_cmpR ho ha hb hm) fun σ H Q h => by
    have h2 := lT_test h
    exact by
      obtain ⟨δ, s, Q', S, t, k⟩ := h2
      exact lE_bin ⟨δ, s, Q', S, t, k⟩
def kChain3 (r' : R2d) (tc : TEd) (δ : Ed) (Q : KD) (y z : DV) (s3 : Sto) : Prop := match z with
  | .bl true => tc δ s3 (kOp2 r' Q y)
  | .bl false => Q (.bl false) s3
  | _ => False
def kChain2 (r r' : R2d) (tc : TEd) (δ : Ed) (Q : KD) (x y : DV) (s2 : Sto) : Prop := r x y s2 (kChain3 r' tc δ Q y)
def kChain1 (r r' : R2d) (tb tc : TEd) (δ : Ed) (Q : KD) (x : DV) (s1 : Sto) : Prop := tb δ s1 (kChain2 r r' tc δ Q x)
def dChain (r r' : R2d) (ta tb tc : TEd) (δ : Ed) (s : Sto) (Q : KD) : Prop := ta δ s (kChain1 r r' tb tc δ Q)
theorem lE_chain {K : PySem.W.Frag} {r r' : R2d} {ta tb tc : TEd} {σ : L2.St} {H : Hp} {Q : VK} (h : lE K A (dChain r r' ta tb tc) σ H Q) : tChain (lR K r) (lR K r') (lE K A ta) (lE K A tb) (lE K A tc) σ H Q := by
  obtain ⟨δ, s, Q', S, t, k⟩ := h
  refine ⟨δ, s, _, S, t, fun v H1 d s1 st1 rep1 dv q1 => ?_⟩
  have S1 := S.go st1 rep1
  refine ⟨δ, s1, _, S1, q1, fun v2 H2 d2 s2 st2 rep2 dv2 q2 => ?_⟩
  refine ⟨d, d2, s2, _, rep2, dv.step st2 rep1, dv2, q2, fun v3 H3 d3 s3 st3 rep3 dv3 q3 => ?_⟩
  cases d3 with
  | bl b =>
    refine ⟨b, dv3.blInv, ?_⟩
    cases b with
    | true =>
      rw [if_pos rfl]
      refine ⟨δ, s3, _, (S1.go st2 rep2).go st3 rep3, q3, fun v4 H4 d4 s4 st4 rep4 dv4 q4 => ?_⟩
      exact ⟨d2, d4, s4, _, rep4, (dv2.step st3 rep2).step st4 rep3, dv4, q4, fun v5 H5 d5 s5 st5 => k v5 H5 d5 s5 ((((st1.trans st2).trans st3).trans st4).trans st5)⟩
    | false =>
      rw [if_neg Bool.false_ne_true]
      exact k _ H3 _ s3 ((st1.trans st2).trans st3) rep3 (.bl false) q3
  | _ => exact False.elim q3
variable {c : Expr} {tc : TEd} {r' : R2d}
theorem dchain {op op' : CmpOp} (ho : OpD X (compareOp op) r) (ho' : OpD X (compareOp op') r') (ha : PD A X a ta) (hb : PD A X b tb) (hc : PD A X c tc)
    (h : ∀ {t : TE}, t = tChain (lR X.K r) (lR X.K r') (lE X.K A ta) (lE X.K A tb) (lE X.K A tc) → PE X (.Compare a [op, op'] [b, c] pos) t) : PD A X (.Compare a [op, op'] [b, c] pos) (dChain r r' ta tb tc) :=
  peImp (h rfl) fun _ _ _ h => lE_chain h
end

/-! ### tests -/
def kAnd (u : TTd) (δ : Ed) (Q : Bool → Sto → Prop) (b : Bool) (s1 : Sto) : Prop := match b with
  | true => u δ s1 Q
  | false => Q false s1
def dAnd (t u : TTd) (δ : Ed) (s : Sto) (Q : Bool → Sto → Prop) : Prop := t δ s (kAnd u δ Q)
def kOr (u : TTd) (δ : Ed) (Q : Bool → Sto → Prop) (b : Bool) (s1 : Sto) : Prop := match b with
  | true => Q true s1
  | false => u δ s1 Q
def dOr (t u : TTd) (δ : Ed) (s : Sto) (Q : Bool → Sto → Prop) : Prop := t δ s (kOr u δ Q)
def kNot (Q : Bool → Sto → Prop) (b : Bool) (s1 : Sto) : Prop := Q (!b) s1
def dNot (t : TTd) (δ : Ed) (s : Sto) (Q : Bool → Sto → Prop) : Prop := t δ s (kNot Q)
section
variable {A : Anc} {X : Cx} {a b : Expr} {rest : List Expr} {t u : TTd} {ta tb : TEd} {pos : Pos}
theorem dpand (ha : PTd A X a t) (hb : PWd A X (.BoolOp .And (b :: rest) pos) u) : PWd A X (.BoolOp .And (a :: b :: rest) pos) (dAnd t u) := pwImp (pw_and ha hb) fun σ H Q h => by
  obtain ⟨δ, s, Q', S, t, k⟩ := h
  refine ⟨δ, s, _, S, t, fun b H2 s2 st rep q => ?_⟩
  cases b with
  | true => exact ⟨δ, s2, _, S.go st rep, q, fun b3 H3 s3 st3 => k b3 H3 s3 (st.trans st3)⟩
  | false => exact k false H2 s2 st rep q
theorem dpor (ha : PTd A X a t) (hb : PWd A X (.BoolOp .Or (b :: rest) pos) u) : PWd A X (.BoolOp .Or (a :: b :: rest) pos) (dOr t u) := pwImp (pw_or ha hb) fun σ H Q h => by
  obtain ⟨δ, s, Q', S, t, k⟩ := h
  refine ⟨δ, s, _, S, t, fun b H2 s2 st rep q => ?_⟩
  cases b with
  | false => exact ⟨δ, s2, _, S.go st rep, q, fun b3 H3 s3 st3 => k b3 H3 s3 (st.trans st3)⟩
  | true => exact k true H2 s2 st rep q
theorem dpand1 (ha : PTd A X a t) : PWd A X (.BoolOp .And [a] pos) t := pw_and1 ha
theorem dpor1 (ha : PTd A X a t) : PWd A X (.BoolOp .Or [a] pos) t := pw_or1 ha
theorem dpnot (ha : PTd A X a t) : PTd A X (.UnaryOp .Not a pos) (dNot t) := ptImp (pt_not ha) fun σ H Q h => by
  obtain ⟨δ, s, Q', S, t, k⟩ := h
  exact ⟨δ, s, _, S, t, fun b H2 s2 st rep q => k (!b) H2 s2 st rep q⟩
def kIf (ta tb : TEd) (δ : Ed) (Q : KD) (b : Bool) (s1 : Sto) : Prop := match b with
  | true => ta δ s1 Q
  | false => tb δ s1 Q
def dIf (t : TTd) (ta tb : TEd) (δ : Ed) (s : Sto) (Q : KD) : Prop := t δ s (kIf ta tb δ Q)
theorem difexp {c : Expr} (hc : PTd A X c t) (ha : PD A X a ta) (hb : PD A X b tb) : PD A X (.IfExp c a b pos) (dIf t ta tb) := peImp (pe_ifExp hc ha hb) fun σ H Q h => by
  obtain ⟨δ, s, Q', S, t, k⟩ := h
  refine ⟨δ, s, _, S, t, fun b H2 s2 st rep q => ?_⟩
  cases b with
  | true =>
    rw [if_pos rfl]
    exact ⟨δ, s2, _, S.go st rep, q, fun v3 H3 d3 s3 st3 => k v3 H3 d3 s3 (st.trans st3)⟩
  | false =>
    rw [if_neg Bool.false_ne_true]
    exact ⟨δ, s2, _, S.go st rep, q, fun v3 H3 d3 s3 st3 => k v3 H3 d3 s3 (st.trans st3)⟩
/-- a value's truth -/
def truD (s : Sto) : DV → Option Bool
  | .non => some false
  | .bl b => some b
  | .int i => some (i != 0)
  | .str z => if z.length ≤ sizeLine then some ((z.length : Int) != 0) else none
  | .tup ds => some (!ds.isEmpty)
  | .lst ds => some (!ds.isEmpty)
  | .scr ds => some (!ds.isEmpty)
  | .ref a => match s a with
    | some (.lst ds) => some (!ds.isEmpty)
    | some (.dK ks) => some (!ks.isEmpty)
    | _ => none
  | .ty _ => none
def kTru (Q : Bool → Sto → Prop) (d : DV) (s1 : Sto) : Prop := match truD s1 d with
  | some b => Q b s1
  | none => False
def dTru (t : TEd) (δ : Ed) (s : Sto) (Q : Bool → Sto → Prop) : Prop := t δ s (kTru Q)
theorem Paired.len0 {α β : Type} {R : α → β → Prop} {xs : List α} {ys : List β} (h : Paired R xs ys) : xs.isEmpty = ys.isEmpty := by cases h <;> rfl
theorem DatL.len0 {K : PySem.W.Frag} {s : Sto} {H : Hp} {xs : List V} {ys : List DV} (h : DatL K s H xs ys) : xs.isEmpty = ys.isEmpty := by cases h <;> rfl
theorem SqLof {K : PySem.W.Frag} {H : Hp} {a : Addr} {xs : List V} (h : Rd H a (.lst xs)) : SqL K H a xs := .inl h
theorem truV {K : PySem.W.Frag} {s : Sto} {H : Hp} {v : V} {d : DV} {b : Bool} (rep : Rep K s H) (h : Dat K s H v d) (e : truD s d = some b) : TruV K v H b := by
  cases h with
  | non => exact (Option.some.inj e).symm
  | bl b => exact (Option.some.inj e).symm
  | int i => exact (Option.some.inj e).symm
  | str z =>
    simp only [truD] at e
    split at e
    · exact ⟨‹_›, (Option.some.inj e).symm⟩
    · cases e
  | ty n => cases e
  | tup h l => exact .inr (.inl ⟨_, h, by rw [← Option.some.inj e, l.len0]⟩)
  | lst h n l => exact .inl ⟨_, SqL.of h, by rw [← Option.some.inj e, l.len0]⟩
  | scr h l => exact .inl ⟨_, h.sq, by rw [← Option.some.inj e, l.len0]⟩
  | ref a =>
    cases q : s a with
    | none => simp only [truD, q] at e; cases e
    | some m =>
      simp only [truD, q] at e
      have r := rep a m q
      cases m with
      | hid => cases e
      | ins C fs => cases e
      | exc C fs => cases e
      | lst ds => obtain ⟨xs, h1, h2⟩ := r; exact .inl ⟨xs, SqL.of h1, by rw [← Option.some.inj e, h2.len0]⟩
      | dK ks => obtain ⟨xs, h1, h2⟩ := r; exact .inr (.inr ⟨xs, h1, by rw [← Option.some.inj e, Paired.len0 h2]⟩)
theorem dtruth (ha : PD A X a ta) (he : ∀ whole, isTrue a X.env whole = (do let v ← whole; standAt a.pos; holding [v] (truthy v)) := by intro _; rfl) : PTd A X a (dTru ta) := ptImp (pt_truth ha he) fun σ H Q h => by
  obtain ⟨δ, s, Q', S, t, k⟩ := h
  refine ⟨δ, s, _, S, t, fun v H2 d s2 st rep dv q => ?_⟩
  unfold kTru at q
  cases e : truD s2 d with
  | none => rw [e] at q; exact False.elim q
  | some b => rw [e] at q; exact ⟨b, truV rep dv e, k b H2 s2 st rep q⟩
end

/-! ### argument lists, displays -/
def dNil (δ : Ed) (s : Sto) (Q : List DV → Sto → Prop) : Prop := Q [] s
def kCons2 (Q : List DV → Sto → Prop) (x : DV) (xs : List DV) (s2 : Sto) : Prop := Q (x :: xs) s2
def kCons1 (tr : TAd) (δ : Ed) (Q : List DV → Sto → Prop) (x : DV) (s1 : Sto) : Prop := tr δ s1 (kCons2 Q x)
def dCons (ta : TEd) (tr : TAd) (δ : Ed) (s : Sto) (Q : List DV → Sto → Prop) : Prop := ta δ s (kCons1 tr δ Q)
def kTup (Q : KD) (ds : List DV) (s1 : Sto) : Prop := ds.length ≤ sizeLine ∧ Q (.tup ds) s1
def dTup (t : TAd) (δ : Ed) (s : Sto) (Q : KD) : Prop := t δ s (kTup Q)
/-- a list that nobody will change -/
def kLst (Q : KD) (ds : List DV) (s1 : Sto) : Prop := ds.length ≤ sizeLine ∧ Q (.lst ds) s1
def dLst (t : TAd) (δ : Ed) (s : Sto) (Q : KD) : Prop := t δ s (kLst Q)
/-- a list in the store -/
def kLstM (Q : KD) (ds : List DV) (s1 : Sto) : Prop := ds.length ≤ sizeLine ∧ ∀ p, s1 p = none → Q (.ref p) (up s1 p (.lst ds))
def dLstM (t : TAd) (δ : Ed) (s : Sto) (Q : KD) : Prop := t δ s (kLstM Q)
/-- a list of the store is from now on seen through -/
def frzD (s : Sto) (d : DV) : DV × Sto := match d with
  | .ref a => match s a with
    | some (.lst ds) => (.lst ds, er s a)
    | _ => (d, s)
  | _ => (d, s)
def kFrz (Q : KD) (d : DV) (s1 : Sto) : Prop := Q (frzD s1 d).1 (frzD s1 d).2
def dFrz (t : TEd) (δ : Ed) (s : Sto) (Q : KD) : Prop := t δ s (kFrz Q)
section
variable {A : Anc} {X : Cx} {e : Expr} {es : List Expr} {te : TEd} {t : TAd} {pos : Pos}
theorem dan : PAd A X [] dNil := paImp pa_nil fun σ H Q h => by
  obtain ⟨δ, s, Q', S, t, k⟩ := h
  exact k [] H [] s (Stp.refl s H) S.rep .nil t
theorem dac (ha : PD A X e te) (hr : PAd A X es t) (hs : starEach (e :: es) X.env = (false, eval e X.env) :: starEach es X.env := by rfl) : PAd A X (e :: es) (dCons te t) := paImp (pa_cons ha hr hs) fun σ H Q h => by
  obtain ⟨δ, s, Q', S, t, k⟩ := h
  refine ⟨δ, s, _, S, t, fun v H1 d s1 st1 rep1 dv q1 => ?_⟩
  refine ⟨δ, s1, _, S.go st1 rep1, q1, fun vs H2 ds s2 st2 rep2 dvs q2 => ?_⟩
  exact k (v :: vs) H2 (d :: ds) s2 (st1.trans st2) rep2 (.cons (dv.step st2 rep1) dvs) q2
theorem dtup {x1} (h : PAd A X es t) : PD A X (.Tuple es x1 pos) (dTup t) := peImp (pe_tup h) fun σ H Q h => by
  obtain ⟨δ, s, Q', S, t, k⟩ := h
  refine ⟨δ, s, _, S, t, fun vs H1 ds s1 st1 rep1 dvs ⟨z, q⟩ => ⟨by rw [dvs.length]; exact z, fun p hp => ?_⟩⟩
  have st2 : Stp s1 H1 s1 (upd H1 p (.tup vs)) := Stp.newF hp
  exact k _ _ _ s1 (st1.trans st2) (rep1.newF hp) (.tup (SqT.of upd_same) (dvs.step st2 rep1)) q
theorem dlst (h : PAd A X es t) : PD A X (.List es pos) (dLst t) := peImp (pe_lst h) fun σ H Q h => by
  obtain ⟨δ, s, Q', S, t, k⟩ := h
  refine ⟨δ, s, _, S, t, fun vs H1 ds s1 st1 rep1 dvs ⟨z, q⟩ => ⟨by rw [dvs.length]; exact z, fun p hp => ?_⟩⟩
  have st2 : Stp s1 H1 s1 (upd H1 p (.lst vs)) := Stp.newF hp
  exact k _ _ _ s1 (st1.trans st2) (rep1.newF hp) (.lst upd_same (rep1.fresh hp) (dvs.step st2 rep1)) q
theorem new_lst {K : PySem.W.Frag} {s : Sto} {H : Hp} {p : Addr} {vs : List V} {ds : List DV} (rep : Rep K s H) (hp : H p = none) (h : DatL K s H vs ds) :
    Stp s H (up s p (.lst ds)) (upd H p (.lst vs)) ∧ Rep K (up s p (.lst ds)) (upd H p (.lst vs)) :=
  ⟨Stp.new hp, rep.put (Stp.new hp) ⟨vs, upd_same, h.step (Stp.new hp) rep⟩⟩
theorem dlstM (h : PAd A X es t) : PD A X (.List es pos) (dLstM t) := peImp (pe_lst h) fun σ H Q h => by
  obtain ⟨δ, s, Q', S, t, k⟩ := h
  refine ⟨δ, s, _, S, t, fun vs H1 ds s1 st1 rep1 dvs ⟨z, q⟩ => ⟨by rw [dvs.length]; exact z, fun p hp => ?_⟩⟩
  obtain ⟨st2, rep2⟩ := new_lst rep1 hp dvs
  exact k _ _ _ _ (st1.trans st2) rep2 (.ref p) (q p (rep1.fresh hp))
theorem frz_ok {K : PySem.W.Frag} {s : Sto} {H : Hp} {v : V} {d : DV} (rep : Rep K s H) (h : Dat K s H v d) : Stp s H (frzD s d).2 H ∧ Rep K (frzD s d).2 H ∧ Dat K (frzD s d).2 H v (frzD s d).1 := by
  have triv : Stp s H s H ∧ Rep K s H ∧ Dat K s H v d := ⟨Stp.refl s H, rep, h⟩
  by_cases q : ∃ a ds, d = .ref a ∧ s a = some (.lst ds)
  · obtain ⟨a, ds, rfl, e⟩ := q
    have z : frzD s (.ref a) = (.lst ds, er s a) := by simp only [frzD, e]
    rw [z]
    cases h
    obtain ⟨xs, h1, h2⟩ := rep a _ e
    have b : Sub (er s a) s := Sub.er (by rw [e]; intro z; cases z)
    exact ⟨(Stp.refl s H).sub b, rep.sub b, .lst h1 er_same (h2.sub b)⟩
  · have z : frzD s d = (d, s) := by
      unfold frzD
      split
      · split
        · exact absurd ⟨_, _, rfl, ‹_›⟩ q
        · rfl
      · rfl
    rw [z]
    exact triv
theorem dfrz (h : PD A X e te) : PD A X e (dFrz te) := peImp h fun σ H Q h => by
  obtain ⟨δ, s, Q', S, t, k⟩ := h
  refine ⟨δ, s, _, S, t, fun v H1 d s1 st1 rep1 dv q => ?_⟩
  obtain ⟨a, b, c⟩ := frz_ok rep1 dv
  exact k v H1 _ _ (st1.trans a) b c q
end

/-! ### statements -/
def dNext (D : EndsD) (δ : Ed) (s : Sto) : Prop := D.nx δ s
def dSeq (t u : TSd) (D : EndsD) (δ : Ed) (s : Sto) : Prop := t { D with nx := u D } δ s
def dBreak (D : EndsD) (δ : Ed) (s : Sto) : Prop := D.bk δ s
def dCont (D : EndsD) (δ : Ed) (s : Sto) : Prop := D.ct δ s
def kDrop (D : EndsD) (δ : Ed) (_ : DV) (s1 : Sto) : Prop := D.nx δ s1
def dDrop (te : TEd) (D : EndsD) (δ : Ed) (s : Sto) : Prop := te δ s (kDrop D δ)
def dRet (te : TEd) (D : EndsD) (δ : Ed) (s : Sto) : Prop := te δ s D.rt
/-- a return that drops entries of the store -/
def kRetS (D : EndsD) (d : DV) (s1 : Sto) : Prop := ∃ s2, Sub s2 s1 ∧ D.rt d s2
def dRetS (te : TEd) (D : EndsD) (δ : Ed) (s : Sto) : Prop := te δ s (kRetS D)
def dRetN (D : EndsD) (δ : Ed) (s : Sto) : Prop := D.rt .non s
def dGif (b : Bool) (t u : Sto → Prop) (s : Sto) : Prop := match b with
  | true => t s
  | false => u s
def kIfS (t u : TSd) (D : EndsD) (δ : Ed) (b : Bool) (s1 : Sto) : Prop := dGif b (t D δ) (u D δ) s1
def dIfS (c : TTd) (t u : TSd) (D : EndsD) (δ : Ed) (s : Sto) : Prop := c δ s (kIfS t u D δ)
def gNameD (i : Nat) (d : DV) (δ : Ed) (s : Sto) (Q : Ed → Sto → Prop) : Prop := Q (δ.set i (some d)) s
def kAsg (g : TGd) (D : EndsD) (δ : Ed) (x : DV) (s1 : Sto) : Prop := g x δ s1 D.nx
def dAsg (te : TEd) (g : TGd) (D : EndsD) (δ : Ed) (s : Sto) : Prop := te δ s (kAsg g D δ)
/-- what is known in between -/
def dCut (M : Ed → Sto → Prop) (t u : TSd) (D : EndsD) (δ : Ed) (s : Sto) : Prop := t { D with nx := M } δ s ∧ ∀ δ s, M δ s → u D δ s
theorem dGif_of {b : Bool} {t u : Sto → Prop} {s : Sto} (h1 : b = true → t s) (h2 : b = false → u s) : dGif b t u s := by
  cases b with
  | true => exact h1 rfl
  | false => exact h2 rfl
section
variable {A : Anc} {X : Cx} {st : Stmt} {rest : List Stmt} {t u : TSd} {e : Expr} {te : TEd} {g : TGd} {pos : Pos}
theorem dsn : PSsd A X [] dNext := pssImp pss_nil fun D σ H h => by
  obtain ⟨δ, s, D', S, t, L⟩ := h
  exact L.nx σ H δ s S t
theorem dsc (h1 : PSd A X st t) (h2 : PSsd A X rest u) : PSsd A X (st :: rest) (dSeq t u) := pssImp (pss_cons h1 h2) fun D σ H h => by
  obtain ⟨δ, s, D', S, t, L⟩ := h
  exact ⟨δ, s, _, S, t, ⟨fun σ1 H1 δ1 s1 S1 q => ⟨δ1, s1, D', S1, q, L⟩, L.bk, L.ct, L.rt⟩⟩
theorem ds1 (h1 : PSd A X st t) : PSsd A X [st] t := pss_one h1
theorem dscut (M : Ed → Sto → Prop) (h1 : PSd A X st t) (h2 : PSsd A X rest u) : PSsd A X (st :: rest) (dCut M t u) := pssImp (pss_cons h1 h2) fun D σ H h => by
  obtain ⟨δ, s, D', S, ⟨t, u⟩, L⟩ := h
  exact ⟨δ, s, _, S, t, ⟨fun σ1 H1 δ1 s1 S1 q => ⟨δ1, s1, D', S1, u δ1 s1 q, L⟩, L.bk, L.ct, L.rt⟩⟩
theorem dspass : PSd A X (.Pass pos) dNext := psImp ps_pass fun D σ H h => by
  obtain ⟨δ, s, D', S, t, L⟩ := h
  exact L.nx σ H δ s S t
theorem dsbreak : PSd A X (.Break pos) dBreak := psImp ps_break fun D σ H h => by
  obtain ⟨δ, s, D', S, t, L⟩ := h
  exact L.bk σ H δ s S t
theorem dscont : PSd A X (.Continue pos) dCont := psImp ps_continue fun D σ H h => by
  obtain ⟨δ, s, D', S, t, L⟩ := h
  exact L.ct σ H δ s S t
theorem dsexpr (he : PD A X e te) (hs : swapsWith e none pos.line X.env = pure false := by rfl) : PSd A X (.Expr e pos) (dDrop te) := psImp (ps_expr he hs) fun D σ H h => by
  obtain ⟨δ, s, D', S, t, L⟩ := h
  exact ⟨δ, s, _, S, t, fun v H2 d s2 st rep dv q => L.nx σ H2 δ s2 (S.go st rep) q⟩
theorem dsret (he : PD A X e te) : PSd A X (.Return (some e) pos) (dRet te) := psImp (ps_ret he) fun D σ H h => by
  obtain ⟨δ, s, D', S, t, L⟩ := h
  exact ⟨δ, s, _, S, t, fun v H2 d s2 st rep dv q => L.rt v H2 d s2 (S.stp.trans st) rep dv q⟩
theorem dsretS (he : PD A X e te) : PSd A X (.Return (some e) pos) (dRetS te) := psImp (ps_ret he) fun D σ H h => by
  obtain ⟨δ, s, D', S, t, L⟩ := h
  exact ⟨δ, s, _, S, t, fun v H2 d s2 st rep dv ⟨s3, b, q⟩ => L.rt v H2 d s3 ((S.stp.trans st).sub b) (rep.sub b) (dv.sub b) q⟩
theorem dsretN : PSd A X (.Return none pos) dRetN := psImp ps_retN fun D σ H h => by
  obtain ⟨δ, s, D', S, t, L⟩ := h
  exact L.rt .non H .non s S.stp S.rep .non t
theorem dsif {c : Expr} {a b : List Stmt} {tc : TTd} (hc : PTd A X c tc) (ha : PSsd A X a t) (hb : PSsd A X b u) : PSd A X (.If c a b pos) (dIfS tc t u) := psImp (ps_if hc ha hb) fun D σ H h => by
  obtain ⟨δ, s, D', S, t, L⟩ := h
  refine ⟨δ, s, _, S, t, fun b H2 s2 st rep q => ?_⟩
  cases b with
  | true => rw [if_pos rfl]; exact ⟨δ, s2, D', S.go st rep, q, L⟩
  | false => rw [if_neg Bool.false_ne_true]; exact ⟨δ, s2, D', S.go st rep, q, L⟩
theorem dsset {i : Nat} {x : Str} {pos' : Pos} (hN : X.N.Nodup) (hi : X.N[i]? = some x) (hx : Loc X.env.scope x) (he : PD A X e te) (hs : swapsWith e (some (.Name x pos')) pos.line X.env = pure false := by rfl)
    (hf : X.fn x = true ∨ X.env.scope.names.lookup x = some .local := by first | exact .inl rfl | exact .inr rfl | assumption) : PSd A X (.Assign [.Name x pos'] e pos) (dAsg te (gNameD i)) := psImp (ps_set hN hi hx he hs hf) fun D σ H h => by
  obtain ⟨δ, s, D', S, t, L⟩ := h
  exact ⟨δ, s, _, S, t, fun v H2 d s2 st rep dv q => L.nx _ H2 _ s2 ⟨S.stp.trans st, rep, (S.env.step st S.rep).set dv i⟩ q⟩
theorem dgname {i : Nat} {x : Str} (hN : X.N.Nodup) (hi : X.N[i]? = some x) (hx : Loc X.env.scope x) (hf : X.fn x = true ∨ X.env.scope.names.lookup x = some .local := by first | exact .inl rfl | exact .inr rfl | assumption) : PGd A X (.Name x pos) (gNameD i) :=
  pgImp (pg_name hN hi hx hf) fun v σ H Q h => by
    obtain ⟨d, δ, s, Q', S, dv, g, k⟩ := h
    exact k _ H _ s ⟨S.stp, S.rep, S.env.set dv i⟩ g
theorem dsasg {tg : Expr} (he : PD A X e te) (hg : PGd A X tg g) (hs : swapsWithSole [tg] e pos.line X.env = pure false := by rfl) (hw : swappedStores [tg] e X.env = pure none := by rfl)
    (h1 : (assignEach [tg] X.env).map (·.2) = [assign tg X.env] := by rfl) : PSd A X (.Assign [tg] e pos) (dAsg te g) := psImp (ps_asg he hg hs hw h1) fun D σ H h => by
  obtain ⟨δ, s, D', S, t, L⟩ := h
  exact ⟨δ, s, _, S, t, fun v H2 d s2 st rep dv q => ⟨d, δ, s2, _, S.go st rep, dv, q, L.nx⟩⟩
end
def gNilD (ds : List DV) (δ : Ed) (s : Sto) (Q : Ed → Sto → Prop) : Prop := ds = [] ∧ Q δ s
def kGCons (u : TGsd) (Q : Ed → Sto → Prop) (r : List DV) (δ' : Ed) (s' : Sto) : Prop := u r δ' s' Q
def gConsD (t : TGd) (u : TGsd) (ds : List DV) (δ : Ed) (s : Sto) (Q : Ed → Sto → Prop) : Prop := match ds with
  | d :: r => t d δ s (kGCons u Q r)
  | [] => False
def gTupD (n : Nat) (t : TGsd) (d : DV) (δ : Ed) (s : Sto) (Q : Ed → Sto → Prop) : Prop := match d with
  | .tup ds => ds.length = n ∧ t ds δ s Q
  | _ => False
end DL

set_option Elab.async false
set_option linter.all false
set_option maxRecDepth 100000
set_option maxHeartbeats 4000000
namespace DL
open PySem PySem.Spec PyProof.Rows L2

/-! ### what a list, a tuple holds -/
/-- a list that may be read -/
def lstD (s : Sto) (d : DV) : Option (List DV) := match d with
  | .lst ds => some ds
  | .scr ds => some ds
  | .ref a => match s a with
    | some (.lst ds) => some ds
    | _ => none
  | _ => none
/-- a list of one's own -/
def lstW (s : Sto) (d : DV) : Option (List DV) := match d with
  | .lst ds => some ds
  | .ref a => match s a with
    | some (.lst ds) => some ds
    | _ => none
  | _ => none
theorem lstD_ref {s : Sto} {a : Addr} {ds : List DV} (h : s a = some (.lst ds)) : lstD s (.ref a) = some ds := by simp only [lstD, h]
theorem lstW_ref {s : Sto} {a : Addr} {ds : List DV} (h : s a = some (.lst ds)) : lstW s (.ref a) = some ds := by simp only [lstW, h]
section
variable {K : PySem.W.Frag} {s : Sto} {H : Hp} {v : V} {d : DV} {ds : List DV}
theorem lstW_ok (rep : Rep K s H) (h : Dat K s H v d) (e : lstW s d = some ds) : ∃ a xs, v = .ref a ∧ H a = some (.lst xs) ∧ DatL K s H xs ds := by
  cases d with
  | lst es =>
    cases (Option.some.inj e)
    obtain ⟨a, xs, h1, h2, _, h3⟩ := h.lstInv
    exact ⟨a, xs, h1, h2, h3⟩
  | ref a =>
    cases h
    cases q : s a with
    | none => simp only [lstW, q] at e; cases e
    | some m =>
      cases m with
      | lst es =>
        simp only [lstW, q] at e
        cases e
        obtain ⟨xs, h1, h2⟩ := rep a _ q
        exact ⟨a, xs, rfl, h1, h2⟩
      | hid => simp only [lstW, q] at e; cases e
      | dK ks => simp only [lstW, q] at e; cases e
      | ins C fs => simp only [lstW, q] at e; cases e
      | exc C fs => simp only [lstW, q] at e; cases e
  | _ => cases e
theorem lstD_ok (rep : Rep K s H) (h : Dat K s H v d) (e : lstD s d = some ds) : ∃ a xs, v = .ref a ∧ SqL K H a xs ∧ DatL K s H xs ds := by
  cases d with
  | scr es =>
    cases (Option.some.inj e)
    obtain ⟨a, xs, h1, h2, h3⟩ := h.scrInv
    exact ⟨a, xs, h1, h2.sq, h3⟩
  | lst es =>
    obtain ⟨a, xs, h1, h2, h3⟩ := lstW_ok rep h (show lstW s (.lst es) = some ds from e)
    exact ⟨a, xs, h1, SqL.of h2, h3⟩
  | ref a =>
    obtain ⟨a, xs, h1, h2, h3⟩ := lstW_ok rep h (show lstW s (.ref a) = some ds from e)
    exact ⟨a, xs, h1, SqL.of h2, h3⟩
  | _ => cases e
end

/-! ### arithmetic -/
def kOk (p : Prop) (Q : Prop) : Prop := p ∧ Q
def dAdd (x y : DV) (s : Sto) (Q : KD) : Prop := match x, y with
  | .int i, .int j => Q (.int (i + j)) s
  | .str a, .str b => a.length + b.length ≤ sizeLine ∧ Q (.str (a ++ b)) s
  | .tup a, .tup b => a.length + b.length ≤ sizeLine ∧ Q (.tup (a ++ b)) s
  | x, y => match lstW s x, lstW s y with
    | some a, some b => a.length + b.length ≤ sizeLine ∧ Q (.lst (a ++ b)) s
    | _, _ => False
section
variable {X : Cx}
theorem od_add : OpD X (binaryOp .Add) dAdd := by
  refine opImp (opOr op_add (opOr op_add_str (opOr op_catA op_cat))) fun x y H Q h => ?_
  obtain ⟨dx, dy, s, Q', rep, hx, hy, r, k⟩ := h
  have lists : ∀ a b, lstW s dx = some a → lstW s dy = some b → a.length + b.length ≤ sizeLine ∧ Q' (.lst (a ++ b)) s → rCat x y H Q := fun a b ea eb ⟨z, q⟩ => by
    obtain ⟨p, xs, rfl, h1, l1⟩ := lstW_ok rep hx ea
    obtain ⟨p2, ys, rfl, h2, l2⟩ := lstW_ok rep hy eb
    refine ⟨p, p2, xs, ys, rfl, rfl, h1, h2, by rw [l1.length, l2.length]; exact z, fun r hr => ?_⟩
    have st : Stp s H s (upd H r (.lst (xs ++ ys))) := Stp.newF hr
    exact k _ _ _ s st (rep.newF hr) (.lst upd_same (rep.fresh hr) ((l1.append l2).step st rep)) q
  unfold dAdd at r
  split at r
  · cases hx; cases hy
    exact .inl ⟨_, _, rfl, rfl, k _ H _ s (Stp.refl s H) rep (.int _) r⟩
  · cases hx; cases hy
    exact .inr (.inl ⟨_, _, rfl, rfl, r.1, k _ H _ s (Stp.refl s H) rep (.str _) r.2⟩)
  · rename_i a b
    obtain ⟨z, q⟩ := r
    obtain ⟨p, xs, rfl, h1, l1⟩ := hx.tupInv
    obtain ⟨p2, ys, rfl, h2, l2⟩ := hy.tupInv
    refine .inr (.inr (.inl ⟨p, p2, xs, ys, rfl, rfl, h1, h2, by rw [l1.length, l2.length]; exact z, fun e => ?_, fun _ e => ?_, fun _ _ r hr => ?_⟩))
    · subst e; cases l1
      exact k _ H _ s (Stp.refl s H) rep (.tup h2 l2) q
    · subst e; cases l2
      refine k _ H _ s (Stp.refl s H) rep (.tup h1 l1) ?_
      rw [List.append_nil] at q
      exact q
    · have st : Stp s H s (upd H r (.tup (xs ++ ys))) := Stp.newF hr
      exact k _ _ _ s st (rep.newF hr) (.tup (SqT.of upd_same) ((l1.append l2).step st rep)) q
  · split at r
    · exact .inr (.inr (.inr (lists _ _ ‹_› ‹_› r)))
    · exact r.elim
def dI (C : Int → Int → Prop) (g : Int → Int → DV) (x y : DV) (s : Sto) (Q : KD) : Prop := match x, y with
  | .int i, .int j => C i j ∧ Q (g i j) s
  | _, _ => False
def dI0 (g : Int → Int → DV) (x y : DV) (s : Sto) (Q : KD) : Prop := match x, y with
  | .int i, .int j => Q (g i j) s
  | _, _ => False
theorem od_I {f : Value → Value → Sem Value} {C : Int → Int → Prop} {g : Int → Int → V} {g' : Int → Int → DV} (h : OpR X f (rI C g)) (hg : ∀ K s H i j, Dat K s H (g i j) (g' i j)) : OpD X f (dI C g') := opImp h fun x y H Q h => by
  obtain ⟨dx, dy, s, Q', rep, hx, hy, r, k⟩ := h
  unfold dI at r
  split at r
  · cases hx; cases hy
    exact ⟨_, _, rfl, rfl, r.1, k _ H _ s (Stp.refl s H) rep (hg _ _ _ _ _) r.2⟩
  · exact r.elim
theorem od_I0 {f : Value → Value → Sem Value} {g : Int → Int → V} {g' : Int → Int → DV} (h : OpR X f (rI0 g)) (hg : ∀ K s H i j, Dat K s H (g i j) (g' i j)) : OpD X f (dI0 g') := opImp h fun x y H Q h => by
  obtain ⟨dx, dy, s, Q', rep, hx, hy, r, k⟩ := h
  unfold dI0 at r
  split at r
  · cases hx; cases hy
    exact ⟨_, _, rfl, rfl, k _ H _ s (Stp.refl s H) rep (hg _ _ _ _ _) r⟩
  · exact r.elim
theorem od_sub : OpD X (binaryOp .Sub) (dI0 fun i j => .int (i - j)) := od_I0 op_sub fun _ _ _ _ _ => .int _
theorem od_mod : OpD X (binaryOp .Mod) (dI (fun _ j => 0 < j) fun i j => .int (i % j)) := od_I op_mod fun _ _ _ _ _ => .int _
theorem od_fdiv : OpD X (binaryOp .FloorDiv) (dI CDivW fun i j => .int (i / j)) := od_I op_fdivW fun _ _ _ _ _ => .int _
def CPowD (i j : Int) : Prop := 0 ≤ j ∧ (Builtin.Int.intBits i : Int) * j ≤ 2 ^ 27
theorem op_powD : OpR X (binaryOp .Pow) (rI CPowD fun i j => .int (i ^ j.toNat)) := opI fun _ _ _ _ _ _ _ hc q => pow_int hc.1 hc.2 q
theorem od_pow : OpD X (binaryOp .Pow) (dI CPowD fun i j => .int (i ^ j.toNat)) := od_I op_powD fun _ _ _ _ _ => .int _
theorem opOrI {C D : Int → Int → Prop} {g : Int → Int → V} {f : Value → Value → Sem Value} (h : OpR X f (rI C g)) (h' : OpR X f (rI D g)) : OpR X f (rI (fun i j => C i j ∨ D i j) g) := opImp (opOr h h') fun x y H Q q => by
  obtain ⟨i, j, e1, e2, c | c, q⟩ := q
  · exact .inl ⟨i, j, e1, e2, c, q⟩
  · exact .inr ⟨i, j, e1, e2, c, q⟩
def dMul (x y : DV) (s : Sto) (Q : KD) : Prop := match x, y with
  | .int i, .int j => (CMul i j ∨ CMulW i j) ∧ Q (.int (i * j)) s
  | .tup ds, .int k => (ds ≠ [] ∧ 2 ≤ k ∧ k ≤ 1000 ∧ ds.length ≤ 1000) ∧ Q (.tup (List.replicate k.toNat ds).flatten) s
  | x, .int k => match lstW s x with
    | some ds => (-(2 ^ 63) ≤ k ∧ k < 2 ^ 63 ∧ ds.length * k.toNat ≤ sizeLine) ∧ Q (.lst (List.replicate k.toNat ds).flatten) s
    | none => False
  | _, _ => False
theorem od_mul : OpD X (binaryOp .Mult) dMul := by
  refine opImp (opOr (opOrI op_mul op_mulW) (opOr op_repT op_rep)) fun x y H Q h => ?_
  obtain ⟨dx, dy, s, Q', rep, hx, hy, r, k⟩ := h
  unfold dMul at r
  split at r
  · cases hx; cases hy
    exact .inl ⟨_, _, rfl, rfl, r.1, k _ H _ s (Stp.refl s H) rep (.int _) r.2⟩
  · obtain ⟨⟨h1, h2, h3, h4⟩, q⟩ := r
    obtain ⟨p, xs, rfl, t1, l1⟩ := hx.tupInv
    cases hy
    refine .inr (.inl ⟨p, _, xs, rfl, rfl, t1, fun e => ?_, h2, h3, by rw [l1.length]; exact h4, fun r hr => ?_⟩)
    · subst e; cases l1; exact h1 rfl
    · exact k _ _ _ s (Stp.newF hr) (rep.newF hr) (.tup (SqT.of upd_same) ((l1.flatten_rep _).step (Stp.newF hr) rep)) q
  · split at r
    · rename_i ds e
      obtain ⟨⟨h1, h2, h3⟩, q⟩ := r
      obtain ⟨p, xs, rfl, t1, l1⟩ := lstW_ok rep hx e
      cases hy
      refine .inr (.inr ⟨p, _, xs, rfl, rfl, t1, h1, h2, by rw [l1.length]; exact h3, fun r hr => ?_⟩)
      exact k _ _ _ s (Stp.newF hr) (rep.newF hr) (.lst upd_same (rep.fresh hr) ((l1.flatten_rep _).step (Stp.newF hr) rep)) q
    · exact r.elim
  · exact r.elim

/-! ### comparisons -/
def dLtB (fI : Int → Int → Bool) (fS : Str → Str → Bool) (x y : DV) (s : Sto) (Q : KD) : Prop := match x, y with
  | .int i, .int j => Q (.bl (fI i j)) s
  | .str a, .str b => Q (.bl (fS a b)) s
  | _, _ => False
theorem od_ord {f : Value → Value → Sem Value} {fI : Int → Int → Bool} {fS : Str → Str → Bool} (h : OpR X f (rI0 fun i j => .bl (fI i j))) (h' : OpR X f fun x y H Q => ∃ i j, x = .str i ∧ y = .str j ∧ Q (.bl (fS i j)) H) : OpD X f (dLtB fI fS) :=
  opImp (opOr h h') fun x y H Q h => by
  obtain ⟨dx, dy, s, Q', rep, hx, hy, r, k⟩ := h
  unfold dLtB at r
  split at r
  · cases hx; cases hy
    exact .inl ⟨_, _, rfl, rfl, k _ H _ s (Stp.refl s H) rep (.bl _) r⟩
  · cases hx; cases hy
    exact .inr ⟨_, _, rfl, rfl, k _ H _ s (Stp.refl s H) rep (.bl _) r⟩
  · exact r.elim
def ltI (i j : Int) : Bool := decide (i < j)
def leI (i j : Int) : Bool := decide (i ≤ j)
def ltS (a b : Str) : Bool := decide (a.cps.toList < b.cps.toList)
def leS (a b : Str) : Bool := !decide (b.cps.toList < a.cps.toList)
theorem od_lt : OpD X (compareOp .Lt) (dLtB ltI ltS) := od_ord op_lt op_lt_str
theorem od_le : OpD X (compareOp .LtE) (dLtB leI leS) := od_ord op_le op_le_str
theorem od_gt : OpD X (compareOp .Gt) (dLtB (fun i j => ltI j i) (fun a b => ltS b a)) := od_ord op_gt op_gt_str
theorem od_ge : OpD X (compareOp .GtE) (dLtB (fun i j => leI j i) (fun a b => leS b a)) := od_ord op_ge op_ge_str
mutual
def pd : DV → Option PyData
  | .non => some .none
  | .bl b => some (.bool b)
  | .int i => some (.int i)
  | .str x => some (.str x)
  | .tup ds => (pdL ds).map .tuple
  | .lst ds => (pdL ds).map .list
  | .scr ds => (pdL ds).map .list
  | .ref _ => none
  | .ty _ => none
def pdL : List DV → Option (List PyData)
  | [] => some []
  | d :: ds => match pd d, pdL ds with
    | some p, some ps => some (p :: ps)
    | _, _ => none
end
def pdS (s : Sto) (d : DV) : Option PyData := match d with
  | .ref a => match s a with
    | some (.lst ds) => (pdL ds).map .list
    | _ => none
  | d => pd d
section
variable {K : PySem.W.Frag} {s : Sto} {H : Hp}
mutual
theorem pd_ok (rep : Rep K s H) : ∀ {d : DV} {v : V} {p : PyData}, Dat K s H v d → pd d = some p → Dp K H v p
  | .non, _, _, h, e => by cases h; cases e; exact .non
  | .bl _, _, _, h, e => by cases h; cases e; exact .bl _
  | .int _, _, _, h, e => by cases h; cases e; exact .int _
  | .str _, _, _, h, e => by cases h; cases e; exact .str _
  | .tup ds, _, _, h, e => by
    obtain ⟨a, xs, rfl, h1, l⟩ := h.tupInv
    cases q : pdL ds with
    | none => simp only [pd, q] at e; cases e
    | some ps => simp only [pd, q] at e; cases e; exact .tup h1 (pdL_ok rep l q)
  | .lst ds, _, _, h, e => by
    obtain ⟨a, xs, rfl, h1, _, l⟩ := h.lstInv
    cases q : pdL ds with
    | none => simp only [pd, q] at e; cases e
    | some ps => simp only [pd, q] at e; cases e; exact .lst (SqL.of h1) (pdL_ok rep l q)
  | .scr ds, _, _, h, e => by
    obtain ⟨a, xs, rfl, h1, l⟩ := h.scrInv
    cases q : pdL ds with
    | none => simp only [pd, q] at e; cases e
    | some ps => simp only [pd, q] at e; cases e; exact .lst h1.sq (pdL_ok rep l q)
  | .ref _, _, _, _, e => by simp only [pd] at e; cases e
  | .ty _, _, _, _, e => by simp only [pd] at e; cases e
theorem pdL_ok (rep : Rep K s H) : ∀ {ds : List DV} {vs : List V} {ps : List PyData}, DatL K s H vs ds → pdL ds = some ps → DpAll K H vs ps
  | [], _, _, h, e => by cases h; simp only [pdL] at e; cases e; exact .nil
  | d :: ds, _, _, h, e => by
    cases h with
    | cons h1 h2 =>
      cases q1 : pd d with
      | none => simp only [pdL, q1] at e; cases e
      | some p =>
        cases q2 : pdL ds with
        | none => simp only [pdL, q1, q2] at e; cases e
        | some ps => simp only [pdL, q1, q2] at e; cases e; exact .cons (pd_ok rep h1 q1) (pdL_ok rep h2 q2)
end
theorem pdS_ok (rep : Rep K s H) {d : DV} {v : V} {p : PyData} (h : Dat K s H v d) (e : pdS s d = some p) : Dp K H v p := by
  cases d with
  | ref a =>
    cases h
    cases q : s a with
    | none => simp only [pdS, q] at e; cases e
    | some m =>
      cases m with
      | lst ds =>
        obtain ⟨xs, h1, l⟩ := rep a _ q
        cases q2 : pdL ds with
        | none => simp only [pdS, q, q2] at e; cases e
        | some ps => simp only [pdS, q, q2] at e; cases e; exact .lst (SqL.of h1) (pdL_ok rep l q2)
      | hid => simp only [pdS, q] at e; cases e
      | dK ks => simp only [pdS, q] at e; cases e
      | ins C fs => simp only [pdS, q] at e; cases e
      | exc C fs => simp only [pdS, q] at e; cases e
  | _ => exact pd_ok rep h e
end
/-- == of plain things -/
def scalEq (x y : DV) : Option Bool := match x, y with
  | .int i, .int j => some (decide (i = j))
  | .str i, .str j => some (decide (i = j))
  | .bl i, .bl j => some (decide (i = j))
  | .non, .non => some true
  | .non, .int _ => some false
  | .int _, .non => some false
  | .non, .str _ => some false
  | .str _, .non => some false
  | .non, .bl _ => some false
  | .bl _, .non => some false
  | _, _ => none
def eqData (s : Sto) (x y : DV) (F : Bool → Prop) : Prop := match pdS s x, pdS s y with
  | some d, some e => SeqAt.shaped d = true ∧ SeqAt.shaped e = true ∧ F (PyData.eqv d e)
  | _, _ => False
def dEq (x y : DV) (s : Sto) (Q : KD) : Prop := match scalEq x y with
  | some b => Q (.bl b) s
  | none => eqData s x y fun b => Q (.bl b) s
def dNe (x y : DV) (s : Sto) (Q : KD) : Prop := match scalEq x y with
  | some b => Q (.bl (!b)) s
  | none => eqData s x y fun b => Q (.bl (!b)) s
theorem scalEq_ok {K : PySem.W.Frag} {s : Sto} {H : Hp} {x y : V} {dx dy : DV} {b : Bool} (hx : Dat K s H x dx) (hy : Dat K s H y dy) (e : scalEq dx dy = some b) : scal x y = true ∧ b = decide (x = y) := by
  unfold scalEq at e
  split at e <;> (try cases e) <;> cases hx <;> cases hy <;> first | exact ⟨rfl, rfl⟩ | exact ⟨rfl, by simp⟩
theorem od_eq (hu : X.A.units + 64 < cLine) : OpD X (compareOp .Eq) dEq := opImp (opOr op_eq (op_eqD hu)) fun x y H Q h => by
  obtain ⟨dx, dy, s, Q', rep, hx, hy, r, k⟩ := h
  unfold dEq at r
  split at r
  · rename_i b e
    obtain ⟨h1, h2⟩ := scalEq_ok hx hy e
    exact .inl ⟨h1, by rw [← h2]; exact k _ H _ s (Stp.refl s H) rep (.bl b) r⟩
  · unfold eqData at r
    split at r
    · rename_i d e e1 e2
      exact .inr ⟨d, e, pdS_ok rep hx e1, pdS_ok rep hy e2, r.1, r.2.1, k _ H _ s (Stp.refl s H) rep (.bl _) r.2.2⟩
    · exact r.elim
theorem od_ne (hu : X.A.units + 64 < cLine) : OpD X (compareOp .NotEq) dNe := opImp (opOr op_ne (op_neD hu)) fun x y H Q h => by
  obtain ⟨dx, dy, s, Q', rep, hx, hy, r, k⟩ := h
  unfold dNe at r
  split at r
  · rename_i b e
    obtain ⟨h1, h2⟩ := scalEq_ok hx hy e
    exact .inl ⟨h1, by rw [← h2]; exact k _ H _ s (Stp.refl s H) rep (.bl (!b)) r⟩
  · unfold eqData at r
    split at r
    · rename_i d e e1 e2
      exact .inr ⟨d, e, pdS_ok rep hx e1, pdS_ok rep hy e2, r.1, r.2.1, k _ H _ s (Stp.refl s H) rep (.bl _) r.2.2⟩
    · exact r.elim
def isNonD : DV → Bool
  | .non => true
  | _ => false
theorem isNon_ok {K : PySem.W.Frag} {s : Sto} {H : Hp} {x : V} {dx : DV} (hx : Dat K s H x dx) : isNonD dx = decide (x = .non) := by
  cases hx <;> simp [isNonD]
def dIs (neg : Bool) (x y : DV) (s : Sto) (Q : KD) : Prop := match y with
  | .non => Q (.bl (if neg then !isNonD x else isNonD x)) s
  | .bl b => match x with
    | .bl a => Q (.bl (if neg then !decide (a = b) else decide (a = b))) s
    | _ => False
  | _ => False
theorem od_is : OpD X (compareOp .Is) (dIs false) := opImp (opOr op_isN op_is_bl) fun x y H Q h => by
  obtain ⟨dx, dy, s, Q', rep, hx, hy, r, k⟩ := h
  unfold dIs at r
  split at r
  · cases hy
    rw [isNon_ok hx] at r
    exact .inl ⟨rfl, k _ H _ s (Stp.refl s H) rep (.bl _) r⟩
  · split at r
    · cases hx; cases hy
      exact .inr ⟨_, _, rfl, rfl, k _ H _ s (Stp.refl s H) rep (.bl _) r⟩
    · exact r.elim
  · exact r.elim
theorem od_isnot : OpD X (compareOp .IsNot) (dIs true) := opImp (opOr op_notN op_isnot_bl) fun x y H Q h => by
  obtain ⟨dx, dy, s, Q', rep, hx, hy, r, k⟩ := h
  unfold dIs at r
  split at r
  · cases hy
    rw [isNon_ok hx] at r
    exact .inl ⟨rfl, k _ H _ s (Stp.refl s H) rep (.bl _) r⟩
  · split at r
    · cases hx; cases hy
      exact .inr ⟨_, _, rfl, rfl, k _ H _ s (Stp.refl s H) rep (.bl _) r⟩
    · exact r.elim
  · exact r.elim
/-- x in a text; in a list or tuple of plain things -/
def flatD : DV → Bool
  | .non => true
  | .bl _ => true
  | .int _ => true
  | .str _ => true
  | _ => false
def eqF : DV → DV → Bool
  | .non, .non => true
  | .bl a, .bl b => a == b
  | .bl a, .int b => (if a then 1 else 0) == b
  | .int a, .bl b => a == (if b then 1 else 0)
  | .int a, .int b => a == b
  | .str a, .str b => a == b
  | _, _ => false
def inF (x : DV) (ds : List DV) : Bool := ds.any fun y => eqF y x
def subS (a b : Str) : Bool := !(Builtin.Str.occurrences b a 0 b.length 1).isEmpty
def seqD (s : Sto) (d : DV) : Option (List DV) := match d with
  | .tup ds => some ds
  | d => lstD s d
def dIn (neg : Bool) (x y : DV) (s : Sto) (Q : KD) : Prop := match y with
  | .str b => match x with
    | .str a => Q (.bl (if neg then !subS a b else subS a b)) s
    | _ => False
  | y => match seqD s y with
    | some ds => flatD x = true ∧ ds.all flatD = true ∧ Q (.bl (if neg then !inF x ds else inF x ds)) s
    | none => False
section
variable {K : PySem.W.Frag} {s : Sto} {H : Hp}
theorem flat_ok {x : V} {d : DV} (h : Dat K s H x d) (e : flatD d = true) : flatV x = true := by cases h <;> first | rfl | cases e
theorem flatL_ok : ∀ {xs : List V} {ds : List DV}, DatL K s H xs ds → ds.all flatD = true → xs.all flatV = true
  | _, _, .nil, _ => rfl
  | _, _, .cons h t, e => by
    rw [List.all_cons, Bool.and_eq_true] at e ⊢
    exact ⟨flat_ok h e.1, flatL_ok t e.2⟩
theorem eqF_ok {x y : V} {d e : DV} (h : Dat K s H x d) (h' : Dat K s H y e) (f : flatD d = true) (f' : flatD e = true) : eqV x y = eqF d e := by
  cases h <;> cases h' <;> first | rfl | cases f | cases f'
theorem inF_ok {x : V} {d : DV} (h : Dat K s H x d) (f : flatD d = true) : ∀ {xs : List V} {ds : List DV}, DatL K s H xs ds → ds.all flatD = true → inV x xs = inF d ds
  | _, _, .nil, _ => rfl
  | _, _, .cons h1 t, e => by
    rw [List.all_cons, Bool.and_eq_true] at e
    have ih := inF_ok h f t e.2
    unfold inV inF at ih ⊢
    rw [List.any_cons, List.any_cons, eqF_ok h1 h e.1 f, ih]
theorem seqD_ok (rep : Rep K s H) {v : V} {d : DV} {ds : List DV} (h : Dat K s H v d) (e : seqD s d = some ds) : ∃ a xs, v = .ref a ∧ (SqL K H a xs ∨ SqT K H a xs) ∧ DatL K s H xs ds := by
  unfold seqD at e
  split at e
  · cases e
    obtain ⟨a, xs, e1, h1, l⟩ := h.tupInv
    exact ⟨a, xs, e1, .inr h1, l⟩
  · obtain ⟨a, xs, e1, h1, l⟩ := lstD_ok rep h e
    exact ⟨a, xs, e1, .inl h1, l⟩
end
theorem od_in : OpD X (compareOp .In) (dIn false) := opImp (opOr op_in_str op_in_seq) fun x y H Q h => by
  obtain ⟨dx, dy, s, Q', rep, hx, hy, r, k⟩ := h
  unfold dIn at r
  split at r
  · split at r
    · cases hx; cases hy
      exact .inl ⟨_, _, rfl, rfl, k _ H _ s (Stp.refl s H) rep (.bl _) r⟩
    · exact r.elim
  · split at r
    · rename_i ds e
      obtain ⟨a, xs, rfl, hs, l⟩ := seqD_ok rep hy e
      refine .inr ⟨a, xs, rfl, hs, flat_ok hx r.1, flatL_ok l r.2.1, ?_⟩
      rw [inF_ok hx r.1 l r.2.1]
      exact k _ H _ s (Stp.refl s H) rep (.bl _) r.2.2
    · exact r.elim
theorem od_notin : OpD X (compareOp .NotIn) (dIn true) := opImp (opOr op_notIn_str op_notIn_seq) fun x y H Q h => by
  obtain ⟨dx, dy, s, Q', rep, hx, hy, r, k⟩ := h
  unfold dIn at r
  split at r
  · split at r
    · cases hx; cases hy
      exact .inl ⟨_, _, rfl, rfl, k _ H _ s (Stp.refl s H) rep (.bl _) r⟩
    · exact r.elim
  · split at r
    · rename_i ds e
      obtain ⟨a, xs, rfl, hs, l⟩ := seqD_ok rep hy e
      refine .inr ⟨a, xs, rfl, hs, flat_ok hx r.1, flatL_ok l r.2.1, ?_⟩
      rw [inF_ok hx r.1 l r.2.1]
      exact k _ H _ s (Stp.refl s H) rep (.bl _) r.2.2
    · exact r.elim
end
end DL

set_option Elab.async false
set_option linter.all false
set_option maxRecDepth 100000
set_option maxHeartbeats 4000000
namespace DL
open PySem PySem.Spec PyProof.Rows L2

/-! ### a dict of the store -/
def keyD : DV → Option Key
  | .int i => some (.inl i)
  | .str x => some (.inr x)
  | _ => none
def getP {κ : Type} [DecidableEq κ] (ks : List (κ × DV)) (k : κ) : Option DV := (ks.find? fun kv => decide (kv.1 = k)).map (·.2)
def putP {κ : Type} [DecidableEq κ] (ks : List (κ × DV)) (k : κ) (v : DV) : List (κ × DV) :=
  if (ks.any fun kv => decide (kv.1 = k)) = true then ks.map (fun kv => if kv.1 = k then (kv.1, v) else kv) else ks ++ [(k, v)]
def dictD (s : Sto) (d : DV) : Option (List (Key × DV)) := match d with
  | .ref a => match s a with
    | some (.dK ks) => some ks
    | _ => none
  | _ => none
section
variable {K : PySem.W.Frag} {s : Sto} {H : Hp}
theorem keyD_ok {v : V} {d : DV} {k : Key} (h : Dat K s H v d) (e : keyD d = some k) : v = kV k := by
  cases d with
  | int i => cases h; cases e; rfl
  | str i => cases h; cases e; rfl
  | _ => cases e
theorem dictD_ok (rep : Rep K s H) {v : V} {d : DV} {ks : List (Key × DV)} (h : Dat K s H v d) (e : dictD s d = some ks) : ∃ a kvs, d = .ref a ∧ s a = some (.dK ks) ∧ v = .ref a ∧ H a = some (.dK kvs) ∧ DatP K s H kvs ks := by
  cases d with
  | ref a =>
    cases h
    cases q : s a with
    | none => simp only [dictD, q] at e; cases e
    | some m =>
      cases m with
      | dK es =>
        simp only [dictD, q] at e
        cases e
        obtain ⟨kvs, h1, h2⟩ := rep a _ q
        exact ⟨a, kvs, rfl, q, rfl, h1, h2⟩
      | hid => simp only [dictD, q] at e; cases e
      | lst ks => simp only [dictD, q] at e; cases e
      | ins C fs => simp only [dictD, q] at e; cases e
      | exc C fs => simp only [dictD, q] at e; cases e
  | _ => cases e
variable {κ : Type} [DecidableEq κ]
theorem getP_ok : ∀ {kvs : List (κ × V)} {ks : List (κ × DV)} {k : κ} {d : DV}, DatP K s H kvs ks → getP ks k = some d → ∃ v, valV kvs k = some v ∧ Dat K s H v d
  | _, _, _, _, .nil, e => by cases e
  | _, _, k, d, .cons (a := p) (b := q) h t, e => by
    by_cases c : q.1 = k
    · have c2 : p.1 = k := h.1.trans c
      have e2 : q.2 = d := by
        unfold getP at e
        rw [List.find?_cons_of_pos (by simpa using c)] at e
        exact Option.some.inj e
      refine ⟨p.2, ?_, by rw [← e2]; exact h.2⟩
      unfold valV
      rw [List.find?_cons_of_pos (by simpa using c2)]
      rfl
    · have c2 : ¬ p.1 = k := by rw [h.1]; exact c
      unfold getP at e
      rw [List.find?_cons_of_neg (by simpa using c)] at e
      obtain ⟨v, h1, h2⟩ := getP_ok (k := k) (d := d) t e
      refine ⟨v, ?_, h2⟩
      unfold valV
      rw [List.find?_cons_of_neg (by simpa using c2)]
      exact h1
theorem getP_none : ∀ {kvs : List (κ × V)} {ks : List (κ × DV)} {k : κ}, DatP K s H kvs ks → getP ks k = none → valV kvs k = none
  | _, _, _, .nil, e => rfl
  | _, _, k, .cons (a := p) (b := q) h t, e => by
    by_cases c : q.1 = k
    · unfold getP at e
      rw [List.find?_cons_of_pos (by simpa using c)] at e
      cases e
    · have c2 : ¬ p.1 = k := by rw [h.1]; exact c
      unfold getP at e
      rw [List.find?_cons_of_neg (by simpa using c)] at e
      have ih := getP_none (k := k) t e
      unfold valV
      rw [List.find?_cons_of_neg (by simpa using c2)]
      exact ih
theorem anyP_ok (k : κ) : ∀ {kvs : List (κ × V)} {ks : List (κ × DV)}, DatP K s H kvs ks → (kvs.any fun kv => decide (kv.1 = k)) = (ks.any fun kv => decide (kv.1 = k))
  | _, _, .nil => rfl
  | _, _, .cons h t => by rw [List.any_cons, List.any_cons, h.1, anyP_ok k t]
theorem DatP.append : ∀ {a b : List (κ × V)} {c d : List (κ × DV)}, DatP K s H a c → DatP K s H b d → DatP K s H (a ++ b) (c ++ d)
  | _, _, _, _, .nil, h => h
  | _, _, _, _, .cons h t, h' => .cons h (DatP.append t h')
theorem mapP_ok (k : κ) {v : V} {d : DV} (hv : Dat K s H v d) : ∀ {kvs : List (κ × V)} {ks : List (κ × DV)}, DatP K s H kvs ks → DatP K s H (kvs.map fun kv => if kv.1 = k then (kv.1, v) else kv) (ks.map fun kv => if kv.1 = k then (kv.1, d) else kv)
  | _, _, .nil => .nil
  | _, _, .cons (a := p) (b := q) h t => by
    refine .cons ?_ (mapP_ok k hv t)
    by_cases c : q.1 = k
    · have c2 : p.1 = k := h.1.trans c
      simp only [c, c2, if_true]
      exact ⟨trivial, hv⟩
    · have c2 : ¬ p.1 = k := by rw [h.1]; exact c
      simp only [c, c2, if_false]
      exact h
theorem putP_ok (k : κ) {v : V} {d : DV} (hv : Dat K s H v d) {kvs : List (κ × V)} {ks : List (κ × DV)} (h : DatP K s H kvs ks) : DatP K s H (putK kvs k v) (putP ks k d) := by
  unfold putK putP
  rw [anyP_ok k h]
  split
  · exact mapP_ok k hv h
  · exact h.append (.cons ⟨rfl, hv⟩ .nil)
end

/-! ### subscripts -/
def ixD (xs : Option DV) (s : Sto) (Q : KD) : Prop := match xs with
  | some d => Q d s
  | none => False
def dIx (x y : DV) (s : Sto) (Q : KD) : Prop := match x with
  | .str z => match y with
    | .int i => z.length ≤ sizeLine ∧ match atI z.cps.toList i with
      | some c => Q (.str ⟨#[c]⟩) s
      | none => False
    | _ => False
  | x => match seqD s x with
    | some ds => match y with
      | .int i => ixD (atI ds i) s Q
      | _ => False
    | none => match dictD s x, keyD y with
      | some ks, some k => ixD (getP ks k) s Q
      | _, _ => False
section
variable {X : Cx}
theorem ix_dict (hu : X.A.units + 1 < cLine) : IxR X (fun x y H Q => ∃ a v, x = .ref a ∧ DGet H a y (some v) ∧ Q v H) := by
  intro value slice pins s σ H x y o i Q I rx ry h hs
  obtain ⟨a, v, rfl, g, q⟩ := h
  obtain rfl : o = Value.ref a := rx
  have hT := dict_typeIs I g
  unfold subscriptTail
  refine wpAny_bind ?_
  rw [getitemInPython_of_ne hT.not_modules]
  refine wpAny_bind (wpAny_specialOf hT PySem.F.slot_dict_getitem.lookup ?_)
  have fin : wpAny (model X.prog X.w) X.A (subscripted slice false (.ref a) i) (fun r s₃ => wpAny (model X.prog X.w) X.A (letTemporaryGo value (.ref a) r >>= fun _ => pure r) (EP X pins σ Q) X.xe s₃) X.xe s := by
    rw [hs]
    exact wpAny_operating (d_getItem hu I g ry fun w' s3 I3 rw' => wpAny_bind (wpAny_letTemporaryGo (wpAny_pure ⟨v, H, I3, rw', q⟩)))
  first
    | exact wpAny_pure (wpAny_bind fin)
    | exact wpAny_bind (wpAny_pure (wpAny_bind fin))
    | exact wpAny_bind fin
theorem ixOr {r r' : R2} (h : IxR X r) (h' : IxR X r') : IxR X (fun x y H Q => r x y H Q ∨ r' x y H Q) := fun value slice pins s σ H x y v u Q I rx ry q e =>
  q.elim (fun q => h value slice pins s σ H x y v u Q I rx ry q e) fun q => h' value slice pins s σ H x y v u Q I rx ry q e
theorem ixImp {r r' : R2} (h : IxR X r) (w : ∀ x y H Q, r' x y H Q → r x y H Q) : IxR X r' := fun value slice pins s σ H x y v u Q I rx ry q e => h value slice pins s σ H x y v u Q I rx ry (w _ _ _ _ q) e
theorem atI_ok {K : PySem.W.Frag} {s : Sto} {H : Hp} {xs : List V} {ds : List DV} {i : Int} {d : DV} (l : DatL K s H xs ds) (e : atI ds i = some d) : ∃ v, atI xs i = some v ∧ Dat K s H v d := by
  unfold atI at e ⊢
  rw [← l.length] at e
  cases q : ixN xs.length i with
  | none => rw [q] at e; cases e
  | some j =>
    rw [q] at e
    exact l.get' e
theorem ix_d (hu : X.A.units + 1 < cLine) : IxR X (lR X.K dIx) := by
  refine ixImp (ixOr ix_list (ixOr ix_tup (ixOr ix_str (ix_dict hu)))) fun x y H Q h => ?_
  obtain ⟨dx, dy, s, Q', rep, hx, hy, r, k⟩ := h
  have k0 := fun v d hv q => k v H d s (Stp.refl s H) rep hv q
  unfold dIx at r
  split at r
  · split at r
    · cases hx; cases hy
      obtain ⟨z, r⟩ := r
      split at r
      · exact .inr (.inr (.inl ⟨_, _, _, rfl, rfl, z, ‹_›, k0 _ _ (.str _) r⟩))
      · exact r.elim
    · exact r.elim
  · split at r
    · rename_i ds e
      split at r
      · cases hy
        unfold ixD at r
        split at r
        · rename_i d ed
          obtain ⟨a, xs, rfl, hs, l⟩ := seqD_ok rep hx e
          obtain ⟨v, h1, h2⟩ := atI_ok l ed
          rcases hs with hs | hs
          · exact .inl ⟨a, xs, _, v, rfl, rfl, hs, h1, k0 _ _ h2 r⟩
          · exact .inr (.inl ⟨a, xs, _, v, rfl, rfl, hs, h1, k0 _ _ h2 r⟩)
        · exact r.elim
      · exact r.elim
    · split at r
      · rename_i ks kk e1 e2
        unfold ixD at r
        split at r
        · rename_i d ed
          obtain ⟨a, kvs, e0, _, rfl, hH, hp⟩ := dictD_ok rep hx e1
          obtain ⟨v, h1, h2⟩ := getP_ok hp ed
          exact .inr (.inr (.inr ⟨a, v, rfl, .inl ⟨kvs, kk, .inl hH, keyD_ok hy e2, h1.symm⟩, k0 _ _ h2 r⟩))
        · exact r.elim
      · exact r.elim
variable {A : Anc} {a b e : Expr} {ta tb te : TEd} {pos p2 : Pos}
theorem dix (hu : X.A.units + 1 < cLine) (ha : PD A X a ta) (hb : PD A X b tb) (hs : PlainIx b := by first | exact fun _ _ => rfl | (intro _ _; rfl)) : PD A X (.Subscript a b pos) (dOp dIx ta tb) := peImp (pe_ix (ix_d hu) ha hb hs) fun _ _ _ h => lE_bin h
end

/-! ### slices -/
abbrev TOd := Ed → Sto → (Option Int → Sto → Prop) → Prop
def lO (K : PySem.W.Frag) (A : Anc) (t : TOd) : TO := fun σ H Q => ∃ δ s Q', Sd K A σ H δ s ∧ t δ s Q' ∧ ∀ o H2 s2, Stp s H s2 H2 → Rep K s2 H2 → Q' o s2 → Q o H2
abbrev POd (A : Anc) (X : Cx) (e : Option Expr) (t : TOd) : Prop := PO X e (lO X.K A t)
def kPart (Q : Option Int → Sto → Prop) (d : DV) (s1 : Sto) : Prop := match d with
  | .int i => Q (some i) s1
  | _ => False
def dPart (t : TEd) (δ : Ed) (s : Sto) (Q : Option Int → Sto → Prop) : Prop := t δ s (kPart Q)
def dNoPart (δ : Ed) (s : Sto) (Q : Option Int → Sto → Prop) : Prop := Q none s
def cutD (ds : List DV) (lo hi : Option Int) : List DV := (ds.drop (HT.sIx ds.length 0 lo)).take (HT.sIx ds.length ds.length hi - HT.sIx ds.length 0 lo)
abbrev RSd := DV → Option Int → Option Int → Sto → KD → Prop
def dSlR (x : DV) (lo hi : Option Int) (s : Sto) (Q : KD) : Prop := match x with
  | .str z => z.length ≤ sizeLine ∧ Q (.str (cutS z lo hi)) s
  | .tup ds => Q (.tup (cutD ds lo hi)) s
  | x => match lstD s x with
    | some ds => Q (.lst (cutD ds lo hi)) s
    | none => False
def dSlM (x : DV) (lo hi : Option Int) (s : Sto) (Q : KD) : Prop := match lstD s x with
    | some ds => ∀ p, s p = none → Q (.ref p) (up s p (.lst (cutD ds lo hi)))
    | none => False
def kSl3 (r : RSd) (Q : KD) (x : DV) (l u : Option Int) (s3 : Sto) : Prop := r x l u s3 Q
def kSl2 (r : RSd) (th : TOd) (δ : Ed) (Q : KD) (x : DV) (l : Option Int) (s2 : Sto) : Prop := th δ s2 (kSl3 r Q x l)
def kSl1 (r : RSd) (tl th : TOd) (δ : Ed) (Q : KD) (x : DV) (s1 : Sto) : Prop := tl δ s1 (kSl2 r th δ Q x)
def dSl (r : RSd) (te : TEd) (tl th : TOd) (δ : Ed) (s : Sto) (Q : KD) : Prop := te δ s (kSl1 r tl th δ Q)
def lSl (K : PySem.W.Frag) (r : RSd) : V → Option Int → Option Int → Hp → VK → Prop := fun x lo hi H Q => ∃ d s Q', Rep K s H ∧ Dat K s H x d ∧ r d lo hi s Q' ∧ ∀ v H2 d s2, Stp s H s2 H2 → Rep K s2 H2 → Dat K s2 H2 v d → Q' d s2 → Q v H2
section
variable {X : Cx}
theorem slOr {r r' : V → Option Int → Option Int → Hp → VK → Prop} (h : SlR X r) (h' : SlR X r') : SlR X (fun x l u H Q => r x l u H Q ∨ r' x l u H Q) := fun pins s σ H x v vl vu lo hi sl Q I rx hs pl pu q =>
  q.elim (fun q => h pins s σ H x v vl vu lo hi sl Q I rx hs pl pu q) fun q => h' pins s σ H x v vl vu lo hi sl Q I rx hs pl pu q
theorem slImp {r r' : V → Option Int → Option Int → Hp → VK → Prop} (h : SlR X r) (w : ∀ x l u H Q, r' x l u H Q → r x l u H Q) : SlR X r' := fun pins s σ H x v vl vu lo hi sl Q I rx hs pl pu q =>
  h pins s σ H x v vl vu lo hi sl Q I rx hs pl pu (w _ _ _ _ _ q)
theorem cut_ok {K : PySem.W.Frag} {s : Sto} {H : Hp} {xs : List V} {ds : List DV} (l : DatL K s H xs ds) (lo hi : Option Int) : DatL K s H (cutV xs lo hi) (cutD ds lo hi) := by
  unfold cutV cutD
  rw [l.length]
  exact (l.drop _).take _
theorem cutD_whole {ds : List DV} {lo hi : Option Int} (h1 : HT.sIx ds.length 0 lo = 0) (h2 : HT.sIx ds.length ds.length hi = ds.length) : cutD ds lo hi = ds := by
  unfold cutD
  rw [h1, h2]
  simp
theorem sl_d : SlR X (lSl X.K dSlR) := by
  refine slImp (slOr sl_list (slOr sl_tupA sl_str)) fun x lo hi H Q h => ?_
  obtain ⟨d, s, Q', rep, hx, r, k⟩ := h
  unfold dSlR at r
  split at r
  · cases hx
    exact .inr (.inr ⟨_, rfl, r.1, k _ H _ s (Stp.refl s H) rep (.str _) r.2⟩)
  · rename_i ds
    obtain ⟨a, xs, rfl, h1, l⟩ := hx.tupInv
    refine .inr (.inl ⟨a, xs, rfl, h1, fun w => ?_, fun _ p hp => ?_⟩)
    · rw [l.length] at w
      rw [cutD_whole w.1 w.2] at r
      exact k _ H _ s (Stp.refl s H) rep (.tup h1 l) r
    · exact k _ _ _ s (Stp.newF hp) (rep.newF hp) (.tup (SqT.of upd_same) ((cut_ok l lo hi).step (Stp.newF hp) rep)) r
  · split at r
    · rename_i ds e
      obtain ⟨a, xs, rfl, hs, l⟩ := lstD_ok rep hx e
      exact .inl ⟨a, xs, rfl, hs, fun p hp => k _ _ _ s (Stp.newF hp) (rep.newF hp) (.lst upd_same (rep.fresh hp) ((cut_ok l lo hi).step (Stp.newF hp) rep)) r⟩
    · exact r.elim
theorem sl_m : SlR X (lSl X.K dSlM) := by
  refine slImp sl_list fun x lo hi H Q h => ?_
  obtain ⟨d, s, Q', rep, hx, r, k⟩ := h
  unfold dSlM at r
  split at r
  · rename_i ds e
    obtain ⟨a, xs, rfl, hs, l⟩ := lstD_ok rep hx e
    refine ⟨a, xs, rfl, hs, fun p hp => ?_⟩
    obtain ⟨st2, rep2⟩ := new_lst rep hp (cut_ok l lo hi)
    exact k _ _ _ _ st2 rep2 (.ref p) (r p (rep.fresh hp))
  · exact r.elim
variable {A : Anc} {e : Expr} {lo hi : Option Expr} {te : TEd} {tl th : TOd} {r : RSd} {pos p2 : Pos}
theorem dpo (h : PD A X e te) : POd A X (some e) (dPart te) := ⟨fun pins s σ H Q I h' => (po_some h).run pins s σ H Q I (by
  obtain ⟨δ, s, Q', S, t, k⟩ := h'
  refine ⟨δ, s, _, S, t, fun v H2 d s2 st rep dv q => ?_⟩
  cases d with
  | int i => exact ⟨i, dv.intInv, k _ H2 s2 st rep q⟩
  | _ => exact False.elim q)⟩
theorem dpn : POd A X none dNoPart := ⟨fun pins s σ H Q I h' => po_none.run pins s σ H Q I (by
  obtain ⟨δ, s, Q', S, t, k⟩ := h'
  exact k none H s (Stp.refl s H) S.rep t)⟩
theorem dslice (hr : SlR X (lSl X.K r)) (he : PD A X e te) (hl : POd A X lo tl) (hu : POd A X hi th) : PD A X (.Subscript e (.Slice lo hi none p2) pos) (dSl r te tl th) := peImp (pe_slice hr he hl hu) fun σ H Q h => by
  obtain ⟨δ, s, Q', S, t, k⟩ := h
  refine ⟨δ, s, _, S, t, fun v H1 d s1 st1 rep1 dv q1 => ?_⟩
  have S1 := S.go st1 rep1
  refine ⟨δ, s1, _, S1, q1, fun l H2 s2 st2 rep2 q2 => ?_⟩
  refine ⟨δ, s2, _, S1.go st2 rep2, q2, fun u H3 s3 st3 rep3 q3 => ?_⟩
  exact ⟨d, s3, _, rep3, (dv.step st2 rep1).step st3 rep2, q3, fun v4 H4 d4 s4 st4 => k v4 H4 d4 s4 (((st1.trans st2).trans st3).trans st4)⟩
end

/-! ### stores by subscript -/
abbrev RSetD := DV → DV → DV → Sto → (Sto → Prop) → Prop
def dSetR (o i v : DV) (s : Sto) (Q : Sto → Prop) : Prop := match o with
  | .ref a => match s a with
    | some (.lst ds) => match i with
      | .int k => match ixN ds.length k with
        | some j => Q (up s a (.lst (ds.set j v)))
        | none => False
      | _ => False
    | some (.dK ks) => match keyD i with
      | some k => ks.length < sizeLine ∧ Q (up s a (.dK (putP ks k v)))
      | none => False
    | _ => False
  | _ => False
def lSet (K : PySem.W.Frag) : TSet := fun o i v H Q => ∃ do_ di dv s Q', Rep K s H ∧ Dat K s H o do_ ∧ Dat K s H i di ∧ Dat K s H v dv ∧ dSetR do_ di dv s Q' ∧ ∀ H2 s2, Stp s H s2 H2 → Rep K s2 H2 → Q' s2 → Q H2
def kSub2 (d : DV) (δ : Ed) (Q : Ed → Sto → Prop) (o i : DV) (s2 : Sto) : Prop := dSetR o i d s2 (Q δ)
def kSub1 (ti : TEd) (d : DV) (δ : Ed) (Q : Ed → Sto → Prop) (o : DV) (s1 : Sto) : Prop := ti δ s1 (kSub2 d δ Q o)
def gSubD (to ti : TEd) (d : DV) (δ : Ed) (s : Sto) (Q : Ed → Sto → Prop) : Prop := to δ s (kSub1 ti d δ Q)
section
variable {X : Cx}
theorem set_dict (hu : X.A.units + 1 < cLine) : PSet X (fun o i v H Q => ∃ a H', o = .ref a ∧ DPut H a i v H' ∧ Q H') := by
  intro pins s σ H o i v ov iv u Q I ro ri rv h
  obtain ⟨a, H', rfl, g, q⟩ := h
  obtain rfl : ov = Value.ref a := ro
  exact d_setItem hu I g ri rv fun s4 I4 => ⟨H', I4, q⟩
theorem Paired.length' {α β : Type} {R : α → β → Prop} {xs : List α} {ys : List β} (h : Paired R xs ys) : xs.length = ys.length := Paired.length h
theorem set_d (hu : X.A.units + 1 < cLine) : PSet X (lSet X.K) := by
  intro pins s σ H o i v ov iv u Q I ro ri rv h
  obtain ⟨do_, di, dv, s0, Q', rep, ho, hi, hv, r, k⟩ := h
  unfold dSetR at r
  split at r
  · rename_i a
    cases ho
    split at r
    · rename_i ds e
      split at r
      · rename_i kk
        cases hi
        split at r
        · rename_i j ej
          obtain ⟨xs, h1, l⟩ := rep a _ e
          have st : Stp s0 H (up s0 a (.lst (ds.set j dv))) (upd H a (.lst (xs.set j v))) := Stp.wr (by rw [e]; trivial)
          refine set_list pins s σ H _ _ v ov iv u Q I ro ri rv ⟨a, xs, kk, j, rfl, rfl, h1, by rw [l.length]; exact ej, ?_⟩
          exact k _ _ st (rep.put st ⟨_, upd_same, (l.setAt hv j).step st rep⟩) r
        · exact r.elim
      · exact r.elim
    · rename_i ks e
      split at r
      · rename_i kk ek
        obtain ⟨kvs, h1, l⟩ := rep a _ e
        have st : Stp s0 H (up s0 a (.dK (putP ks kk dv))) (upd H a (.dK (putK kvs kk v))) := Stp.wr (by rw [e]; trivial)
        refine set_dict hu pins s σ H _ _ v ov iv u Q I ro ri rv ⟨a, _, rfl, .inl ⟨kvs, kk, h1, keyD_ok hi ek, by rw [Paired.length' l]; exact r.1, rfl⟩, ?_⟩
        exact k _ _ st (rep.put st ⟨_, upd_same, (putP_ok kk hv l).step st rep⟩) r.2
      · exact r.elim
    · exact r.elim
  · exact r.elim
variable {A : Anc} {o i : Expr} {to ti : TEd} {pos : Pos}
theorem dgsub (hu : X.A.units + 1 < cLine) (ho : PD A X o to) (hi : PD A X i ti) (ha : ∀ v, assign (.Subscript o i pos) X.env v = (do
      let ov ← holding [v] (eval o X.env)
      let iv ← holding [v, ov] (eval i X.env)
      standAt pos
      holding [v, ov, iv] (setItem ov iv v)
      release [v, ov, iv] []) := by intro _; rfl) : PGd A X (.Subscript o i pos) (gSubD to ti) := pgImp (pg_sub ho hi (set_d hu) ha) fun v σ H Q h => by
  obtain ⟨d, δ, s, Q', S, dv, g, k⟩ := h
  refine ⟨δ, s, _, S, g, fun x1 H1 d1 s1 st1 rep1 dv1 q1 => ?_⟩
  have S1 := S.go st1 rep1
  refine ⟨δ, s1, _, S1, q1, fun x2 H2 d2 s2 st2 rep2 dv2 q2 => ?_⟩
  refine ⟨d1, d2, d, s2, _, rep2, dv1.step st2 rep1, dv2, (dv.step st1 S.rep).step st2 rep1, q2, fun H3 s3 st3 rep3 q3 => ?_⟩
  exact k σ H3 δ s3 ((S1.go st2 rep2).go st3 rep3) q3
end

/-! ### calls of what is built in -/
abbrev RCd := List DV → Sto → KD → Prop
def lC (K : PySem.W.Frag) (r : RCd) : List V → Hp → VK → Prop := fun xs H Q => ∃ ds s Q', Rep K s H ∧ DatL K s H xs ds ∧ r ds s Q' ∧ ∀ v H2 d s2, Stp s H s2 H2 → Rep K s2 H2 → Dat K s2 H2 v d → Q' d s2 → Q v H2
def kCB (r : RCd) (Q : KD) (ds : List DV) (s1 : Sto) : Prop := r ds s1 Q
def dCB (r : RCd) (t : TAd) (δ : Ed) (s : Sto) (Q : KD) : Prop := t δ s (kCB r Q)
section
variable {X : Cx} {A : Anc} {x : Str} {id T : String} {r : RCd} {e : Expr} {es : List Expr} {t : TAd} {p pos : Pos}
theorem lE_CB {K : PySem.W.Frag} {σ : L2.St} {H : Hp} {Q : VK} (h : lE K A (dCB r t) σ H Q) : tCB (lC K r) (lA K A t) σ H Q := by
  obtain ⟨δ, s, Q', S, t, k⟩ := h
  exact ⟨δ, s, _, S, t, fun vs H2 ds s2 st rep dv q => ⟨ds, s2, _, rep, dv, q, fun v3 H3 d3 s3 st3 => k v3 H3 d3 s3 (st.trans st3)⟩⟩
theorem dcallB (hc : CallR X (.builtin id) (lC X.K r)) (hm : X.mg x = none) (hv : bootBuiltins x = some (.builtin id)) (ha : PAd A X (e :: es) t) (hg : Gl X x := by rfl) (hn : x ≠ "__name__" := by decide) (hdb : (x == ("__debug__" : Str)) = false := by decide)
    (he : starEach (e :: es) X.env = (false, eval e X.env) :: starEach es X.env := by rfl) (hpl : (backTo pos (starEach es X.env)).any (·.1) = false := by rfl) : PD A X (.Call (.Name x p) (e :: es) [] pos) (dCB r t) :=
  peImp (pe_callB hc hg hm hv ha hn hdb he hpl) fun _ _ _ h => lE_CB h
theorem dcallTy (hc : CallR X (.type T) (lC X.K r)) (hm : X.mg x = none) (hv : bootBuiltins x = some (.type T)) (ha : PAd A X (e :: es) t) (hg : Gl X x := by rfl) (hn : x ≠ "__name__" := by decide) (hdb : (x == ("__debug__" : Str)) = false := by decide)
    (he : starEach (e :: es) X.env = (false, eval e X.env) :: starEach es X.env := by rfl) (hpl : (backTo pos (starEach es X.env)).any (·.1) = false := by rfl) : PD A X (.Call (.Name x p) (e :: es) [] pos) (dCB r t) :=
  peImp (pe_callTy hc hg hm hv ha hn hdb he hpl) fun _ _ _ h => lE_CB h
theorem callImp {f : Value} {r r' : List V → Hp → VK → Prop} (h : CallR X f r) (w : ∀ xs H Q, r' xs H Q → r xs H Q) : CallR X f r' := fun pins s σ H xs us Q I rx q => h pins s σ H xs us Q I rx (w _ _ _ q)
theorem callOr {f : Value} {r r' : List V → Hp → VK → Prop} (h : CallR X f r) (h' : CallR X f r') : CallR X f (fun xs H Q => r xs H Q ∨ r' xs H Q) := fun pins s σ H xs us Q I rx q =>
  q.elim (fun q => h pins s σ H xs us Q I rx q) fun q => h' pins s σ H xs us Q I rx q
def lenD (s : Sto) (d : DV) : Option Nat := match d with
  | .str z => if z.length ≤ sizeLine then some z.length else none
  | d => (seqD s d).map (·.length)
def dLen (ds : List DV) (s : Sto) (Q : KD) : Prop := match ds with
  | [d] => match lenD s d with
    | some n => Q (.int n) s
    | none => False
  | _ => False
theorem cd_len : CallR X (.builtin "len") (lC X.K dLen) := callImp call_len fun xs H Q h => by
  obtain ⟨ds, s, Q', rep, hx, r, k⟩ := h
  unfold dLen at r
  split at r
  · rename_i d
    cases hx with
    | cons h t =>
      cases t
      split at r
      · rename_i n e
        have fin := fun v d hv q => k v H d s (Stp.refl s H) rep hv q
        unfold lenD at e
        split at e
        · cases h
          split at e
          · cases e
            exact ⟨_, _, rfl, ⟨‹_›, rfl⟩, fin _ _ (.int _) r⟩
          · cases e
        · cases q : seqD s d with
          | none => rw [q] at e; cases e
          | some ds =>
            rw [q] at e
            cases e
            obtain ⟨a, xs, rfl, hs, l⟩ := seqD_ok rep h q
            refine ⟨_, xs.length, rfl, ?_, by rw [l.length]; exact fin _ _ (.int _) r⟩
            rcases hs with hs | hs
            · exact .inl ⟨xs, hs, rfl⟩
            · exact .inr ⟨xs, hs, rfl⟩
      · exact r.elim
  · exact r.elim
def dAbs (ds : List DV) (s : Sto) (Q : KD) : Prop := match ds with
  | [.int i] => Q (.int (if i < 0 then -i else i)) s
  | _ => False
theorem cd_abs : CallR X (.builtin "abs") (lC X.K dAbs) := callImp call_abs fun xs H Q h => by
  obtain ⟨ds, s, Q', rep, hx, r, k⟩ := h
  unfold dAbs at r
  split at r
  · cases hx with
    | cons h t => cases t; cases h; exact ⟨_, rfl, k _ H _ s (Stp.refl s H) rep (.int _) r⟩
  · exact r.elim
def dMin2 (ds : List DV) (s : Sto) (Q : KD) : Prop := match ds with
  | [.int i, .int j] => Q (.int (if j < i then j else i)) s
  | _ => False
theorem cd_min2 (hc : X.calm = true) : CallR X (.builtin "min") (lC X.K dMin2) := callImp (call_min2 hc) fun xs H Q h => by
  obtain ⟨ds, s, Q', rep, hx, r, k⟩ := h
  unfold dMin2 at r
  split at r
  · cases hx with
    | cons h t => cases t with
      | cons h2 t => cases t; cases h; cases h2; exact ⟨_, _, rfl, k _ H _ s (Stp.refl s H) rep (.int _) r⟩
  · exact r.elim
def dMax2 (ds : List DV) (s : Sto) (Q : KD) : Prop := match ds with
  | [.int i, .int j] => Q (.int (if j > i then j else i)) s
  | _ => False
theorem cd_max2 (hc : X.calm = true) : CallR X (.builtin "max") (lC X.K dMax2) := callImp (call_max2 hc) fun xs H Q h => by
  obtain ⟨ds, s, Q', rep, hx, r, k⟩ := h
  unfold dMax2 at r
  split at r
  · cases hx with
    | cons h t => cases t with
      | cons h2 t => cases t; cases h; cases h2; exact ⟨_, _, rfl, k _ H _ s (Stp.refl s H) rep (.int _) r⟩
  · exact r.elim
/-- list(x): kept apart in the store, or seen through -/
def dListM (ds : List DV) (s : Sto) (Q : KD) : Prop := match ds with
  | [d] => match seqD s d with
    | some es => ∀ p, s p = none → Q (.ref p) (up s p (.lst es))
    | none => False
  | _ => False
def dListF (ds : List DV) (s : Sto) (Q : KD) : Prop := match ds with
  | [d] => match seqD s d with
    | some es => Q (.lst es) s
    | none => False
  | _ => False
def dTupF (ds : List DV) (s : Sto) (Q : KD) : Prop := match ds with
  | [d] => match seqD s d with
    | some es => Q (.tup es) s
    | none => False
  | _ => False
theorem cd_listM : CallR X (.type "list") (lC X.K dListM) := callImp call_list_of fun xs H Q h => by
  obtain ⟨ds, s, Q', rep, hx, r, k⟩ := h
  unfold dListM at r
  split at r
  · cases hx with
    | cons h t =>
      cases t
      split at r
      · rename_i es e
        obtain ⟨a, ys, rfl, hs, l⟩ := seqD_ok rep h e
        refine ⟨a, ys, rfl, hs, fun p hp => ?_⟩
        obtain ⟨st2, rep2⟩ := new_lst rep hp l
        exact k _ _ _ _ st2 rep2 (.ref p) (r p (rep.fresh hp))
      · exact r.elim
  · exact r.elim
theorem cd_listF : CallR X (.type "list") (lC X.K dListF) := callImp call_list_of fun xs H Q h => by
  obtain ⟨ds, s, Q', rep, hx, r, k⟩ := h
  unfold dListF at r
  split at r
  · cases hx with
    | cons h t =>
      cases t
      split at r
      · rename_i es e
        obtain ⟨a, ys, rfl, hs, l⟩ := seqD_ok rep h e
        exact ⟨a, ys, rfl, hs, fun p hp => k _ _ _ s (Stp.newF hp) (rep.newF hp) (.lst upd_same (rep.fresh hp) (l.step (Stp.newF hp) rep)) r⟩
      · exact r.elim
  · exact r.elim
theorem cd_tup : CallR X (.type "tuple") (lC X.K dTupF) := callImp call_tuple_of fun xs H Q h => by
  obtain ⟨ds, s, Q', rep, hx, r, k⟩ := h
  unfold dTupF at r
  split at r
  · cases hx with
    | cons h t =>
      cases t
      split at r
      · rename_i es e
        obtain ⟨a, ys, rfl, hs, l⟩ := seqD_ok rep h e
        refine ⟨a, ys, rfl, ?_⟩
        rcases hs with hs | hs
        · exact .inl ⟨hs, fun p hp => k _ _ _ s (Stp.newF hp) (rep.newF hp) (.tup (SqT.of upd_same) (l.step (Stp.newF hp) rep)) r⟩
        · exact .inr ⟨hs, k _ H _ s (Stp.refl s H) rep (.tup hs l) r⟩
      · exact r.elim
  · exact r.elim
def dOrd (ds : List DV) (s : Sto) (Q : KD) : Prop := match ds with
  | [.str z] => z.length = 1 ∧ Q (.int (z.cps.getD 0 0 : Nat)) s
  | _ => False
theorem cd_ord : CallR X (.builtin "ord") (lC X.K dOrd) := callImp call_ord fun xs H Q h => by
  obtain ⟨ds, s, Q', rep, hx, r, k⟩ := h
  unfold dOrd at r
  split at r
  · cases hx with
    | cons h t => cases t; cases h; exact ⟨_, rfl, r.1, k _ H _ s (Stp.refl s H) rep (.int _) r.2⟩
  · exact r.elim
def dStr (ds : List DV) (s : Sto) (Q : KD) : Prop := match ds with
  | [.int i] => i.natAbs.log2 < 1920 ∧ Q (.str (toString i)) s
  | _ => False
theorem cd_str : CallR X (.type "str") (lC X.K dStr) := callImp call_str_int fun xs H Q h => by
  obtain ⟨ds, s, Q', rep, hx, r, k⟩ := h
  unfold dStr at r
  split at r
  · cases hx with
    | cons h t => cases t; cases h; exact ⟨_, rfl, r.1, k _ H _ s (Stp.refl s H) rep (.str _) r.2⟩
  · exact r.elim
end

/-! ### methods of what is built in -/
abbrev RMd := DV → List DV → Sto → KD → Prop
def lM (K : PySem.W.Frag) (r : RMd) : V → List V → Hp → VK → Prop := fun x xs H Q => ∃ d ds s Q', Rep K s H ∧ Dat K s H x d ∧ DatL K s H xs ds ∧ r d ds s Q' ∧ ∀ v H2 d s2, Stp s H s2 H2 → Rep K s2 H2 → Dat K s2 H2 v d → Q' d s2 → Q v H2
def tyD (T : String) (s : Sto) (d : DV) : Bool := match d with
  | .str _ => T == "str"
  | .int _ => T == "int"
  | .ref a => match s a with
    | some (.lst _) => T == "list"
    | some (.dK _) => T == "dict"
    | _ => false
  | .lst _ => T == "list"
  | .scr _ => T == "list"
  | _ => false
def kBM2 (r : RMd) (Q : KD) (x : DV) (xs : List DV) (s2 : Sto) : Prop := r x xs s2 Q
def kBM1 (T : String) (r : RMd) (t : TAd) (δ : Ed) (Q : KD) (x : DV) (s1 : Sto) : Prop := tyD T s1 x = true ∧ t δ s1 (kBM2 r Q x)
def dBM (T : String) (r : RMd) (to : TEd) (t : TAd) (δ : Ed) (s : Sto) (Q : KD) : Prop := to δ s (kBM1 T r t δ Q)
section
variable {X : Cx} {A : Anc} {T id : String} {name : Str} {r : RMd} {o e : Expr} {es : List Expr} {to : TEd} {t : TAd} {apos cpos : Pos}
theorem tyD_ok {K : PySem.W.Frag} {s : Sto} {H : Hp} {v : V} {d : DV} (rep : Rep K s H) (h : Dat K s H v d) (e : tyD T s d = true) : tyV K T v H := by
  cases d with
  | str z => cases h; exact beq_iff_eq.mp e
  | int z => cases h; exact beq_iff_eq.mp e
  | lst ds => obtain ⟨a, xs, rfl, h1, _, l⟩ := h.lstInv; exact .inl ⟨beq_iff_eq.mp e, xs, SqL.of h1⟩
  | scr ds => obtain ⟨a, xs, rfl, h1, l⟩ := h.scrInv; exact .inl ⟨beq_iff_eq.mp e, xs, h1.sq⟩
  | ref a =>
    cases h
    cases q : s a with
    | none => simp only [tyD, q] at e; cases e
    | some m =>
      cases m with
      | lst ds => simp only [tyD, q] at e; obtain ⟨xs, h1, _⟩ := rep a _ q; exact .inl ⟨beq_iff_eq.mp e, xs, SqL.of h1⟩
      | dK ds => simp only [tyD, q] at e; obtain ⟨xs, h1, _⟩ := rep a _ q; exact .inr (.inr (.inl ⟨beq_iff_eq.mp e, .inl ⟨xs, h1⟩⟩))
      | hid => simp only [tyD, q] at e; cases e
      | ins C fs => simp only [tyD, q] at e; cases e
      | exc C fs => simp only [tyD, q] at e; cases e
  | _ => cases e
theorem dbm (pa : PlainAttrs T) (slot : Slot T name id) (hty : typeOf (.builtin id) = pure (.type "method_descriptor")) (hm : MtR X id (lM X.K r)) (ho : PD A X o to) (ha : PAd A X (e :: es) t)
    (hbase : attributeBase o name X.env (eval o X.env) = eval o X.env := by rfl)
    (hfew : ((backTo cpos (starEach (e :: es) X.env)).all (fun x => !x.1) && (backToKw cpos (keywordEach [] X.env)).all (fun x => x.1.isSome)
      && decide ((e :: es).length + ([] : List Keyword).length + (if ([] : List Keyword).isEmpty then 0 else 1) < 30)) = true := by rfl)
    (hline : (apos.endLine == cpos.line) = true := by rfl) (hs : starEach (e :: es) X.env = (false, eval e X.env) :: starEach es X.env := by rfl) (hplain : (backTo cpos (starEach es X.env)).any (·.1) = false := by rfl) :
    PD A X (.Call (.Attribute o name apos) (e :: es) [] cpos) (dBM T r to t) := peImp (pe_bm pa slot hty hm ho ha hbase hfew hline hs hplain) fun σ H Q h => by
  obtain ⟨δ, s, Q', S, t, k⟩ := h
  refine ⟨δ, s, _, S, t, fun v H1 d s1 st1 rep1 dv ⟨ty, q1⟩ => ⟨tyD_ok rep1 dv ty, ?_⟩⟩
  refine ⟨δ, s1, _, S.go st1 rep1, q1, fun vs H2 ds s2 st2 rep2 dvs q2 => ?_⟩
  exact ⟨d, ds, s2, _, rep2, dv.step st2 rep1, dvs, q2, fun v3 H3 d3 s3 st3 => k v3 H3 d3 s3 ((st1.trans st2).trans st3)⟩
theorem dbm0 (pa : PlainAttrs T) (slot : Slot T name id) (hty : typeOf (.builtin id) = pure (.type "method_descriptor")) (hm : MtR X id (lM X.K r)) (ho : PD A X o to)
    (hbase : attributeBase o name X.env (eval o X.env) = eval o X.env := by rfl) (hline : (apos.endLine == cpos.line) = true := by rfl) :
    PD A X (.Call (.Attribute o name apos) [] [] cpos) (dBM T r to dNil) := peImp (pe_bm0 pa slot hty hm ho hbase hline) fun σ H Q h => by
  obtain ⟨δ, s, Q', S, t, k⟩ := h
  refine ⟨δ, s, _, S, t, fun v H1 d s1 st1 rep1 dv ⟨ty, q1⟩ => ⟨tyD_ok rep1 dv ty, ?_⟩⟩
  exact ⟨d, [], s1, _, rep1, dv, .nil, q1, fun v3 H3 d3 s3 st3 => k v3 H3 d3 s3 (st1.trans st3)⟩
theorem mtImp {r r' : V → List V → Hp → VK → Prop} (h : MtR X id r) (w : ∀ x xs H Q, r' x xs H Q → r x xs H Q) : MtR X id r' := fun pins s σ H x xs v us Q I rx rxs q => h pins s σ H x xs v us Q I rx rxs (w _ _ _ _ q)
def dAppend (x : DV) (xs : List DV) (s : Sto) (Q : KD) : Prop := match x, xs with
  | .ref a, [d] => match s a with
    | some (.lst ds) => ds.length < sizeLine ∧ Q .non (up s a (.lst (ds ++ [d])))
    | _ => False
  | _, _ => False
theorem md_append : MtR X "list.append" (lM X.K dAppend) := mtImp mt_append fun x xs H Q h => by
  obtain ⟨d, ds, s, Q', rep, hx, hxs, r, k⟩ := h
  unfold dAppend at r
  split at r
  · rename_i a d
    cases hx
    cases hxs with
    | cons hd t =>
      cases t
      split at r
      · rename_i v0 _ ds e
        obtain ⟨ys, h1, l⟩ := rep a _ e
        have st : Stp s H (up s a (.lst (ds ++ [d]))) (upd H a (.lst (ys ++ [v0]))) := Stp.wr (by rw [e]; trivial)
        exact ⟨a, ys, v0, rfl, rfl, h1, by rw [l.length]; exact r.1, k _ _ _ _ st (rep.put st ⟨_, upd_same, (l.append (.cons hd .nil)).step st rep⟩) .non r.2⟩
      · exact r.elim
  · exact r.elim
def dPop (x : DV) (xs : List DV) (s : Sto) (Q : KD) : Prop := match x, xs with
  | .ref a, [] => match s a with
    | some (.lst ds) => match ds[ds.length - 1]? with
      | some d => Q d (up s a (.lst ds.dropLast))
      | none => False
    | _ => False
  | _, _ => False
theorem DatL.dropLast {K : PySem.W.Frag} {s : Sto} {H : Hp} {xs : List V} {ds : List DV} (l : DatL K s H xs ds) : DatL K s H xs.dropLast ds.dropLast := by
  rw [List.dropLast_eq_take, List.dropLast_eq_take, l.length]
  exact l.take _
theorem md_pop : MtR X "list.pop" (lM X.K dPop) := mtImp mt_pop fun x xs H Q h => by
  obtain ⟨d, ds, s, Q', rep, hx, hxs, r, k⟩ := h
  unfold dPop at r
  split at r
  · rename_i a
    cases hx
    cases hxs
    split at r
    · rename_i ds e
      split at r
      · rename_i d ed
        obtain ⟨ys, h1, l⟩ := rep a _ e
        obtain ⟨v, hv1, hv2⟩ := l.get' ed
        have st : Stp s H (up s a (.lst ds.dropLast)) (upd H a (.lst ys.dropLast)) := Stp.wr (by rw [e]; trivial)
        exact ⟨a, ys, v, rfl, rfl, h1, by rw [l.length]; exact hv1, k _ _ _ _ st (rep.put st ⟨_, upd_same, l.dropLast.step st rep⟩) (hv2.step st rep) r⟩
      · exact r.elim
    · exact r.elim
  · exact r.elim
/-- the texts of a list -/
def strsD : List DV → Option (List Str)
  | [] => some []
  | .str z :: ds => (strsD ds).map (z :: ·)
  | _ :: _ => none
theorem strsD_map : ∀ zs : List Str, strsD (zs.map DV.str) = some zs
  | [] => rfl
  | z :: zs => by
    show (strsD (zs.map DV.str)).map (z :: ·) = some (z :: zs)
    rw [strsD_map zs]
    rfl
theorem strsD_ok : ∀ {ds : List DV} {zs : List Str}, strsD ds = some zs → ds = zs.map DV.str
  | [], _, e => by cases e; rfl
  | .str z :: ds, _, e => by
    cases q : strsD ds with
    | none => simp only [strsD, q] at e; cases e
    | some ys => simp only [strsD, q] at e; cases e; rw [strsD_ok q]; rfl
  | .non :: _, _, e => by cases e
  | .bl _ :: _, _, e => by cases e
  | .int _ :: _, _, e => by cases e
  | .tup _ :: _, _, e => by cases e
  | .lst _ :: _, _, e => by cases e
  | .scr _ :: _, _, e => by cases e
  | .ref _ :: _, _, e => by cases e
  | .ty _ :: _, _, e => by cases e
def dJoin (x : DV) (xs : List DV) (s : Sto) (Q : KD) : Prop := match x, xs with
  | .str a, [d] => match seqD s d with
    | some ds => match strsD ds with
      | some ys => (ys.map (·.length)).sum + ys.length * a.length ≤ 16777216 ∧ Q (.str (Txt.join a ys)) s
      | none => False
    | none => False
  | _, _ => False
theorem md_join : MtR X "str.join" (lM X.K dJoin) := mtImp mt_join fun x xs H Q h => by
  obtain ⟨d, ds, s, Q', rep, hx, hxs, r, k⟩ := h
  unfold dJoin at r
  split at r
  · cases hx
    cases hxs with
    | cons hd t =>
      cases t
      split at r
      · rename_i ds e
        split at r
        · rename_i zs ez
          obtain ⟨a, ys, rfl, hs, l⟩ := seqD_ok rep hd e
          rw [strsD_ok ez] at l
          have el := DatL.strs l
          subst el
          exact ⟨_, a, zs, rfl, rfl, hs, r.1, k _ H _ s (Stp.refl s H) rep (.str _) r.2⟩
        · exact r.elim
      · exact r.elim
  · exact r.elim
end
end DL

set_option Elab.async false
set_option linter.all false
set_option maxRecDepth 100000
set_option maxHeartbeats 4000000
namespace DL
open PySem PySem.Spec PyProof.Rows L2

/-! ### targets made of names -/
structure PatOk (K : PySem.W.Frag) (g : TG) (g' : TGd) (sl : List Nat) : Prop where
  ok : ∀ (v : V) (d : DV) (σ : L2.St) (H : Hp) (δ : Ed) (s : Sto) (Q : Ed → Sto → Prop), Rep K s H → EnvR K s H σ δ → Dat K s H v d → g' d δ s Q →
    g v σ H fun σ2 H2 => H2 = H ∧ (∃ δ2, EnvR K s H σ2 δ2 ∧ Q δ2 s) ∧ ∀ vs : List Nat, (∀ i ∈ sl, i ∈ vs) → wipe σ2 vs = wipe σ vs
structure PatsOk (K : PySem.W.Frag) (g : TGs) (g' : TGsd) (sl : List Nat) (n : Nat) : Prop where
  ok : ∀ (v : List V) (d : List DV) (σ : L2.St) (H : Hp) (δ : Ed) (s : Sto) (Q : Ed → Sto → Prop), Rep K s H → EnvR K s H σ δ → DatL K s H v d → g' d δ s Q →
    g v σ H fun σ2 H2 => H2 = H ∧ (∃ δ2, EnvR K s H σ2 δ2 ∧ Q δ2 s) ∧ ∀ vs : List Nat, (∀ i ∈ sl, i ∈ vs) → wipe σ2 vs = wipe σ vs
theorem wipe_set (x : Option V) : ∀ (vs : List Nat) (σ : L2.St) (i : Nat), i ∈ vs → wipe (σ.set i x) vs = wipe σ vs
  | v :: vs, σ, i, h => by
    show (wipe (σ.set i x) vs).set v none = (wipe σ vs).set v none
    by_cases c : i ∈ vs
    · rw [wipe_set x vs σ i c]
    · have e : i = v := by
        cases h with
        | head => rfl
        | tail _ h => exact absurd h c
      subst e
      have comm : ∀ (ws : List Nat) (τ : L2.St), wipe (τ.set i x) ws = if i ∈ ws then wipe τ ws else (wipe τ ws).set i x := by
        intro ws
        induction ws with
        | nil => intro τ; simp [wipe]
        | cons w ws ih =>
          intro τ
          show (wipe (τ.set i x) ws).set w none = _
          rw [ih τ]
          by_cases c2 : i ∈ ws
          · rw [if_pos c2, if_pos (List.mem_cons_of_mem _ c2)]; rfl
          · rw [if_neg c2]
            by_cases c3 : i = w
            · subst c3
              rw [if_pos List.mem_cons_self, List.set_set]; rfl
            · rw [if_neg (fun z => by rcases List.mem_cons.mp z with z | z; exact c3 z; exact c2 z), List.set_comm _ _ c3]; rfl
      rw [comm vs σ, if_neg c, List.set_set]
def wipeD (δ : Ed) : List Nat → Ed
  | [] => δ
  | v :: vs => (wipeD δ vs).set v none
theorem env_wipe {K : PySem.W.Frag} {s : Sto} {H : Hp} {σ : L2.St} {δ : Ed} (e : EnvR K s H σ δ) : ∀ vs : List Nat, EnvR K s H (wipe σ vs) (wipeD δ vs)
  | [] => e
  | v :: vs => (env_wipe e vs).unset v none
section
variable {K : PySem.W.Frag}
theorem patN (i : Nat) : PatOk K (gName i) (gNameD i) [i] := ⟨fun v d σ H δ s Q _ e dv q => ⟨rfl, ⟨_, e.set dv i, q⟩, fun vs h => wipe_set _ vs σ i (h i List.mem_cons_self)⟩⟩
theorem patsN : PatsOk K gNil gNilD [] 0 := ⟨fun v d σ H δ s Q _ e dv q => by
  obtain ⟨h, q⟩ := q
  subst h
  cases dv
  exact ⟨rfl, rfl, ⟨δ, e, q⟩, fun _ _ => rfl⟩⟩
end
/-- a target that is moved on keeps what it does -/
structure GMono (g : TG) : Prop where
  mono : ∀ v σ H (Q Q' : L2.St → Hp → Prop), (∀ σ H, Q σ H → Q' σ H) → g v σ H Q → g v σ H Q'
structure GsMono (g : TGs) : Prop where
  mono : ∀ v σ H (Q Q' : L2.St → Hp → Prop), (∀ σ H, Q σ H → Q' σ H) → g v σ H Q → g v σ H Q'
theorem gmName (i : Nat) : GMono (gName i) := ⟨fun _ _ _ _ _ h q => h _ _ q⟩
theorem gmNil : GsMono gNil := ⟨fun _ _ _ _ _ h q => ⟨q.1, h _ _ q.2⟩⟩
theorem gmCons {t : TG} {u : TGs} (a : GMono t) (b : GsMono u) : GsMono (gCons t u) := ⟨fun _ _ _ _ _ h ⟨v, r, e, q⟩ => ⟨v, r, e, a.mono _ _ _ _ _ (fun _ _ q => b.mono _ _ _ _ _ h q) q⟩⟩
theorem gmTup {K : PySem.W.Frag} {n : Nat} {u : TGs} (b : GsMono u) : GMono (gTup K n u) := ⟨fun _ _ _ _ _ h ⟨a, xs, e, t, l, q⟩ => ⟨a, xs, e, t, l, b.mono _ _ _ _ _ h q⟩⟩
section
variable {K : PySem.W.Frag}
theorem patsC {t : TG} {u : TGs} {t' : TGd} {u' : TGsd} {a b : List Nat} {n : Nat} (mt : GMono t) (mu : GsMono u) (h1 : PatOk K t t' a) (h2 : PatsOk K u u' b n) : PatsOk K (gCons t u) (gConsD t' u') (a ++ b) (n + 1) := ⟨fun v d σ H δ s Q rep e dv q => by
  unfold gConsD at q
  cases dv with
  | nil => exact False.elim q
  | cons hd tl =>
    refine ⟨_, _, rfl, mt.mono _ _ _ _ _ ?_ (h1.ok _ _ σ H δ s _ rep e hd q)⟩
    rintro σ2 H2 ⟨rfl, ⟨δ2, e2, q2⟩, w2⟩
    refine mu.mono _ _ _ _ _ ?_ (h2.ok _ _ σ2 H2 δ2 s _ rep e2 tl q2)
    rintro σ3 H3 ⟨rfl, q3, w3⟩
    refine ⟨rfl, q3, fun vs hvs => ?_⟩
    rw [w3 vs fun i hi => hvs i (List.mem_append_right _ hi), w2 vs fun i hi => hvs i (List.mem_append_left _ hi)]⟩
theorem patT {u : TGs} {u' : TGsd} {b : List Nat} {n : Nat} (mu : GsMono u) (h2 : PatsOk K u u' b n) : PatOk K (gTup K n u) (gTupD n u') b := ⟨fun v d σ H δ s Q rep e dv q => by
  cases d with
  | tup ds =>
    obtain ⟨hl, q⟩ := q
    obtain ⟨a, xs, rfl, hs, l⟩ := dv.tupInv
    exact ⟨a, xs, rfl, hs, by rw [l.length]; exact hl, h2.ok xs ds σ H δ s Q rep e l q⟩
  | _ => exact False.elim q⟩
/-- a target made of names is a target -/
theorem dgpat {A : Anc} {X : Cx} {e : Expr} {g : TG} {g' : TGd} {sl : List Nat} (h : PG X e g) (m : GMono g) (p : PatOk X.K g g' sl) : PGd A X e g' := pgImp h fun v σ H Q hh => by
  obtain ⟨d, δ, s, Q', S, dv, q, k⟩ := hh
  refine m.mono _ _ _ _ _ ?_ (p.ok v d σ H δ s Q' S.rep S.env dv q)
  rintro σ2 H2 ⟨rfl, ⟨δ2, e2, q2⟩, _⟩
  exact k σ2 H2 δ2 s ⟨S.stp, S.rep, e2⟩ q2
end

/-! ### what a loop walks -/
structure ItD (K : PySem.W.Frag) (s0 : Sto) (H0 : Hp) (ds : List DV) (G : Sto → Prop) (J : It) : Prop where
  go : ∀ i s H, Stp s0 H0 s H → Rep K s H → G s → i < ds.length → J.go i H
  yld : ∀ i s H x H', Stp s0 H0 s H → Rep K s H → G s → i < ds.length → J.yld i H x H' → Stp s H s H' ∧ Rep K s H' ∧ ∃ d, ds[i]? = some d ∧ Dat K s H' x d
  stop : ∀ s H, Stp s0 H0 s H → Rep K s H → G s → J.stop ds.length H
abbrev TId := Ed → Sto → (List DV → (Sto → Prop) → Sto → Prop) → Prop
def lI (K : PySem.W.Frag) (A : Anc) (it : TId) : TI := fun σ H R => ∃ δ s R', Sd K A σ H δ s ∧ it δ s R' ∧ ∀ ds G s2 H2 J, Stp s H s2 H2 → Rep K s2 H2 → ItD K s2 H2 ds G J → R' ds G s2 → R J H2
abbrev PId (A : Anc) (X : Cx) (tg iter : Expr) (it : TId) : Prop := PI X tg iter (lI X.K A it)
theorem piImp {X : Cx} {tg e : Expr} {t t' : TI} (h : PI X tg e t) (w : ∀ σ H Q, t' σ H Q → t σ H Q) : PI X tg e t' := ⟨fun pins s σ H Q I q => h.run pins s σ H Q I (w _ _ _ q)⟩
def gTrue (_ : Sto) : Prop := True
/-- the items of a list, a tuple, a text, and what must stay -/
def itemsD (s : Sto) (d : DV) : Option (List DV × (Sto → Prop)) := match d with
  | .lst ds => some (ds, gTrue)
  | .scr ds => some (ds, gTrue)
  | .tup ds => some (ds, gTrue)
  | .str z => some (z.cps.toList.map fun c => .str ⟨#[c]⟩, gTrue)
  | .ref a => match s a with
    | some (.lst ds) => some (ds, fun s => s a = some (.lst ds))
    | _ => none
  | _ => none
def kIt (R : List DV → (Sto → Prop) → Sto → Prop) (d : DV) (s1 : Sto) : Prop := match itemsD s1 d with
  | some p => R p.1 p.2 s1
  | none => False
def dIt (te : TEd) (δ : Ed) (s : Sto) (R : List DV → (Sto → Prop) → Sto → Prop) : Prop := te δ s (kIt R)
def iAny (K : PySem.W.Frag) (te : TE) : TI := fun σ H R => te σ H fun x H1 => (∃ a, x = .ref a ∧ (∃ xs, SqL K H1 a xs) ∧ R (Itl K a) H1) ∨ (∃ a, x = .ref a ∧ (∃ xs, SqT K H1 a xs) ∧ R (Itt K a) H1) ∨ ∃ z, x = .str z ∧ R (Its z) H1
theorem sql_inj {K : PySem.W.Frag} {s : Sto} {H : Hp} {a : Addr} {xs ys : List V} (h : H a = some (.lst xs)) (h' : H a = some (.lst ys)) : xs = ys := by
  rw [h] at h'; cases h'; rfl
section
variable {X : Cx} {A : Anc} {tg e : Expr} {te : TEd}
theorem pi_any {te : TE} (hl : PE X e te) : PI X tg e (iAny X.K te) := by
  refine ⟨fun pins s σ H R I h => ?_⟩
  refine thn (hl.run pins s σ H _ I h) fun v s1 ⟨x, H1, I1, r1, q1⟩ => ?_
  rcases q1 with ⟨a, e, ⟨xs, hq⟩, q⟩ | ⟨a, e, ⟨xs, hq⟩, q⟩ | ⟨z, e, q⟩
  · subst e
    cases r1
    obtain ⟨its, rv, p, hz⟩ := I1.list hq
    refine wpAny_pyIter_list p.isList ?_
    refine ⟨s1.heap.objs.size, [s1.heap.objs.size], _, _, H1, rfl, I1.kept (t' := s1.toks) fun b o e => Heap.get?_push_of_some _ e, turn_list a _, ⟨_, Heap.get?_push_size _ rfl, rfl, rfl⟩, fun b hb => ?_, q⟩
    have e : b = s1.heap.objs.size := by simpa using hb
    subst e
    exact I1.fpOk (Nat.le_refl _) (I1.hok.fresh (Nat.le_refl _))
  · subst e
    cases r1
    obtain ⟨its, rv, p, hz⟩ := I1.tuple hq
    refine wpAny_pyIter_tuple (show s1.heap.IsTuple a its.toArray from p) ?_
    refine ⟨s1.heap.objs.size, [s1.heap.objs.size], _, _, H1, rfl, I1.kept (t' := s1.toks) fun b o e => Heap.get?_push_of_some _ e, turn_tuple a _, ⟨_, Heap.get?_push_size _ rfl, rfl, rfl⟩, fun b hb => ?_, q⟩
    have e : b = s1.heap.objs.size := by simpa using hb
    subst e
    exact I1.fpOk (Nat.le_refl _) (I1.hok.fresh (Nat.le_refl _))
  · subst e
    obtain ⟨t, rfl⟩ := r1
    cases ha : z.cps.all (· < 128)
    · exact wpAny_pyIter_wide ha (pi_one (tk := s1.toks) I1 _ (turn_str _ z t "str_iterator" (.inr rfl)) ⟨_, Heap.get?_push_size _ rfl, rfl, rfl⟩ q)
    · exact wpAny_pyIter_ascii ha (pi_one (tk := s1.toks) I1 _ (turn_str _ z t "str_ascii_iterator" (.inl rfl)) ⟨_, Heap.get?_push_size _ rfl, rfl, rfl⟩ q)
theorem get_lt {α : Type} {xs : List α} {i : Nat} (h : i < xs.length) : ∃ x, xs[i]? = some x := ⟨xs[i], List.getElem?_eq_getElem h⟩
/-- a list that is there (written, the script, of the store) -/
theorem itd_list {K : PySem.W.Frag} {s0 : Sto} {H0 : Hp} {a : Addr} {ds : List DV} {G : Sto → Prop} (w : ∀ s H, Stp s0 H0 s H → Rep K s H → G s → ∃ xs, SqL K H a xs ∧ DatL K s H xs ds) : ItD K s0 H0 ds G (Itl K a) := ⟨
  fun i s H st rep g hi => by
    obtain ⟨xs, h1, l⟩ := w s H st rep g
    obtain ⟨x, hx⟩ := get_lt (xs := xs) (i := i) (by rw [l.length]; exact hi)
    exact ⟨xs, x, h1, hx⟩,
  fun i s H x H' st rep g hi y => by
    obtain ⟨xs, h1, l⟩ := w s H st rep g
    obtain ⟨e, y⟩ := y
    subst e
    exact ⟨Stp.refl s _, rep, l.get (y xs h1)⟩,
  fun s H st rep g => by
    obtain ⟨xs, h1, l⟩ := w s H st rep g
    exact ⟨xs, h1, by rw [l.length]; exact Nat.le_refl _⟩⟩
theorem itd_tup {K : PySem.W.Frag} {s0 : Sto} {H0 : Hp} {a : Addr} {ds : List DV} {G : Sto → Prop} (w : ∀ s H, Stp s0 H0 s H → Rep K s H → G s → ∃ xs, SqT K H a xs ∧ DatL K s H xs ds) : ItD K s0 H0 ds G (Itt K a) := ⟨
  fun i s H st rep g hi => by
    obtain ⟨xs, h1, l⟩ := w s H st rep g
    obtain ⟨x, hx⟩ := get_lt (xs := xs) (i := i) (by rw [l.length]; exact hi)
    exact ⟨xs, x, h1, hx⟩,
  fun i s H x H' st rep g hi y => by
    obtain ⟨xs, h1, l⟩ := w s H st rep g
    obtain ⟨e, y⟩ := y
    subst e
    exact ⟨Stp.refl s _, rep, l.get (y xs h1)⟩,
  fun s H st rep g => by
    obtain ⟨xs, h1, l⟩ := w s H st rep g
    exact ⟨xs, h1, by rw [l.length]; exact Nat.le_refl _⟩⟩
theorem itd_str {K : PySem.W.Frag} {s0 : Sto} {H0 : Hp} {z : Str} {G : Sto → Prop} : ItD K s0 H0 (z.cps.toList.map fun c => DV.str ⟨#[c]⟩) G (Its z) := ⟨
  fun i s H st rep g hi => by
    show i < z.cps.size
    simpa using hi,
  fun i s H x H' st rep g hi y => by
    obtain ⟨e, c, hc, ex⟩ := y
    subst e ex
    refine ⟨Stp.refl s _, rep, .str ⟨#[c]⟩, ?_, .str _⟩
    rw [List.getElem?_map, Array.getElem?_toList, hc]
    rfl,
  fun s H st rep g => by
    show z.cps.size ≤ _
    simp⟩
theorem diter (he : PD A X e te) : PId A X tg e (dIt te) := piImp (pi_any he) fun σ H R h => by
  obtain ⟨δ, s, R', S, t, k⟩ := h
  refine ⟨δ, s, _, S, t, fun v H1 d s1 st1 rep1 dv q => ?_⟩
  cases d with
  | lst ds =>
    obtain ⟨a, xs, rfl, h1, n1, l⟩ := dv.lstInv
    refine .inl ⟨a, rfl, ⟨xs, SqL.of h1⟩, k ds gTrue s1 H1 _ st1 rep1 (itd_list fun s2 H2 st2 _ _ => ?_) q⟩
    exact ⟨xs, SqL.of (st2 a _ h1 (.inl n1)).1, l.step st2 rep1⟩
  | scr ds =>
    obtain ⟨a, xs, rfl, h1, l⟩ := dv.scrInv
    exact .inl ⟨a, rfl, ⟨xs, h1.sq⟩, k ds gTrue s1 H1 _ st1 rep1 (itd_list fun s2 H2 st2 _ _ => ⟨xs, (scrL_step st2 rep1 h1).sq, l.step st2 rep1⟩) q⟩
  | tup ds =>
    obtain ⟨a, xs, rfl, h1, l⟩ := dv.tupInv
    exact .inr (.inl ⟨a, rfl, ⟨xs, h1⟩, k ds gTrue s1 H1 _ st1 rep1 (itd_tup fun s2 H2 st2 _ _ => ⟨xs, sqT_step st2 rep1 h1, l.step st2 rep1⟩) q⟩)
  | str z => cases dv; exact .inr (.inr ⟨z, rfl, k _ gTrue s1 H1 _ st1 rep1 itd_str q⟩)
  | ref a =>
    cases dv
    cases e : s1 a with
    | none => simp only [kIt, itemsD, e] at q
    | some m =>
      cases m with
      | lst ds =>
        simp only [kIt, itemsD, e] at q
        obtain ⟨xs, h1, l⟩ := rep1 a _ e
        refine .inl ⟨a, rfl, ⟨xs, SqL.of h1⟩, k ds _ s1 H1 _ st1 rep1 (itd_list fun s2 H2 st2 rep2 g => ?_) q⟩
        obtain ⟨ys, h2, l2⟩ := rep2 a _ g
        exact ⟨ys, SqL.of h2, l2⟩
      | hid => simp only [kIt, itemsD, e] at q
      | dK ks => simp only [kIt, itemsD, e] at q
      | ins C fs => simp only [kIt, itemsD, e] at q
      | exc C fs => simp only [kIt, itemsD, e] at q
  | _ => exact False.elim q
def rngD (lo : Int) (n : Nat) : List DV := (List.range n).map fun i : Nat => .int (lo + i)
theorem rngD_get {lo : Int} {n i : Nat} {d : DV} (h : (rngD lo n)[i]? = some d) : i < n ∧ d = .int (lo + i) := by
  unfold rngD at h
  rw [List.getElem?_map] at h
  by_cases c : i < n
  · rw [List.getElem?_range c] at h
    exact ⟨c, (Option.some.inj h).symm⟩
  · rw [List.getElem?_eq_none (by simpa using c)] at h; cases h
theorem rngD_length {lo : Int} {n : Nat} : (rngD lo n).length = n := by unfold rngD; simp
theorem itd_rng {K : PySem.W.Frag} {s0 : Sto} {H0 : Hp} {lo : Int} {n : Nat} : ItD K s0 H0 (rngD lo n) gTrue (Itr lo n) := ⟨
  fun i s H st rep g hi => by rw [rngD_length] at hi; exact hi,
  fun i s H x H' st rep g hi y => by
    obtain ⟨e, y⟩ := y
    subst e y
    refine ⟨Stp.refl s _, rep, .int (lo + i), ?_, .int _⟩
    unfold rngD
    rw [List.getElem?_map, List.getElem?_range (by rw [rngD_length] at hi; exact hi)]
    rfl,
  fun s H st rep g => by rw [rngD_length]; exact Nat.le_refl _⟩
def kRng1 (R : List DV → (Sto → Prop) → Sto → Prop) (ds : List DV) (s1 : Sto) : Prop := match ds with
  | [.int j] => (-(2 ^ 62) ≤ j ∧ j < 2 ^ 62) ∧ R (rngD 0 j.toNat) gTrue s1
  | _ => False
def dRng1 (ta : TAd) (δ : Ed) (s : Sto) (R : List DV → (Sto → Prop) → Sto → Prop) : Prop := ta δ s (kRng1 R)
def kRng2 (R : List DV → (Sto → Prop) → Sto → Prop) (ds : List DV) (s1 : Sto) : Prop := match ds with
  | [.int i, .int j] => (-(2 ^ 62) ≤ i ∧ i < 2 ^ 62 ∧ -(2 ^ 62) ≤ j ∧ j < 2 ^ 62) ∧ R (rngD i (j - i).toNat) gTrue s1
  | _ => False
def dRng2 (ta : TAd) (δ : Ed) (s : Sto) (R : List DV → (Sto → Prop) → Sto → Prop) : Prop := ta δ s (kRng2 R)
theorem drange1 {a : Expr} {ta : TAd} {p pos : Pos} (hm : X.mg "range" = none) (ha : PAd A X [a] ta) (hg : Gl X "range" := by rfl) (hs : starEach [a] X.env = [(false, eval a X.env)] := by rfl) : PId A X tg (.Call (.Name "range" p) [a] [] pos) (dRng1 ta) :=
  piImp (pi_range1 hg hm ha hs) fun σ H R h => by
  obtain ⟨δ, s, R', S, t, k⟩ := h
  refine ⟨δ, s, _, S, t, fun vs H1 ds s1 st1 rep1 dv q => ?_⟩
  unfold kRng1 at q
  split at q
  · cases dv with
    | cons h t => cases t; cases h; exact ⟨_, rfl, q.1.1, q.1.2, k _ _ s1 H1 _ st1 rep1 itd_rng q.2⟩
  · exact False.elim q
theorem drange2 {a b : Expr} {ta : TAd} {p pos : Pos} (hm : X.mg "range" = none) (ha : PAd A X [a, b] ta) (hg : Gl X "range" := by rfl) (hs : starEach [a, b] X.env = [(false, eval a X.env), (false, eval b X.env)] := by rfl) (hs2 : starEach [b] X.env = [(false, eval b X.env)] := by rfl) :
    PId A X tg (.Call (.Name "range" p) [a, b] [] pos) (dRng2 ta) :=
  piImp (pi_range2 hg hm ha hs hs2) fun σ H R h => by
  obtain ⟨δ, s, R', S, t, k⟩ := h
  refine ⟨δ, s, _, S, t, fun vs H1 ds s1 st1 rep1 dv q => ?_⟩
  unfold kRng2 at q
  split at q
  · cases dv with
    | cons h t => cases t with
      | cons h2 t => cases t; cases h; cases h2; exact ⟨_, _, rfl, q.1, k _ _ s1 H1 _ st1 rep1 itd_rng q.2⟩
  · exact False.elim q
end

/-! ### loops -/
def Anc.le (A B : Anc) : Prop := Stp A.s A.H B.s B.H
/-- W: what holds ahead of turn i -/
def dForW (g : TGd) (tb : TSd) (D : EndsD) (δ : Ed) (ds : List DV) (G : Sto → Prop) (s1 : Sto) : Prop := ∃ W : Nat → Ed → Sto → Prop, W 0 δ s1 ∧
  (∀ i d δ s, ds[i]? = some d → W i δ s → G s ∧ g d δ s (tb ⟨W (i + 1), D.rt, D.nx, W (i + 1)⟩)) ∧ ∀ δ s, W ds.length δ s → G s ∧ D.nx δ s
def dFor (it : TId) (g : TGd) (tb : TSd) (D : EndsD) (δ : Ed) (s : Sto) : Prop := it δ s (dForW g tb D δ)
def lessW (W : Nat → Ed → Sto → Prop) (m : Nat) (δ' : Ed) (s' : Sto) : Prop := ∃ m', m' < m ∧ W m' δ' s'
def kWhile (tb : TSd) (D : EndsD) (W : Nat → Ed → Sto → Prop) (m : Nat) (δ : Ed) (b : Bool) (s1 : Sto) : Prop := dGif b (tb { D with nx := lessW W m, ct := lessW W m, bk := D.nx } δ) (D.nx δ) s1
def dWhile (c : TTd) (tb : TSd) (D : EndsD) (δ : Ed) (s : Sto) : Prop := ∃ W : Nat → Ed → Sto → Prop, (∃ m, W m δ s) ∧ ∀ m δ s, W m δ s →
  c δ s (kWhile tb D W m δ)
section
variable {X : Cx} {A : Anc} {tg iter : Expr} {it : TId} {g : TGd} {body : List Stmt} {tb : TSd} {pos : Pos}
theorem dsfor (hp : PassesOwn (model X.prog X.w) X.A X.env X.xe) (hc : X.calm = true) (hi : PId A X tg iter it) (hg : ∀ B, A.le B → PGd B X tg g) (hb : ∀ B, A.le B → PSsd B X body tb)
    (hs : ∀ x, foldedSetIterable iter X.env x = pure x := by intro _; rfl) : PSd A X (.For tg iter body [] pos) (dFor it g tb) := by
  -- the body is read from where the walk began
  have key : ∀ (B : Anc), A.le B → PS X (.For tg iter body [] pos) (tFor (lI X.K A it) (lG X.K B g) (lS X.K B tb)) := fun B hB => ps_for hp hc hi (hg B hB) (hb B hB) hs
  refine ⟨fun pins s σ H D I h => ?_⟩
  -- the walk's own rule once more, the anchor chosen behind the iterator
  obtain ⟨δ, s0, D', S, t, L⟩ := h
  -- choose the anchor when the iterator is there: by a union over anchors
  have all : PS X (.For tg iter body [] pos) (tFor (lI X.K A it) (fun v σ H Q => ∃ B, A.le B ∧ lG X.K B g v σ H Q) (fun D σ H => ∃ B, A.le B ∧ lS X.K B tb D σ H)) := by
    refine ps_for hp hc hi ⟨fun pins s σ H v u Q I r q => ?_⟩ ⟨fun pins s σ H D I q => ?_⟩ hs
    · obtain ⟨B, hB, q⟩ := q
      exact (hg B hB).run pins s σ H v u Q I r q
    · obtain ⟨B, hB, q⟩ := q
      exact (hb B hB).run pins s σ H D I q
  refine all.run pins s σ H D I ?_
  refine ⟨δ, s0, _, S, t, fun ds G s1 H1 J st1 rep1 iD ⟨W, w0, step, fin⟩ => ?_⟩
  have S1 := S.go st1 rep1
  have hB : A.le ⟨s1, H1⟩ := S1.stp
  refine ⟨fun i m σ2 H2 => m = ds.length - i ∧ i ≤ ds.length ∧ ∃ δ2 s2, Sd X.K ⟨s1, H1⟩ σ2 H2 δ2 s2 ∧ W i δ2 s2, ⟨ds.length, by simp, Nat.zero_le _, δ, s1, ⟨Stp.refl s1 H1, rep1, S1.env⟩, w0⟩, ?_⟩
  rintro i m σ2 H2 ⟨rfl, hi, δ2, s2, S2, w2⟩
  have up : ∀ {σ H δ s}, Sd X.K ⟨s1, H1⟩ σ H δ s → Sd X.K A σ H δ s := fun S => ⟨S1.stp.trans S.stp, S.rep, S.env⟩
  by_cases hlt : i < ds.length
  · obtain ⟨d, hd⟩ := get_lt hlt
    obtain ⟨gs, _⟩ := step i d δ2 s2 hd w2
    refine .inr ⟨iD.go i s2 H2 S2.stp S2.rep gs hlt, fun σ3 H3 => ∃ δ3 s3, Sd X.K ⟨s1, H1⟩ σ3 H3 δ3 s3 ∧ W (i + 1) δ3 s3, fun σ3 H3 ⟨δ3, s3, S3, w3⟩ => ⟨ds.length - (i + 1), by omega, rfl, hlt, δ3, s3, S3, w3⟩, fun x H3 y => ?_⟩
    obtain ⟨st3, rep3, d3, hd3, dv3⟩ := iD.yld i s2 H2 x H3 S2.stp S2.rep gs hlt y
    obtain ⟨_, q3⟩ := step i d3 δ2 s2 hd3 w2
    refine ⟨⟨s1, H1⟩, hB, d3, δ2, s2, _, S2.go st3 rep3, dv3, q3, fun σ4 H4 δ4 s4 S4 q4 => ?_⟩
    exact ⟨⟨s1, H1⟩, hB, δ4, s4, _, S4, q4, ⟨fun σ H δ s S q => ⟨δ, s, S, q⟩, fun σ H δ s S q => L.nx σ H δ s (up S) q, fun σ H δ s S q => ⟨δ, s, S, q⟩, fun v H d s st rep dv q => L.rt v H d s (S1.stp.trans st) rep dv q⟩⟩
  · have e : i = ds.length := by omega
    subst e
    obtain ⟨gs, q⟩ := fin δ2 s2 w2
    exact .inl ⟨iD.stop s2 H2 S2.stp S2.rep gs, L.nx σ2 H2 δ2 s2 (up S2) q⟩
theorem dswhile {c : Expr} {tc : TTd} (hp : PassesOwn (model X.prog X.w) X.A X.env X.xe) (hc : PTd A X c tc) (hb : PSsd A X body tb) : PSd A X (.While c body [] pos) (dWhile tc tb) := psImp (ps_while hp hc hb) fun D σ H h => by
  obtain ⟨δ, s, D', S, ⟨W, ⟨m, w0⟩, step⟩, L⟩ := h
  refine ⟨fun m σ2 H2 => ∃ δ2 s2, Sd X.K A σ2 H2 δ2 s2 ∧ W m δ2 s2, ⟨m, δ, s, S, w0⟩, ?_⟩
  rintro m σ2 H2 ⟨δ2, s2, S2, w2⟩
  refine ⟨δ2, s2, _, S2, step m δ2 s2 w2, fun b H3 s3 st3 rep3 q => ?_⟩
  have S3 := S2.go st3 rep3
  cases b with
  | false => exact iteF (L.nx σ2 H3 δ2 s3 S3 q)
  | true =>
    refine iteT ?_
    refine ⟨fun σ4 H4 => ∃ δ4 s4, Sd X.K A σ4 H4 δ4 s4 ∧ ∃ m', m' < m ∧ W m' δ4 s4, fun σ4 H4 ⟨δ4, s4, S4, m', hm, w4⟩ => ⟨m', hm, δ4, s4, S4, w4⟩, δ2, s3, _, S3, q, ?_⟩
    exact ⟨fun σ H δ s S q => ⟨δ, s, S, q⟩, fun σ H δ s S q => L.nx σ H δ s S q, fun σ H δ s S q => ⟨δ, s, S, q⟩, L.rt⟩
end

/-! ### comprehensions -/
def dYes (_ : Ed) (s : Sto) (Q : Bool → Sto → Prop) : Prop := Q true s
abbrev PTsd (A : Anc) (X : Cx) (ifs : List Expr) (t : TTd) : Prop := PTs X ifs (lT X.K A t)
/-- the list under way is hidden at D -/
def kLc3 (W : Nat → List DV → Sto → Prop) (i : Nat) (acc : List DV) (y : DV) (s3 : Sto) : Prop := acc.length < sizeLine ∧ W (i + 1) (acc ++ [y]) s3
def kLc2' (te : TEd) (W : Nat → List DV → Sto → Prop) (i : Nat) (acc : List DV) (δ' : Ed) (s2 : Sto) : Prop := te δ' s2 (kLc3 W i acc)
def kLc2 (te : TEd) (W : Nat → List DV → Sto → Prop) (i : Nat) (acc : List DV) (δ' : Ed) (b : Bool) (s2 : Sto) : Prop := dGif b (kLc2' te W i acc δ') (W (i + 1) acc) s2
def kLc1 (tt : TTd) (te : TEd) (W : Nat → List DV → Sto → Prop) (i : Nat) (acc : List DV) (δ' : Ed) (s' : Sto) : Prop := tt δ' s' (kLc2 te W i acc δ')
def dLcW (g : TGd) (tt : TTd) (te : TEd) (vs : List Nat) (δ : Ed) (fin : Addr → List DV → Sto → Prop) (ds : List DV) (G : Sto → Prop) (s1 : Sto) : Prop := ∀ D, s1 D = none → ∃ W : Nat → List DV → Sto → Prop, W 0 [] (up s1 D .hid) ∧
  (∀ i d acc s, ds[i]? = some d → W i acc s → G s ∧ g d (wipeD δ vs) s (kLc1 tt te W i acc)) ∧
  ∀ acc s, W ds.length acc s → G s ∧ fin D acc s
def finF (Q : KD) (D : Addr) (acc : List DV) (s : Sto) : Prop := Q (.lst acc) (er s D)
def finM (Q : KD) (D : Addr) (acc : List DV) (s : Sto) : Prop := Q (.ref D) (up s D (.lst acc))
def dLc (it : TId) (g : TGd) (tt : TTd) (te : TEd) (vs : List Nat) (δ : Ed) (s : Sto) (Q : KD) : Prop := it δ s (dLcW g tt te vs δ (finF Q))
def dLcM (it : TId) (g : TGd) (tt : TTd) (te : TEd) (vs : List Nat) (δ : Ed) (s : Sto) (Q : KD) : Prop := it δ s (dLcW g tt te vs δ (finM Q))
section
variable {X : Cx} {A : Anc} {tg iter elt : Expr} {ifs : List Expr} {scope : Scope} {own : List (Str × Nat)} {it : TId} {g : TG} {g' : TGd} {tt : TTd} {te : TEd} {sl : List Nat} {pos : Pos}
theorem dtsn : PTsd A X [] dYes := ⟨fun pins s σ H Q I h => pts_nil.run pins s σ H Q I (by
  obtain ⟨δ, s, Q', S, t, k⟩ := h
  exact k true H s (Stp.refl s H) S.rep t)⟩
theorem dts1 {c : Expr} (h : PTd A X c tt) : PTsd A X [c] tt := pts_one h
/-- the end of a comprehension -/
structure LcEnd (K : PySem.W.Frag) (D : Addr) (acc : List DV) (s : Sto) (H : Hp) : Prop where
  rep : Rep K s H
  hid : s D = some .hid
  at_ : ∃ xs, H D = some (.lst xs) ∧ DatL K s H xs acc
theorem lc_run {K : PySem.W.Frag} {σ : L2.St} {H : Hp} {Q : VK} {δ : Ed} {s : Sto} {vs : List Nat} {fin : Addr → List DV → Sto → Prop} (mg : GMono g) (hp : PatOk K g g' sl) (hsl : ∀ i ∈ sl, i ∈ vs) (S : Sd K A σ H δ s)
    (t : it δ s (dLcW g' tt te vs δ fin))
    (k : ∀ D acc s1 H1 s2 H2, Stp s H s1 H1 → H1 D = none → Stp s1 H1 s2 H2 → LcEnd K D acc s2 H2 → fin D acc s2 → Q (.ref D) H2) : tLc (lI K A it) g (lT K A tt) (lE K A te) vs σ H Q := by
  refine ⟨δ, s, _, S, t, fun ds G s1 H1 J st1 rep1 iD q1 D hD => ?_⟩
  obtain ⟨W, w0, step, fn⟩ := q1 D (rep1.fresh hD)
  have S1 := S.go st1 rep1
  have L0 : LcEnd K D [] (up s1 D .hid) (upd H1 D (.lst [])) := ⟨rep1.put (Stp.new hD) ⟨_, upd_same⟩, up_same, [], upd_same, .nil⟩
  refine ⟨fun i m H2 => m = ds.length - i ∧ i ≤ ds.length ∧ ∃ acc s2, Stp s1 H1 s2 H2 ∧ LcEnd K D acc s2 H2 ∧ W i acc s2, ⟨ds.length, by simp, Nat.zero_le _, [], _, Stp.new hD, L0, w0⟩, ?_⟩
  rintro i m H2 ⟨rfl, hi, acc, s2, st2, Le, w2⟩
  by_cases hlt : i < ds.length
  · obtain ⟨d, hd⟩ := get_lt hlt
    obtain ⟨gs, _⟩ := step i d acc s2 hd w2
    refine .inr ⟨iD.go i s2 H2 st2 Le.rep gs hlt, fun H3 => ∃ acc s3, Stp s1 H1 s3 H3 ∧ LcEnd K D acc s3 H3 ∧ W (i + 1) acc s3, fun H3 ⟨acc, s3, a, b, c⟩ => ⟨ds.length - (i + 1), by omega, rfl, hlt, acc, s3, a, b, c⟩, fun x H3 y => ?_⟩
    obtain ⟨st3, rep3, d3, hd3, dv3⟩ := iD.yld i s2 H2 x H3 st2 Le.rep gs hlt y
    obtain ⟨_, q3⟩ := step i d3 acc s2 hd3 w2
    have env3 : EnvR K s2 H3 (wipe σ vs) (wipeD δ vs) := env_wipe (S1.env.step (st2.trans st3) rep1) vs
    refine mg.mono _ _ _ _ _ ?_ (hp.ok x d3 _ H3 _ s2 _ rep3 env3 dv3 q3)
    rintro σ4 H4 ⟨rfl, ⟨δ4, env4, q4⟩, wp⟩
    refine ⟨?_, ?_⟩
    · rw [wp vs hsl]
      have idem : ∀ (ws vs : List Nat) (τ : L2.St), (∀ i ∈ ws, i ∈ vs) → wipe (wipe τ ws) vs = wipe τ vs := by
        intro ws
        induction ws with
        | nil => intro vs τ _; rfl
        | cons w ws ih =>
          intro vs τ h
          show wipe ((wipe τ ws).set w none) vs = _
          rw [wipe_set none vs _ w (h w List.mem_cons_self), ih vs τ fun i hi => h i (List.mem_cons_of_mem _ hi)]
      exact idem vs vs σ fun _ h => h
    · have S4 : Sd K A σ4 H4 δ4 s2 := ⟨(S1.stp.trans st2).trans st3, rep3, env4⟩
      refine ⟨δ4, s2, _, S4, q4, fun b H5 s5 st5 rep5 q5 => ?_⟩
      obtain ⟨xs, hx, lx⟩ := Le.at_
      have hx4 := (st3 D _ hx (.inr Le.hid)).1
      have hx5 := st5 D _ hx4 (.inr Le.hid)
      have lx5 := (lx.step st3 Le.rep).step st5 rep3
      cases b with
      | false =>
        refine iteF ?_
        exact ⟨acc, s5, (st2.trans st3).trans st5, ⟨rep5, hx5.2.trans Le.hid, xs, hx5.1, lx5⟩, q5⟩
      | true =>
        refine iteT ?_
        refine ⟨δ4, s5, _, S4.go st5 rep5, q5, fun y6 H6 d6 s6 st6 rep6 dv6 ⟨hl, q6⟩ => ?_⟩
        have hx6 := st6 D _ hx5.1 (.inr (hx5.2.trans Le.hid))
        have hh : s6 D = some .hid := hx6.2.trans (hx5.2.trans Le.hid)
        have lx6 := lx5.step st6 rep5
        refine ⟨xs, hx6.1, by rw [lx.length]; exact hl, acc ++ [d6], s6, ?_, ⟨rep6.hidden hh hx6.1, hh, xs ++ [y6], upd_same, (lx6.append (.cons dv6 .nil)).hid hh hx6.1⟩, q6⟩
        intro a o ha hn
        have ne : a ≠ D := ne_of_none ha hD
        rw [upd_ne ne]
        exact ((st2.trans st3).trans (st5.trans st6)) a o ha hn
  · have e : i = ds.length := by omega
    subst e
    obtain ⟨gs, q⟩ := fn acc s2 w2
    exact .inl ⟨iD.stop s2 H2 st2 Le.rep gs, k D acc s1 H1 s2 H2 st1 hD st2 Le q⟩
theorem LcEnd.lst {K : PySem.W.Frag} {D : Addr} {acc : List DV} {s0 s : Sto} {H0 H : Hp} (L : LcEnd K D acc s H) (st : Stp s0 H0 s H) (hD : H0 D = none) : Stp s0 H0 (er s D) H ∧ Rep K (er s D) H ∧ Dat K (er s D) H (.ref D) (.lst acc) := by
  obtain ⟨xs, hx, lx⟩ := L.at_
  refine ⟨fun a o ha hn => ?_, L.rep.erase D, .lst hx er_same (lx.subN erN)⟩
  have ne : a ≠ D := ne_of_none ha hD
  rw [er_ne ne]
  exact st a o ha hn
theorem LcEnd.mut {K : PySem.W.Frag} {D : Addr} {acc : List DV} {s0 s : Sto} {H0 H : Hp} (L : LcEnd K D acc s H) (st : Stp s0 H0 s H) (hD : H0 D = none) : Stp s0 H0 (up s D (.lst acc)) H ∧ Rep K (up s D (.lst acc)) H := by
  obtain ⟨xs, hx, lx⟩ := L.at_
  have sub : ∀ a, s a = none → up s D (.lst acc) a = none := fun a h => by
    have ne : a ≠ D := fun z => by rw [z, L.hid] at h; cases h
    rw [up_ne ne]; exact h
  refine ⟨fun a o ha hn => ?_, fun a m e => ?_⟩
  · have ne : a ≠ D := ne_of_none ha hD
    rw [up_ne ne]
    exact st a o ha hn
  · by_cases z : a = D
    · subst z
      rw [up_same] at e; cases e
      exact ⟨xs, hx, lx.subN sub⟩
    · rw [up_ne z] at e
      exact (L.rep a m e).subN sub
theorem dlc (hc : X.calm = true) (hN : X.N.Nodup) (hi : PId A X tg iter it) (ok : BlkOk X.N X.env.scope scope own) (mg : GMono g) (hp : PatOk X.K g g' sl) (hsl : ∀ i ∈ sl, i ∈ own.map (·.2))
    (hg : ∀ (s : Shared) (H : Hp) (C : Addr) (cl : List (Str × Addr)) (fp : List Addr), PG (X.blk s H scope (compEnvC scope cl C X.env) fp) tg g)
    (ht : ∀ (s : Shared) (H : Hp) (C : Addr) (cl : List (Str × Addr)) (fp : List Addr), PTsd A (X.blk s H scope (compEnvC scope cl C X.env) fp) ifs tt)
    (he : ∀ (s : Shared) (H : Hp) (C : Addr) (cl : List (Str × Addr)) (fp : List Addr), PD A (X.blk s H scope (compEnvC scope cl C X.env) fp) elt te) (hs : ∀ x, foldedSetIterable iter X.env x = pure x := by intro _; rfl) :
    PD A X (.ListComp elt [⟨tg, iter, ifs, 0⟩] scope pos) (dLc it g' tt te (own.map (·.2))) := peImp (pe_lc hc hN hi ok hg ht he hs) fun σ H Q h => by
  obtain ⟨δ, s, Q', S, t, k⟩ := h
  refine lc_run mg hp hsl S t fun D acc s1 H1 s2 H2 st1 hD st2 L q => ?_
  obtain ⟨a, b, c⟩ := L.lst st2 hD
  exact k _ H2 _ _ (st1.trans a) b c q
theorem dlcM (hc : X.calm = true) (hN : X.N.Nodup) (hi : PId A X tg iter it) (ok : BlkOk X.N X.env.scope scope own) (mg : GMono g) (hp : PatOk X.K g g' sl) (hsl : ∀ i ∈ sl, i ∈ own.map (·.2))
    (hg : ∀ (s : Shared) (H : Hp) (C : Addr) (cl : List (Str × Addr)) (fp : List Addr), PG (X.blk s H scope (compEnvC scope cl C X.env) fp) tg g)
    (ht : ∀ (s : Shared) (H : Hp) (C : Addr) (cl : List (Str × Addr)) (fp : List Addr), PTsd A (X.blk s H scope (compEnvC scope cl C X.env) fp) ifs tt)
    (he : ∀ (s : Shared) (H : Hp) (C : Addr) (cl : List (Str × Addr)) (fp : List Addr), PD A (X.blk s H scope (compEnvC scope cl C X.env) fp) elt te) (hs : ∀ x, foldedSetIterable iter X.env x = pure x := by intro _; rfl) :
    PD A X (.ListComp elt [⟨tg, iter, ifs, 0⟩] scope pos) (dLcM it g' tt te (own.map (·.2))) := peImp (pe_lc hc hN hi ok hg ht he hs) fun σ H Q h => by
  obtain ⟨δ, s, Q', S, t, k⟩ := h
  refine lc_run mg hp hsl S t fun D acc s1 H1 s2 H2 st1 hD st2 L q => ?_
  obtain ⟨a, b⟩ := L.mut st2 hD
  exact k _ H2 _ _ (st1.trans a) b (.ref D) q
end
end DL

set_option Elab.async false
set_option linter.all false
set_option maxRecDepth 100000
set_option maxHeartbeats 4000000
namespace DL
open PySem PySem.Spec PyProof.Rows L2

/-! ### promises over data -/
abbrev XDd := Value → List (Str × DV) → Sto → Prop
def noX : XDd := fun _ _ _ => False
abbrev Spd := List DV → Sto → KD → XDd → Prop
/-- a promise called: the simplifier looks at what is handed in alone -/
def cSp (sp : Spd) (ds : List DV) (s : Sto) (Q : KD) (E : XDd) : Prop := sp ds s Q E
def XdR (K : PySem.W.Frag) (s : Sto) (H : Hp) (dd : Option Addr) (fs : List (Str × DV)) : Prop := (dd = none ∧ fs = []) ∨ ∃ a gs, dd = some a ∧ H a = some (.xd gs) ∧ DatP K s H gs fs ∧ s a = none
def ExL (K : PySem.W.Frag) (s0 : Sto) (H0 : Hp) (E' : XDd) (E : XK) : Prop := ∀ cls dd fs s H, Stp s0 H0 s H → Rep K s H → XdR K s H dd fs → E' cls fs s → E cls dd H
theorem ExL.no {K : PySem.W.Frag} {s0 : Sto} {H0 : Hp} {E : XK} : ExL K s0 H0 noX E := fun _ _ _ _ _ _ _ _ z => z.elim
theorem ExL.go {K : PySem.W.Frag} {s0 s1 : Sto} {H0 H1 : Hp} {E' : XDd} {E : XK} (h : ExL K s0 H0 E' E) (st : Stp s0 H0 s1 H1) : ExL K s1 H1 E' E := fun cls dd fs s H st' => h cls dd fs s H (st.trans st')
def lSp (K : PySem.W.Frag) (sp : Spd) : Sp := fun vs H Q E => ∃ ds s Q' E', Rep K s H ∧ DatL K s H vs ds ∧ sp ds s Q' E' ∧ (∀ v H2 d s2, Stp s H s2 H2 → Rep K s2 H2 → Dat K s2 H2 v d → Q' d s2 → Q v H2) ∧ ExL K s H E' E
def startD (n : Nat) (ds : List DV) : Ed := ds.map some ++ List.replicate (n - ds.length) none
theorem env_start {K : PySem.W.Frag} {s : Sto} {H : Hp} {vs : List V} {ds : List DV} (N : List Str) (h : DatL K s H vs ds) : EnvR K s H (L2.start N vs) (startD N.length ds) := ⟨by simp [L2.start, startD, h.length], fun i d e => by
  unfold startD at e
  by_cases c : i < ds.length
  · rw [List.getElem?_append_left (by simpa using c), List.getElem?_map] at e
    obtain ⟨d', hd⟩ := get_lt c
    rw [hd] at e
    cases e
    obtain ⟨v, h1, h2⟩ := h.get' hd
    refine ⟨v, ?_, h2⟩
    show (vs.map some ++ _)[i]? = _
    rw [List.getElem?_append_left (by simpa [h.length] using c), List.getElem?_map, h1]
    rfl
  · rw [List.getElem?_append_right (by simpa using Nat.le_of_not_lt c)] at e
    rw [List.getElem?_replicate] at e
    split at e <;> cases e⟩
section
variable {P : Program} {w : World} {K : PySem.W.Frag} {mg : Str → Option Value} {base : Heap}
/-- THE RULE for a def from which nothing is raised -/
theorem defOk {x qual : Str} {st : Stmt} {f : Addr} {fd : FuncData} {N ps : List Str} {k : Nat} {sp : Spd} {t : TSd} (F : Fun K x qual st f fd) (S : FnScope N ps (defScope st)) (len : ∀ ds s Q E, sp ds s Q E → ds.length = ps.length)
    (hbody : ∀ (A : Anc) (cdv : Value) (Ar : Around) (outer : List Env) (s : Shared) (H : Hp) (E : XK), Room k (Ar.deeper (envOfC qual (defScope st) s.heap.objs.size f cdv)) →
      PSsd A (cxOf CX0 P w K mg base N qual (defScope st) f cdv Ar outer s H E).nox (defBody st) t)
    (hread : ∀ ds s Q E, sp ds s Q E → t { nx := fun _ s => Q .non s, rt := Q } (startD N.length ds) s) : FnOk P w K mg base CX0 (k + 1) f fd ps (lSp K sp) := by
  refine F.ok S (fun vs H Q E h => ?_) (fun cdv Ar outer s H vs Q E hr h => ?_)
  · obtain ⟨ds, s, Q', E', rep, dv, q, _⟩ := h
    rw [dv.length]
    exact len ds s Q' E' q
  · obtain ⟨ds, s0, Q', E', rep, dv, q, kq, ke⟩ := h
    refine ⟨_, hbody ⟨s0, H⟩ cdv Ar outer s H E hr, startD N.length ds, s0, _, ⟨Stp.refl s0 H, rep, env_start N dv⟩, hread ds s0 Q' E' q, ?_⟩
    exact ⟨fun σ H2 δ s2 S2 q2 => kq .non H2 .non s2 S2.stp S2.rep .non q2, fun _ _ _ _ _ z => z.elim, fun _ _ _ _ _ z => z.elim, fun v H2 d s2 st rep2 dv2 q2 => kq v H2 d s2 st rep2 dv2 q2⟩
theorem fnImp {CX : CXT} {k : Nat} {f : Addr} {fd : FuncData} {ps : List Str} {sp sp' : Spd} (F : FnOk P w K mg base CX k f fd ps (lSp K sp)) (h : ∀ ds s Q E, sp' ds s Q E → sp ds s Q E) : FnOk P w K mg base CX k f fd ps (lSp K sp') :=
  F.imp fun vs H Q E ⟨ds, s, Q', E', rep, dv, q, kq, ke⟩ => ⟨ds, s, Q', E', rep, dv, h _ _ _ _ q, kq, ke⟩
end

/-! ### calls -/
def kCall (sp : Spd) (dvs : List DV) (Q : KD) (ds : List DV) (s1 : Sto) : Prop := cSp sp (ds ++ dvs) s1 Q noX
def dCall (sp : Spd) (dvs : List DV) (t : TAd) (δ : Ed) (s : Sto) (Q : KD) : Prop := t δ s (kCall sp dvs Q)
def kCallK2 (sp : Spd) (n m : Nat) (g : List DV → List DV → List DV) (Q : KD) (ds es : List DV) (s2 : Sto) : Prop := (ds.length = n ∧ es.length = m) ∧ cSp sp (g ds es) s2 Q noX
def kCallK (sp : Spd) (n m : Nat) (g : List DV → List DV → List DV) (tk : TAd) (δ : Ed) (Q : KD) (ds : List DV) (s1 : Sto) : Prop := tk δ s1 (kCallK2 sp n m g Q ds)
def dCallK (sp : Spd) (n m : Nat) (g : List DV → List DV → List DV) (t tk : TAd) (δ : Ed) (s : Sto) (Q : KD) : Prop := t δ s (kCallK sp n m g tk δ Q)
def kMeth2 (sp : Spd) (dvs : List DV) (Q : KD) (a : Addr) (ds : List DV) (s2 : Sto) : Prop := cSp sp (.ref a :: (ds ++ dvs)) s2 Q noX
def kMeth (C : Addr) (m : Str) (sp : Spd) (dvs : List DV) (t : TAd) (δ : Ed) (Q : KD) (o : DV) (s1 : Sto) : Prop := match o with
  | .ref a => match s1 a with
    | some (.ins C' fs) => C' = C ∧ fs.lookup m = none ∧ t δ s1 (kMeth2 sp dvs Q a)
    | _ => False
  | _ => False
def dMeth (C : Addr) (m : Str) (sp : Spd) (dvs : List DV) (to : TEd) (t : TAd) (δ : Ed) (s : Sto) (Q : KD) : Prop := to δ s (kMeth C m sp dvs t δ Q)
def kMade (Q : KD) (x : Addr) (d : DV) (s2 : Sto) : Prop := d = .non ∧ Q (.ref x) s2
def kMake (C : Addr) (sp : Spd) (dvs : List DV) (Q : KD) (ds : List DV) (s1 : Sto) : Prop := ∀ x, s1 x = none → cSp sp (.ref x :: (ds ++ dvs)) (up s1 x (.ins C [])) (kMade Q x) noX
def dMake (C : Addr) (sp : Spd) (dvs : List DV) (t : TAd) (δ : Ed) (s : Sto) (Q : KD) : Prop := t δ s (kMake C sp dvs Q)
def kMakeK2 (C : Addr) (sp : Spd) (n m : Nat) (g : List DV → List DV → List DV) (Q : KD) (ds es : List DV) (s2 : Sto) : Prop := (ds.length = n ∧ es.length = m) ∧ ∀ x, s2 x = none → cSp sp (g (.ref x :: ds) es) (up s2 x (.ins C [])) (kMade Q x) noX
def kMakeK (C : Addr) (sp : Spd) (n m : Nat) (g : List DV → List DV → List DV) (tk : TAd) (δ : Ed) (Q : KD) (ds : List DV) (s1 : Sto) : Prop := tk δ s1 (kMakeK2 C sp n m g Q ds)
def dMakeK (C : Addr) (sp : Spd) (n m : Nat) (g : List DV → List DV → List DV) (t tk : TAd) (δ : Ed) (s : Sto) (Q : KD) : Prop := t δ s (kMakeK C sp n m g tk δ Q)
def kFld (C : Addr) (f : Str) (Q : KD) (d : DV) (s1 : Sto) : Prop := match d with
  | .ref a => match s1 a with
    | some (.ins C' fs) => C' = C ∧ match fs.lookup f with
      | some d => Q d s1
      | none => False
    | _ => False
  | _ => False
def dFld (C : Addr) (f : Str) (t : TEd) (δ : Ed) (s : Sto) (Q : KD) : Prop := t δ s (kFld C f Q)
def putFD (f : Str) (v : DV) : List (Str × DV) → List (Str × DV)
  | [] => [(f, v)]
  | (g, x) :: r => if g = f then (g, v) :: r else (g, x) :: putFD f v r
def kSetFld2 (C : Addr) (f : Str) (D : EndsD) (δ : Ed) (v o : DV) (s2 : Sto) : Prop := match o with
  | .ref a => match s2 a with
    | some (.ins C' fs) => C' = C ∧ fs.length < 1000 ∧ D.nx δ (up s2 a (.ins C (putFD f v fs)))
    | _ => False
  | _ => False
def kSetFld (C : Addr) (f : Str) (to : TEd) (D : EndsD) (δ : Ed) (v : DV) (s1 : Sto) : Prop := to δ s1 (kSetFld2 C f D δ v)
def dSetFld (C : Addr) (f : Str) (to tv : TEd) (D : EndsD) (δ : Ed) (s : Sto) : Prop := tv δ s (kSetFld C f to D δ)
/-- o.f += j, j written -/
def kAugFld (C : Addr) (f : Str) (g : Int → Int) (D : EndsD) (δ : Ed) (o : DV) (s1 : Sto) : Prop := match o with
  | .ref a => match s1 a with
    | some (.ins C' fs) => C' = C ∧ match fs.lookup f with
      | some (.int i) => fs.length < 1000 ∧ D.nx δ (up s1 a (.ins C (putFD f (.int (g i)) fs)))
      | _ => False
    | _ => False
  | _ => False
def dAugFld (C : Addr) (f : Str) (g : Int → Int) (to : TEd) (D : EndsD) (δ : Ed) (s : Sto) : Prop := to δ s (kAugFld C f g D δ)
theorem lookP {K : PySem.W.Frag} {s : Sto} {H : Hp} (f : Str) : ∀ {gs : List (Str × V)} {fs : List (Str × DV)}, DatP K s H gs fs → (fs.lookup f = none → gs.lookup f = none) ∧ ∀ d, fs.lookup f = some d → ∃ v, gs.lookup f = some v ∧ Dat K s H v d
  | _, _, .nil => ⟨fun _ => rfl, fun _ e => by cases e⟩
  | _, _, .cons (a := p) (b := q) h t => by
    obtain ⟨i1, i2⟩ := lookP f t
    obtain ⟨p1, p2⟩ := p
    obtain ⟨q1, q2⟩ := q
    obtain ⟨e, hv⟩ := h
    have e' : p1 = q1 := e
    subst e'
    by_cases c : f = p1
    · subst c
      simp only [List.lookup, beq_self_eq_true]
      exact ⟨fun z => (nomatch z), fun d hd => ⟨p2, rfl, by cases hd; exact hv⟩⟩
    · have cb : (f == p1) = false := by simpa using c
      simp only [List.lookup, cb]
      exact ⟨i1, i2⟩
theorem putF_ok {K : PySem.W.Frag} {s : Sto} {H : Hp} {f : Str} {v : V} {d : DV} (hv : Dat K s H v d) : ∀ {gs : List (Str × V)} {fs : List (Str × DV)}, DatP K s H gs fs → DatP K s H (putF f v gs) (putFD f d fs)
  | _, _, .nil => .cons ⟨rfl, hv⟩ .nil
  | _, _, .cons (a := p) (b := q) h t => by
    obtain ⟨p1, p2⟩ := p
    obtain ⟨q1, q2⟩ := q
    obtain ⟨e, hv'⟩ := h
    have e' : p1 = q1 := e
    subst e'
    unfold putF putFD
    by_cases c : p1 = f
    · rw [if_pos c, if_pos c]; exact .cons ⟨rfl, hv⟩ t
    · rw [if_neg c, if_neg c]; exact .cons ⟨rfl, hv'⟩ (putF_ok hv t)
section
variable {X : Cx} {A : Anc} {k : Nat} {f C : Addr} {fd : FuncData} {ps ks : List Str} {sp : Spd} {dvs : List V} {dds : List DV} {ds : List Value} {x m : Str} {p pos apos kpos : Pos} {e o : Expr} {es : List Expr} {kws : List Keyword} {te to tv : TEd} {t tk : TAd}
theorem lSp_of {K : PySem.W.Frag} {s : Sto} {H : Hp} {vs : List V} {es : List DV} {Q' : KD} {Q : VK} {E : XK} (rep : Rep K s H) (dv : DatL K s H vs es) (q : sp es s Q' noX) (k : ∀ v H2 d s2, Stp s H s2 H2 → Rep K s2 H2 → Dat K s2 H2 v d → Q' d s2 → Q v H2) : lSp K sp vs H Q E :=
  ⟨es, s, Q', noX, rep, dv, q, k, ExL.no⟩
theorem dcall (F : FnOk X.prog X.w X.K X.mg X.base CX0 k f fd ps (lSp X.K sp)) (hr : Room k X.A) (hm : X.mg x = some (.ref f)) (hk : PySem.W.keepIn X.K (.ref f) = true) (hb : Binds X.K fd ps ds) (hd : Vals dvs ds) (hdd : ∀ s H, DatL X.K s H dvs dds)
    (ha : PAd A X (e :: es) t) (hg : Gl X x := by rfl) (hdb : (x == ("__debug__" : Str)) = false := by decide) (he : starEach (e :: es) X.env = (false, eval e X.env) :: starEach es X.env := by rfl) (hpl : (backTo pos (starEach es X.env)).any (·.1) = false := by rfl) :
    PD A X (.Call (.Name x p) (e :: es) [] pos) (dCall sp dds t) := peImp (pe_call F hr hg hm hk hb hd pass0 ha hdb he hpl) fun σ H Q h => by
  obtain ⟨δ, s, Q', S, t, k⟩ := h
  exact ⟨δ, s, _, S, t, fun vs H1 es s1 st1 rep1 dv q => lSp_of rep1 (dv.append (hdd s1 H1)) q fun v2 H2 d2 s2 st2 => k v2 H2 d2 s2 (st1.trans st2)⟩
theorem dcall0 (F : FnOk X.prog X.w X.K X.mg X.base CX0 k f fd ps (lSp X.K sp)) (hr : Room k X.A) (hm : X.mg x = some (.ref f)) (hk : PySem.W.keepIn X.K (.ref f) = true) (hb : Binds X.K fd ps ds) (hd : Vals dvs ds) (hdd : ∀ s H, DatL X.K s H dvs dds)
    (hg : Gl X x := by rfl) (hdb : (x == ("__debug__" : Str)) = false := by decide) :
    PD A X (.Call (.Name x p) [] [] pos) (dCall sp dds dNil) := peImp (pe_call0 F hr hg hm hk hb hd pass0 hdb) fun σ H Q h => by
  obtain ⟨δ, s, Q', S, t, k⟩ := h
  exact lSp_of S.rep (hdd s H) t fun v2 H2 d2 s2 st2 => k v2 H2 d2 s2 st2
theorem dmeth {pl : Sem Bool} (ho : PD A X o to) (c : Cls X.K C) (hm : Meth X.K C m f) (F : FnOk X.prog X.w X.K X.mg X.base CX0 k f fd ps (lSp X.K sp)) (hr : Room k X.A) (hb : Binds X.K fd ps ds) (hd : Vals dvs ds) (hdd : ∀ s H, DatL X.K s H dvs dds) (ha : PAd A X (e :: es) t)
    (hst : starEach (e :: es) X.env = (false, eval e X.env) :: starEach es X.env := by rfl) (hpl : (backTo pos (starEach es X.env)).any (·.1) = false := by rfl)
    (ht : eval (.Call (.Attribute o m apos) (e :: es) [] pos) X.env = (do
      let ov ← eval o X.env
      standAt apos.atName
      let (f, first) ← holding [ov] (getMethod ov m pl)
      callWith pos f first (backTo pos (starEach (e :: es) X.env)) (backToKw pos (keywordEach [] X.env))) := by rfl) :
    PD A X (.Call (.Attribute o m apos) (e :: es) [] pos) (dMeth C m sp dds to t) := peImp (pe_meth ho c hm F hr hb hd pass0 ha hst hpl ht) fun σ H Q h => by
  obtain ⟨δ, s, Q', S, t, k⟩ := h
  refine ⟨δ, s, _, S, t, fun v H1 d s1 st1 rep1 dv q => ?_⟩
  unfold kMeth at q
  split at q
  · rename_i a
    cases dv
    split at q
    · rename_i C' fs e
      obtain ⟨rfl, hl, q⟩ := q
      obtain ⟨dx, gs, h1, hp⟩ := rep1 a _ e
      refine ⟨a, dx, gs, rfl, h1, (lookP m hp).1 hl, δ, s1, _, S.go st1 rep1, q, fun vs H2 es s2 st2 rep2 dvv q2 => ?_⟩
      exact lSp_of rep2 (.cons (.ref a) (dvv.append (hdd s2 H2))) q2 fun v3 H3 d3 s3 st3 => k v3 H3 d3 s3 ((st1.trans st2).trans st3)
    · exact False.elim q
  · exact False.elim q
theorem dmeth0 {pl : Sem Bool} (ho : PD A X o to) (c : Cls X.K C) (hm : Meth X.K C m f) (F : FnOk X.prog X.w X.K X.mg X.base CX0 k f fd ps (lSp X.K sp)) (hr : Room k X.A) (hb : Binds X.K fd ps ds) (hd : Vals dvs ds) (hdd : ∀ s H, DatL X.K s H dvs dds)
    (ht : eval (.Call (.Attribute o m apos) [] [] pos) X.env = (do
      let ov ← eval o X.env
      standAt apos.atName
      let (f, first) ← holding [ov] (getMethod ov m pl)
      callWith pos f first (backTo pos (starEach [] X.env)) (backToKw pos (keywordEach [] X.env))) := by rfl) :
    PD A X (.Call (.Attribute o m apos) [] [] pos) (dMeth C m sp dds to dNil) := peImp (pe_meth0 ho c hm F hr hb hd pass0 ht) fun σ H Q h => by
  obtain ⟨δ, s, Q', S, t, k⟩ := h
  refine ⟨δ, s, _, S, t, fun v H1 d s1 st1 rep1 dv q => ?_⟩
  unfold kMeth at q
  split at q
  · rename_i a
    cases dv
    split at q
    · rename_i C' fs e
      obtain ⟨rfl, hl, q⟩ := q
      obtain ⟨dx, gs, h1, hp⟩ := rep1 a _ e
      refine ⟨a, dx, gs, rfl, h1, (lookP m hp).1 hl, ?_⟩
      exact lSp_of rep1 (.cons (.ref a) (hdd s1 H1)) q fun v3 H3 d3 s3 st3 => k v3 H3 d3 s3 (st1.trans st3)
    · exact False.elim q
  · exact False.elim q
theorem made_ok {K : PySem.W.Frag} {s : Sto} {H : Hp} {x dx : Addr} (rep : Rep K s H) (hx : H x = none) (hdx : H dx = none) (ne : dx ≠ x) :
    Stp s H (up s x (.ins C [])) (upd (upd H dx (.own x)) x (.ins C dx [])) ∧ Rep K (up s x (.ins C [])) (upd (upd H dx (.own x)) x (.ins C dx [])) := by
  have hx' : upd H dx (.own x) x = none := by rw [upd_ne (Ne.symm ne)]; exact hx
  have st1 : Stp s H s (upd H dx (.own x)) := Stp.newF hdx
  have st2 : Stp s (upd H dx (.own x)) (up s x (.ins C [])) (upd (upd H dx (.own x)) x (.ins C dx [])) := Stp.new hx'
  exact ⟨st1.trans st2, (rep.newF hdx).put st2 ⟨dx, [], upd_same, .nil⟩⟩
theorem dmake (M : Mk X.K C f) (F : FnOk X.prog X.w X.K X.mg X.base CX0 k f fd ps (lSp X.K sp)) (hr : Room (k + 1) X.A) (hm : X.mg x = some (.ref C)) (hb : Binds X.K fd ps ds) (hd : Vals dvs ds) (hdd : ∀ s H, DatL X.K s H dvs dds)
    (ha : PAd A X (e :: es) t) (hg : Gl X x := by rfl) (hdb : (x == ("__debug__" : Str)) = false := by decide) (he : starEach (e :: es) X.env = (false, eval e X.env) :: starEach es X.env := by rfl) (hpl : (backTo pos (starEach es X.env)).any (·.1) = false := by rfl) :
    PD A X (.Call (.Name x p) (e :: es) [] pos) (dMake C sp dds t) := peImp (pe_make M F hr hg hm hb hd pass0 ha hdb he hpl) fun σ H Q h => by
  obtain ⟨δ, s, Q', S, t, k⟩ := h
  refine ⟨δ, s, _, S, t, fun vs H1 es s1 st1 rep1 dv q y dy hy hdy ne => ?_⟩
  obtain ⟨st2, rep2⟩ := made_ok (C := C) rep1 hy hdy ne
  refine lSp_of rep2 (.cons (.ref y) ((dv.step st2 rep1).append (hdd _ _))) (q y (rep1.fresh hy)) fun v3 H3 d3 s3 st3 rep3 dv3 q3 => ?_
  obtain ⟨rfl, q3⟩ := q3
  exact ⟨dv3.nonInv, k _ H3 _ s3 ((st1.trans st2).trans st3) rep3 (.ref y) q3⟩
theorem dmake0 (M : Mk X.K C f) (F : FnOk X.prog X.w X.K X.mg X.base CX0 k f fd ps (lSp X.K sp)) (hr : Room (k + 1) X.A) (hm : X.mg x = some (.ref C)) (hb : Binds X.K fd ps ds) (hd : Vals dvs ds) (hdd : ∀ s H, DatL X.K s H dvs dds)
    (hg : Gl X x := by rfl) (hdb : (x == ("__debug__" : Str)) = false := by decide) :
    PD A X (.Call (.Name x p) [] [] pos) (dMake C sp dds dNil) := peImp (pe_make0 M F hr hg hm hb hd pass0 hdb) fun σ H Q h => by
  obtain ⟨δ, s, Q', S, t, k⟩ := h
  intro y dy hy hdy ne
  obtain ⟨st2, rep2⟩ := made_ok (C := C) S.rep hy hdy ne
  refine lSp_of rep2 (.cons (.ref y) (hdd _ _)) (t y (S.rep.fresh hy)) fun v3 H3 d3 s3 st3 rep3 dv3 q3 => ?_
  obtain ⟨rfl, q3⟩ := q3
  exact ⟨dv3.nonInv, k _ H3 _ s3 (st2.trans st3) rep3 (.ref y) q3⟩
/-- keywords -/
abbrev PKd (A : Anc) (X : Cx) (kws : List Keyword) (t : TAd) : Prop := PK X kws (lA X.K A t)
theorem pkImp {t t' : TA} (h : PK X kws t) (w : ∀ σ H Q, t' σ H Q → t σ H Q) : PK X kws t' := ⟨fun pos pins s σ H Q I q => h.run pos pins s σ H Q I (w _ _ _ q)⟩
theorem dkn : PKd A X [] dNil := pkImp pk_nil fun σ H Q h => by
  obtain ⟨δ, s, Q', S, t, k⟩ := h
  exact k [] H [] s (Stp.refl s H) S.rep .nil t
theorem dkc {nm : Option Str} (ha : PD A X e te) (hr : PKd A X kws tk) : PKd A X (⟨nm, e, kpos⟩ :: kws) (dCons te tk) := pkImp (pk_cons ha hr) fun σ H Q h => by
  obtain ⟨δ, s, Q', S, t, k⟩ := h
  refine ⟨δ, s, _, S, t, fun v H1 d s1 st1 rep1 dv q1 => ?_⟩
  refine ⟨δ, s1, _, S.go st1 rep1, q1, fun vs H2 ds s2 st2 rep2 dvs q2 => ?_⟩
  exact k (v :: vs) H2 (d :: ds) s2 (st1.trans st2) rep2 (.cons (dv.step st2 rep1) dvs) q2
variable {n : Nat} {g : List Value → List Value → List Value} {gV : List V → List V → List V} {gD : List DV → List DV → List DV}
theorem dcallK (F : FnOk X.prog X.w X.K X.mg X.base CX0 k f fd ps (lSp X.K sp)) (hr : Room k X.A) (hm : X.mg x = some (.ref f)) (hk : PySem.W.keepIn X.K (.ref f) = true) (hb : KBn X.K fd ps n ks g gV) (hgD : ∀ s H vs es zs us, DatL X.K s H vs es → DatL X.K s H zs us → DatL X.K s H (gV vs zs) (gD es us))
    (ha : PAd A X (e :: es) t) (hkw : PKd A X kws tk) (hg : Gl X x := by rfl) (hall : (backToKw pos (keywordEach kws X.env)).all (·.1.isSome) = true := by rfl) (hks : (backToKw pos (keywordEach kws X.env)).filterMap (·.1) = ks := by rfl)
    (hdb : (x == ("__debug__" : Str)) = false := by decide) (he : starEach (e :: es) X.env = (false, eval e X.env) :: starEach es X.env := by rfl)
    (hpl : ((backTo pos (starEach (e :: es) X.env)).any (·.1) || (backToKw pos (keywordEach kws X.env)).any (·.1.isNone)) = false := by rfl) :
    PD A X (.Call (.Name x p) (e :: es) kws pos) (dCallK sp n ks.length gD t tk) := peImp (pe_callN F hr hg hm hk hb pass0 ha hkw hall hks hdb he hpl) fun σ H Q h => by
  obtain ⟨δ, s, Q', S, t, k⟩ := h
  refine ⟨δ, s, _, S, t, fun vs H1 es s1 st1 rep1 dv q => ?_⟩
  refine ⟨δ, s1, _, S.go st1 rep1, q, fun zs H2 us s2 st2 rep2 dvz q2 => ⟨by rw [dv.length]; exact q2.1.1, by rw [dvz.length]; exact q2.1.2, ?_⟩⟩
  exact lSp_of rep2 (hgD _ _ _ _ _ _ (dv.step st2 rep1) dvz) q2.2 fun v3 H3 d3 s3 st3 => k v3 H3 d3 s3 ((st1.trans st2).trans st3)
theorem dmakeK (M : Mk X.K C f) (F : FnOk X.prog X.w X.K X.mg X.base CX0 k f fd ps (lSp X.K sp)) (hr : Room (k + 1) X.A) (hm : X.mg x = some (.ref C)) (hb : KBn X.K fd ps (n + 1) ks g gV) (hgD : ∀ s H vs es zs us, DatL X.K s H vs es → DatL X.K s H zs us → DatL X.K s H (gV vs zs) (gD es us))
    (ha : PAd A X (e :: es) t) (hkw : PKd A X kws tk) (hg : Gl X x := by rfl) (hall : (backToKw pos (keywordEach kws X.env)).all (·.1.isSome) = true := by rfl) (hks : (backToKw pos (keywordEach kws X.env)).filterMap (·.1) = ks := by rfl) (hdb : (x == ("__debug__" : Str)) = false := by decide)
    (he : starEach (e :: es) X.env = (false, eval e X.env) :: starEach es X.env := by rfl) (hpl : ((backTo pos (starEach (e :: es) X.env)).any (·.1) || (backToKw pos (keywordEach kws X.env)).any (·.1.isNone)) = false := by rfl) :
    PD A X (.Call (.Name x p) (e :: es) kws pos) (dMakeK C sp n ks.length gD t tk) := peImp (pe_makeK M F hr hg hm hb pass0 ha hkw hall hks hdb he hpl) fun σ H Q h => by
  obtain ⟨δ, s, Q', S, t, k⟩ := h
  refine ⟨δ, s, _, S, t, fun vs H1 es s1 st1 rep1 dv q => ?_⟩
  refine ⟨δ, s1, _, S.go st1 rep1, q, fun zs H2 us s2 st2 rep2 dvz q2 => ⟨by rw [dv.length]; exact q2.1.1, by rw [dvz.length]; exact q2.1.2, fun y dy hy hdy ne => ?_⟩⟩
  obtain ⟨st3, rep3⟩ := made_ok (C := C) rep2 hy hdy ne
  refine lSp_of rep3 (hgD _ _ _ _ _ _ (.cons (.ref y) ((dv.step st2 rep1).step st3 rep2)) (dvz.step st3 rep2)) (q2.2 y (rep2.fresh hy)) fun v4 H4 d4 s4 st4 rep4 dv4 q4 => ?_
  obtain ⟨rfl, q4⟩ := q4
  exact ⟨dv4.nonInv, k _ H4 _ s4 (((st1.trans st2).trans st3).trans st4) rep4 (.ref y) q4⟩
theorem dmakeK0 (M : Mk X.K C f) (F : FnOk X.prog X.w X.K X.mg X.base CX0 k f fd ps (lSp X.K sp)) (hr : Room (k + 1) X.A) (hm : X.mg x = some (.ref C)) (hb : KBn X.K fd ps 1 ks g gV) (hgD : ∀ s H vs es zs us, DatL X.K s H vs es → DatL X.K s H zs us → DatL X.K s H (gV vs zs) (gD es us))
    (hkw : PKd A X kws tk) (hg : Gl X x := by rfl) (hall : (backToKw pos (keywordEach kws X.env)).all (·.1.isSome) = true := by rfl) (hks : (backToKw pos (keywordEach kws X.env)).filterMap (·.1) = ks := by rfl) (hdb : (x == ("__debug__" : Str)) = false := by decide)
    (hpl : ((backTo pos (starEach [] X.env)).any (·.1) || (backToKw pos (keywordEach kws X.env)).any (·.1.isNone)) = false := by rfl) :
    PD A X (.Call (.Name x p) [] kws pos) (dMakeK C sp 0 ks.length gD dNil tk) := peImp (pe_makeK0 M F hr hg hm hb pass0 hkw hall hks hdb hpl) fun σ H Q h => by
  obtain ⟨δ, s, Q', S, t, k⟩ := h
  refine ⟨δ, s, _, S, t, fun zs H2 us s2 st2 rep2 dvz q2 => ⟨rfl, by rw [dvz.length]; exact q2.1.2, fun y dy hy hdy ne => ?_⟩⟩
  obtain ⟨st3, rep3⟩ := made_ok (C := C) rep2 hy hdy ne
  refine lSp_of rep3 (hgD _ _ _ _ _ _ (.cons (.ref y) .nil) (dvz.step st3 rep2)) (q2.2 y (rep2.fresh hy)) fun v4 H4 d4 s4 st4 rep4 dv4 q4 => ?_
  obtain ⟨rfl, q4⟩ := q4
  exact ⟨dv4.nonInv, k _ H4 _ s4 ((st2.trans st3).trans st4) rep4 (.ref y) q4⟩
variable {fl : Str}
theorem dfld (T : Cls X.K C) (nf : NoAttr X.K C fl) (he : PD A X e te) (hb : attributeBase e fl X.env (eval e X.env) = eval e X.env := by rfl) : PD A X (.Attribute e fl pos) (dFld C fl te) := peImp (pe_fld he hb) fun σ H Q h => by
  obtain ⟨δ, s, Q', S, t, k⟩ := h
  refine ⟨δ, s, _, S, t, fun v H1 d s1 st1 rep1 dv q => ?_⟩
  unfold kFld at q
  split at q
  · rename_i a
    cases dv
    split at q
    · rename_i C' fs e
      obtain ⟨rfl, q⟩ := q
      split at q
      · rename_i d el
        obtain ⟨dx, gs, h1, hp⟩ := rep1 a _ e
        obtain ⟨v2, h2, dv2⟩ := (lookP fl hp).2 d el
        exact ⟨a, _, dx, gs, v2, rfl, h1, T, nf, h2, k v2 H1 d s1 st1 rep1 dv2 q⟩
      · exact False.elim q
    · exact False.elim q
  · exact False.elim q
theorem ins_put {K : PySem.W.Frag} {s : Sto} {H : Hp} {a dx : Addr} {fs : List (Str × DV)} {gs : List (Str × V)} {v : V} {d : DV} (rep : Rep K s H) (e : s a = some (.ins C fs)) (h1 : H a = some (.ins C dx gs)) (hp : DatP K s H gs fs) (dv : Dat K s H v d) :
    Stp s H (up s a (.ins C (putFD fl d fs))) (upd H a (.ins C dx (putF fl v gs))) ∧ Rep K (up s a (.ins C (putFD fl d fs))) (upd H a (.ins C dx (putF fl v gs))) := by
  have st : Stp s H (up s a (.ins C (putFD fl d fs))) (upd H a (.ins C dx (putF fl v gs))) := Stp.wr (by rw [e]; trivial)
  exact ⟨st, rep.put st ⟨dx, _, upd_same, (putF_ok dv hp).step st rep⟩⟩
theorem dssetfld {pos' : Pos} (T : Cls X.K C) (nf : NoAttr X.K C fl) (ha : PD A X o to) (hv : PD A X e tv) (hs : swapsWith e (some (.Attribute o fl pos')) pos.line X.env = pure false := by rfl) : PSd A X (.Assign [.Attribute o fl pos'] e pos) (dSetFld C fl to tv) := psImp (ps_fld ha hv hs) fun D σ H h => by
  obtain ⟨δ, s, D', S, t, L⟩ := h
  refine ⟨δ, s, _, S, t, fun v H1 d s1 st1 rep1 dv q => ?_⟩
  have S1 := S.go st1 rep1
  refine ⟨δ, s1, _, S1, q, fun v2 H2 d2 s2 st2 rep2 dv2 q => ?_⟩
  unfold kSetFld2 at q
  split at q
  · rename_i a
    cases dv2
    split at q
    · rename_i C' fs e
      obtain ⟨rfl, hl, q⟩ := q
      obtain ⟨dx, gs, h1, hp⟩ := rep2 a _ e
      obtain ⟨st3, rep3⟩ := ins_put (fl := fl) rep2 e h1 hp (dv.step st2 rep1)
      exact ⟨a, _, dx, gs, rfl, h1, T, nf, by rw [Paired.length' hp]; exact hl, L.nx σ _ δ _ ((S1.go st2 rep2).go st3 rep3) q⟩
    · exact False.elim q
  · exact False.elim q
theorem dsaugfld {tpos : Pos} {op : Operator} {gI : Int → Int → Int} {j : Int} (T : Cls X.K C) (nf : NoAttr X.K C fl) (hop : InOp X op (fun x y H Q => ∃ i j, x = .int i ∧ y = .int j ∧ Q (.int (gI i j)) H)) (ha : PD A X o to) (hv : PE X e (tC (.int j))) :
    PSd A X (.AugAssign (.Attribute o fl tpos) op e pos) (dAugFld C fl (fun i => gI i j) to) := psImp (ps_fldaug ha hv hop) fun D σ H h => by
  obtain ⟨δ, s, D', S, t, L⟩ := h
  refine ⟨δ, s, _, S, t, fun v H1 d s1 st1 rep1 dv q => ?_⟩
  have S1 := S.go st1 rep1
  unfold kAugFld at q
  split at q
  · rename_i a
    cases dv
    split at q
    · rename_i C' fs e
      obtain ⟨rfl, q⟩ := q
      split at q
      · rename_i i el
        obtain ⟨hl, q⟩ := q
        obtain ⟨dx, gs, h1, hp⟩ := rep1 a _ e
        obtain ⟨v2, h2, dv2⟩ := (lookP fl hp).2 _ el
        cases dv2
        obtain ⟨st4, rep4⟩ := ins_put (fl := fl) (v := V.int (gI i j)) (d := DV.int (gI i j)) rep1 e h1 hp (.int _)
        exact ⟨a, _, dx, gs, _, rfl, h1, T, nf, h2, i, j, rfl, rfl, dx, gs, h1, by rw [Paired.length' hp]; exact hl, L.nx σ _ δ _ (S1.go st4 rep4) q⟩
      · exact False.elim q
    · exact False.elim q
  · exact False.elim q
end

/-! ### x += e at a name; a written dict -/
def kAugN2 (i : Nat) (D : EndsD) (δ : Ed) (z : DV) (s2 : Sto) : Prop := D.nx (δ.set i (some z)) s2
def kAugN1 (i : Nat) (r : R2d) (x : DV) (D : EndsD) (δ : Ed) (y : DV) (s1 : Sto) : Prop := r x y s1 (kAugN2 i D δ)
def dAugN (i : Nat) (r : R2d) (te : TEd) (D : EndsD) (δ : Ed) (s : Sto) : Prop := match δ.getD i none with
  | some x => te δ s (kAugN1 i r x D δ)
  | none => False
def dIpAdd (x y : DV) (s : Sto) (Q : KD) : Prop := match x, y with
  | .int i, .int j => Q (.int (i + j)) s
  | _, _ => False
section
variable {X : Cx} {A : Anc} {e : Expr} {te : TEd} {r : R2d} {pos pos' : Pos}
theorem ipd_add : PIp X .Add (lR X.K dIpAdd) := fun pins s σ H x y v u Q I rx ry q => ip_add pins s σ H x y v u Q I rx ry (by
  obtain ⟨dx, dy, s, Q', rep, hx, hy, r, k⟩ := q
  unfold dIpAdd at r
  split at r
  · cases hx; cases hy
    exact ⟨_, _, rfl, rfl, k _ H _ s (Stp.refl s H) rep (.int _) r⟩
  · exact r.elim)
theorem dsaug {i : Nat} {x : Str} {op : Operator} (hN : X.N.Nodup) (hi : X.N[i]? = some x) (hx : Loc X.env.scope x) (he : PD A X e te) (ho : PIp X op (lR X.K r)) (hf : X.fn x = true ∨ X.env.scope.names.lookup x = some .local := by first | exact .inl rfl | exact .inr rfl | assumption) :
    PSd A X (.AugAssign (.Name x pos') op e pos) (dAugN i r te) := psImp (ps_aug hN hi hx he ho hf) fun D σ H h => by
  obtain ⟨δ, s, D', S, t, L⟩ := h
  unfold dAugN at t
  split at t
  · rename_i d ed
    have e2 : δ[i]? = some (some d) := by
      rw [List.getD_eq_getElem?_getD] at ed
      cases q : δ[i]? with
      | none => rw [q] at ed; cases ed
      | some o => rw [q] at ed; exact congrArg some ed
    obtain ⟨v, h1, h2⟩ := S.env.at_ i d e2
    refine ⟨v, h1, δ, s, _, S, t, fun v2 H2 d2 s2 st2 rep2 dv2 q => ?_⟩
    refine ⟨d, d2, s2, _, rep2, h2.step st2 S.rep, dv2, q, fun v3 H3 d3 s3 st3 rep3 dv3 q3 => ?_⟩
    have S3 := (S.go st2 rep2).go st3 rep3
    exact L.nx _ H3 _ s3 ⟨S3.stp, S3.rep, S3.env.set dv3 i⟩ q3
  · exact False.elim t
end
/-- a written dict: the pairs' values, in order, the dict hidden meanwhile -/
def kPair3 (Q : List (DV × DV) → Sto → Prop) (x y : DV) (ps : List (DV × DV)) (s3 : Sto) : Prop := Q ((x, y) :: ps) s3
def kPair2 (rest : Ed → Sto → (List (DV × DV) → Sto → Prop) → Prop) (δ : Ed) (Q : List (DV × DV) → Sto → Prop) (x y : DV) (s2 : Sto) : Prop := rest δ s2 (kPair3 Q x y)
def kPair1 (tv : TEd) (rest : Ed → Sto → (List (DV × DV) → Sto → Prop) → Prop) (δ : Ed) (Q : List (DV × DV) → Sto → Prop) (x : DV) (s1 : Sto) : Prop := tv δ s1 (kPair2 rest δ Q x)
def dPairs : List (TEd × TEd) → Ed → Sto → (List (DV × DV) → Sto → Prop) → Prop
  | [], _, s, Q => Q [] s
  | (tk, tv) :: r, δ, s, Q => tk δ s (kPair1 tv (dPairs r) δ Q)
def keysD : List (DV × DV) → Option (List (Key × DV))
  | [] => some []
  | (x, y) :: r => match keyD x, keysD r with
    | some k, some ks => some ((k, y) :: ks)
    | _, _ => none
def mergeP (ks more : List (Key × DV)) : List (Key × DV) := more.foldl (fun acc kv => putP acc kv.1 kv.2) ks
def kDisp (p : Addr) (Q : KD) (ps : List (DV × DV)) (s2 : Sto) : Prop := match keysD ps with
  | some ks => ks.length ≤ 15 ∧ Q (.ref p) (up s2 p (.dK (mergeP [] ks)))
  | none => False
def dDisp (trs : List (TEd × TEd)) (δ : Ed) (s : Sto) (Q : KD) : Prop := ∀ p, s p = none → dPairs trs δ (up s p .hid) (kDisp p Q)
end DL

set_option Elab.async false
set_option linter.all false
set_option maxRecDepth 100000
set_option maxHeartbeats 4000000
namespace DL
open PySem PySem.Spec PyProof.Rows L2

/-! ### what is never reached -/
def dDead (_ : EndsD) (_ : Ed) (_ : Sto) : Prop := False
theorem dsdead {A : Anc} {X : Cx} {st : Stmt} : PSd A X st dDead := ⟨fun pins s σ H D I h => by
  obtain ⟨δ, s, D', S, t, L⟩ := h
  exact False.elim t⟩
theorem dssdead {A : Anc} {X : Cx} {st : List Stmt} : PSsd A X st dDead := ⟨fun pins s σ H D I h => by
  obtain ⟨δ, s, D', S, t, L⟩ := h
  exact False.elim t⟩
def dDeadE (_ : Ed) (_ : Sto) (_ : KD) : Prop := False
theorem ddeadE {A : Anc} {X : Cx} {e : Expr} : PD A X e dDeadE := ⟨fun pins s σ H Q I h => by
  obtain ⟨δ, s, Q', S, t, L⟩ := h
  exact False.elim t⟩

/-! ### and, or, not as values (truths) -/
def kAndE (tb : TEd) (δ : Ed) (Q : KD) (d : DV) (s1 : Sto) : Prop := match d with
  | .bl true => tb δ s1 Q
  | .bl false => Q (.bl false) s1
  | _ => False
def dAndE (ta tb : TEd) (δ : Ed) (s : Sto) (Q : KD) : Prop := ta δ s (kAndE tb δ Q)
def kOrE (tb : TEd) (δ : Ed) (Q : KD) (d : DV) (s1 : Sto) : Prop := match d with
  | .bl false => tb δ s1 Q
  | .bl true => Q (.bl true) s1
  | _ => False
def dOrE (ta tb : TEd) (δ : Ed) (s : Sto) (Q : KD) : Prop := ta δ s (kOrE tb δ Q)
def kNotE (Q : KD) (d : DV) (s1 : Sto) : Prop := match d with
  | .bl b => Q (.bl (!b)) s1
  | _ => False
def dNotE (ta : TEd) (δ : Ed) (s : Sto) (Q : KD) : Prop := ta δ s (kNotE Q)
section
variable {A : Anc} {X : Cx} {a b : Expr} {rest : List Expr} {ta tb : TEd} {pos : Pos}
theorem deand1 {op : BoolOp} (ha : PD A X a ta) : PD A X (.BoolOp op [a] pos) ta := pe_one ha
theorem deand (ha : PD A X a ta) (hb : PD A X (.BoolOp .And (b :: rest) pos) tb) : PD A X (.BoolOp .And (a :: b :: rest) pos) (dAndE ta tb) := peImp (pe_and ha hb) fun σ H Q h => by
  obtain ⟨δ, s, Q', S, t, k⟩ := h
  refine ⟨δ, s, _, S, t, fun v H1 d s1 st1 rep1 dv q => ?_⟩
  cases d with
  | bl c =>
    refine ⟨c, dv.blInv, ?_⟩
    cases c with
    | true => exact iteT ⟨δ, s1, _, S.go st1 rep1, q, fun v2 H2 d2 s2 st2 => k v2 H2 d2 s2 (st1.trans st2)⟩
    | false => exact iteF (k _ H1 _ s1 st1 rep1 (.bl false) q)
  | _ => exact False.elim q
theorem deor (ha : PD A X a ta) (hb : PD A X (.BoolOp .Or (b :: rest) pos) tb) : PD A X (.BoolOp .Or (a :: b :: rest) pos) (dOrE ta tb) := peImp (pe_or ha hb) fun σ H Q h => by
  obtain ⟨δ, s, Q', S, t, k⟩ := h
  refine ⟨δ, s, _, S, t, fun v H1 d s1 st1 rep1 dv q => ?_⟩
  cases d with
  | bl c =>
    refine ⟨c, dv.blInv, ?_⟩
    cases c with
    | true => exact iteT (k _ H1 _ s1 st1 rep1 (.bl true) q)
    | false => exact iteF ⟨δ, s1, _, S.go st1 rep1, q, fun v2 H2 d2 s2 st2 => k v2 H2 d2 s2 (st1.trans st2)⟩
  | _ => exact False.elim q
theorem denot (ha : PD A X a ta) : PD A X (.UnaryOp .Not a pos) (dNotE ta) := peImp (pe_not ha) fun σ H Q h => by
  obtain ⟨δ, s, Q', S, t, k⟩ := h
  refine ⟨δ, s, _, S, t, fun v H1 d s1 st1 rep1 dv q => ?_⟩
  cases d with
  | bl c => exact ⟨c, dv.blInv, k _ H1 _ s1 st1 rep1 (.bl _) q⟩
  | _ => exact False.elim q
end

/-! ### y = [..] where the store swaps -/
section
variable {X : Cx} {A : Anc} {tg iter elt : Expr} {ifs : List Expr} {scope : Scope} {own : List (Str × Nat)} {it : TId} {g : TG} {g' : TGd} {tt : TTd} {te : TEd} {sl : List Nat} {pos spos py : Pos} {i : Nat} {y : Str}
theorem dssetLc (hc : X.calm = true) (hN : X.N.Nodup) (hy : X.N[i]? = some y) (hyl : X.env.scope.names.lookup y = some .local) (hsw : swapsWith (.ListComp elt [⟨tg, iter, ifs, 0⟩] scope pos) (some (.Name y py)) spos.line X.env = pure true)
    (hi : PId A X tg iter it) (ok : BlkOk X.N X.env.scope scope own) (mg : GMono g) (hp : PatOk X.K g g' sl) (hsl : ∀ i ∈ sl, i ∈ own.map (·.2))
    (hg : ∀ (s : Shared) (H : Hp) (C : Addr) (cl : List (Str × Addr)) (fp : List Addr), PG (X.blk s H scope (compEnvC scope cl C X.env) fp) tg g)
    (ht : ∀ (s : Shared) (H : Hp) (C : Addr) (cl : List (Str × Addr)) (fp : List Addr), PTsd A (X.blk s H scope (compEnvC scope cl C X.env) fp) ifs tt)
    (he : ∀ (s : Shared) (H : Hp) (C : Addr) (cl : List (Str × Addr)) (fp : List Addr), PD A (X.blk s H scope (compEnvC scope cl C X.env) fp) elt te) (hs : ∀ x, foldedSetIterable iter X.env x = pure x := by intro _; rfl) :
    PSd A X (.Assign [.Name y py] (.ListComp elt [⟨tg, iter, ifs, 0⟩] scope pos) spos) (dAsg (dLc it g' tt te (own.map (·.2))) (gNameD i)) := psImp (ps_setLc hc hN hy hyl hsw hi ok hg ht he hs) fun D σ H h => by
  obtain ⟨δ, s, D', S, t, L⟩ := h
  refine lc_run mg hp hsl S t fun Dd acc s1 H1 s2 H2 st1 hD st2 Le q => ?_
  obtain ⟨a, b, c⟩ := Le.lst st2 hD
  exact L.nx _ H2 _ _ ⟨S.stp.trans (st1.trans a), b, (S.env.step (st1.trans a) S.rep).set c i⟩ q
theorem dssetLcM (hc : X.calm = true) (hN : X.N.Nodup) (hy : X.N[i]? = some y) (hyl : X.env.scope.names.lookup y = some .local) (hsw : swapsWith (.ListComp elt [⟨tg, iter, ifs, 0⟩] scope pos) (some (.Name y py)) spos.line X.env = pure true)
    (hi : PId A X tg iter it) (ok : BlkOk X.N X.env.scope scope own) (mg : GMono g) (hp : PatOk X.K g g' sl) (hsl : ∀ i ∈ sl, i ∈ own.map (·.2))
    (hg : ∀ (s : Shared) (H : Hp) (C : Addr) (cl : List (Str × Addr)) (fp : List Addr), PG (X.blk s H scope (compEnvC scope cl C X.env) fp) tg g)
    (ht : ∀ (s : Shared) (H : Hp) (C : Addr) (cl : List (Str × Addr)) (fp : List Addr), PTsd A (X.blk s H scope (compEnvC scope cl C X.env) fp) ifs tt)
    (he : ∀ (s : Shared) (H : Hp) (C : Addr) (cl : List (Str × Addr)) (fp : List Addr), PD A (X.blk s H scope (compEnvC scope cl C X.env) fp) elt te) (hs : ∀ x, foldedSetIterable iter X.env x = pure x := by intro _; rfl) :
    PSd A X (.Assign [.Name y py] (.ListComp elt [⟨tg, iter, ifs, 0⟩] scope pos) spos) (dAsg (dLcM it g' tt te (own.map (·.2))) (gNameD i)) := psImp (ps_setLc hc hN hy hyl hsw hi ok hg ht he hs) fun D σ H h => by
  obtain ⟨δ, s, D', S, t, L⟩ := h
  refine lc_run mg hp hsl S t fun Dd acc s1 H1 s2 H2 st1 hD st2 Le q => ?_
  obtain ⟨a, b⟩ := Le.mut st2 hD
  exact L.nx _ H2 _ _ ⟨S.stp.trans (st1.trans a), b, (S.env.step (st1.trans a) S.rep).set (.ref Dd) i⟩ q
end

/-! ### a written dict -/
section
variable {X : Cx} {A : Anc}
inductive TrsD (K : PySem.W.Frag) (A : Anc) : List (TE × TE) → List (TEd × TEd) → Prop
  | nil : TrsD K A [] []
  | cons {tk tv : TEd} {trs : List (TE × TE)} {tds : List (TEd × TEd)} : TrsD K A trs tds → TrsD K A ((lE K A tk, lE K A tv) :: trs) ((tk, tv) :: tds)
def DatPP (K : PySem.W.Frag) (s : Sto) (H : Hp) : List (V × V) → List (DV × DV) → Prop := Paired fun p q => Dat K s H p.1 q.1 ∧ Dat K s H p.2 q.2
theorem pairs_run {K : PySem.W.Frag} {σ : L2.St} {δ : Ed} : ∀ {trs : List (TE × TE)} {tds : List (TEd × TEd)} {H : Hp} {s : Sto} {Q' : List (DV × DV) → Sto → Prop} {Q : List (V × V) → Hp → Prop}, TrsD K A trs tds → Sd K A σ H δ s → dPairs tds δ s Q' →
    (∀ vs H2 ds s2, Stp s H s2 H2 → Rep K s2 H2 → DatPP K s2 H2 vs ds → Q' ds s2 → Q vs H2) → tPairs trs σ H Q
  | _, _, H, s, Q', Q, .nil, S, t, k => k [] H [] s (Stp.refl s H) S.rep .nil t
  | _, _, H, s, Q', Q, .cons r, S, t, k => by
    refine ⟨δ, s, _, S, t, fun v H1 d s1 st1 rep1 dv q1 => ?_⟩
    refine ⟨δ, s1, _, S.go st1 rep1, q1, fun v2 H2 d2 s2 st2 rep2 dv2 q2 => ?_⟩
    refine pairs_run r ((S.go st1 rep1).go st2 rep2) q2 fun vs H3 ds s3 st3 rep3 dvs q3 => ?_
    exact k _ H3 _ s3 ((st1.trans st2).trans st3) rep3 (.cons ⟨(dv.step st2 rep1).step st3 rep2, dv2.step st3 rep2⟩ dvs) q3
theorem keys_ok {K : PySem.W.Frag} {s : Sto} {H : Hp} : ∀ {vs : List (V × V)} {ds : List (DV × DV)} {ks : List (Key × DV)}, DatPP K s H vs ds → keysD ds = some ks → ∃ kvs : List (Key × V), vs = kvs.map (fun kv => (kV kv.1, kv.2)) ∧ DatP K s H kvs ks
  | _, _, _, .nil, e => by cases e; exact ⟨[], rfl, .nil⟩
  | _, _, _, .cons (a := p) (b := q) (l₂ := rest) h t, e => by
    obtain ⟨q1, q2⟩ := q
    obtain ⟨p1, p2⟩ := p
    cases e1 : keyD q1 with
    | none => simp only [keysD, e1] at e; cases e
    | some k =>
      cases e2 : keysD rest with
      | none => simp only [keysD, e1, e2] at e; cases e
      | some ks =>
        simp only [keysD, e1, e2] at e
        cases e
        obtain ⟨kvs, h1, h2⟩ := keys_ok t e2
        exact ⟨(k, p2) :: kvs, by rw [h1]; show (p1, p2) :: _ = (kV k, p2) :: _; rw [show p1 = kV k from keyD_ok h.1 e1], .cons ⟨rfl, h.2⟩ h2⟩
theorem mergeP_ok {K : PySem.W.Frag} {s : Sto} {H : Hp} : ∀ {more : List (Key × V)} {mks : List (Key × DV)} {kvs : List (Key × V)} {ks : List (Key × DV)}, DatP K s H kvs ks → DatP K s H more mks → DatP K s H (mergeK kvs more) (mergeP ks mks)
  | _, _, _, _, h, .nil => h
  | _, _, kvs, ks, h, .cons (a := p) (b := q) h1 t => by
    show DatP K s H (mergeK (putK kvs p.1 p.2) _) (mergeP (putP ks q.1 q.2) _)
    refine mergeP_ok ?_ t
    rw [h1.1]
    exact putP_ok q.1 h1.2 h
theorem ddisp {pos : Pos} {keys : List (Option Expr)} {values : List Expr} {trs : List (TE × TE)} {tds : List (TEd × TEd)} (h : PPs X pos keys values trs) (r : TrsD X.K A trs tds) (hall : keys.all (·.isSome) = true := by rfl) (hl : keys.length = values.length := by rfl) (h0 : keys ≠ [] := by exact fun z => nomatch z)
    (h15 : keys.length ≤ 15 := by decide) : PD A X (.Dict keys values pos) (dDisp tds) := peImp (pe_disp h hall hl h0 h15) fun σ H Q h => by
  obtain ⟨δ, s, Q', S, t, k⟩ := h
  intro p hp
  have st1 : Stp s H (up s p .hid) (upd H p (.dK [])) := Stp.new hp
  have rep1 : Rep X.K (up s p .hid) (upd H p (.dK [])) := S.rep.put st1 ⟨_, upd_same⟩
  refine pairs_run r (S.go st1 rep1) (t p (S.rep.fresh hp)) fun vs H2 ds s2 st2 rep2 dvs q => ?_
  have hh := st2 p _ upd_same (.inr up_same)
  refine ⟨hh.1, ?_⟩
  unfold kDisp at q
  split at q
  · rename_i ks ek
    obtain ⟨kvs, h1, h2⟩ := keys_ok dvs ek
    have hlen : kvs.length = ks.length := Paired.length' h2
    refine ⟨kvs, h1, by rw [hlen]; exact q.1, ?_⟩
    have hs2 : s2 p = some .hid := hh.2.trans up_same
    have sub : ∀ a, s2 a = none → up s2 p (.dK (mergeP [] ks)) a = none := fun a e => by
      have ne : a ≠ p := fun z => by rw [z, hs2] at e; cases e
      rw [up_ne ne]; exact e
    have hidD : ∀ {v : V} {d : DV}, Dat X.K s2 H2 v d → Dat X.K (up s2 p (.dK (mergeP [] ks))) (upd H2 p (.dK (mergeK [] kvs))) v d := by
      -- nothing that is known leans on the hidden dict
      have tupP : ∀ {a : Addr} {xs : List V}, SqT X.K H2 a xs → SqT X.K (upd H2 p (.dK (mergeK [] kvs))) a xs := fun {a xs} h => by
        rcases h with (h | ⟨u, h⟩) | h
        · exact .inl (.inl (by rw [upd_ne (ne_of h hh.1 (fun z => nomatch z))]; exact h))
        · exact .inl (.inr ⟨u, by rw [upd_ne (ne_of h hh.1 (fun z => nomatch z))]; exact h⟩)
        · exact .inr h
      intro v d hd
      refine Dat.rec (motive_1 := fun v d _ => Dat X.K (up s2 p (.dK (mergeP [] ks))) (upd H2 p (.dK (mergeK [] kvs))) v d) (motive_2 := fun vs ds _ => DatL X.K (up s2 p (.dK (mergeP [] ks))) (upd H2 p (.dK (mergeK [] kvs))) vs ds)
        .non .bl .int .str .ty .ref (fun h _ l => .tup (tupP h) l) (fun {a xs ds} h n _ l => .lst (by rw [upd_ne (fun z => by rw [z, hs2] at n; cases n)]; exact h) (sub a n) l)
        (fun {a xs ds} h _ l => .scr (by
          rcases h with ⟨u, h⟩ | h
          · exact .inl ⟨u, by rw [upd_ne (ne_of h hh.1 (fun z => nomatch z))]; exact h⟩
          · exact .inr h) l) .nil (fun _ _ h t => .cons h t) hd
    have hidP : ∀ {κ : Type} {a : List (κ × V)} {b : List (κ × DV)}, DatP X.K s2 H2 a b → DatP X.K (up s2 p (.dK (mergeP [] ks))) (upd H2 p (.dK (mergeK [] kvs))) a b := fun {κ a b} h => by
      induction h with
      | nil => exact .nil
      | cons h t ih => exact .cons ⟨h.1, hidD h.2⟩ ih
    have hidL : ∀ {a : List V} {b : List DV}, DatL X.K s2 H2 a b → DatL X.K (up s2 p (.dK (mergeP [] ks))) (upd H2 p (.dK (mergeK [] kvs))) a b := fun {a} => by
      induction a with
      | nil => intro b h; cases h; exact .nil
      | cons x a ih => intro b h; cases h with | cons h t => exact .cons (hidD h) (ih t)
    refine k (.ref p) _ (.ref p) (up s2 p (.dK (mergeP [] ks))) ?_ ?_ (.ref p) q.2
    · intro a o ha hn
      have ne : a ≠ p := ne_of_none ha hp
      rw [upd_ne ne, up_ne ne]
      exact (st1.trans st2) a o ha hn
    · intro a m e
      by_cases z : a = p
      · subst z
        rw [up_same] at e; cases e
        exact ⟨_, upd_same, hidP (mergeP_ok .nil h2)⟩
      · rw [up_ne z] at e
        have ro := rep2 a m e
        cases m with
        | hid => obtain ⟨u, ro⟩ := ro; exact ⟨u, by rw [upd_ne z]; exact ro⟩
        | lst ds => obtain ⟨ys, ro, l⟩ := ro; exact ⟨ys, by rw [upd_ne z]; exact ro, hidL l⟩
        | dK ks => obtain ⟨ys, ro, l⟩ := ro; exact ⟨ys, by rw [upd_ne z]; exact ro, hidP l⟩
        | ins C fs => obtain ⟨dx, ys, ro, l⟩ := ro; exact ⟨dx, ys, by rw [upd_ne z]; exact ro, hidP l⟩
        | exc C fs =>
          obtain ⟨dx, ys, ro, l, hx, n⟩ := ro
          have nd : dx ≠ p := fun e => by rw [e, hs2] at n; cases n
          exact ⟨dx, ys, by rw [upd_ne z]; exact ro, hidP l, by rw [upd_ne nd]; exact hx, by rw [up_ne nd]; exact n⟩
  · exact False.elim q
theorem dppn {pos : Pos} : PPs X pos [] [] [] := pps_nil
theorem dppc {pos : Pos} {k v : Expr} {ks : List (Option Expr)} {vs : List Expr} {tk tv : TEd} {trs : List (TE × TE)} (hk : PD A X k tk) (hv : PD A X v tv) (hr : PPs X pos ks vs trs) : PPs X pos (some k :: ks) (v :: vs) ((lE X.K A tk, lE X.K A tv) :: trs) := pps_cons hk hv hr
end

/-! ### defs and classes as they stand -/
structure DefAt (K : PySem.W.Frag) (mg : Str → Option Value) (x : Str) (st : Stmt) (ps : List Str) : Prop where
  ex : ∃ f fd, Fun K x x st f fd ∧ mg x = some (.ref f) ∧ PySem.W.keepIn K (.ref f) = true ∧ Binds K fd ps []
/-- a def that keeps a promise -/
structure Fn (P : Program) (w : World) (K : PySem.W.Frag) (mg : Str → Option Value) (base : Heap) (x : Str) (k : Nat) (ps : List Str) (sp : Spd) : Prop where
  ex : ∃ f fd, FnOk P w K mg base CX0 k f fd ps (lSp K sp) ∧ mg x = some (.ref f) ∧ PySem.W.keepIn K (.ref f) = true ∧ Binds K fd ps []
/-- a method that keeps a promise -/
structure Mt (P : Program) (w : World) (K : PySem.W.Frag) (mg : Str → Option Value) (base : Heap) (C : Addr) (m : Str) (k : Nat) (ps : List Str) (sp : Spd) : Prop where
  ex : ∃ f fd, FnOk P w K mg base CX0 k f fd ps (lSp K sp) ∧ Meth K C m f ∧ Binds K fd ps []
structure MethAt (K : PySem.W.Frag) (C : Addr) (m qual : Str) (st : Stmt) (ps : List Str) : Prop where
  ex : ∃ f fd, Fun K m qual st f fd ∧ Meth K C m f ∧ Binds K fd ps []
section
variable {P : Program} {w : World} {K : PySem.W.Frag} {mg : Str → Option Value} {base : Heap}
theorem fnOk {x : Str} {st : Stmt} {N ps : List Str} {k : Nat} {sp : Spd} {t : TSd} (D : DefAt K mg x st ps) (S : FnScope N ps (defScope st)) (len : ∀ ds s Q E, sp ds s Q E → ds.length = ps.length)
    (hbody : ∀ (A : Anc) (f : Addr) (cdv : Value) (Ar : Around) (outer : List Env) (s : Shared) (H : Hp) (E : XK), Room k (Ar.deeper (envOfC x (defScope st) s.heap.objs.size f cdv)) →
      PSsd A (cxOf CX0 P w K mg base N x (defScope st) f cdv Ar outer s H E).nox (defBody st) t)
    (hread : ∀ ds s Q E, sp ds s Q E → t { nx := fun _ s => Q .non s, rt := Q } (startD N.length ds) s) : Fn P w K mg base x (k + 1) ps sp := by
  obtain ⟨f, fd, F, g, kp, b⟩ := D.ex
  exact ⟨f, fd, defOk F S len (fun A cdv Ar outer s H E hr => hbody A f cdv Ar outer s H E hr) hread, g, kp, b⟩
theorem mtOk {C : Addr} {m qual : Str} {st : Stmt} {N ps : List Str} {k : Nat} {sp : Spd} {t : TSd} (D : MethAt K C m qual st ps) (S : FnScope N ps (defScope st)) (len : ∀ ds s Q E, sp ds s Q E → ds.length = ps.length)
    (hbody : ∀ (A : Anc) (f : Addr) (cdv : Value) (Ar : Around) (outer : List Env) (s : Shared) (H : Hp) (E : XK), Room k (Ar.deeper (envOfC qual (defScope st) s.heap.objs.size f cdv)) →
      PSsd A (cxOf CX0 P w K mg base N qual (defScope st) f cdv Ar outer s H E).nox (defBody st) t)
    (hread : ∀ ds s Q E, sp ds s Q E → t { nx := fun _ s => Q .non s, rt := Q } (startD N.length ds) s) : Mt P w K mg base C m (k + 1) ps sp := by
  obtain ⟨f, fd, F, g, b⟩ := D.ex
  exact ⟨f, fd, defOk F S len (fun A cdv Ar outer s H E hr => hbody A f cdv Ar outer s H E hr) hread, g, b⟩
end
section
variable {X : Cx} {A : Anc} {k : Nat} {C : Addr} {ps : List Str} {sp : Spd} {x m : Str} {p pos apos : Pos} {e o : Expr} {es : List Expr} {te to : TEd} {t : TAd}
theorem dF (G : Fn X.prog X.w X.K X.mg X.base x k ps sp) (hr : Room k X.A) (ha : PAd A X (e :: es) t) (hg : Gl X x := by rfl) (hdb : (x == ("__debug__" : Str)) = false := by decide) (he : starEach (e :: es) X.env = (false, eval e X.env) :: starEach es X.env := by rfl)
    (hpl : (backTo pos (starEach es X.env)).any (·.1) = false := by rfl) : PD A X (.Call (.Name x p) (e :: es) [] pos) (dCall sp [] t) := by
  obtain ⟨f, fd, F, hm, hk, hb⟩ := G.ex
  exact dcall F hr hm hk hb .nil (fun _ _ => .nil) ha hg hdb he hpl
theorem dF0 (G : Fn X.prog X.w X.K X.mg X.base x k ps sp) (hr : Room k X.A) (hg : Gl X x := by rfl) (hdb : (x == ("__debug__" : Str)) = false := by decide) : PD A X (.Call (.Name x p) [] [] pos) (dCall sp [] dNil) := by
  obtain ⟨f, fd, F, hm, hk, hb⟩ := G.ex
  exact dcall0 F hr hm hk hb .nil (fun _ _ => .nil) hg hdb
theorem dM {pl : Sem Bool} (c : Cls X.K C) (G : Mt X.prog X.w X.K X.mg X.base C m k ps sp) (hr : Room k X.A) (ho : PD A X o to) (ha : PAd A X (e :: es) t)
    (hst : starEach (e :: es) X.env = (false, eval e X.env) :: starEach es X.env := by rfl) (hpl : (backTo pos (starEach es X.env)).any (·.1) = false := by rfl)
    (ht : eval (.Call (.Attribute o m apos) (e :: es) [] pos) X.env = (do
      let ov ← eval o X.env
      standAt apos.atName
      let (f, first) ← holding [ov] (getMethod ov m pl)
      callWith pos f first (backTo pos (starEach (e :: es) X.env)) (backToKw pos (keywordEach [] X.env))) := by rfl) : PD A X (.Call (.Attribute o m apos) (e :: es) [] pos) (dMeth C m sp [] to t) := by
  obtain ⟨f, fd, F, hm, hb⟩ := G.ex
  exact dmeth ho c hm F hr hb .nil (fun _ _ => .nil) ha hst hpl ht
theorem dM0 {pl : Sem Bool} (c : Cls X.K C) (G : Mt X.prog X.w X.K X.mg X.base C m k ps sp) (hr : Room k X.A) (ho : PD A X o to)
    (ht : eval (.Call (.Attribute o m apos) [] [] pos) X.env = (do
      let ov ← eval o X.env
      standAt apos.atName
      let (f, first) ← holding [ov] (getMethod ov m pl)
      callWith pos f first (backTo pos (starEach [] X.env)) (backToKw pos (keywordEach [] X.env))) := by rfl) : PD A X (.Call (.Attribute o m apos) [] [] pos) (dMeth C m sp [] to dNil) := by
  obtain ⟨f, fd, F, hm, hb⟩ := G.ex
  exact dmeth0 ho c hm F hr hb .nil (fun _ _ => .nil) ht
end
end DL

set_option Elab.async false
set_option linter.all false
set_option maxRecDepth 100000
set_option maxHeartbeats 4000000
namespace DL
open PySem PySem.Spec PyProof.Rows L2

/-- kept from the simplifier -/
structure Kp (p : Prop) : Prop where
  out : p
/-! ### for the simplifier -/
def refL : Option MO → Option (List DV)
  | some (.lst ds) => some ds
  | _ => none
theorem refL_lst {ds : List DV} : refL (some (.lst ds)) = some ds := rfl
theorem refL_dK {ds : List (Key × DV)} : refL (some (.dK ds)) = none := rfl
theorem refL_ins {C : Addr} {fs : List (Str × DV)} : refL (some (.ins C fs)) = none := rfl
theorem lstD_lst {s : Sto} {ds : List DV} : lstD s (.lst ds) = some ds := rfl
theorem lstD_scr {s : Sto} {ds : List DV} : lstD s (.scr ds) = some ds := rfl
theorem lstD_tup {s : Sto} {ds : List DV} : lstD s (.tup ds) = none := rfl
theorem lstD_str {s : Sto} {z : Str} : lstD s (.str z) = none := rfl
theorem lstD_int {s : Sto} {z : Int} : lstD s (.int z) = none := rfl
theorem lstD_re {s : Sto} {a : Addr} : lstD s (.ref a) = refL (s a) := by
  show (match s a with | some (.lst ds) => some ds | _ => none) = refL (s a)
  unfold refL
  rfl
theorem lstW_lst {s : Sto} {ds : List DV} : lstW s (.lst ds) = some ds := rfl
theorem lstW_tup {s : Sto} {ds : List DV} : lstW s (.tup ds) = none := rfl
theorem lstW_str {s : Sto} {z : Str} : lstW s (.str z) = none := rfl
theorem lstW_int {s : Sto} {z : Int} : lstW s (.int z) = none := rfl
theorem lstW_re {s : Sto} {a : Addr} : lstW s (.ref a) = refL (s a) := lstD_re
theorem seqD_tup {s : Sto} {ds : List DV} : seqD s (.tup ds) = some ds := rfl
theorem seqD_lst {s : Sto} {ds : List DV} : seqD s (.lst ds) = some ds := rfl
theorem seqD_scr {s : Sto} {ds : List DV} : seqD s (.scr ds) = some ds := rfl
theorem seqD_str {s : Sto} {z : Str} : seqD s (.str z) = none := rfl
theorem seqD_int {s : Sto} {z : Int} : seqD s (.int z) = none := rfl
theorem seqD_re {s : Sto} {a : Addr} : seqD s (.ref a) = refL (s a) := lstD_re
def frzR (s : Sto) (a : Addr) : Option MO → DV × Sto
  | some (.lst ds) => (.lst ds, er s a)
  | _ => (.ref a, s)
theorem frzR_lst {s : Sto} {a : Addr} {ds : List DV} : frzR s a (some (.lst ds)) = (.lst ds, er s a) := rfl
theorem frzR_dK {s : Sto} {a : Addr} {ds : List (Key × DV)} : frzR s a (some (.dK ds)) = (.ref a, s) := rfl
theorem frzR_ins {s : Sto} {a C : Addr} {ds : List (Str × DV)} : frzR s a (some (.ins C ds)) = (.ref a, s) := rfl
theorem frz_int {s : Sto} {i : Int} : frzD s (.int i) = (.int i, s) := rfl
theorem frz_str {s : Sto} {i : Str} : frzD s (.str i) = (.str i, s) := rfl
theorem frz_bl {s : Sto} {i : Bool} : frzD s (.bl i) = (.bl i, s) := rfl
theorem frz_non {s : Sto} : frzD s .non = (.non, s) := rfl
theorem frz_tup {s : Sto} {i : List DV} : frzD s (.tup i) = (.tup i, s) := rfl
theorem frz_lst {s : Sto} {i : List DV} : frzD s (.lst i) = (.lst i, s) := rfl
theorem frz_scr {s : Sto} {i : List DV} : frzD s (.scr i) = (.scr i, s) := rfl
theorem frz_re {s : Sto} {a : Addr} : frzD s (.ref a) = frzR s a (s a) := by
  show (match s a with | some (.lst ds) => (DV.lst ds, er s a) | _ => (.ref a, s)) = frzR s a (s a)
  unfold frzR
  rfl
/-! ### facts about data -/
theorem pdL_ints : ∀ ns : List Int, pdL (ns.map DV.int) = some (ns.map PyData.int)
  | [] => rfl
  | n :: ns => by rw [List.map_cons, pdL, pdL_ints ns]; rfl
theorem pdL_strs : ∀ ns : List Str, pdL (ns.map DV.str) = some (ns.map PyData.str)
  | [] => rfl
  | n :: ns => by rw [List.map_cons, pdL, pdL_strs ns]; rfl
theorem depth_ints : ∀ ns : List Int, PyData.depthAll (ns.map PyData.int) = 0
  | [] => by simp [PyData.depthAll]
  | n :: ns => by rw [List.map_cons, PyData.depthAll, depth_ints ns]; simp [PyData.depth]
theorem lay_ints : ∀ ns : List Int, PyData.canLayAll0 (ns.map PyData.int) = true
  | [] => by simp [PyData.canLayAll0]
  | n :: ns => by rw [List.map_cons, PyData.canLayAll0, lay_ints ns]; simp [PyData.canLay0]
theorem shaped_ints (ns : List Int) : SeqAt.shaped (.list (ns.map PyData.int)) = true := by
  unfold SeqAt.shaped
  rw [PyData.canLay0, lay_ints, PyData.depth, depth_ints]
  rfl
theorem shaped_nil : SeqAt.shaped (.list []) = true := shaped_ints []
theorem depth_strs : ∀ ns : List Str, PyData.depthAll (ns.map PyData.str) = 0
  | [] => by simp [PyData.depthAll]
  | n :: ns => by rw [List.map_cons, PyData.depthAll, depth_strs ns]; simp [PyData.depth]
/-- a text of signs that are signs -/
abbrev okS (z : Str) : Prop := PySem.PyData.strOk z = true
theorem eqv_nil (xs : List PyData) : PyData.eqv (.list xs) (.list []) = xs.isEmpty := by
  cases xs with
  | nil => simp [PyData.eqv, PyData.eqvAll]
  | cons x xs => simp [PyData.eqv, PyData.eqvAll]
mutual
theorem eqv_refl : ∀ d : PyData, PyData.canLay0 d = true → PyData.eqv d d = true
  | .none, _ => by simp [PyData.eqv]
  | .bool b, _ => by simp [PyData.eqv]
  | .int i, _ => by simp [PyData.eqv]
  | .str x, _ => by simp [PyData.eqv]
  | .list xs, h => by rw [PyData.eqv]; exact eqvAll_refl xs (by simpa [PyData.canLay0] using h)
  | .tuple xs, h => by rw [PyData.eqv]; exact eqvAll_refl xs (by simpa [PyData.canLay0] using h)
  | .dict _, h => by simp [PyData.canLay0] at h
theorem eqvAll_refl : ∀ ds : List PyData, PyData.canLayAll0 ds = true → PyData.eqvAll ds ds = true
  | [], _ => by simp [PyData.eqvAll]
  | d :: ds, h => by
    rw [PyData.canLayAll0, Bool.and_eq_true] at h
    rw [PyData.eqvAll, eqv_refl d h.1, eqvAll_refl ds h.2]
    rfl
end
theorem size_lt {n : Nat} (h : n ≤ 1000000) : n < sizeLine := Nat.lt_of_le_of_lt h (by decide)
theorem size_le {n : Nat} (h : n ≤ 1000000) : n ≤ sizeLine := Nat.le_of_lt (size_lt h)
theorem atI_pos {α : Type} {xs : List α} {i : Int} (h0 : 0 ≤ i) (h1 : i < xs.length) : ∃ x, atI xs i = some x ∧ xs[i.toNat]? = some x := by
  have hl : i.toNat < xs.length := by omega
  refine ⟨xs[i.toNat], ?_, List.getElem?_eq_getElem hl⟩
  unfold atI ixN
  rw [if_pos h0, if_pos h1]
  exact List.getElem?_eq_getElem hl
theorem atI_zero {α : Type} {x : α} {xs : List α} : atI (x :: xs) 0 = some x := by
  unfold atI ixN
  rw [if_pos (by decide), if_pos (by first | (simp; done) | (simp; omega))]
  rfl
theorem atI_one {α : Type} {x y : α} {xs : List α} : atI (x :: y :: xs) 1 = some y := by
  unfold atI ixN
  rw [if_pos (by decide), if_pos (by first | (simp; done) | (simp; omega))]
  rfl
theorem ixN_zero {n : Nat} : ixN (n + 1) 0 = some 0 := by
  unfold ixN
  rw [if_pos (by decide), if_pos (by omega)]
  rfl
theorem ixN_one {n : Nat} : ixN (n + 2) 1 = some 1 := by
  unfold ixN
  rw [if_pos (by decide), if_pos (by omega)]
  rfl
theorem atI_nat {α : Type} {xs : List α} {i : Nat} {x : α} (h : xs[i]? = some x) : atI xs (i : Int) = some x := by
  have hl : i < xs.length := (List.getElem?_eq_some_iff.mp h).1
  unfold atI ixN
  rw [if_pos (by omega), if_pos (by omega)]
  simpa using h
theorem int_of_get {ns : List Int} {i : Nat} {d : DV} (h : (ns.map DV.int)[i]? = some d) : ∃ z, d = .int z := by
  rw [List.getElem?_map] at h
  cases e : ns[i]? with
  | none => rw [e] at h; cases h
  | some z => rw [e] at h; exact ⟨z, (Option.some.inj h).symm⟩
theorem ltI_t {i j : Int} (h : ltI i j = true) : i < j := of_decide_eq_true h
theorem ltI_f {i j : Int} (h : ltI i j = false) : j ≤ i := by have := of_decide_eq_false h; omega
theorem leI_t {i j : Int} (h : leI i j = true) : i ≤ j := of_decide_eq_true h
theorem leI_f {i j : Int} (h : leI i j = false) : j < i := by have := of_decide_eq_false h; omega
theorem mulS {i j : Int} (h0 : -(2 ^ 64) < i) (h1 : i < 2 ^ 64) : CMul i j ∨ CMulW i j := .inl (.inl ⟨h0, h1⟩)
theorem mulS' {i j : Int} (h0 : -(2 ^ 64) < j) (h1 : j < 2 ^ 64) : CMul i j ∨ CMulW i j := .inl (.inr ⟨h0, h1⟩)
theorem cdiv {i m : Int} (h1 : 1 ≤ m) (h2 : m ≤ 2 ^ 40) : CDivW i m := wide_div (b := 41) (by omega) (by omega) (by decide) (by decide)
/-- two ways meet again -/
theorem gif_join {b : Bool} {t u : TSd} {R : Ed → Sto → Prop} {rt : KD} {bk ct : Ed → Sto → Prop} {δ : Ed} {s : Sto} (M : Ed → Sto → Prop) (h1 : b = true → ∀ R', (∀ δ s, M δ s → R' δ s) → t ⟨R', rt, bk, ct⟩ δ s)
    (h2 : b = false → ∀ R', (∀ δ s, M δ s → R' δ s) → u ⟨R', rt, bk, ct⟩ δ s) (hk : ∀ δ s, M δ s → R δ s) : dGif b (t ⟨R, rt, bk, ct⟩ δ) (u ⟨R, rt, bk, ct⟩ δ) s := by
  cases b with
  | true => exact h1 rfl R hk
  | false => exact h2 rfl R hk
theorem ifS {c : TTd} {t u : TSd} {D : EndsD} {δ : Ed} {s : Sto} (h : c δ s (kIfS t u D δ)) : dIfS c t u D δ s := h
/-- an if whose ways meet again -/
theorem ifJ {c : TTd} {t u : TSd} {R : Ed → Sto → Prop} {rt : KD} {bk ct : Ed → Sto → Prop} {δ : Ed} {s : Sto} (M : Ed → Sto → Prop)
    (h : ∀ R', (∀ δ s, M δ s → R' δ s) → c δ s (kIfS t u ⟨R', rt, bk, ct⟩ δ)) (hk : ∀ δ s, M δ s → R δ s) : dIfS c t u ⟨R, rt, bk, ct⟩ δ s := h R hk
theorem gifT {t u : Sto → Prop} {s : Sto} : dGif true t u s = t s := rfl
theorem gifF {t u : Sto → Prop} {s : Sto} : dGif false t u s = u s := rfl
/-- a for over a range -/
theorem for_rng {lo : Int} {n : Nat} {g : TGd} {tb : TSd} {D : EndsD} {δ : Ed} {s : Sto} (W : Nat → Ed → Sto → Prop) (h0 : W 0 δ s) (hs : ∀ (i : Nat) δ s, i < n → W i δ s → g (.int (lo + i)) δ s (tb ⟨W (i + 1), D.rt, D.nx, W (i + 1)⟩))
    (hd : ∀ δ s, W n δ s → D.nx δ s) : dForW g tb D δ (rngD lo n) gTrue s := by
  refine ⟨W, h0, fun i d δ s hd' w => ?_, fun δ s w => ⟨trivial, hd δ s (by rw [rngD_length] at w; exact w)⟩⟩
  obtain ⟨hi, rfl⟩ := rngD_get hd'
  exact ⟨trivial, hs i δ s hi w⟩
/-- a for over items that stay -/
theorem for_its {ds : List DV} {G : Sto → Prop} {g : TGd} {tb : TSd} {D : EndsD} {δ : Ed} {s : Sto} (W : Nat → Ed → Sto → Prop) (h0 : W 0 δ s) (hG : ∀ i δ s, W i δ s → G s) (hs : ∀ (i : Nat) d δ s, ds[i]? = some d → W i δ s → g d δ s (tb ⟨W (i + 1), D.rt, D.nx, W (i + 1)⟩))
    (hd : ∀ δ s, W ds.length δ s → D.nx δ s) : dForW g tb D δ ds G s :=
  ⟨W, h0, fun i d δ s hd' w => ⟨hG i δ s w, hs i d δ s hd' w⟩, fun δ s w => ⟨hG _ δ s w, hd δ s w⟩⟩
/-- a list by a comprehension -/
theorem lc_its {ds : List DV} {G : Sto → Prop} {g : TGd} {tt : TTd} {te : TEd} {vs : List Nat} {δ : Ed} {fin : Addr → List DV → Sto → Prop} {s : Sto} (W : Addr → Nat → List DV → Sto → Prop) (h0 : ∀ D, s D = none → W D 0 [] (up s D .hid)) (hG : ∀ D i acc s', s D = none → W D i acc s' → G s')
    (hs : ∀ D (i : Nat) d acc s', s D = none → ds[i]? = some d → W D i acc s' → g d (wipeD δ vs) s' (kLc1 tt te (W D) i acc))
    (hd : ∀ D acc s', s D = none → W D ds.length acc s' → fin D acc s') : dLcW g tt te vs δ fin ds G s := fun D hD =>
  ⟨W D, h0 D hD, fun i d acc s' hd' w => ⟨hG D i acc s' hD w, hs D i d acc s' hD hd' w⟩, fun acc s' w => ⟨hG D _ acc s' hD w, hd D acc s' hD w⟩⟩
theorem lc_rng {lo : Int} {n : Nat} {g : TGd} {tt : TTd} {te : TEd} {vs : List Nat} {δ : Ed} {fin : Addr → List DV → Sto → Prop} {s : Sto} (W : Addr → Nat → List DV → Sto → Prop) (h0 : ∀ D, s D = none → W D 0 [] (up s D .hid))
    (hs : ∀ D (i : Nat) acc s', s D = none → i < n → W D i acc s' → g (.int (lo + i)) (wipeD δ vs) s' (kLc1 tt te (W D) i acc))
    (hd : ∀ D acc s', s D = none → W D n acc s' → fin D acc s') : dLcW g tt te vs δ fin (rngD lo n) gTrue s := by
  refine lc_its W h0 (fun _ _ _ _ _ _ => trivial) (fun D i d acc s' hD hd' w => ?_) (fun D acc s' hD w => hd D acc s' hD (by rw [rngD_length] at w; exact w))
  obtain ⟨hi, rfl⟩ := rngD_get hd'
  exact hs D i acc s' hD hi w
end DL

set_option Elab.async false
set_option linter.all false
set_option maxRecDepth 100000
set_option maxHeartbeats 4000000
namespace DL
open PySem PySem.Spec PyProof.Rows L2

/-! ### texts by their signs -/
abbrev tl (x : Str) : List Nat := x.cps.toList
theorem len_tl (x : Str) : x.length = (tl x).length := by simp [Str.length]
theorem okS_iff (x : Str) : okS x ↔ ∀ c ∈ tl x, c < 1114112 := by
  unfold okS PyData.strOk
  rw [← Array.all_toList, List.all_eq_true]
  simp
theorem ext_tl {a b : Str} (h : tl a = tl b) : a = b := TL.ext_tl h
theorem tl_app (a b : Str) : tl (a ++ b) = tl a ++ tl b := TL.tl_append a b
theorem joinL_nil : ∀ xs : List (List Nat), TL.joinL [] xs = xs.flatten
  | [] => rfl
  | [x] => by simp [TL.joinL]
  | x :: y :: r => by
    show x ++ ([] ++ TL.joinL [] (y :: r)) = _
    rw [joinL_nil (y :: r)]
    simp
theorem tl_join0 (ys : List Str) : tl (Txt.join (Str.ofString "") ys) = (ys.map tl).flatten := by
  have e := TL.tl_join (Str.ofString "") ys
  rw [← TL.join_eq] at e
  have e2 : TL.tl (Str.ofString "") = [] := by decide +kernel
  rw [e2, joinL_nil] at e
  exact e
theorem okS_app {a b : Str} (h : okS a) (h' : okS b) : okS (a ++ b) := by
  rw [okS_iff] at *
  intro c hc
  rw [tl_app] at hc
  rcases List.mem_append.mp hc with q | q
  · exact h c q
  · exact h' c q
theorem okS_join0 {ys : List Str} (h : ∀ y ∈ ys, okS y) : okS (Txt.join (Str.ofString "") ys) := by
  rw [okS_iff]
  intro c hc
  rw [tl_join0] at hc
  obtain ⟨l, hl, hc⟩ := List.mem_flatten.mp hc
  obtain ⟨y, hy, rfl⟩ := List.mem_map.mp hl
  exact (okS_iff y).mp (h y hy) c hc
theorem len_join0 (ys : List Str) : (Txt.join (Str.ofString "") ys).length = (ys.map (·.length)).sum := by
  rw [len_tl, tl_join0, List.length_flatten, List.map_map]
  exact congrArg List.sum (List.map_congr_left fun y _ => (len_tl y).symm)
theorem sum_ones {ys : List Str} {m : Nat} (h : ∀ y ∈ ys, y.length ≤ m) : (ys.map (·.length)).sum ≤ m * ys.length := by
  induction ys with
  | nil => simp
  | cons y ys ih =>
    have h1 := h y List.mem_cons_self
    have h2 := ih fun z hz => h z (List.mem_cons_of_mem _ hz)
    rw [List.map_cons, List.sum_cons, List.length_cons, Nat.mul_succ]
    omega
theorem one_len (c : Nat) : (⟨#[c]⟩ : Str).length = 1 := rfl
theorem okS_one {c : Nat} (h : c < 1114112) : okS ⟨#[c]⟩ := by
  rw [okS_iff]
  intro d hd
  have e : d = c := by simpa using hd
  rw [e]; exact h
theorem lay_strs : ∀ {ns : List Str}, (∀ z ∈ ns, okS z) → PyData.canLayAll0 (ns.map PyData.str) = true
  | [], _ => by simp [PyData.canLayAll0]
  | n :: ns, h => by
    rw [List.map_cons, PyData.canLayAll0, lay_strs fun z hz => h z (List.mem_cons_of_mem _ hz), Bool.and_true, PyData.canLay0]
    exact h n List.mem_cons_self
theorem shaped_strs {ns : List Str} (h : ∀ z ∈ ns, okS z) : SeqAt.shaped (.list (ns.map PyData.str)) = true := by
  unfold SeqAt.shaped
  rw [PyData.canLay0, lay_strs h, PyData.depth, depth_strs]
  rfl
theorem eqv_strs {ns : List Str} (h : ∀ z ∈ ns, okS z) : PyData.eqv (.list (ns.map PyData.str)) (.list (ns.map PyData.str)) = true := eqv_refl _ (by rw [PyData.canLay0]; exact lay_strs h)
theorem strs_get {ns : List Str} {i : Nat} {d : DV} (h : (ns.map DV.str)[i]? = some d) : ∃ z, d = .str z ∧ ns[i]? = some z := by
  rw [List.getElem?_map] at h
  cases e : ns[i]? with
  | none => rw [e] at h; cases h
  | some z => rw [e] at h; exact ⟨z, (Option.some.inj h).symm, rfl⟩
theorem map_snoc {α β : Type} (f : α → β) (xs : List α) (x : α) : xs.map f ++ [f x] = (xs ++ [x]).map f := by simp
theorem er_fresh {s : Sto} {D : Addr} {m : MO} (h : s D = none) : er (up s D m) D = s := by rw [er_up, er_none h]
theorem ne_up {s : Sto} {a D : Addr} {m : MO} (h : s a = some m) (hD : s D = none) : a ≠ D := fun e => by rw [e, hD] at h; cases h
end DL
namespace DL
open PySem PySem.Spec PyProof.Rows L2
section
variable {P : Program} {w : World} {K : PySem.W.Frag} {mg : Str → Option Value} {base : Heap}
/-- THE RULE for a def with defaults from which nothing is raised -/
theorem defOkD {x qual : Str} {st : Stmt} {dvs : List V} {kws : List (Str × V)} {f : Addr} {fd : FuncData} {N ps : List Str} {k : Nat} {sp : Spd} {t : TSd} (F : FunD K x qual (defArgs st) (defBody st) (defScope st) dvs kws f fd) (S : FnScope N ps (defScope st)) (len : ∀ ds s Q E, sp ds s Q E → ds.length = ps.length)
    (hbody : ∀ (A : Anc) (cdv : Value) (Ar : Around) (outer : List Env) (s : Shared) (H : Hp) (E : XK), Room k (Ar.deeper (envOfC qual (defScope st) s.heap.objs.size f cdv)) →
      PSsd A (cxOf CX0 P w K mg base N qual (defScope st) f cdv Ar outer s H E).nox (defBody st) t)
    (hread : ∀ ds s Q E, sp ds s Q E → t { nx := fun _ s => Q .non s, rt := Q } (startD N.length ds) s) : FnOk P w K mg base CX0 (k + 1) f fd ps (lSp K sp) := by
  refine F.ok S (fun vs H Q E h => ?_) (fun cdv Ar outer s H vs Q E hr h => ?_)
  · obtain ⟨ds, s, Q', E', rep, dv, q, _⟩ := h
    rw [dv.length]
    exact len ds s Q' E' q
  · obtain ⟨ds, s0, Q', E', rep, dv, q, kq, ke⟩ := h
    refine ⟨_, (hbody ⟨s0, H⟩ cdv Ar outer s H E hr).nox, startD N.length ds, s0, _, ⟨Stp.refl s0 H, rep, env_start N dv⟩, hread ds s0 Q' E' q, ?_⟩
    exact ⟨fun σ H2 δ s2 S2 q2 => kq .non H2 .non s2 S2.stp S2.rep .non q2, fun _ _ _ _ _ z => z.elim, fun _ _ _ _ _ z => z.elim, fun v H2 d s2 st rep2 dv2 q2 => kq v H2 d s2 st rep2 dv2 q2⟩
end
def kNeg (Q : KD) (d : DV) (s1 : Sto) : Prop := match d with
  | .int i => Q (.int (-i)) s1
  | _ => False
def dNeg (te : TEd) (δ : Ed) (s : Sto) (Q : KD) : Prop := te δ s (kNeg Q)
theorem dneg {A : Anc} {X : Cx} {a : Expr} {ta : TEd} {pos : Pos} (ha : PD A X a ta) : PD A X (.UnaryOp .USub a pos) (dNeg ta) := peImp (pe_un un_neg ha) fun σ H Q h => by
  obtain ⟨δ, s, Q', S, t, k⟩ := h
  refine ⟨δ, s, _, S, t, fun v H1 d s1 st1 rep1 dv q => ?_⟩
  cases d with
  | int i => exact ⟨i, dv.intInv, k _ H1 _ s1 st1 rep1 (.int _) q⟩
  | _ => exact False.elim q
theorem er_up2 {s : Sto} {p D : Addr} {m x : MO} (ne : p ≠ D) (h : s D = none) : er (up (up s D m) p x) D = up s p x := by
  rw [up_comm ne.symm, er_up, er_none]
  rw [up_ne ne.symm]
  exact h
theorem up_up2 {s : Sto} {p D : Addr} {m n x : MO} (ne : p ≠ D) : up (up (up s D m) p x) D n = up (up s p x) D n := by
  rw [up_comm ne.symm, up_up]
theorem sub_up {s : Sto} {q : Addr} {m : MO} (h : s q = none) (hm : m ≠ .hid) : Sub s (up s q m) := ⟨fun a n e => by
  rw [up_ne (ne_up e h)]; exact e, fun a e => by
  by_cases z : a = q
  · subst z; rw [up_same] at e; exact absurd (Option.some.inj e) hm
  · rw [up_ne z] at e; exact e⟩
theorem cut_last (xs : List DV) : DL.cutD xs none (some (-1)) = xs.dropLast := by
  cases xs with
  | nil => rfl
  | cons x xs =>
    have h2 : HT.sIx (x :: xs).length (x :: xs).length (some (-1)) = xs.length := by
      show (if (-1 : Int) < 0 then ((-1 : Int) + ((xs.length + 1 : Nat) : Int)).toNat else min (-1 : Int).toNat (xs.length + 1)) = xs.length
      rw [if_pos (by decide)]
      omega
    unfold DL.cutD
    rw [h2, HT.sIx_none, List.dropLast_eq_take]
    simp
end DL

set_option Elab.async false
set_option linter.all false
set_option maxRecDepth 100000
set_option maxHeartbeats 4000000
/-! The head: what the top leaves, by names; from there to the texts of this layer. -/
namespace DL
open PySem PySem.Spec PyProof.Rows L2
section
variable {P : Program} {w : World} {K : PySem.W.Frag} {mg : Str → Option Value} {h : Heap}
theorem fun_of {x qual : Str} {st : Stmt} {f : Addr} {fd : FuncData} (F : FunD K x qual (defArgs st) (defBody st) (defScope st) [] [] f fd) : Fun K x qual st f fd := by
  have kp := F.kp
  obtain ⟨oc, od, dV, kV, doc, pm, an, cdv, ct, osl, rfl, lk, hcd, hd, _⟩ := F.ex
  rcases hd with ⟨_, rfl⟩ | ⟨h, _⟩
  · exact fun_mk lk hcd kp
  · exact absurd rfl h
abbrev BArgs (x qual : Str) (st : Stmt) (ps : List Str) : Prop := ∀ (kV doc pm : Value) (an : Option Addr) (cdv ct : Value) (us : List Value), us.length = ps.length → bindArgs (PySem.W.fnOf x qual (defArgs st) (defBody st) (defScope st) .none kV doc pm an cdv ct) ⟨us, []⟩ = pure (ps.zip us)
theorem defAt_of {x : Str} {st : Stmt} {ps : List Str} (X : K.In h) (G : h.Ns mainGlobals mg) (F : ∃ fd, FunD K x x (defArgs st) (defBody st) (defScope st) [] [] (He.fAd K (x, none)) fd) (g : (He.Fa.glo x).ok K = true) (b : BArgs x x st ps) : DefAt K mg x st ps := by
  obtain ⟨fd, F⟩ := F
  exact ⟨He.ga K x, fd, fun_of F, He.glo_ok X G g, F.kp, F.bindsN b⟩
theorem methAt_of {C m qual : Str} {st : Stmt} {ps : List Str} (F : ∃ fd, FunD K m qual (defArgs st) (defBody st) (defScope st) [] [] (He.fAd K (C, some m)) fd) (g : (He.Fa.meth C m).ok K = true) (b : BArgs m qual st ps) : MethAt K (He.ga K C) m qual st ps := by
  obtain ⟨fd, F⟩ := F
  exact ⟨He.ma K (He.ga K C) m, fd, fun_of F, He.meth_ok g, F.bindsN b⟩
/-- the object at an address is a tuple of these -/
def tupA (K : PySem.W.Frag) (a : Addr) (vs : List He.Dv) : Bool := match K.lookup a with
  | some ⟨.type c, _, .seq its _, _⟩ => decide (c = "tuple") && (decide (its.size ≤ sizeLine) && He.relAll (vs.map (He.Dv.v K)) its.toList)
  | _ => false
theorem tupA_ok {a : Addr} {vs : List He.Dv} (h : tupA K a vs = true) (H : Hp) : SqT K H a (vs.map (He.Dv.v K)) := by
  unfold tupA at h
  cases q : K.lookup a with
  | none =>
    rw [q] at h
    cases h
  | some o =>
    obtain ⟨oc, od, dt, osl⟩ := o
    rw [q] at h
    cases oc with
    | type c =>
      cases dt with
      | seq its n =>
        obtain ⟨h1, h2⟩ := He.ba (show (decide (c = "tuple") && (decide (its.size ≤ sizeLine) && He.relAll (vs.map (He.Dv.v K)) its.toList)) = true from h)
        obtain ⟨h3, h4⟩ := He.ba h2
        exact .inr ⟨_, its, n, q, congrArg Value.type (of_decide_eq_true h1), rfl, of_decide_eq_true h3, He.relAll_ok h4⟩
      | _ => cases h
    | _ => cases dt <;> cases h
/-! ### the Hook -/
def obB (n : Nat) (fa : List He.Fa) (fn : List He.DefD) (ex : PySem.W.Frag → Bool) (g : Addr → Option Obj) : He.AlD × Bool := (He.obsDG n fa fn g, ex (He.frG g (He.asD g n)))
def SaysB (fa : List He.Fa) (fn : List He.DefD) (ex : PySem.W.Frag → Bool) (K : PySem.W.Frag) : Prop := He.SaysD fa fn K ∧ ex K = true
def hookB (n : Nat) (fa : List He.Fa) (fn : List He.DefD) (ex : PySem.W.Frag → Bool) : PySem.W.Hook where
  α := He.AlD × Bool
  obs := fun s => obB n fa fn ex s.heap.get?
  val := fun _ => (He.valD fn, true)
  says := fun _ h => ∃ K : PySem.W.Frag, K.In h ∧ SaysB fa fn ex K
  of := fun _ _ e => ⟨_, He.frG_in, congrArg Prod.fst e, congrArg Prod.snd e⟩
  keeps := fun _ _ _ ⟨K, hK, c⟩ k => ⟨K, PySem.W.Frag.In.keeps hK k, c⟩
theorem obB_eq {n : Nat} {fa : List He.Fa} {fn : List He.DefD} {ex : PySem.W.Frag → Bool} {g : Addr → Option Obj} {s : Shared} (h : ∀ a, g a = s.heap.get? a) : obB n fa fn ex g = (hookB n fa fn ex).obs s := by
  have e : g = s.heap.get? := funext h
  rw [e] <;> rfl
/-- the script as data -/
theorem scr_of {H : Hp} {a : Addr} {ns : List Int} (hO : Only H) (hS : SqL K H a (ns.map V.int)) : DatL K (fun _ => none) H [.ref a] [.scr (ns.map DV.int)] := by
  have hin : ∀ l : List Int, DatL K (fun _ => none) H (l.map V.int) (l.map DV.int) := fun l => by
    induction l with
    | nil => exact .nil
    | cons x r ih => exact .cons (.int x) ih
  refine .cons (.scr ?_ (hin ns)) .nil
  rcases hS with (h | ⟨o, h⟩) | h
  · rcases hO a with e | ⟨o, xs, e⟩
    · rw [e] at h
      cases h
    · rw [e] at h
      cases h
  · exact .inl ⟨o, h⟩
  · exact .inr h
theorem law_of {sp : Spd} {H : Hp} {a : Addr} {ns : List Int} {E : XK} (hO : Only H) (hS : SqL K H a (ns.map V.int)) (q : sp [.scr (ns.map DV.int)] (fun _ => none) (fun d _ => d = .bl true) noX) : lSp K sp [.ref a] H (fun v _ => v = .bl true) E := by
  refine ⟨_, _, _, _, ?_, scr_of hO hS, q, ?_, ExL.no⟩
  · intro b m e
    cases e
  · intro v H2 d s2 _ _ dv e
    subst e
    cases dv
    rfl
end
end DL

set_option Elab.async false
set_option linter.all false
set_option maxRecDepth 100000
set_option maxHeartbeats 4000000
/-! More readings: isinstance, all, zip, xs[::-1], upper, a text times an int; promises made weaker. -/
namespace DL
open PySem PySem.Spec PyProof.Rows L2
/-! ### types -/
inductive Ty where
  | non | bl | int | str | tup | lst | dct
deriving DecidableEq
def Ty.nm : Ty → String
  | .non => "NoneType"
  | .bl => "bool"
  | .int => "int"
  | .str => "str"
  | .tup => "tuple"
  | .lst => "list"
  | .dct => "dict"
def tyOfO : Option MO → Option Ty
  | some (.lst _) => some .lst
  | some (.dK _) => some .dct
  | _ => none
def tyOfD (s : Sto) (d : DV) : Option Ty := match d with
  | .non => some .non
  | .bl _ => some .bl
  | .int _ => some .int
  | .str _ => some .str
  | .tup _ => some .tup
  | .lst _ => some .lst
  | .scr _ => some .lst
  | .ref a => tyOfO (s a)
  | .ty _ => none
def isT (t c : Ty) : Bool := match t, c with
  | .bl, .bl => true
  | .bl, .int => true
  | .int, .int => true
  | .str, .str => true
  | .tup, .tup => true
  | .lst, .lst => true
  | .dct, .dct => true
  | .non, .non => true
  | _, _ => false
theorem kitB_ok (t c : Ty) (h : c ≠ .non) : kitB t.nm c.nm = some (isT t c) := by
  cases c <;> first | exact absurd rfl h | (cases t <;> decide +kernel)
section
variable {K : PySem.W.Frag} {s : Sto} {H : Hp}
theorem tyX_ok (rep : Rep K s H) {v : V} {d : DV} {t : Ty} (dv : Dat K s H v d) (e : tyOfD s d = some t) : TyX K H v (.type t.nm) := by
  cases d with
  | non => cases e; cases dv; exact .base .non
  | bl b => cases e; cases dv; exact .base (.bl b)
  | int b => cases e; cases dv; exact .base (.int b)
  | str b => cases e; cases dv; exact .base (.str b)
  | tup ds =>
    cases e
    obtain ⟨a, xs, rfl, h1, l⟩ := dv.tupInv
    rcases h1 with (h | ⟨o, h⟩) | ⟨o, its, n, lk, hc, _⟩
    · exact .base (.tup h)
    · exact .fTuple h
    · exact .kTuple lk hc
  | lst ds =>
    cases e
    obtain ⟨a, xs, rfl, h1, _, l⟩ := dv.lstInv
    exact .base (.lst h1)
  | scr ds =>
    cases e
    obtain ⟨a, xs, rfl, h1, l⟩ := dv.scrInv
    rcases h1 with ⟨o, h⟩ | ⟨o, its, n, lk, hc, _⟩
    · exact .base (.frz h)
    · exact .kList lk hc
  | ref a =>
    cases dv
    have e : tyOfO (s a) = some t := e
    cases q : s a with
    | none => rw [q] at e; cases e
    | some m =>
      rw [q] at e
      cases m with
      | lst ds =>
        cases e
        obtain ⟨xs, h1, _⟩ := rep a _ q
        exact .base (.lst h1)
      | dK ks =>
        cases e
        obtain ⟨xs, h1, _⟩ := rep a _ q
        exact .base (.dK h1)
      | hid => cases e
      | ins C fs => cases e
      | exc C fs => cases e
  | ty n => cases e
end
def tyN (n : String) : Option Ty := if n = "bool" then some .bl else if n = "int" then some .int else if n = "str" then some .str else if n = "tuple" then some .tup else if n = "list" then some .lst else if n = "dict" then some .dct else none
theorem tyN_bool : tyN "bool" = some .bl := rfl
theorem tyN_int : tyN "int" = some .int := rfl
theorem tyN_str : tyN "str" = some .str := rfl
theorem tyN_tuple : tyN "tuple" = some .tup := rfl
theorem tyN_list : tyN "list" = some .lst := rfl
theorem tyN_ok {n : String} {c : Ty} (e : tyN n = some c) : n = c.nm ∧ c ≠ .non := by
  unfold tyN at e
  repeat (split at e; · cases e; exact ⟨by assumption, fun z => nomatch z⟩)
  cases e
def kIsi (t c : Option Ty) (s : Sto) (Q : KD) : Prop := match t, c with
  | some t, some c => Q (.bl (isT t c)) s
  | _, _ => False
def dIsi (ds : List DV) (s : Sto) (Q : KD) : Prop := match ds with
  | [d, .ty n] => kIsi (tyOfD s d) (tyN n) s Q
  | _ => False
section
variable {X : Cx} {A : Anc}
theorem cd_isi : CallR X (.builtin "isinstance") (lC X.K dIsi) := callImp call_isi fun xs H Q h => by
  obtain ⟨ds, s, Q', rep, hx, r, k⟩ := h
  unfold dIsi at r
  split at r
  · rename_i d n
    cases hx with
    | cons h t =>
      cases t with
      | cons h2 t2 =>
        cases t2
        cases h2
        cases e : tyOfD s d with
        | none => rw [e] at r; exact r.elim
        | some t =>
          cases e2 : tyN n with
          | none => rw [e, e2] at r; exact r.elim
          | some c =>
            rw [e, e2] at r
            obtain ⟨rfl, hc⟩ := tyN_ok e2
            exact ⟨_, _, _, _, _, rfl, .ty _, tyX_ok rep h e, kit_ty (kitB_ok t c hc), k _ H _ s (Stp.refl s H) rep (.bl _) r⟩
  · exact r.elim
/-! ### isinstance(x, (A, B)) -/
def tTys : List Ty → TA
  | [] => tNil
  | c :: r => tCons (tC (.ty c.nm)) (tTys r)
theorem tTys_run {σ : L2.St} {H : Hp} : ∀ {cs : List Ty} {R : List V → Hp → Prop}, R (cs.map fun c => .ty c.nm) H → tTys cs σ H R
  | [], _, r => r
  | _ :: cs, _, r => tTys_run (cs := cs) r
theorem kitAny_ok {K : PySem.W.Frag} (t : Ty) : ∀ (cs : List Ty), (∀ c ∈ cs, c ≠ .non) → PySem.W.kitAny K (.type t.nm) (cs.map fun c => .type c.nm) = some (cs.any (isT t))
  | [], _ => rfl
  | c :: cs, h => by
    refine kitAny_cons (kit_ty (kitB_ok t c (h c (List.mem_cons_self ..)))) (fun e => ?_) fun e => ?_
    · rw [List.any_cons, e, Bool.false_or]
      exact kitAny_ok t cs fun c hc => h c (List.mem_cons_of_mem _ hc)
    · rw [List.any_cons, e, Bool.true_or]
theorem clsV_ok : ∀ cs : List Ty, Paired ClsV (cs.map fun c => V.ty c.nm) (cs.map fun c => Value.type c.nm)
  | [] => .nil
  | c :: cs => .cons (.ty _) (clsV_ok cs)
def kIsiT (cs : List Ty) (Q : KD) (d : DV) (s1 : Sto) : Prop := match tyOfD s1 d with
  | some t => Q (.bl (cs.any (isT t))) s1
  | none => False
def dIsiT (te : TEd) (cs : List Ty) (δ : Ed) (s : Sto) (Q : KD) : Prop := te δ s (kIsiT cs Q)
theorem disiT {e : Expr} {te : TEd} {es : List Expr} {cs : List Ty} {p p2 pos : Pos} {x1} (he : PD A X e te) (hm : X.mg "isinstance" = none) (ht : PA X es (tTys cs)) (hc : ∀ c ∈ cs, c ≠ .non) (hl : cs.length ≤ 1000)
    (hg : Gl X "isinstance" := by rfl) (hs : starEach [e, .Tuple es x1 p2] X.env = (false, eval e X.env) :: starEach [.Tuple es x1 p2] X.env := by rfl) (hs2 : starEach [.Tuple es x1 p2] X.env = (false, eval (.Tuple es x1 p2) X.env) :: starEach [] X.env := by rfl)
    (hpl : (backTo pos (starEach [.Tuple es x1 p2] X.env)).any (·.1) = false := by rfl) : PD A X (.Call (.Name "isinstance" p) [e, .Tuple es x1 p2] [] pos) (dIsiT te cs) := by
  refine peImp (pe_callB call_isiT hg hm (by decide +kernel) (pa_cons he (pa_cons (pe_tup ht) pa_nil hs2) hs) (by decide) (by decide) hs hpl) fun σ H Q h => ?_
  obtain ⟨δ, s, Q', S, t, k⟩ := h
  refine ⟨δ, s, _, S, t, fun v H1 d s1 st1 rep1 dv q => ?_⟩
  refine tTys_run ⟨by rw [List.length_map, sizeLine_eq]; omega, fun p hp => ?_⟩
  unfold kIsiT at q
  cases e : tyOfD s1 d with
  | none => rw [e] at q; exact q.elim
  | some t =>
    rw [e] at q
    exact ⟨v, p, _, _, _, _, rfl, upd_same, clsV_ok cs, tyX_ok (rep1.newF hp) (dv.step (Stp.newF hp) rep1) e, kitAny_ok t cs hc, k _ _ _ s1 (st1.trans (Stp.newF hp)) (rep1.newF hp) (.bl _) q⟩
/-! ### a < b < c as a test -/
theorem dtchain {a b c : Expr} {ta tb tc : TEd} {r r' : R2d} {op op' : CmpOp} {pos : Pos} (ho : OpD X (compareOp op) r) (ho' : OpD X (compareOp op') r') (ha : PD A X a ta) (hb : PD A X b tb) (hc : PD A X c tc)
    (hm : lastMarks [op, op'] [b, c] = false := by with_unfolding_all rfl) : PTd A X (.Compare a [op, op'] [b, c] pos) (dTest (dChain r r' ta tb tc)) :=
  ptImp (pt_chain ho ho' ha hb hc hm) fun σ H Q h => by
    have h2 := lT_test h
    exact by
      obtain ⟨δ, s, Q', S, t, k⟩ := h2
      exact lE_chain ⟨δ, s, Q', S, t, k⟩
/-! ### all -/
def boolsD : List DV → Option (List Bool)
  | [] => some []
  | .bl b :: r => (boolsD r).map (b :: ·)
  | _ :: _ => none
theorem boolsD_ok : ∀ {ds : List DV} {bs : List Bool}, boolsD ds = some bs → ds = bs.map DV.bl
  | [], _, e => by cases e; rfl
  | d :: r, bs, e => by
    cases d with
    | bl b =>
      unfold boolsD at e
      cases q : boolsD r with
      | none => rw [q] at e; cases e
      | some cs => rw [q] at e; cases e; rw [boolsD_ok q]; rfl
    | _ => cases e
theorem boolsD_map : ∀ bs : List Bool, boolsD (bs.map DV.bl) = some bs
  | [] => rfl
  | b :: r => by show (boolsD (r.map DV.bl)).map (b :: ·) = _; rw [boolsD_map r]; rfl
theorem DatL.bools {K : PySem.W.Frag} {s : Sto} {H : Hp} : ∀ {bs : List Bool} {vs : List V}, DatL K s H vs (bs.map DV.bl) → vs = bs.map V.bl
  | [], _, .nil => rfl
  | b :: bs, _, .cons h t => by cases h; rw [DatL.bools t]; rfl
def dAll (ds : List DV) (s : Sto) (Q : KD) : Prop := match ds with
  | [.lst es] => (match boolsD es with
    | some bs => Q (.bl (bs.all id)) s
    | none => False)
  | _ => False
theorem cd_all (hc : X.calm = true) : CallR X (.builtin "all") (lC X.K dAll) := callImp (cr_all hc) fun xs H Q h => by
  obtain ⟨ds, s, Q', rep, hx, r, k⟩ := h
  unfold dAll at r
  split at r
  · cases hx with
    | cons h t =>
      cases t
      split at r
      · rename_i bs e
        rw [boolsD_ok e] at h
        obtain ⟨a, ys, rfl, h1, _, l⟩ := h.lstInv
        rw [DatL.bools l] at h1
        exact ⟨a, bs, rfl, SqL.of h1, k _ H _ s (Stp.refl s H) rep (.bl _) r⟩
      · exact r.elim
  · exact r.elim
/-! ### zip -/
def zipD (xs ys : List DV) : List DV := List.zipWith (fun x y => .tup [x, y]) xs ys
def kZip (R : List DV → (Sto → Prop) → Sto → Prop) (ds : List DV) (s1 : Sto) : Prop := match ds with
  | [.tup xs, .tup ys] => R (zipD xs ys) gTrue s1
  | [.lst xs, .lst ys] => R (zipD xs ys) gTrue s1
  | _ => False
def dZip (t : TAd) (δ : Ed) (s : Sto) (R : List DV → (Sto → Prop) → Sto → Prop) : Prop := t δ s (kZip R)
theorem zip_get {xs ys : List DV} {i : Nat} (hi : i < (zipD xs ys).length) : ∃ x y, xs[i]? = some x ∧ ys[i]? = some y ∧ (zipD xs ys)[i]? = some (.tup [x, y]) := by
  unfold zipD at hi ⊢
  rw [List.length_zipWith] at hi
  obtain ⟨x, hx⟩ := get_lt (xs := xs) (i := i) (by omega)
  obtain ⟨y, hy⟩ := get_lt (xs := ys) (i := i) (by omega)
  refine ⟨x, y, hx, hy, ?_⟩
  rw [List.getElem?_zipWith, hx, hy]
theorem itd_zipT {K : PySem.W.Frag} {s0 : Sto} {H0 : Hp} {a b : Addr} {ds es : List DV} (w : ∀ s H, Stp s0 H0 s H → Rep K s H → ∃ xs, SqT K H a xs ∧ DatL K s H xs ds) (u : ∀ s H, Stp s0 H0 s H → Rep K s H → ∃ xs, SqT K H b xs ∧ DatL K s H xs es) : ItD K s0 H0 (zipD ds es) gTrue (RZ.ItzT K a b) := ⟨
  fun i s H st rep g hi => by
    obtain ⟨d, e, hd, he, _⟩ := zip_get hi
    obtain ⟨xs, h1, l1⟩ := w s H st rep
    obtain ⟨ys, h2, l2⟩ := u s H st rep
    obtain ⟨x, hx, _⟩ := l1.get' hd
    obtain ⟨y, hy, _⟩ := l2.get' he
    exact ⟨xs, ys, x, y, h1, h2, hx, hy⟩,
  fun i s H v H' st rep g hi y => by
    obtain ⟨d, e, hd, he, hz⟩ := zip_get hi
    obtain ⟨xs, h1, l1⟩ := w s H st rep
    obtain ⟨ys, h2, l2⟩ := u s H st rep
    obtain ⟨T, x, y, rfl, hT, rfl, gx, gy⟩ := y
    obtain ⟨x', hx, dx⟩ := l1.get' hd
    obtain ⟨y', hy, dy⟩ := l2.get' he
    have ex : x' = x := by have := gx xs h1; rw [hx] at this; exact Option.some.inj this
    have ey : y' = y := by have := gy ys h2; rw [hy] at this; exact Option.some.inj this
    subst ex ey
    refine ⟨Stp.newF hT, rep.newF hT, _, hz, .tup (SqT.of upd_same) (.cons (dx.step (Stp.newF hT) rep) (.cons (dy.step (Stp.newF hT) rep) .nil))⟩,
  fun s H st rep g => by
    obtain ⟨xs, h1, l1⟩ := w s H st rep
    obtain ⟨ys, h2, l2⟩ := u s H st rep
    refine ⟨xs, ys, h1, h2, ?_⟩
    unfold zipD
    rw [List.length_zipWith, l1.length, l2.length]
    omega⟩
theorem itd_zipL {K : PySem.W.Frag} {s0 : Sto} {H0 : Hp} {a b : Addr} {ds es : List DV} (w : ∀ s H, Stp s0 H0 s H → Rep K s H → ∃ xs, SqL K H a xs ∧ DatL K s H xs ds) (u : ∀ s H, Stp s0 H0 s H → Rep K s H → ∃ xs, SqL K H b xs ∧ DatL K s H xs es) : ItD K s0 H0 (zipD ds es) gTrue (Itz K a b) := ⟨
  fun i s H st rep g hi => by
    obtain ⟨d, e, hd, he, _⟩ := zip_get hi
    obtain ⟨xs, h1, l1⟩ := w s H st rep
    obtain ⟨ys, h2, l2⟩ := u s H st rep
    obtain ⟨x, hx, _⟩ := l1.get' hd
    obtain ⟨y, hy, _⟩ := l2.get' he
    exact ⟨xs, ys, x, y, h1, h2, hx, hy⟩,
  fun i s H v H' st rep g hi y => by
    obtain ⟨d, e, hd, he, hz⟩ := zip_get hi
    obtain ⟨xs, h1, l1⟩ := w s H st rep
    obtain ⟨ys, h2, l2⟩ := u s H st rep
    obtain ⟨T, x, y, rfl, hT, rfl, gx, gy⟩ := y
    obtain ⟨x', hx, dx⟩ := l1.get' hd
    obtain ⟨y', hy, dy⟩ := l2.get' he
    have ex : x' = x := by have := gx xs h1; rw [hx] at this; exact Option.some.inj this
    have ey : y' = y := by have := gy ys h2; rw [hy] at this; exact Option.some.inj this
    subst ex ey
    refine ⟨Stp.newF hT, rep.newF hT, _, hz, .tup (SqT.of upd_same) (.cons (dx.step (Stp.newF hT) rep) (.cons (dy.step (Stp.newF hT) rep) .nil))⟩,
  fun s H st rep g => by
    obtain ⟨xs, h1, l1⟩ := w s H st rep
    obtain ⟨ys, h2, l2⟩ := u s H st rep
    refine ⟨xs, ys, h1, h2, ?_⟩
    unfold zipD
    rw [List.length_zipWith, l1.length, l2.length]
    omega⟩
theorem dzip {e e2 : Expr} {t : TAd} {p pos tpos : Pos} {elts : List Expr} {kk : Nat} (hm : X.mg "zip" = none) (ha : PAd A X [e, e2] t) (hg : Gl X "zip" := by rfl)
    (hs : starEach [e, e2] X.env = (false, eval e X.env) :: starEach [e2] X.env := by rfl) (hpl : (backTo pos (starEach [e2] X.env)).any (·.1) = false := by rfl) : PId A X (.Tuple elts kk tpos) (.Call (.Name "zip" p) [e, e2] [] pos) (dZip t) :=
  piImp (RZ.pi_zipA hg hm ha hs hpl) fun σ H R h => by
  obtain ⟨δ, s, R', S, t, k⟩ := h
  refine ⟨δ, s, _, S, t, fun vs H1 ds s1 st1 rep1 dv q => ?_⟩
  unfold kZip at q
  split at q
  · cases dv with
    | cons h1 t =>
      cases t with
      | cons h2 t2 =>
        cases t2
        obtain ⟨a, xs, rfl, g1, l1⟩ := h1.tupInv
        obtain ⟨b, ys, rfl, g2, l2⟩ := h2.tupInv
        refine ⟨a, b, xs, ys, rfl, .inr ⟨g1, g2, k _ gTrue s1 H1 _ st1 rep1 (itd_zipT (fun s2 H2 st2 rep2 => ?_) fun s2 H2 st2 rep2 => ?_) q⟩⟩
        · exact ⟨xs, sqT_step st2 rep1 g1, l1.step st2 rep1⟩
        · exact ⟨ys, sqT_step st2 rep1 g2, l2.step st2 rep1⟩
  · cases dv with
    | cons h1 t =>
      cases t with
      | cons h2 t2 =>
        cases t2
        obtain ⟨a, xs, rfl, g1, n1, l1⟩ := h1.lstInv
        obtain ⟨b, ys, rfl, g2, n2, l2⟩ := h2.lstInv
        refine ⟨a, b, xs, ys, rfl, .inl ⟨SqL.of g1, SqL.of g2, k _ gTrue s1 H1 _ st1 rep1 (itd_zipL (fun s2 H2 st2 rep2 => ?_) fun s2 H2 st2 rep2 => ?_) q⟩⟩
        · exact ⟨xs, SqL.of (st2 a _ g1 (.inl n1)).1, l1.step st2 rep1⟩
        · exact ⟨ys, SqL.of (st2 b _ g2 (.inl n2)).1, l2.step st2 rep1⟩
  · exact q.elim
/-! ### upper -/
def dUpper (x : DV) (xs : List DV) (s : Sto) (Q : KD) : Prop := match x, xs with
  | .str z, [] => z.length ≤ 5592405 ∧ Q (.str (Txt.upper z)) s
  | _, _ => False
theorem md_upper : MtR X "str.upper" (lM X.K dUpper) := mtImp mt_upper fun x xs H Q h => by
  obtain ⟨d, ds, s, Q', rep, hx, hxs, r, k⟩ := h
  unfold dUpper at r
  split at r
  · cases hx; cases hxs
    exact ⟨_, rfl, rfl, r.1, k _ H _ s (Stp.refl s H) rep (.str _) r.2⟩
  · exact r.elim
/-! ### a text times an int -/
def repS (z : Str) (k : Int) : Str := ⟨(List.replicate k.toNat z.cps).foldl (· ++ ·) #[]⟩
theorem repS_list (z : Str) (k : Int) : (repS z k).cps.toList = (List.replicate k.toNat z.cps.toList).flatten := by
  unfold repS
  generalize k.toNat = n
  have h : ∀ (m : Nat) (a : Array Nat), ((List.replicate m z.cps).foldl (· ++ ·) a).toList = a.toList ++ (List.replicate m z.cps.toList).flatten := fun m => by
    induction m with
    | zero => intro a; simp
    | succ m ih => intro a; rw [List.replicate_succ, List.foldl_cons, ih, List.replicate_succ, List.flatten_cons, Array.toList_append, List.append_assoc]
  rw [h n #[]]
  rfl
theorem repS_length (z : Str) (k : Int) : (repS z k).length = k.toNat * z.length := by
  have h := congrArg List.length (repS_list z k)
  rw [List.length_flatten, List.map_replicate, List.sum_replicate_nat] at h
  exact h
def dMulS (x y : DV) (s : Sto) (Q : KD) : Prop := match x, y with
  | .str z, .int k => (2 ≤ k ∧ k ≤ 100000 ∧ 1 ≤ z.length ∧ z.length ≤ 100) ∧ Q (.str (repS z k)) s
  | _, _ => False
theorem op_mulS : OpR X (binaryOp .Mult) (fun x y H Q => ∃ z k, x = .str z ∧ y = .int k ∧ (2 ≤ k ∧ k ≤ 100000 ∧ 1 ≤ z.length ∧ z.length ≤ 100) ∧ Q (.str (repS z k)) H) := by
  intro pins s σ H x y v u Q I rx ry h
  obtain ⟨z, k, rfl, rfl, ⟨h1, h2, h3, h4⟩, q⟩ := h
  obtain ⟨t, rfl⟩ := rx
  obtain ⟨t', rfl⟩ := ry
  have hk : k.toNat ≤ 100000 := by omega
  have hm : z.length * k.toNat ≤ 100 * 100000 := Nat.mul_le_mul h4 hk
  have n1 : ¬ k < 1 := by omega
  have n2 : (k == 1 || z.length == 0) = false := by
    rw [Bool.or_eq_false_iff]
    exact ⟨by simpa using (show k ≠ 1 by omega), by simpa using (show z.length ≠ 0 by omega)⟩
  refine PySem.P.mul_str ?_ (fun _ _ => ?_) (fun _ _ => ?_) ?_
  · rw [decide_eq_false (by omega), decide_eq_false (by omega)]; rfl
  · have h5 : (100 : Int) ≤ (2 ^ 63 - 1) / k := by
      rw [Int.le_ediv_iff_mul_le (by omega)]
      omega
    omega
  · show decide (z.length * k.toNat > sizeLine) = false
    rw [decide_eq_false]
    rw [sizeLine_eq]
    omega
  · rw [if_neg n1, if_neg (by rw [n2]; exact Bool.false_ne_true)]
    refine ⟨?_, .str _, H, I.tok _, ⟨_, rfl⟩, q⟩
    show (repS z k).length ≤ sizeLine
    rw [repS_length, Nat.mul_comm, sizeLine_eq]
    omega
theorem od_mulS : OpD X (binaryOp .Mult) dMulS := opImp op_mulS fun x y H Q h => by
  obtain ⟨dx, dy, s, Q', rep, hx, hy, r, k⟩ := h
  unfold dMulS at r
  split at r
  · cases hx; cases hy
    exact ⟨_, _, rfl, rfl, r.1, k _ H _ s (Stp.refl s H) rep (.str _) r.2⟩
  · exact r.elim
/-! ### weaker promises -/
variable {P : Program} {w : World} {K : PySem.W.Frag} {mg : Str → Option Value} {base : Heap}
theorem FnOk.weak {CX : CXT} {k : Nat} {f : Addr} {fd : FuncData} {ps : List Str} {sp sp' : Sp} (F : FnOk P w K mg base CX k f fd ps sp) (h : ∀ vs H Q E, sp' vs H Q E → sp vs H Q E) : FnOk P w K mg base CX k f fd ps sp' :=
  ⟨fun vs H Q E q => F.len vs H Q E (h _ _ _ _ q), fun A outer s H args us vs Q E r e b v q => F.run A outer s H args us vs Q E r e b v (h _ _ _ _ q)⟩
theorem lSp_weak {sp sp' : Spd} (h : ∀ ds s Q E, sp' ds s Q E → sp ds s Q E) (vs : List V) (H : Hp) (Q : VK) (E : XK) (q : lSp K sp' vs H Q E) : lSp K sp vs H Q E := by
  obtain ⟨ds, s, Q', E', rep, dv, q, k, x⟩ := q
  exact ⟨ds, s, Q', E', rep, dv, h _ _ _ _ q, k, x⟩
theorem Fn.weak {x : Str} {k : Nat} {ps : List Str} {sp sp' : Spd} (F : Fn P w K mg base x k ps sp) (h : ∀ ds s Q E, sp' ds s Q E → sp ds s Q E) : Fn P w K mg base x k ps sp' := by
  obtain ⟨f, fd, F, r⟩ := F.ex
  exact ⟨f, fd, FnOk.weak F (lSp_weak h), r⟩
end
end DL

set_option Elab.async false
set_option linter.all false
set_option maxRecDepth 100000
set_option maxHeartbeats 4000000
/-! xs[::-1] of texts, tuples, lists. -/
namespace DL
open PySem PySem.Spec PyProof.Rows L2
section
variable {prog : Program} {w : World} {A : Around} {E : Value → Shared → Prop} {s : Shared}
theorem revPlaces (n : Nat) : Builtin.Slice.slicePlaces ((n : Int) - 1) (-1) (-1) = n := by
  unfold Builtin.Slice.slicePlaces
  rw [if_neg (by decide)]
  by_cases h : (n : Int) - 1 > -1
  · rw [if_pos h]
    have e : ((n : Int) - 1 - -1 - 1) / (- -1) + 1 = (n : Int) := by
      rw [show (- -1 : Int) = 1 by decide, Int.ediv_one]
      omega
    rw [e, Int.toNat_natCast]
  · rw [if_neg h]
    omega
theorem revApplied {sl : Addr} {vl vu vs : Value} {n : Nat} {Q : Int × Int × Nat → Shared → Prop} (hs : s.heap.IsSliceOf sl vl vu vs) (pl : IsPart vl none) (pu : IsPart vu none) (ps : IsPart vs (some (-1)))
    (h : Q ((n : Int) - 1, -1, n) s) : wpAny (model prog w) A (Builtin.Slice.sliceApplied (.ref sl) (pure (n : Int))) Q E s := by
  obtain ⟨os, hos, hcs, hds⟩ := id hs
  unfold Builtin.Slice.sliceApplied Builtin.Slice.sliceFields
  refine wpAny_bind (wpAny_bind (wpAny_field hos hds (x := vl) rfl (wpAny_bind (wpAny_field hos hds (x := vu) rfl (wpAny_bind (wpAny_field hos hds (x := vs) rfl (wpAny_pure ?_)))))))
  refine wpAny_bind (HT.slicePart_ ps ?_)
  show wpAny _ _ (if ((-1 : Int) == 0) = true then _ else _) _ _ s
  rw [if_neg (by decide)]
  refine wpAny_bind (HT.slicePart_ pl (wpAny_bind (HT.slicePart_ pu (wpAny_bind (wpAny_pure ?_)))))
  show wpAny _ _ (pure ((n : Int) - 1, (-1 : Int), Builtin.Slice.slicePlaces ((n : Int) - 1) (-1) (-1))) _ _ s
  rw [revPlaces]
  exact wpAny_pure h
theorem fm_congr {α β : Type} {f g : α → Option β} : ∀ {l : List α}, (∀ x ∈ l, f x = g x) → l.filterMap f = l.filterMap g
  | [], _ => rfl
  | x :: l, h => by rw [List.filterMap_cons, List.filterMap_cons, h x (List.mem_cons_self ..), fm_congr fun y hy => h y (List.mem_cons_of_mem _ hy)]
theorem revPick (xs : Array Value) : ((List.range xs.size).filterMap fun (m : Nat) => xs[(((xs.size : Int) - 1) + (m : Int) * (-1)).toNat]?).toArray = xs.toList.reverse.toArray := by
  have e : (List.range xs.size).filterMap (fun (m : Nat) => xs[(((xs.size : Int) - 1) + (m : Int) * (-1)).toNat]?) = ((List.range xs.size).map fun k => xs.size - 1 - k).filterMap (xs[·]?) := by
    rw [List.filterMap_map]
    refine fm_congr fun m hm => ?_
    have := List.mem_range.mp hm
    show xs[(((xs.size : Int) - 1) + (m : Int) * (-1)).toNat]? = xs[xs.size - 1 - m]?
    congr 1
    omega
  rw [e, PySem.W.krv_range, List.filterMap_reverse, PySem.W.krv_all]
theorem getItem_tuple_rev {t sl : Addr} {items : Array Value} {vl vu vs : Value} {Q : Value → Shared → Prop} (ht : IsTup s.heap t items) (hs : s.heap.IsSliceOf sl vl vu vs) (pl : IsPart vl none) (pu : IsPart vu none) (ps : IsPart vs (some (-1)))
    (h : Q (.ref s.heap.objs.size) { s with heap := s.heap.push { cls := .type "tuple", data := .seq items.toList.reverse.toArray } }) (hsz : items.size ≤ sizeLine) : wpAny (model prog w) A (getItem (.ref t) (.ref sl)) Q E s := by
  have hfit : sizeOk (.seq items.toList.reverse.toArray) := by
    show items.toList.reverse.toArray.size ≤ sizeLine
    rw [List.size_toArray, List.length_reverse, Array.length_toList]
    exact hsz
  obtain ⟨os, hos, hcs, hds⟩ := id hs
  have hTs : s.TypeIs (.ref sl) "slice" := ⟨os, hos, hcs⟩
  unfold getItem
  try with_reducible refine wpAny_holding ?_
  first | refine wpAny_bind (wpAny_pure ?_) | skip
  refine wpAny_bind (wpAny_sequenceKey ht.typeIs (by decide) ?_)
  refine wpAny_bind (wpAny_callSpecial?_slot (name := Str.ofString "__getitem__") ht.typeIs PyProof.Rows.slot_tuple_getitem
    (wpAny_call_entry PyProof.Rows.slot_tuple_getitem ht.typeIs entry_tuple_getitem ?_ (args_tuple_getitem _ _)))
  show wpAny _ _ (Builtin.Tuple.tupleItemsOf (.ref t) >>= _) _ _ s
  refine wpAny_bind (tupleItemsOf_ ht ?_)
  refine wpAny_bind (wpAny_typeOf hTs ?_)
  rw [if_pos (by decide)]
  refine wpAny_bind (revApplied hs pl pu ps ?_)
  have hno : ¬ (((items.size : Int) - 1 == 0 && (-1 : Int) == 1 && items.size == items.size) = true) := by
    rw [show ((-1 : Int) == 1) = false by decide, Bool.and_false, Bool.false_and]
    exact Bool.false_ne_true
  show wpAny _ _ (if ((items.size : Int) - 1 == 0 && (-1 : Int) == 1 && items.size == items.size) = true then _ else _) _ _ s
  rw [if_neg hno, revPick]
  first
    | exact wpAny_bind (m := Builtin.Tuple.tupleExact _) (wpAny_newObj_type (wpAny_pure ⟨_, rfl, wpAny_pure h⟩) hfit)
    | exact wpAny_bind (m := Builtin.Tuple.tupleExact _) (wpAny_newObj_type (wpAny_bind (wpAny_pure (wpAny_pure ⟨_, rfl, wpAny_pure h⟩))) hfit)
    | exact wpAny_bind (wpAny_bind (m := Builtin.Tuple.tupleExact _) (wpAny_newObj_type (wpAny_pure (wpAny_pure ⟨_, rfl, wpAny_pure h⟩)) hfit))
    | exact wpAny_bind (wpAny_bind (m := Builtin.Tuple.tupleExact _) (wpAny_newObj_type (wpAny_pure ⟨_, rfl, wpAny_pure h⟩) hfit))
end
def revS (z : Str) : Str := ⟨z.cps.toList.reverse.toArray⟩
theorem revIdx (z : Str) : (Builtin.Str.strSliceIndices none none (-1) z.length).filterMap (z.cps[·]?) = z.cps.toList.reverse := by
  have e : Builtin.Str.strSliceIndices none none (-1) z.length = sliceRange ((z.length : Int) - 1) (-1) (-1) := rfl
  rw [e, PySem.W.krv_sliceRange, PySem.W.krv_range, List.filterMap_reverse]
  show ((List.range z.cps.size).filterMap (z.cps[·]?)).reverse = _
  rw [PySem.W.krv_all]
def tRevA (K : PySem.W.Frag) (te : TE) : TE := fun σ H Q => te σ H fun x H1 => (∃ z, x = .str z ∧ z.length ≤ sizeLine ∧ Q (.str (revS z)) H1) ∨ (∃ a xs, x = .ref a ∧ SqT K H1 a xs ∧ ∀ p, H1 p = none → Q (.ref p) (upd H1 p (.tup xs.reverse)))
  ∨ (∃ a xs, x = .ref a ∧ SqL K H1 a xs ∧ ∀ p, H1 p = none → Q (.ref p) (upd H1 p (.lst xs.reverse)))
section
variable {X : Cx}
theorem pe_revA {e : Expr} {te : TE} {k : Nat} {p1 p2 p3 pos : Pos} (he : PE X e te) : PE X (.Subscript e (.Slice none none (some (.UnaryOp .USub (.Constant (.int 1) k p1) p2)) p3) pos) (tRevA X.K te) := by
  refine ⟨fun pins s σ H Q I h => ?_⟩
  refine Subscript_ (thn (he.run pins s σ H _ I h) fun v s1 ⟨x, H1, I1, r1, q1⟩ => ?_)
  have hst : PO X (some (.UnaryOp .USub (.Constant (.int 1) k p1) p2)) (tPart (tUn (rU fun i => .int (-i)) (tC (.int 1)))) := po_some (pe_un un_neg pe_int)
  refine wpAny_Slice (thn (po_none.run pins s1 σ H1 (fun o H2 => o = none ∧ H2 = H1) I1 ⟨rfl, rfl⟩) fun vl s2 ⟨l, H2, I2, pl, el, e2⟩ => ?_)
  subst el e2
  refine thn (po_none.run pins s2 σ H2 (fun o H3 => o = none ∧ H3 = H2) I2 ⟨rfl, rfl⟩) fun vu s3 ⟨u, H3, I3, pu, eu, e3⟩ => ?_
  subst eu e3
  refine thn (hst.run pins s3 σ H3 (fun o H4 => o = some (-1) ∧ H4 = H3) I3 ⟨1, rfl, -1, rfl, rfl, rfl⟩) fun vs s4 ⟨o, H4, I4, ps, eo, e4⟩ => ?_
  subst eo e4
  have I5 : Inv X pins σ H4 { s4 with heap := s4.heap.push { cls := .type "slice", data := .fields #[vl, vu, vs] } } := I4.kept (t' := s4.toks) fun b ob q => Heap.get?_push_of_some _ q
  show wpAny (model X.prog X.w) X.A (subscriptTail e (.Slice none none (some (.UnaryOp .USub (.Constant (.int 1) k p1) p2)) p3) v (.ref s4.heap.objs.size)) (EP X pins σ Q) X.xe { s4 with heap := s4.heap.push { cls := .type "slice", data := .fields #[vl, vu, vs] } }
  rcases q1 with ⟨z, ex, hz, q⟩ | ⟨a, xs, ex, hx, q⟩ | ⟨a, xs, ex, hx, q⟩
  · subst ex
    obtain ⟨t, rfl⟩ := r1
    refine tail_any (ops := [.ref s4.heap.objs.size, .str z t]) (typeIs_str _ _ _) (F.slot_str_getitem.lookup) ?_ (by with_unfolding_all rfl)
    obtain ⟨os, hos, hcs, hds⟩ := Heap.IsSliceOf.new s4.heap vl vu vs
    obtain ⟨l, rfl, hl⟩ := IsPart.raw pl
    obtain ⟨u, rfl, hu⟩ := IsPart.raw pu
    obtain ⟨st, rfl, hst⟩ := IsPart.raw ps
    have h1 : (st.map (·.1)).getD 1 = -1 := by rw [hst]; rfl
    refine wpAny_getItem_str_slice (l := l) (u := u) (st := st) ⟨os, hos, hcs, hds⟩ (by rw [h1]; rfl) ?_
    unfold sliceMade slicePicked
    rw [h1, hl, hu, if_neg (by rw [show ((-1 : Int) == 1) = false by decide, Bool.false_and]; exact Bool.false_ne_true), revIdx]
    refine ⟨?_, .str _, H4, I5.tok _, ⟨_, rfl⟩, q⟩
    show z.cps.toList.reverse.toArray.size ≤ sizeLine
    rw [List.size_toArray, List.length_reverse]
    exact hz
  · subst ex
    cases r1
    obtain ⟨its, r, ht, hz⟩ := I5.tuple hx
    refine tail_any (ops := [.ref a, .ref s4.heap.objs.size]) ht.typeIs (PyProof.Rows.slot_tuple_getitem.lookup) ?_ (by with_unfolding_all rfl)
    have hlen := r.length
    refine getItem_tuple_rev ht (Heap.IsSliceOf.new _ vl vu vs) pl pu ps ?_ (by rw [List.size_toArray]; omega)
    refine ⟨.ref _, _, I5.laid (t' := s4.toks) (o := .tup xs.reverse) (fun b ob q => Heap.get?_push_of_some _ q) (Nat.le_refl _) ?_, rfl, q _ (I5.hok.fresh (Nat.le_refl _))⟩
    exact ⟨by rw [List.length_reverse]; exact hz, _, r.reverse, IsTup.new _ _⟩
  · subst ex
    cases r1
    obtain ⟨its, r, ht, hz⟩ := I5.list hx
    have hlen := r.length
    refine tail_any (ops := [.ref a, .ref s4.heap.objs.size]) ht.isList.typeIs (PySem.slot_list_getitem.lookup) ?_ (by with_unfolding_all rfl)
    refine wpAny_getItem_list_slice ht.isList (Heap.IsSliceOf.new _ vl vu vs) pl pu ps (by decide) ?_ (by rw [List.size_toArray]; omega)
    rw [PySem.W.krv_pick]
    refine ⟨.ref _, _, I5.laid (t' := s4.toks) (o := .lst xs.reverse) (fun b ob q => Heap.get?_push_of_some _ q) (Nat.le_refl _) ?_, rfl, q _ (I5.hok.fresh (Nat.le_refl _))⟩
    exact ⟨by rw [List.length_reverse]; exact hz, _, 0, r.reverse, Heap.get?_push_size _ rfl⟩
end
def kRev (Q : KD) (d : DV) (s1 : Sto) : Prop := match d with
  | .str z => z.length ≤ sizeLine ∧ Q (.str (revS z)) s1
  | .tup ds => Q (.tup ds.reverse) s1
  | .lst ds => Q (.lst ds.reverse) s1
  | _ => False
def dRev (te : TEd) (δ : Ed) (s : Sto) (Q : KD) : Prop := te δ s (kRev Q)
theorem DatL.rev {K : PySem.W.Frag} {s : Sto} {H : Hp} : ∀ {vs : List V} {ds : List DV}, DatL K s H vs ds → DatL K s H vs.reverse ds.reverse
  | _, _, .nil => .nil
  | _, _, .cons h t => by rw [List.reverse_cons, List.reverse_cons]; exact (DatL.rev t).append (.cons h .nil)
theorem drev {X : Cx} {A : Anc} {e : Expr} {te : TEd} {k : Nat} {p1 p2 p3 pos : Pos} (he : PD A X e te) : PD A X (.Subscript e (.Slice none none (some (.UnaryOp .USub (.Constant (.int 1) k p1) p2)) p3) pos) (dRev te) := peImp (pe_revA he) fun σ H Q h => by
  obtain ⟨δ, s, Q', S, t, k⟩ := h
  refine ⟨δ, s, _, S, t, fun v H1 d s1 st1 rep1 dv q => ?_⟩
  cases d with
  | str z => cases dv; exact .inl ⟨z, rfl, q.1, k _ _ _ s1 st1 rep1 (.str _) q.2⟩
  | tup ds =>
    obtain ⟨a, xs, rfl, h1, l⟩ := dv.tupInv
    exact .inr (.inl ⟨a, xs, rfl, h1, fun p hp => k _ _ _ s1 (st1.trans (Stp.newF hp)) (rep1.newF hp) (.tup (SqT.of upd_same) ((DatL.rev l).step (Stp.newF hp) rep1)) q⟩)
  | lst ds =>
    obtain ⟨a, xs, rfl, h1, n1, l⟩ := dv.lstInv
    exact .inr (.inr ⟨a, xs, rfl, SqL.of h1, fun p hp => k _ _ _ s1 (st1.trans (Stp.newF hp)) (rep1.newF hp) (.lst upd_same (rep1.fresh hp) ((DatL.rev l).step (Stp.newF hp) rep1)) q⟩)
  | _ => exact q.elim
end DL
namespace DL
open PySem PySem.Spec PyProof.Rows L2
/-! ### what the module's names are -/
section
variable {X : Cx} {A : Anc} {x : Str} {pos : Pos}
theorem dgint {i : Int} (h : ∃ t, X.mg x = some (.int i t)) (hg : Gl X x := by rfl) (hb : (x == ("__debug__" : Str)) = false := by decide) : PD A X (.Name x pos) (dC (.int i)) := by
  obtain ⟨t, h⟩ := h
  exact dglob (v := .int i) h ⟨t, rfl⟩ (fun _ _ _ => .int i) hg hb
theorem dgstr {z : Str} (h : ∃ t, X.mg x = some (.str z t)) (hg : Gl X x := by rfl) (hb : (x == ("__debug__" : Str)) = false := by decide) : PD A X (.Name x pos) (dC (.str z)) := by
  obtain ⟨t, h⟩ := h
  exact dglob (v := .str z) h ⟨t, rfl⟩ (fun _ _ _ => .str z) hg hb
/-- a global that is a written tuple -/
def GTup (K : PySem.W.Frag) (mg : Str → Option Value) (x : Str) (ds : List DV) : Prop := ∃ a, mg x = some (.ref a) ∧ ∀ s H, Dat K s H (.ref a) (.tup ds)
theorem dgtup {ds : List DV} (h : GTup X.K X.mg x ds) (hg : Gl X x := by rfl) (hb : (x == ("__debug__" : Str)) = false := by decide) : PD A X (.Name x pos) (dC (.tup ds)) := by
  obtain ⟨a, h, hd⟩ := h
  exact peImp (pe_glob (v := .ref a) hg h rfl hb) fun σ H Q q => by
    obtain ⟨δ, s, Q', S, t, k⟩ := q
    exact k _ H _ s (Stp.refl s H) S.rep (hd s H) t
end
/-! ### a place in a list -/
theorem atI_all {α : Type} {P : α → Prop} {ds : List α} {r : Int} (h : ∀ d ∈ ds, P d) (h0 : 0 ≤ r) (h1 : r < ds.length) : ∃ d, atI ds r = some d ∧ P d := by
  obtain ⟨x, e, g⟩ := atI_pos h0 h1
  exact ⟨x, e, h x (List.mem_of_getElem? g)⟩
theorem subS_one (c : Nat) (z : Str) : subS ⟨#[c]⟩ z = decide (c ∈ z.cps.toList) := StrLaws.found_one z c
theorem str_int_len {i : Int} (h : i.natAbs.log2 < 1920) : Str.length (toString i) ≤ sizeLine := int_text_fits h
end DL
namespace DL
open PySem PySem.Spec PyProof.Rows L2
def dDisp0 (δ : Ed) (s : Sto) (Q : KD) : Prop := ∀ p, s p = none → Q (.ref p) (up s p (.dK []))
theorem ddisp0 {A : Anc} {X : Cx} {pos : Pos} : PD A X (.Dict [] [] pos) dDisp0 := peImp pe_dnewK fun σ H Q h => by
  obtain ⟨δ, s, Q', S, t, k⟩ := h
  intro p hp
  have st : Stp s H (up s p (.dK [])) (upd H p (.dK [])) := Stp.new hp
  have rep : Rep X.K (up s p (.dK [])) (upd H p (.dK [])) := S.rep.put st ⟨[], upd_same, .nil⟩
  exact k _ _ _ _ st rep (.ref p) (t p (S.rep.fresh hp))
end DL
namespace DL
open PySem PySem.Spec PyProof.Rows L2
/-! ### a, b = x, y -/
def kPar2 (i j : Nat) (D : EndsD) (δ : Ed) (ds : List DV) (s1 : Sto) : Prop := match ds with
  | [a, b] => D.nx ((δ.set i (some a)).set j (some b)) s1
  | _ => False
def dPar2 (i j : Nat) (t : TAd) (D : EndsD) (δ : Ed) (s : Sto) : Prop := t δ s (kPar2 i j D δ)
def kPar3 (i j l : Nat) (D : EndsD) (δ : Ed) (ds : List DV) (s1 : Sto) : Prop := match ds with
  | [a, b, c] => D.nx (((δ.set i (some a)).set j (some b)).set l (some c)) s1
  | _ => False
def dPar3 (i j l : Nat) (t : TAd) (D : EndsD) (δ : Ed) (s : Sto) : Prop := t δ s (kPar3 i j l D δ)
section
variable {A : Anc} {X : Cx}
theorem dspar2 {i j : Nat} {x y : Str} {a b : Expr} {ta : TAd} {px py pt pos : Pos} {kt k2 pt2} (hc : X.calm = true) (hN : X.N.Nodup) (hi : X.N[i]? = some x) (hj : X.N[j]? = some y) (hij : i ≠ j)
    (hx : X.env.scope.names.lookup x = some .local) (hy : X.env.scope.names.lookup y = some .local) (ha : PAd A X [a, b] ta)
    (hw : swappedStores [.Tuple [.Name x px, .Name y py] kt pt] (.Tuple [a, b] k2 pt2) X.env = pure (some [x, y]))
    (hs : swapsWithSole [.Tuple [.Name x px, .Name y py] kt pt] (.Tuple [a, b] k2 pt2) pos.line X.env = pure false := by rfl) :
    PSd A X (.Assign [.Tuple [.Name x px, .Name y py] kt pt] (.Tuple [a, b] k2 pt2) pos) (dPar2 i j ta) := psImp (ps_par hc hN hi hj hij hx hy ha hw hs) fun D σ H h => by
  obtain ⟨δ, s, D', S, t, L⟩ := h
  refine ⟨δ, s, _, S, t, fun vs H2 ds s2 st rep dvs q => ?_⟩
  unfold kPar2 at q
  split at q
  · cases dvs with
    | cons h1 t => cases t with
      | cons h2 t => cases t; exact ⟨_, _, rfl, L.nx _ H2 _ s2 ⟨S.stp.trans st, rep, ((S.env.step st S.rep).set h1 i).set h2 j⟩ q⟩
  · exact q.elim
theorem dspar3 {i j l : Nat} {x y z : Str} {a b c : Expr} {ta : TAd} {px py pz pt pos : Pos} {kt k2 pt2} (hc : X.calm = true) (hN : X.N.Nodup) (hi : X.N[i]? = some x) (hj : X.N[j]? = some y) (hl : X.N[l]? = some z) (hij : i ≠ j) (hil : i ≠ l) (hjl : j ≠ l)
    (hx : X.env.scope.names.lookup x = some .local) (hy : X.env.scope.names.lookup y = some .local) (hz : X.env.scope.names.lookup z = some .local) (ha : PAd A X [a, b, c] ta)
    (hw : swappedStores [.Tuple [.Name x px, .Name y py, .Name z pz] kt pt] (.Tuple [a, b, c] k2 pt2) X.env = pure (some [x, y, z]))
    (hs : swapsWithSole [.Tuple [.Name x px, .Name y py, .Name z pz] kt pt] (.Tuple [a, b, c] k2 pt2) pos.line X.env = pure false := by rfl) :
    PSd A X (.Assign [.Tuple [.Name x px, .Name y py, .Name z pz] kt pt] (.Tuple [a, b, c] k2 pt2) pos) (dPar3 i j l ta) := psImp (ps_par3 hc hN hi hj hl hij hil hjl hx hy hz ha hw hs) fun D σ H h => by
  obtain ⟨δ, s, D', S, t, L⟩ := h
  refine ⟨δ, s, _, S, t, fun vs H2 ds s2 st rep dvs q => ?_⟩
  unfold kPar3 at q
  split at q
  · cases dvs with
    | cons h1 t => cases t with
      | cons h2 t => cases t with
        | cons h3 t => cases t; exact ⟨_, _, _, rfl, L.nx _ H2 _ s2 ⟨S.stp.trans st, rep, (((S.env.step st S.rep).set h1 i).set h2 j).set h3 l⟩ q⟩
  · exact q.elim
end
end DL

set_option Elab.async false
set_option linter.all false
set_option maxRecDepth 100000
set_option maxHeartbeats 4000000
/-! The same readings with what is looked at as an argument: the simplifier then never walks a branch that is not taken. -/
namespace DL
open PySem PySem.Spec PyProof.Rows L2
def kVar (s : Sto) (Q : KD) : Option DV → Prop
  | some d => Q d s
  | none => False
theorem dVar_k {i : Nat} {δ : Ed} {s : Sto} {Q : KD} : dVar i δ s Q = kVar s Q (δ.getD i none) := by
  unfold dVar kVar
  cases δ.getD i none <;> rfl
def kTruO (s : Sto) (Q : Bool → Sto → Prop) : Option Bool → Prop
  | some b => Q b s
  | none => False
theorem kTru_k {Q : Bool → Sto → Prop} {d : DV} {s : Sto} : kTru Q d s = kTruO s Q (truD s d) := by
  unfold kTru kTruO
  cases truD s d <;> rfl
def kEqS (s : Sto) (n : Bool) (Q : KD) : Option PyData → Option PyData → Prop
  | some d, some e => SeqAt.shaped d = true ∧ SeqAt.shaped e = true ∧ Q (.bl (if n then !PyData.eqv d e else PyData.eqv d e)) s
  | _, _ => False
def kEqO (s : Sto) (x y : DV) (n : Bool) (Q : KD) : Option Bool → Prop
  | some b => Q (.bl (if n then !b else b)) s
  | none => kEqS s n Q (pdS s x) (pdS s y)
theorem dEq_k {x y : DV} {s : Sto} {Q : KD} : dEq x y s Q = kEqO s x y false Q (scalEq x y) := by
  unfold dEq kEqO
  cases scalEq x y with
  | some b => rfl
  | none =>
    show eqData s x y _ = kEqS s false Q (pdS s x) (pdS s y)
    unfold eqData kEqS
    cases pdS s x <;> cases pdS s y <;> rfl
theorem dNe_k {x y : DV} {s : Sto} {Q : KD} : dNe x y s Q = kEqO s x y true Q (scalEq x y) := by
  unfold dNe kEqO
  cases scalEq x y with
  | some b => rfl
  | none =>
    show eqData s x y _ = kEqS s true Q (pdS s x) (pdS s y)
    unfold eqData kEqS
    cases pdS s x <;> cases pdS s y <;> rfl
def kLenO (s : Sto) (Q : KD) : Option Nat → Prop
  | some n => Q (.int n) s
  | none => False
theorem dLen_k {d : DV} {s : Sto} {Q : KD} : dLen [d] s Q = kLenO s Q (lenD s d) := by
  show (match lenD s d with | some n => Q (.int n) s | none => False) = _
  cases lenD s d <;> rfl
def kChr (s : Sto) (Q : KD) : Option Nat → Prop
  | some c => Q (.str ⟨#[c]⟩) s
  | none => False
theorem dIx_str {z : Str} {i : Int} {s : Sto} {Q : KD} : dIx (.str z) (.int i) s Q = (z.length ≤ sizeLine ∧ kChr s Q (atI z.cps.toList i)) := by
  show (z.length ≤ sizeLine ∧ match atI z.cps.toList i with | some c => Q (.str ⟨#[c]⟩) s | none => False) = _
  cases atI z.cps.toList i <;> rfl
theorem dIx_lst {ds : List DV} {i : Int} {s : Sto} {Q : KD} : dIx (.lst ds) (.int i) s Q = ixD (atI ds i) s Q := rfl
theorem dIx_tup {ds : List DV} {i : Int} {s : Sto} {Q : KD} : dIx (.tup ds) (.int i) s Q = ixD (atI ds i) s Q := rfl
theorem dIx_scr {ds : List DV} {i : Int} {s : Sto} {Q : KD} : dIx (.scr ds) (.int i) s Q = ixD (atI ds i) s Q := rfl
def kSeqF (s : Sto) (t : Bool) (Q : KD) : Option (List DV) → Prop
  | some es => Q (if t then .tup es else .lst es) s
  | none => False
theorem dListF_k {d : DV} {s : Sto} {Q : KD} : dListF [d] s Q = kSeqF s false Q (seqD s d) := by
  show (match seqD s d with | some es => Q (.lst es) s | none => False) = _
  cases seqD s d <;> rfl
theorem dTupF_k {d : DV} {s : Sto} {Q : KD} : dTupF [d] s Q = kSeqF s true Q (seqD s d) := by
  show (match seqD s d with | some es => Q (.tup es) s | none => False) = _
  cases seqD s d <;> rfl
theorem dIn_tup {n : Bool} {x : DV} {ds : List DV} {s : Sto} {Q : KD} : dIn n x (.tup ds) s Q = (flatD x = true ∧ ds.all flatD = true ∧ Q (.bl (if n then !inF x ds else inF x ds)) s) := rfl
theorem dIn_lst {n : Bool} {x : DV} {ds : List DV} {s : Sto} {Q : KD} : dIn n x (.lst ds) s Q = (flatD x = true ∧ ds.all flatD = true ∧ Q (.bl (if n then !inF x ds else inF x ds)) s) := rfl
theorem dIn_str {n : Bool} {a b : Str} {s : Sto} {Q : KD} : dIn n (.str a) (.str b) s Q = Q (.bl (if n then !subS a b else subS a b)) s := rfl
theorem dAdd_lst {a b : List DV} {s : Sto} {Q : KD} : dAdd (.lst a) (.lst b) s Q = (a.length + b.length ≤ sizeLine ∧ Q (.lst (a ++ b)) s) := rfl
theorem dAdd_int {a b : Int} {s : Sto} {Q : KD} : dAdd (.int a) (.int b) s Q = Q (.int (a + b)) s := rfl
theorem dAdd_str {a b : Str} {s : Sto} {Q : KD} : dAdd (.str a) (.str b) s Q = (a.length + b.length ≤ sizeLine ∧ Q (.str (a ++ b)) s) := rfl
theorem dAdd_tup {a b : List DV} {s : Sto} {Q : KD} : dAdd (.tup a) (.tup b) s Q = (a.length + b.length ≤ sizeLine ∧ Q (.tup (a ++ b)) s) := rfl
theorem dMul_int {a b : Int} {s : Sto} {Q : KD} : dMul (.int a) (.int b) s Q = ((CMul a b ∨ CMulW a b) ∧ Q (.int (a * b)) s) := rfl
theorem dSlR_str {z : Str} {lo hi : Option Int} {s : Sto} {Q : KD} : dSlR (.str z) lo hi s Q = (z.length ≤ sizeLine ∧ Q (.str (cutS z lo hi)) s) := rfl
theorem dSlR_tup {z : List DV} {lo hi : Option Int} {s : Sto} {Q : KD} : dSlR (.tup z) lo hi s Q = Q (.tup (cutD z lo hi)) s := rfl
theorem dSlR_lst {z : List DV} {lo hi : Option Int} {s : Sto} {Q : KD} : dSlR (.lst z) lo hi s Q = Q (.lst (cutD z lo hi)) s := rfl
end DL

set_option Elab.async false
set_option linter.all false
set_option maxRecDepth 100000
namespace DL
open PySem PySem.Spec PyProof.Rows L2
theorem dC_e {d : DV} {δ : Ed} {s : Sto} {Q : KD} : dC d δ s Q = (Q d s) := propext Iff.rfl
theorem kOp2_e {r : R2d} {Q : KD} {x y : DV} {s2 : Sto} : kOp2 r Q x y s2 = (r x y s2 Q) := propext Iff.rfl
theorem kOp1_e {r : R2d} {tb : TEd} {δ : Ed} {Q : KD} {x : DV} {s1 : Sto} : kOp1 r tb δ Q x s1 = (tb δ s1 (kOp2 r Q x)) := propext Iff.rfl
theorem dOp_e {r : R2d} {ta tb : TEd} {δ : Ed} {s : Sto} {Q : KD} : dOp r ta tb δ s Q = (ta δ s (kOp1 r tb δ Q)) := propext Iff.rfl
theorem dTest_e {t : TEd} {δ : Ed} {s : Sto} {Q : Bool → Sto → Prop} : dTest t δ s Q = (t δ s (kTest Q)) := propext Iff.rfl
theorem kChain2_e {r r' : R2d} {tc : TEd} {δ : Ed} {Q : KD} {x y : DV} {s2 : Sto} : kChain2 r r' tc δ Q x y s2 = (r x y s2 (kChain3 r' tc δ Q y)) := propext Iff.rfl
theorem kChain1_e {r r' : R2d} {tb tc : TEd} {δ : Ed} {Q : KD} {x : DV} {s1 : Sto} : kChain1 r r' tb tc δ Q x s1 = (tb δ s1 (kChain2 r r' tc δ Q x)) := propext Iff.rfl
theorem dChain_e {r r' : R2d} {ta tb tc : TEd} {δ : Ed} {s : Sto} {Q : KD} : dChain r r' ta tb tc δ s Q = (ta δ s (kChain1 r r' tb tc δ Q)) := propext Iff.rfl
theorem dAnd_e {t u : TTd} {δ : Ed} {s : Sto} {Q : Bool → Sto → Prop} : dAnd t u δ s Q = (t δ s (kAnd u δ Q)) := propext Iff.rfl
theorem dOr_e {t u : TTd} {δ : Ed} {s : Sto} {Q : Bool → Sto → Prop} : dOr t u δ s Q = (t δ s (kOr u δ Q)) := propext Iff.rfl
theorem kNot_e {Q : Bool → Sto → Prop} {b : Bool} {s1 : Sto} : kNot Q b s1 = (Q (!b) s1) := propext Iff.rfl
theorem dNot_e {t : TTd} {δ : Ed} {s : Sto} {Q : Bool → Sto → Prop} : dNot t δ s Q = (t δ s (kNot Q)) := propext Iff.rfl
theorem dIf_e {t : TTd} {ta tb : TEd} {δ : Ed} {s : Sto} {Q : KD} : dIf t ta tb δ s Q = (t δ s (kIf ta tb δ Q)) := propext Iff.rfl
theorem dTru_e {t : TEd} {δ : Ed} {s : Sto} {Q : Bool → Sto → Prop} : dTru t δ s Q = (t δ s (kTru Q)) := propext Iff.rfl
theorem dNil_e {δ : Ed} {s : Sto} {Q : List DV → Sto → Prop} : dNil δ s Q = (Q [] s) := propext Iff.rfl
theorem kCons2_e {Q : List DV → Sto → Prop} {x : DV} {xs : List DV} {s2 : Sto} : kCons2 Q x xs s2 = (Q (x :: xs) s2) := propext Iff.rfl
theorem kCons1_e {tr : TAd} {δ : Ed} {Q : List DV → Sto → Prop} {x : DV} {s1 : Sto} : kCons1 tr δ Q x s1 = (tr δ s1 (kCons2 Q x)) := propext Iff.rfl
theorem dCons_e {ta : TEd} {tr : TAd} {δ : Ed} {s : Sto} {Q : List DV → Sto → Prop} : dCons ta tr δ s Q = (ta δ s (kCons1 tr δ Q)) := propext Iff.rfl
theorem kTup_e {Q : KD} {ds : List DV} {s1 : Sto} : kTup Q ds s1 = (ds.length ≤ sizeLine ∧ Q (.tup ds) s1) := propext Iff.rfl
theorem dTup_e {t : TAd} {δ : Ed} {s : Sto} {Q : KD} : dTup t δ s Q = (t δ s (kTup Q)) := propext Iff.rfl
theorem kLst_e {Q : KD} {ds : List DV} {s1 : Sto} : kLst Q ds s1 = (ds.length ≤ sizeLine ∧ Q (.lst ds) s1) := propext Iff.rfl
theorem dLst_e {t : TAd} {δ : Ed} {s : Sto} {Q : KD} : dLst t δ s Q = (t δ s (kLst Q)) := propext Iff.rfl
theorem kLstM_e {Q : KD} {ds : List DV} {s1 : Sto} : kLstM Q ds s1 = (ds.length ≤ sizeLine ∧ ∀ p, s1 p = none → Q (.ref p) (up s1 p (.lst ds))) := propext Iff.rfl
theorem dLstM_e {t : TAd} {δ : Ed} {s : Sto} {Q : KD} : dLstM t δ s Q = (t δ s (kLstM Q)) := propext Iff.rfl
theorem kFrz_e {Q : KD} {d : DV} {s1 : Sto} : kFrz Q d s1 = (Q (frzD s1 d).1 (frzD s1 d).2) := propext Iff.rfl
theorem dFrz_e {t : TEd} {δ : Ed} {s : Sto} {Q : KD} : dFrz t δ s Q = (t δ s (kFrz Q)) := propext Iff.rfl
theorem dNext_e {D : EndsD} {δ : Ed} {s : Sto} : dNext D δ s = (D.nx δ s) := propext Iff.rfl
theorem dSeq_e {t u : TSd} {D : EndsD} {δ : Ed} {s : Sto} : dSeq t u D δ s = (t { D with nx := u D } δ s) := propext Iff.rfl
theorem dBreak_e {D : EndsD} {δ : Ed} {s : Sto} : dBreak D δ s = (D.bk δ s) := propext Iff.rfl
theorem dCont_e {D : EndsD} {δ : Ed} {s : Sto} : dCont D δ s = (D.ct δ s) := propext Iff.rfl
theorem dDrop_e {te : TEd} {D : EndsD} {δ : Ed} {s : Sto} : dDrop te D δ s = (te δ s (kDrop D δ)) := propext Iff.rfl
theorem dRet_e {te : TEd} {D : EndsD} {δ : Ed} {s : Sto} : dRet te D δ s = (te δ s D.rt) := propext Iff.rfl
theorem kRetS_e {D : EndsD} {d : DV} {s1 : Sto} : kRetS D d s1 = (∃ s2, Sub s2 s1 ∧ D.rt d s2) := propext Iff.rfl
theorem dRetS_e {te : TEd} {D : EndsD} {δ : Ed} {s : Sto} : dRetS te D δ s = (te δ s (kRetS D)) := propext Iff.rfl
theorem dRetN_e {D : EndsD} {δ : Ed} {s : Sto} : dRetN D δ s = (D.rt .non s) := propext Iff.rfl
theorem kIfS_e {t u : TSd} {D : EndsD} {δ : Ed} {b : Bool} {s1 : Sto} : kIfS t u D δ b s1 = (dGif b (t D δ) (u D δ) s1) := propext Iff.rfl
theorem gNameD_e {i : Nat} {d : DV} {δ : Ed} {s : Sto} {Q : Ed → Sto → Prop} : gNameD i d δ s Q = (Q (δ.set i (some d)) s) := propext Iff.rfl
theorem kAsg_e {g : TGd} {D : EndsD} {δ : Ed} {x : DV} {s1 : Sto} : kAsg g D δ x s1 = (g x δ s1 D.nx) := propext Iff.rfl
theorem dAsg_e {te : TEd} {g : TGd} {D : EndsD} {δ : Ed} {s : Sto} : dAsg te g D δ s = (te δ s (kAsg g D δ)) := propext Iff.rfl
theorem gNilD_e {ds : List DV} {δ : Ed} {s : Sto} {Q : Ed → Sto → Prop} : gNilD ds δ s Q = (ds = [] ∧ Q δ s) := propext Iff.rfl
theorem kGCons_e {u : TGsd} {Q : Ed → Sto → Prop} {r : List DV} {δ' : Ed} {s' : Sto} : kGCons u Q r δ' s' = (u r δ' s' Q) := propext Iff.rfl
theorem dPart_e {t : TEd} {δ : Ed} {s : Sto} {Q : Option Int → Sto → Prop} : dPart t δ s Q = (t δ s (kPart Q)) := propext Iff.rfl
theorem dNoPart_e {δ : Ed} {s : Sto} {Q : Option Int → Sto → Prop} : dNoPart δ s Q = (Q none s) := propext Iff.rfl
theorem kSl3_e {r : RSd} {Q : KD} {x : DV} {l u : Option Int} {s3 : Sto} : kSl3 r Q x l u s3 = (r x l u s3 Q) := propext Iff.rfl
theorem kSl2_e {r : RSd} {th : TOd} {δ : Ed} {Q : KD} {x : DV} {l : Option Int} {s2 : Sto} : kSl2 r th δ Q x l s2 = (th δ s2 (kSl3 r Q x l)) := propext Iff.rfl
theorem kSl1_e {r : RSd} {tl th : TOd} {δ : Ed} {Q : KD} {x : DV} {s1 : Sto} : kSl1 r tl th δ Q x s1 = (tl δ s1 (kSl2 r th δ Q x)) := propext Iff.rfl
theorem dSl_e {r : RSd} {te : TEd} {tl th : TOd} {δ : Ed} {s : Sto} {Q : KD} : dSl r te tl th δ s Q = (te δ s (kSl1 r tl th δ Q)) := propext Iff.rfl
theorem kSub2_e {d : DV} {δ : Ed} {Q : Ed → Sto → Prop} {o i : DV} {s2 : Sto} : kSub2 d δ Q o i s2 = (dSetR o i d s2 (Q δ)) := propext Iff.rfl
theorem kSub1_e {ti : TEd} {d : DV} {δ : Ed} {Q : Ed → Sto → Prop} {o : DV} {s1 : Sto} : kSub1 ti d δ Q o s1 = (ti δ s1 (kSub2 d δ Q o)) := propext Iff.rfl
theorem gSubD_e {to ti : TEd} {d : DV} {δ : Ed} {s : Sto} {Q : Ed → Sto → Prop} : gSubD to ti d δ s Q = (to δ s (kSub1 ti d δ Q)) := propext Iff.rfl
theorem kCB_e {r : RCd} {Q : KD} {ds : List DV} {s1 : Sto} : kCB r Q ds s1 = (r ds s1 Q) := propext Iff.rfl
theorem dCB_e {r : RCd} {t : TAd} {δ : Ed} {s : Sto} {Q : KD} : dCB r t δ s Q = (t δ s (kCB r Q)) := propext Iff.rfl
theorem kBM2_e {r : RMd} {Q : KD} {x : DV} {xs : List DV} {s2 : Sto} : kBM2 r Q x xs s2 = (r x xs s2 Q) := propext Iff.rfl
theorem kBM1_e {T : String} {r : RMd} {t : TAd} {δ : Ed} {Q : KD} {x : DV} {s1 : Sto} : kBM1 T r t δ Q x s1 = (tyD T s1 x = true ∧ t δ s1 (kBM2 r Q x)) := propext Iff.rfl
theorem dBM_e {T : String} {r : RMd} {to : TEd} {t : TAd} {δ : Ed} {s : Sto} {Q : KD} : dBM T r to t δ s Q = (to δ s (kBM1 T r t δ Q)) := propext Iff.rfl
theorem dIt_e {te : TEd} {δ : Ed} {s : Sto} {R : List DV → (Sto → Prop) → Sto → Prop} : dIt te δ s R = (te δ s (kIt R)) := propext Iff.rfl
theorem dRng1_e {ta : TAd} {δ : Ed} {s : Sto} {R : List DV → (Sto → Prop) → Sto → Prop} : dRng1 ta δ s R = (ta δ s (kRng1 R)) := propext Iff.rfl
theorem dRng2_e {ta : TAd} {δ : Ed} {s : Sto} {R : List DV → (Sto → Prop) → Sto → Prop} : dRng2 ta δ s R = (ta δ s (kRng2 R)) := propext Iff.rfl
theorem dFor_e {it : TId} {g : TGd} {tb : TSd} {D : EndsD} {δ : Ed} {s : Sto} : dFor it g tb D δ s = (it δ s (dForW g tb D δ)) := propext Iff.rfl
theorem kWhile_e {tb : TSd} {D : EndsD} {W : Nat → Ed → Sto → Prop} {m : Nat} {δ : Ed} {b : Bool} {s1 : Sto} : kWhile tb D W m δ b s1 = (dGif b (tb { D with nx := lessW W m, ct := lessW W m, bk := D.nx } δ) (D.nx δ) s1) := propext Iff.rfl
theorem kLc3_e {W : Nat → List DV → Sto → Prop} {i : Nat} {acc : List DV} {y : DV} {s3 : Sto} : kLc3 W i acc y s3 = (acc.length < sizeLine ∧ W (i + 1) (acc ++ [y]) s3) := propext Iff.rfl
theorem kLc2_e {te : TEd} {W : Nat → List DV → Sto → Prop} {i : Nat} {acc : List DV} {δ' : Ed} {b : Bool} {s2 : Sto} : kLc2 te W i acc δ' b s2 = (dGif b (kLc2' te W i acc δ') (W (i + 1) acc) s2) := propext Iff.rfl
theorem kLc1_e {tt : TTd} {te : TEd} {W : Nat → List DV → Sto → Prop} {i : Nat} {acc : List DV} {δ' : Ed} {s' : Sto} : kLc1 tt te W i acc δ' s' = (tt δ' s' (kLc2 te W i acc δ')) := propext Iff.rfl
theorem finF_e {Q : KD} {D : Addr} {acc : List DV} {s : Sto} : finF Q D acc s = (Q (.lst acc) (er s D)) := propext Iff.rfl
theorem finM_e {Q : KD} {D : Addr} {acc : List DV} {s : Sto} : finM Q D acc s = (Q (.ref D) (up s D (.lst acc))) := propext Iff.rfl
theorem dLc_e {it : TId} {g : TGd} {tt : TTd} {te : TEd} {vs : List Nat} {δ : Ed} {s : Sto} {Q : KD} : dLc it g tt te vs δ s Q = (it δ s (dLcW g tt te vs δ (finF Q))) := propext Iff.rfl
theorem dLcM_e {it : TId} {g : TGd} {tt : TTd} {te : TEd} {vs : List Nat} {δ : Ed} {s : Sto} {Q : KD} : dLcM it g tt te vs δ s Q = (it δ s (dLcW g tt te vs δ (finM Q))) := propext Iff.rfl
theorem kCall_e {sp : Spd} {dvs : List DV} {Q : KD} {ds : List DV} {s1 : Sto} : kCall sp dvs Q ds s1 = (cSp sp (ds ++ dvs) s1 Q noX) := propext Iff.rfl
theorem dCall_e {sp : Spd} {dvs : List DV} {t : TAd} {δ : Ed} {s : Sto} {Q : KD} : dCall sp dvs t δ s Q = (t δ s (kCall sp dvs Q)) := propext Iff.rfl
theorem kCallK2_e {sp : Spd} {n m : Nat} {g : List DV → List DV → List DV} {Q : KD} {ds es : List DV} {s2 : Sto} : kCallK2 sp n m g Q ds es s2 = ((ds.length = n ∧ es.length = m) ∧ cSp sp (g ds es) s2 Q noX) := propext Iff.rfl
theorem kCallK_e {sp : Spd} {n m : Nat} {g : List DV → List DV → List DV} {tk : TAd} {δ : Ed} {Q : KD} {ds : List DV} {s1 : Sto} : kCallK sp n m g tk δ Q ds s1 = (tk δ s1 (kCallK2 sp n m g Q ds)) := propext Iff.rfl
theorem dCallK_e {sp : Spd} {n m : Nat} {g : List DV → List DV → List DV} {t tk : TAd} {δ : Ed} {s : Sto} {Q : KD} : dCallK sp n m g t tk δ s Q = (t δ s (kCallK sp n m g tk δ Q)) := propext Iff.rfl
theorem kMeth2_e {sp : Spd} {dvs : List DV} {Q : KD} {a : Addr} {ds : List DV} {s2 : Sto} : kMeth2 sp dvs Q a ds s2 = (cSp sp (.ref a :: (ds ++ dvs)) s2 Q noX) := propext Iff.rfl
theorem dMeth_e {C : Addr} {m : Str} {sp : Spd} {dvs : List DV} {to : TEd} {t : TAd} {δ : Ed} {s : Sto} {Q : KD} : dMeth C m sp dvs to t δ s Q = (to δ s (kMeth C m sp dvs t δ Q)) := propext Iff.rfl
theorem kMade_e {Q : KD} {x : Addr} {d : DV} {s2 : Sto} : kMade Q x d s2 = (d = .non ∧ Q (.ref x) s2) := propext Iff.rfl
theorem kMake_e {C : Addr} {sp : Spd} {dvs : List DV} {Q : KD} {ds : List DV} {s1 : Sto} : kMake C sp dvs Q ds s1 = (∀ x, s1 x = none → cSp sp (.ref x :: (ds ++ dvs)) (up s1 x (.ins C [])) (kMade Q x) noX) := propext Iff.rfl
theorem dMake_e {C : Addr} {sp : Spd} {dvs : List DV} {t : TAd} {δ : Ed} {s : Sto} {Q : KD} : dMake C sp dvs t δ s Q = (t δ s (kMake C sp dvs Q)) := propext Iff.rfl
theorem kMakeK2_e {C : Addr} {sp : Spd} {n m : Nat} {g : List DV → List DV → List DV} {Q : KD} {ds es : List DV} {s2 : Sto} : kMakeK2 C sp n m g Q ds es s2 = ((ds.length = n ∧ es.length = m) ∧ ∀ x, s2 x = none → cSp sp (g (.ref x :: ds) es) (up s2 x (.ins C [])) (kMade Q x) noX) := propext Iff.rfl
theorem kMakeK_e {C : Addr} {sp : Spd} {n m : Nat} {g : List DV → List DV → List DV} {tk : TAd} {δ : Ed} {Q : KD} {ds : List DV} {s1 : Sto} : kMakeK C sp n m g tk δ Q ds s1 = (tk δ s1 (kMakeK2 C sp n m g Q ds)) := propext Iff.rfl
theorem dMakeK_e {C : Addr} {sp : Spd} {n m : Nat} {g : List DV → List DV → List DV} {t tk : TAd} {δ : Ed} {s : Sto} {Q : KD} : dMakeK C sp n m g t tk δ s Q = (t δ s (kMakeK C sp n m g tk δ Q)) := propext Iff.rfl
theorem dFld_e {C : Addr} {f : Str} {t : TEd} {δ : Ed} {s : Sto} {Q : KD} : dFld C f t δ s Q = (t δ s (kFld C f Q)) := propext Iff.rfl
theorem kSetFld_e {C : Addr} {f : Str} {to : TEd} {D : EndsD} {δ : Ed} {v : DV} {s1 : Sto} : kSetFld C f to D δ v s1 = (to δ s1 (kSetFld2 C f D δ v)) := propext Iff.rfl
theorem dSetFld_e {C : Addr} {f : Str} {to tv : TEd} {D : EndsD} {δ : Ed} {s : Sto} : dSetFld C f to tv D δ s = (tv δ s (kSetFld C f to D δ)) := propext Iff.rfl
theorem dAugFld_e {C : Addr} {f : Str} {g : Int → Int} {to : TEd} {D : EndsD} {δ : Ed} {s : Sto} : dAugFld C f g to D δ s = (to δ s (kAugFld C f g D δ)) := propext Iff.rfl
theorem kAugN2_e {i : Nat} {D : EndsD} {δ : Ed} {z : DV} {s2 : Sto} : kAugN2 i D δ z s2 = (D.nx (δ.set i (some z)) s2) := propext Iff.rfl
theorem kAugN1_e {i : Nat} {r : R2d} {x : DV} {D : EndsD} {δ : Ed} {y : DV} {s1 : Sto} : kAugN1 i r x D δ y s1 = (r x y s1 (kAugN2 i D δ)) := propext Iff.rfl
theorem kPair3_e {Q : List (DV × DV) → Sto → Prop} {x y : DV} {ps : List (DV × DV)} {s3 : Sto} : kPair3 Q x y ps s3 = (Q ((x, y) :: ps) s3) := propext Iff.rfl
theorem dDisp_e {trs : List (TEd × TEd)} {δ : Ed} {s : Sto} {Q : KD} : dDisp trs δ s Q = (∀ p, s p = none → dPairs trs δ (up s p .hid) (kDisp p Q)) := propext Iff.rfl
theorem dAndE_e {ta tb : TEd} {δ : Ed} {s : Sto} {Q : KD} : dAndE ta tb δ s Q = (ta δ s (kAndE tb δ Q)) := propext Iff.rfl
theorem dOrE_e {ta tb : TEd} {δ : Ed} {s : Sto} {Q : KD} : dOrE ta tb δ s Q = (ta δ s (kOrE tb δ Q)) := propext Iff.rfl
theorem dNotE_e {ta : TEd} {δ : Ed} {s : Sto} {Q : KD} : dNotE ta δ s Q = (ta δ s (kNotE Q)) := propext Iff.rfl
theorem dNeg_e {te : TEd} {δ : Ed} {s : Sto} {Q : KD} : dNeg te δ s Q = (te δ s (kNeg Q)) := propext Iff.rfl
end DL

set_option Elab.async false
set_option linter.all false
set_option maxRecDepth 100000
namespace DL
open PySem PySem.Spec PyProof.Rows L2
theorem nrfl {α : Sort _} {a b : α} (h : a = b) : a = b := by
  cases h
  exact Eq.refl _
theorem kTest_q1 : ∀ (Q : Bool → DL.Sto → Prop) (s1 : DL.Sto) (b : Bool), DL.kTest Q (DL.DV.bl b) s1 = Q b s1 := by intros; exact propext Iff.rfl
theorem kChain3_q1 : ∀ (r' : DL.R2d) (tc : DL.TEd) (δ : DL.Ed) (Q : DL.KD) (y : DL.DV) (s3 : DL.Sto),
    DL.kChain3 r' tc δ Q y (DL.DV.bl Bool.true) s3 = tc δ s3 (DL.kOp2 r' Q y) := by intros; exact propext Iff.rfl
theorem kChain3_q2 : ∀ (r' : DL.R2d) (tc : DL.TEd) (δ : DL.Ed) (Q : DL.KD) (y : DL.DV) (s3 : DL.Sto),
    DL.kChain3 r' tc δ Q y (DL.DV.bl Bool.false) s3 = Q (DL.DV.bl Bool.false) s3 := by intros; exact propext Iff.rfl
theorem kAnd_q1 : ∀ (u : DL.TTd) (δ : DL.Ed) (Q : Bool → DL.Sto → Prop) (s1 : DL.Sto),
    DL.kAnd u δ Q Bool.true s1 = u δ s1 Q := by intros; exact propext Iff.rfl
theorem kAnd_q2 : ∀ (u : DL.TTd) (δ : DL.Ed) (Q : Bool → DL.Sto → Prop) (s1 : DL.Sto),
    DL.kAnd u δ Q Bool.false s1 = Q Bool.false s1 := by intros; exact propext Iff.rfl
theorem kOr_q1 : ∀ (u : DL.TTd) (δ : DL.Ed) (Q : Bool → DL.Sto → Prop) (s1 : DL.Sto),
    DL.kOr u δ Q Bool.true s1 = Q Bool.true s1 := by intros; exact propext Iff.rfl
theorem kOr_q2 : ∀ (u : DL.TTd) (δ : DL.Ed) (Q : Bool → DL.Sto → Prop) (s1 : DL.Sto), DL.kOr u δ Q Bool.false s1 = u δ s1 Q := by intros; exact propext Iff.rfl
theorem kIf_q1 : ∀ (ta tb : DL.TEd) (δ : DL.Ed) (Q : DL.KD) (s1 : DL.Sto), DL.kIf ta tb δ Q Bool.true s1 = ta δ s1 Q := by intros; exact propext Iff.rfl
theorem kIf_q2 : ∀ (ta tb : DL.TEd) (δ : DL.Ed) (Q : DL.KD) (s1 : DL.Sto), DL.kIf ta tb δ Q Bool.false s1 = tb δ s1 Q := by intros; exact propext Iff.rfl
theorem kTruO_q1 : ∀ (s : DL.Sto) (Q : Bool → DL.Sto → Prop) (b : Bool), DL.kTruO s Q (Option.some b) = Q b s := by intros; exact propext Iff.rfl
theorem kTruO_q2 : ∀ (s : DL.Sto) (Q : Bool → DL.Sto → Prop), DL.kTruO s Q Option.none = False := by intros; exact propext Iff.rfl
theorem kDrop_q1 : ∀ (D : DL.EndsD) (δ : DL.Ed) (x : DL.DV) (s1 : DL.Sto), DL.kDrop D δ x s1 = D.nx δ s1 := by intros; exact propext Iff.rfl
theorem kPart_q1 : ∀ (Q : Option Int → DL.Sto → Prop) (s1 : DL.Sto) (i : Int),
    DL.kPart Q (DL.DV.int i) s1 = Q (Option.some i) s1 := by intros; exact propext Iff.rfl
theorem kRng1_q1 : ∀ (R : List DL.DV → (DL.Sto → Prop) → DL.Sto → Prop) (s1 : DL.Sto) (j : Int),
    DL.kRng1 R [DL.DV.int j] s1 = ((-2 ^ 62 ≤ j ∧ j < 2 ^ 62) ∧ R (DL.rngD 0 j.toNat) DL.gTrue s1) := by intros; exact propext Iff.rfl
theorem kRng2_q1 : ∀ (R : List DL.DV → (DL.Sto → Prop) → DL.Sto → Prop) (s1 : DL.Sto) (i j : Int),
    DL.kRng2 R [DL.DV.int i, DL.DV.int j] s1 =
      ((-2 ^ 62 ≤ i ∧ i < 2 ^ 62 ∧ -2 ^ 62 ≤ j ∧ j < 2 ^ 62) ∧ R (DL.rngD i (j - i).toNat) DL.gTrue s1) := by intros; exact propext Iff.rfl
theorem kAndE_q1 : ∀ (tb : DL.TEd) (δ : DL.Ed) (Q : DL.KD) (s1 : DL.Sto),
    DL.kAndE tb δ Q (DL.DV.bl Bool.true) s1 = tb δ s1 Q := by intros; exact propext Iff.rfl
theorem kAndE_q2 : ∀ (tb : DL.TEd) (δ : DL.Ed) (Q : DL.KD) (s1 : DL.Sto),
    DL.kAndE tb δ Q (DL.DV.bl Bool.false) s1 = Q (DL.DV.bl Bool.false) s1 := by intros; exact propext Iff.rfl
theorem kOrE_q1 : ∀ (tb : DL.TEd) (δ : DL.Ed) (Q : DL.KD) (s1 : DL.Sto),
    DL.kOrE tb δ Q (DL.DV.bl Bool.false) s1 = tb δ s1 Q := by intros; exact propext Iff.rfl
theorem kOrE_q2 : ∀ (tb : DL.TEd) (δ : DL.Ed) (Q : DL.KD) (s1 : DL.Sto),
    DL.kOrE tb δ Q (DL.DV.bl Bool.true) s1 = Q (DL.DV.bl Bool.true) s1 := by intros; exact propext Iff.rfl
theorem kNotE_q1 : ∀ (Q : DL.KD) (s1 : DL.Sto) (b : Bool), DL.kNotE Q (DL.DV.bl b) s1 = Q (DL.DV.bl !b) s1 := by intros; exact propext Iff.rfl
theorem kNeg_q1 : ∀ (Q : DL.KD) (s1 : DL.Sto) (i : Int), DL.kNeg Q (DL.DV.int i) s1 = Q (DL.DV.int (-i)) s1 := by intros; exact propext Iff.rfl
theorem kPair1_q1 : ∀ (tv : DL.TEd) (rest : DL.Ed → DL.Sto → (List (DL.DV × DL.DV) → DL.Sto → Prop) → Prop) (δ : DL.Ed)
    (Q : List (DL.DV × DL.DV) → DL.Sto → Prop) (x : DL.DV) (s1 : DL.Sto),
    DL.kPair1 tv rest δ Q x s1 = tv δ s1 (DL.kPair2 rest δ Q x) := by intros; exact propext Iff.rfl
theorem kPair2_q1 : ∀ (rest : DL.Ed → DL.Sto → (List (DL.DV × DL.DV) → DL.Sto → Prop) → Prop) (δ : DL.Ed)
    (Q : List (DL.DV × DL.DV) → DL.Sto → Prop) (x y : DL.DV) (s2 : DL.Sto),
    DL.kPair2 rest δ Q x y s2 = rest δ s2 (DL.kPair3 Q x y) := by intros; exact propext Iff.rfl
theorem kVar_q1 : ∀ (s : DL.Sto) (Q : DL.KD) (d : DL.DV), DL.kVar s Q (Option.some d) = Q d s := by intros; exact propext Iff.rfl
theorem kVar_q2 : ∀ (s : DL.Sto) (Q : DL.KD), DL.kVar s Q Option.none = False := by intros; exact propext Iff.rfl
theorem gConsD_q1 : ∀ (t : DL.TGd) (u : DL.TGsd) (δ : DL.Ed) (s : DL.Sto) (Q : DL.Ed → DL.Sto → Prop) (d : DL.DV)
    (r : List DL.DV), DL.gConsD t u (d :: r) δ s Q = t d δ s (DL.kGCons u Q r) := by intros; exact propext Iff.rfl
theorem gConsD_q2 : ∀ (t : DL.TGd) (u : DL.TGsd) (δ : DL.Ed) (s : DL.Sto) (Q : DL.Ed → DL.Sto → Prop),
    DL.gConsD t u [] δ s Q = False := by intros; exact propext Iff.rfl
theorem gTupD_q1 : ∀ (n : Nat) (t : DL.TGsd) (δ : DL.Ed) (s : DL.Sto) (Q : DL.Ed → DL.Sto → Prop) (ds : List DL.DV),
    DL.gTupD n t (DL.DV.tup ds) δ s Q = (ds.length = n ∧ t ds δ s Q) := by intros; exact propext Iff.rfl
theorem truD_q1 : ∀ (s : DL.Sto), DL.truD s DL.DV.non = Option.some Bool.false := by intros; exact nrfl rfl
theorem truD_q2 : ∀ (s : DL.Sto) (b : Bool), DL.truD s (DL.DV.bl b) = Option.some b := by intros; exact nrfl rfl
theorem truD_q3 : ∀ (s : DL.Sto) (i : Int), DL.truD s (DL.DV.int i) = Option.some (i != 0) := by intros; exact nrfl rfl
theorem truD_q5 : ∀ (s : DL.Sto) (ds : List DL.DV), DL.truD s (DL.DV.tup ds) = Option.some !ds.isEmpty := by intros; exact nrfl rfl
theorem truD_q6 : ∀ (s : DL.Sto) (ds : List DL.DV), DL.truD s (DL.DV.lst ds) = Option.some !ds.isEmpty := by intros; exact nrfl rfl
theorem truD_q7 : ∀ (s : DL.Sto) (ds : List DL.DV), DL.truD s (DL.DV.scr ds) = Option.some !ds.isEmpty := by intros; exact nrfl rfl
theorem kChr_q1 : ∀ (s : DL.Sto) (Q : DL.KD) (n : Nat), DL.kChr s Q (Option.some n) = Q (DL.DV.str { cps := #[n] }) s := by intros; exact propext Iff.rfl
theorem kChr_q2 : ∀ (s : DL.Sto) (Q : DL.KD), DL.kChr s Q Option.none = False := by intros; exact propext Iff.rfl
theorem ixD_q1 : ∀ (s : DL.Sto) (Q : DL.KD) (d : DL.DV), DL.ixD (Option.some d) s Q = Q d s := by intros; exact propext Iff.rfl
theorem ixD_q2 : ∀ (s : DL.Sto) (Q : DL.KD), DL.ixD Option.none s Q = False := by intros; exact propext Iff.rfl
theorem dSlR_q1 : ∀ (lo hi : Option Int) (s : DL.Sto) (Q : DL.KD) (z : PySem.Str),
    DL.dSlR (DL.DV.str z) lo hi s Q = (z.length ≤ PySem.sizeLine ∧ Q (DL.DV.str (L2.cutS z lo hi)) s) := by intros; exact propext Iff.rfl
theorem dSlR_q2 : ∀ (lo hi : Option Int) (s : DL.Sto) (Q : DL.KD) (ds : List DL.DV),
    DL.dSlR (DL.DV.tup ds) lo hi s Q = Q (DL.DV.tup (DL.cutD ds lo hi)) s := by intros; exact propext Iff.rfl
theorem dI_q1 : ∀ (C : Int → Int → Prop) (g : Int → Int → DL.DV) (s : DL.Sto) (Q : DL.KD) (i j : Int),
    DL.dI C g (DL.DV.int i) (DL.DV.int j) s Q = (C i j ∧ Q (g i j) s) := by intros; exact propext Iff.rfl
theorem dI0_q1 : ∀ (g : Int → Int → DL.DV) (s : DL.Sto) (Q : DL.KD) (i j : Int),
    DL.dI0 g (DL.DV.int i) (DL.DV.int j) s Q = Q (g i j) s := by intros; exact propext Iff.rfl
theorem dAdd_q1 : ∀ (s : DL.Sto) (Q : DL.KD) (i j : Int), DL.dAdd (DL.DV.int i) (DL.DV.int j) s Q = Q (DL.DV.int (i + j)) s := by intros; exact propext Iff.rfl
theorem dAdd_q2 : ∀ (s : DL.Sto) (Q : DL.KD) (a b : PySem.Str),
    DL.dAdd (DL.DV.str a) (DL.DV.str b) s Q = (a.length + b.length ≤ PySem.sizeLine ∧ Q (DL.DV.str (a ++ b)) s) := by intros; exact propext Iff.rfl
theorem dAdd_q3 : ∀ (s : DL.Sto) (Q : DL.KD) (a b : List DL.DV),
    DL.dAdd (DL.DV.tup a) (DL.DV.tup b) s Q = (a.length + b.length ≤ PySem.sizeLine ∧ Q (DL.DV.tup (a ++ b)) s) := by intros; exact propext Iff.rfl
theorem dMul_q1 : ∀ (s : DL.Sto) (Q : DL.KD) (i j : Int),
    DL.dMul (DL.DV.int i) (DL.DV.int j) s Q = ((L2.CMul i j ∨ L2.CMulW i j) ∧ Q (DL.DV.int (i * j)) s) := by intros; exact propext Iff.rfl
theorem dMul_q2 : ∀ (s : DL.Sto) (Q : DL.KD) (ds : List DL.DV) (k : Int),
    DL.dMul (DL.DV.tup ds) (DL.DV.int k) s Q =
      ((ds ≠ [] ∧ 2 ≤ k ∧ k ≤ 1000 ∧ ds.length ≤ 1000) ∧ Q (DL.DV.tup (List.replicate k.toNat ds).flatten) s) := by intros; exact propext Iff.rfl
theorem dLtB_q1 : ∀ (fI : Int → Int → Bool) (fS : PySem.Str → PySem.Str → Bool) (s : DL.Sto) (Q : DL.KD) (i j : Int),
    DL.dLtB fI fS (DL.DV.int i) (DL.DV.int j) s Q = Q (DL.DV.bl (fI i j)) s := by intros; exact propext Iff.rfl
theorem dLtB_q2 : ∀ (fI : Int → Int → Bool) (fS : PySem.Str → PySem.Str → Bool) (s : DL.Sto) (Q : DL.KD) (a b : PySem.Str),
    DL.dLtB fI fS (DL.DV.str a) (DL.DV.str b) s Q = Q (DL.DV.bl (fS a b)) s := by intros; exact propext Iff.rfl
theorem kEqO_q1 : ∀ (s : DL.Sto) (x y : DL.DV) (n : Bool) (Q : DL.KD) (b : Bool),
    DL.kEqO s x y n Q (Option.some b) = Q (DL.DV.bl (if n = Bool.true then !b else b)) s := by intros; exact propext Iff.rfl
theorem kEqO_q2 : ∀ (s : DL.Sto) (x y : DL.DV) (n : Bool) (Q : DL.KD),
    DL.kEqO s x y n Q Option.none = DL.kEqS s n Q (DL.pdS s x) (DL.pdS s y) := by intros; exact propext Iff.rfl
theorem kEqS_q1 : ∀ (s : DL.Sto) (n : Bool) (Q : DL.KD) (d e : PySem.PyData),
    DL.kEqS s n Q (Option.some d) (Option.some e) =
      (PySem.SeqAt.shaped d = Bool.true ∧
        PySem.SeqAt.shaped e = Bool.true ∧ Q (DL.DV.bl (if n = Bool.true then !d.eqv e else d.eqv e)) s) := by intros; exact propext Iff.rfl
theorem dIs_q1 : ∀ (neg : Bool) (x : DL.DV) (s : DL.Sto) (Q : DL.KD),
    DL.dIs neg x DL.DV.non s Q = Q (DL.DV.bl (if neg = Bool.true then !DL.isNonD x else DL.isNonD x)) s := by intros; exact propext Iff.rfl
theorem dIs_q2 : ∀ (neg : Bool) (s : DL.Sto) (Q : DL.KD) (b a : Bool),
    DL.dIs neg (DL.DV.bl a) (DL.DV.bl b) s Q =
      Q (DL.DV.bl (if neg = Bool.true then !Decidable.decide (a = b) else Decidable.decide (a = b))) s := by intros; exact propext Iff.rfl
theorem isNonD_q1 : DL.isNonD DL.DV.non = Bool.true := by intros; exact nrfl rfl
theorem dIn_q1 : ∀ (neg : Bool) (s : DL.Sto) (Q : DL.KD) (a a_1 : PySem.Str),
    DL.dIn neg (DL.DV.str a_1) (DL.DV.str a) s Q =
      Q (DL.DV.bl (if neg = Bool.true then !DL.subS a_1 a else DL.subS a_1 a)) s := by intros; exact propext Iff.rfl
theorem scalEq_q1 : ∀ (i j : Int), DL.scalEq (DL.DV.int i) (DL.DV.int j) = Option.some (Decidable.decide (i = j)) := by intros; exact nrfl rfl
theorem scalEq_q2 : ∀ (i j : PySem.Str), DL.scalEq (DL.DV.str i) (DL.DV.str j) = Option.some (Decidable.decide (i = j)) := by intros; exact nrfl rfl
theorem scalEq_q3 : ∀ (i j : Bool), DL.scalEq (DL.DV.bl i) (DL.DV.bl j) = Option.some (Decidable.decide (i = j)) := by intros; exact nrfl rfl
theorem scalEq_q4 : DL.scalEq DL.DV.non DL.DV.non = Option.some Bool.true := by intros; exact nrfl rfl
theorem scalEq_q5 : ∀ (i : Int), DL.scalEq DL.DV.non (DL.DV.int i) = Option.some Bool.false := by intros; exact nrfl rfl
theorem scalEq_q6 : ∀ (i : Int), DL.scalEq (DL.DV.int i) DL.DV.non = Option.some Bool.false := by intros; exact nrfl rfl
theorem scalEq_q7 : ∀ (x_2 : PySem.Str), DL.scalEq DL.DV.non (DL.DV.str x_2) = Option.some Bool.false := by intros; exact nrfl rfl
theorem scalEq_q8 : ∀ (x_2 : PySem.Str), DL.scalEq (DL.DV.str x_2) DL.DV.non = Option.some Bool.false := by intros; exact nrfl rfl
theorem pd_q1 : DL.pd DL.DV.non = Option.some PySem.PyData.none := by intros; exact nrfl rfl
theorem pd_q2 : ∀ (b : Bool), DL.pd (DL.DV.bl b) = Option.some (PySem.PyData.bool b) := by intros; exact nrfl rfl
theorem pd_q3 : ∀ (i : Int), DL.pd (DL.DV.int i) = Option.some (PySem.PyData.int i) := by intros; exact nrfl rfl
theorem pd_q4 : ∀ (x_1 : PySem.Str), DL.pd (DL.DV.str x_1) = Option.some (PySem.PyData.str x_1) := by intros; exact nrfl rfl
theorem pd_q5 : ∀ (ds : List DL.DV), DL.pd (DL.DV.tup ds) = Option.map PySem.PyData.tuple (DL.pdL ds) := by intros; exact nrfl rfl
theorem pd_q6 : ∀ (ds : List DL.DV), DL.pd (DL.DV.lst ds) = Option.map PySem.PyData.list (DL.pdL ds) := by intros; exact nrfl rfl
theorem pd_q7 : ∀ (ds : List DL.DV), DL.pd (DL.DV.scr ds) = Option.map PySem.PyData.list (DL.pdL ds) := by intros; exact nrfl rfl
theorem pd_q8 : ∀ (a : PySem.Addr), DL.pd (DL.DV.ref a) = Option.none := by intros; exact nrfl rfl
theorem pdL_q1 : DL.pdL [] = Option.some [] := by intros; exact nrfl rfl
theorem keyD_q1 : ∀ (i : Int), DL.keyD (DL.DV.int i) = Option.some (Sum.inl i) := by intros; exact nrfl rfl
theorem keyD_q2 : ∀ (x_1 : PySem.Str), DL.keyD (DL.DV.str x_1) = Option.some (Sum.inr x_1) := by intros; exact nrfl rfl
theorem kLenO_q1 : ∀ (s : DL.Sto) (Q : DL.KD) (n : Nat), DL.kLenO s Q (Option.some n) = Q (DL.DV.int ↑n) s := by intros; exact propext Iff.rfl
theorem kLenO_q2 : ∀ (s : DL.Sto) (Q : DL.KD), DL.kLenO s Q Option.none = False := by intros; exact propext Iff.rfl
theorem lenD_q1 : ∀ (s : DL.Sto) (z : PySem.Str),
    DL.lenD s (DL.DV.str z) = if z.length ≤ PySem.sizeLine then Option.some z.length else Option.none := by intros; exact nrfl rfl
theorem dAbs_q1 : ∀ (s : DL.Sto) (Q : DL.KD) (i : Int),
    DL.dAbs [DL.DV.int i] s Q = Q (DL.DV.int (if i < 0 then -i else i)) s := by intros; exact propext Iff.rfl
theorem dMin2_q1 : ∀ (s : DL.Sto) (Q : DL.KD) (i j : Int),
    DL.dMin2 [DL.DV.int i, DL.DV.int j] s Q = Q (DL.DV.int (if j < i then j else i)) s := by intros; exact propext Iff.rfl
theorem dMax2_q1 : ∀ (s : DL.Sto) (Q : DL.KD) (i j : Int),
    DL.dMax2 [DL.DV.int i, DL.DV.int j] s Q = Q (DL.DV.int (if j > i then j else i)) s := by intros; exact propext Iff.rfl
theorem kSeqF_q1 : ∀ (s : DL.Sto) (t : Bool) (Q : DL.KD) (es : List DL.DV),
    DL.kSeqF s t Q (Option.some es) = Q (if t = Bool.true then DL.DV.tup es else DL.DV.lst es) s := by intros; exact propext Iff.rfl
theorem kSeqF_q2 : ∀ (s : DL.Sto) (t : Bool) (Q : DL.KD), DL.kSeqF s t Q Option.none = False := by intros; exact propext Iff.rfl
theorem dOrd_q1 : ∀ (s : DL.Sto) (Q : DL.KD) (z : PySem.Str),
    DL.dOrd [DL.DV.str z] s Q = (z.length = 1 ∧ Q (DL.DV.int ↑(z.cps.getD 0 0)) s) := by intros; exact propext Iff.rfl
theorem dStr_q1 : ∀ (s : DL.Sto) (Q : DL.KD) (i : Int),
    DL.dStr [DL.DV.int i] s Q = (i.natAbs.log2 < 1920 ∧ Q (DL.DV.str (PySem.Str.ofString (ToString.toString i))) s) := by intros; exact propext Iff.rfl
theorem dIpAdd_q1 : ∀ (s : DL.Sto) (Q : DL.KD) (i j : Int),
    DL.dIpAdd (DL.DV.int i) (DL.DV.int j) s Q = Q (DL.DV.int (i + j)) s := by intros; exact propext Iff.rfl
theorem tyD_q1 : ∀ (T : String) (s : DL.Sto) (x : PySem.Str), DL.tyD T s (DL.DV.str x) = (T == "str") := by intros; exact nrfl rfl
theorem tyD_q2 : ∀ (T : String) (s : DL.Sto) (i : Int), DL.tyD T s (DL.DV.int i) = (T == "int") := by intros; exact nrfl rfl
theorem tyD_q4 : ∀ (T : String) (s : DL.Sto) (ds : List DL.DV), DL.tyD T s (DL.DV.lst ds) = (T == "list") := by intros; exact nrfl rfl
theorem tyD_q5 : ∀ (T : String) (s : DL.Sto) (ds : List DL.DV), DL.tyD T s (DL.DV.scr ds) = (T == "list") := by intros; exact nrfl rfl
theorem keysD_q1 : DL.keysD [] = Option.some [] := by intros; exact nrfl rfl
theorem wipeD_q1 : ∀ (δ : DL.Ed), DL.wipeD δ [] = δ := by intros; exact nrfl rfl
theorem wipeD_q2 : ∀ (δ : DL.Ed) (v : Nat) (vs : List Nat), DL.wipeD δ (v :: vs) = List.set (DL.wipeD δ vs) v Option.none := by intros; exact nrfl rfl
theorem dYes_q1 : ∀ (x : DL.Ed) (s : DL.Sto) (Q : Bool → DL.Sto → Prop), DL.dYes x s Q = Q Bool.true s := by intros; exact propext Iff.rfl
theorem itemsD_q1 : ∀ (s : DL.Sto) (ds : List DL.DV), DL.itemsD s (DL.DV.lst ds) = Option.some (ds, DL.gTrue) := by intros; exact nrfl rfl
theorem itemsD_q2 : ∀ (s : DL.Sto) (ds : List DL.DV), DL.itemsD s (DL.DV.scr ds) = Option.some (ds, DL.gTrue) := by intros; exact nrfl rfl
theorem itemsD_q3 : ∀ (s : DL.Sto) (ds : List DL.DV), DL.itemsD s (DL.DV.tup ds) = Option.some (ds, DL.gTrue) := by intros; exact nrfl rfl
theorem itemsD_q4 : ∀ (s : DL.Sto) (z : PySem.Str),
    DL.itemsD s (DL.DV.str z) = Option.some (List.map (fun (c : Nat) => DL.DV.str { cps := #[c] }) z.cps.toList, DL.gTrue) := by intros; exact nrfl rfl
theorem startD_q1 : ∀ (n : Nat) (ds : List DL.DV),
    DL.startD n ds = List.map Option.some ds ++ List.replicate (n - ds.length) Option.none := by intros; exact nrfl rfl
theorem dPar2_q1 : ∀ (i j : Nat) (t : DL.TAd) (D : DL.EndsD) (δ : DL.Ed) (s : DL.Sto),
    DL.dPar2 i j t D δ s = t δ s (DL.kPar2 i j D δ) := by intros; exact propext Iff.rfl
theorem kPar2_q1 : ∀ (i j : Nat) (D : DL.EndsD) (δ : DL.Ed) (s1 : DL.Sto) (a b : DL.DV),
    DL.kPar2 i j D δ [a, b] s1 = D.nx ((List.set δ i (Option.some a)).set j (Option.some b)) s1 := by intros; exact propext Iff.rfl
theorem dPar3_q1 : ∀ (i j l : Nat) (t : DL.TAd) (D : DL.EndsD) (δ : DL.Ed) (s : DL.Sto),
    DL.dPar3 i j l t D δ s = t δ s (DL.kPar3 i j l D δ) := by intros; exact propext Iff.rfl
theorem kPar3_q1 : ∀ (i j l : Nat) (D : DL.EndsD) (δ : DL.Ed) (s1 : DL.Sto) (a b c : DL.DV),
    DL.kPar3 i j l D δ [a, b, c] s1 =
      D.nx (((List.set δ i (Option.some a)).set j (Option.some b)).set l (Option.some c)) s1 := by intros; exact propext Iff.rfl
theorem dDisp0_q1 : ∀ (δ : DL.Ed) (s : DL.Sto) (Q : DL.KD),
    DL.dDisp0 δ s Q = ∀ (p : PySem.Addr), s p = Option.none → Q (DL.DV.ref p) (DL.up s p (DL.MO.dK [])) := by intros; exact propext Iff.rfl
theorem dIsi_q1 : ∀ (s : DL.Sto) (Q : DL.KD) (d : DL.DV) (n : String),
    DL.dIsi [d, DL.DV.ty n] s Q = DL.kIsi (DL.tyOfD s d) (DL.tyN n) s Q := by intros; exact propext Iff.rfl
theorem kIsi_q1 : ∀ (s : DL.Sto) (Q : DL.KD) (t_2 c_2 : DL.Ty),
    DL.kIsi (Option.some t_2) (Option.some c_2) s Q = Q (DL.DV.bl (DL.isT t_2 c_2)) s := by intros; exact propext Iff.rfl
theorem tyOfD_q1 : ∀ (s : DL.Sto), DL.tyOfD s DL.DV.non = Option.some DL.Ty.non := by intros; exact nrfl rfl
theorem tyOfD_q2 : ∀ (s : DL.Sto) (b : Bool), DL.tyOfD s (DL.DV.bl b) = Option.some DL.Ty.bl := by intros; exact nrfl rfl
theorem tyOfD_q3 : ∀ (s : DL.Sto) (i : Int), DL.tyOfD s (DL.DV.int i) = Option.some DL.Ty.int := by intros; exact nrfl rfl
theorem tyOfD_q4 : ∀ (s : DL.Sto) (x : PySem.Str), DL.tyOfD s (DL.DV.str x) = Option.some DL.Ty.str := by intros; exact nrfl rfl
theorem tyOfD_q5 : ∀ (s : DL.Sto) (ds : List DL.DV), DL.tyOfD s (DL.DV.tup ds) = Option.some DL.Ty.tup := by intros; exact nrfl rfl
theorem tyOfD_q6 : ∀ (s : DL.Sto) (ds : List DL.DV), DL.tyOfD s (DL.DV.lst ds) = Option.some DL.Ty.lst := by intros; exact nrfl rfl
theorem tyOfD_q7 : ∀ (s : DL.Sto) (ds : List DL.DV), DL.tyOfD s (DL.DV.scr ds) = Option.some DL.Ty.lst := by intros; exact nrfl rfl
theorem tyOfD_q8 : ∀ (s : DL.Sto) (a : PySem.Addr), DL.tyOfD s (DL.DV.ref a) = DL.tyOfO (s a) := by intros; exact nrfl rfl
theorem tyOfO_q1 : ∀ (ds : List DL.DV), DL.tyOfO (Option.some (DL.MO.lst ds)) = Option.some DL.Ty.lst := by intros; exact nrfl rfl
theorem tyOfO_q2 : ∀ (ks : List (L2.Key × DL.DV)), DL.tyOfO (Option.some (DL.MO.dK ks)) = Option.some DL.Ty.dct := by intros; exact nrfl rfl
theorem isT_q1 : DL.isT DL.Ty.bl DL.Ty.bl = Bool.true := by intros; exact nrfl rfl
theorem isT_q2 : DL.isT DL.Ty.bl DL.Ty.int = Bool.true := by intros; exact nrfl rfl
theorem isT_q3 : DL.isT DL.Ty.int DL.Ty.int = Bool.true := by intros; exact nrfl rfl
theorem isT_q4 : DL.isT DL.Ty.str DL.Ty.str = Bool.true := by intros; exact nrfl rfl
theorem isT_q5 : DL.isT DL.Ty.tup DL.Ty.tup = Bool.true := by intros; exact nrfl rfl
theorem isT_q6 : DL.isT DL.Ty.lst DL.Ty.lst = Bool.true := by intros; exact nrfl rfl
theorem isT_q7 : DL.isT DL.Ty.dct DL.Ty.dct = Bool.true := by intros; exact nrfl rfl
theorem isT_q8 : DL.isT DL.Ty.non DL.Ty.non = Bool.true := by intros; exact nrfl rfl
theorem dIsiT_q1 : ∀ (te : DL.TEd) (cs : List DL.Ty) (δ : DL.Ed) (s : DL.Sto) (Q : DL.KD),
    DL.dIsiT te cs δ s Q = te δ s (DL.kIsiT cs Q) := by intros; exact propext Iff.rfl
theorem dZip_q1 : ∀ (t : DL.TAd) (δ : DL.Ed) (s : DL.Sto) (R : List DL.DV → (DL.Sto → Prop) → DL.Sto → Prop),
    DL.dZip t δ s R = t δ s (DL.kZip R) := by intros; exact propext Iff.rfl
theorem kZip_q1 : ∀ (R : List DL.DV → (DL.Sto → Prop) → DL.Sto → Prop) (s1 : DL.Sto) (xs ys : List DL.DV),
    DL.kZip R [DL.DV.tup xs, DL.DV.tup ys] s1 = R (DL.zipD xs ys) DL.gTrue s1 := by intros; exact propext Iff.rfl
theorem kZip_q2 : ∀ (R : List DL.DV → (DL.Sto → Prop) → DL.Sto → Prop) (s1 : DL.Sto) (xs ys : List DL.DV),
    DL.kZip R [DL.DV.lst xs, DL.DV.lst ys] s1 = R (DL.zipD xs ys) DL.gTrue s1 := by intros; exact propext Iff.rfl
theorem dRev_q1 : ∀ (te : DL.TEd) (δ : DL.Ed) (s : DL.Sto) (Q : DL.KD), DL.dRev te δ s Q = te δ s (DL.kRev Q) := by intros; exact propext Iff.rfl
theorem kRev_q1 : ∀ (Q : DL.KD) (s1 : DL.Sto) (z : PySem.Str),
    DL.kRev Q (DL.DV.str z) s1 = (z.length ≤ PySem.sizeLine ∧ Q (DL.DV.str (DL.revS z)) s1) := by intros; exact propext Iff.rfl
theorem kRev_q2 : ∀ (Q : DL.KD) (s1 : DL.Sto) (ds : List DL.DV), DL.kRev Q (DL.DV.tup ds) s1 = Q (DL.DV.tup ds.reverse) s1 := by intros; exact propext Iff.rfl
theorem kRev_q3 : ∀ (Q : DL.KD) (s1 : DL.Sto) (ds : List DL.DV), DL.kRev Q (DL.DV.lst ds) s1 = Q (DL.DV.lst ds.reverse) s1 := by intros; exact propext Iff.rfl
theorem dUpper_q1 : ∀ (s : DL.Sto) (Q : DL.KD) (z : PySem.Str),
    DL.dUpper (DL.DV.str z) [] s Q = (z.length ≤ 5592405 ∧ Q (DL.DV.str (PySem.Txt.upper z)) s) := by intros; exact propext Iff.rfl
theorem dMulS_q1 : ∀ (s : DL.Sto) (Q : DL.KD) (z : PySem.Str) (k : Int),
    DL.dMulS (DL.DV.str z) (DL.DV.int k) s Q =
      ((2 ≤ k ∧ k ≤ 100000 ∧ 1 ≤ z.length ∧ z.length ≤ 100) ∧ Q (DL.DV.str (DL.repS z k)) s) := by intros; exact propext Iff.rfl
theorem refL_lst_q : ∀ {ds : List DL.DV}, DL.refL (Option.some (DL.MO.lst ds)) = Option.some ds := by intros; exact nrfl rfl
theorem refL_dK_q : ∀ {ds : List (L2.Key × DL.DV)}, DL.refL (Option.some (DL.MO.dK ds)) = Option.none := by intros; exact nrfl rfl
theorem refL_ins_q : ∀ {C : PySem.Addr} {fs : List (PySem.Str × DL.DV)}, DL.refL (Option.some (DL.MO.ins C fs)) = Option.none := by intros; exact nrfl rfl
theorem lstD_lst_q : ∀ {s : DL.Sto} {ds : List DL.DV}, DL.lstD s (DL.DV.lst ds) = Option.some ds := by intros; exact nrfl rfl
theorem lstD_scr_q : ∀ {s : DL.Sto} {ds : List DL.DV}, DL.lstD s (DL.DV.scr ds) = Option.some ds := by intros; exact nrfl rfl
theorem lstD_tup_q : ∀ {s : DL.Sto} {ds : List DL.DV}, DL.lstD s (DL.DV.tup ds) = Option.none := by intros; exact nrfl rfl
theorem lstD_str_q : ∀ {s : DL.Sto} {z : PySem.Str}, DL.lstD s (DL.DV.str z) = Option.none := by intros; exact nrfl rfl
theorem lstD_int_q : ∀ {s : DL.Sto} {z : Int}, DL.lstD s (DL.DV.int z) = Option.none := by intros; exact nrfl rfl
theorem lstW_lst_q : ∀ {s : DL.Sto} {ds : List DL.DV}, DL.lstW s (DL.DV.lst ds) = Option.some ds := by intros; exact nrfl rfl
theorem lstW_tup_q : ∀ {s : DL.Sto} {ds : List DL.DV}, DL.lstW s (DL.DV.tup ds) = Option.none := by intros; exact nrfl rfl
theorem lstW_str_q : ∀ {s : DL.Sto} {z : PySem.Str}, DL.lstW s (DL.DV.str z) = Option.none := by intros; exact nrfl rfl
theorem lstW_int_q : ∀ {s : DL.Sto} {z : Int}, DL.lstW s (DL.DV.int z) = Option.none := by intros; exact nrfl rfl
theorem seqD_tup_q : ∀ {s : DL.Sto} {ds : List DL.DV}, DL.seqD s (DL.DV.tup ds) = Option.some ds := by intros; exact nrfl rfl
theorem seqD_lst_q : ∀ {s : DL.Sto} {ds : List DL.DV}, DL.seqD s (DL.DV.lst ds) = Option.some ds := by intros; exact nrfl rfl
theorem seqD_scr_q : ∀ {s : DL.Sto} {ds : List DL.DV}, DL.seqD s (DL.DV.scr ds) = Option.some ds := by intros; exact nrfl rfl
theorem seqD_str_q : ∀ {s : DL.Sto} {z : PySem.Str}, DL.seqD s (DL.DV.str z) = Option.none := by intros; exact nrfl rfl
theorem seqD_int_q : ∀ {s : DL.Sto} {z : Int}, DL.seqD s (DL.DV.int z) = Option.none := by intros; exact nrfl rfl
theorem frzR_lst_q : ∀ {s : DL.Sto} {a : PySem.Addr} {ds : List DL.DV},
    DL.frzR s a (Option.some (DL.MO.lst ds)) = (DL.DV.lst ds, DL.er s a) := by intros; exact nrfl rfl
theorem frzR_dK_q : ∀ {s : DL.Sto} {a : PySem.Addr} {ds : List (L2.Key × DL.DV)},
    DL.frzR s a (Option.some (DL.MO.dK ds)) = (DL.DV.ref a, s) := by intros; exact nrfl rfl
theorem frzR_ins_q : ∀ {s : DL.Sto} {a C : PySem.Addr} {ds : List (PySem.Str × DL.DV)},
    DL.frzR s a (Option.some (DL.MO.ins C ds)) = (DL.DV.ref a, s) := by intros; exact nrfl rfl
theorem frz_int_q : ∀ {s : DL.Sto} {i : Int}, DL.frzD s (DL.DV.int i) = (DL.DV.int i, s) := by intros; exact nrfl rfl
theorem frz_str_q : ∀ {s : DL.Sto} {i : PySem.Str}, DL.frzD s (DL.DV.str i) = (DL.DV.str i, s) := by intros; exact nrfl rfl
theorem frz_bl_q : ∀ {s : DL.Sto} {i : Bool}, DL.frzD s (DL.DV.bl i) = (DL.DV.bl i, s) := by intros; exact nrfl rfl
theorem frz_non_q : ∀ {s : DL.Sto}, DL.frzD s DL.DV.non = (DL.DV.non, s) := by intros; exact nrfl rfl
theorem frz_tup_q : ∀ {s : DL.Sto} {i : List DL.DV}, DL.frzD s (DL.DV.tup i) = (DL.DV.tup i, s) := by intros; exact nrfl rfl
theorem frz_lst_q : ∀ {s : DL.Sto} {i : List DL.DV}, DL.frzD s (DL.DV.lst i) = (DL.DV.lst i, s) := by intros; exact nrfl rfl
theorem frz_scr_q : ∀ {s : DL.Sto} {i : List DL.DV}, DL.frzD s (DL.DV.scr i) = (DL.DV.scr i, s) := by intros; exact nrfl rfl
theorem gifT_q : ∀ {t u : DL.Sto → Prop} {s : DL.Sto}, DL.dGif Bool.true t u s = t s := by intros; exact propext Iff.rfl
theorem gifF_q : ∀ {t u : DL.Sto → Prop} {s : DL.Sto}, DL.dGif Bool.false t u s = u s := by intros; exact propext Iff.rfl
theorem dIx_lst_q : ∀ {ds : List DL.DV} {i : Int} {s : DL.Sto} {Q : DL.KD},
    DL.dIx (DL.DV.lst ds) (DL.DV.int i) s Q = DL.ixD (L2.atI ds i) s Q := by intros; exact propext Iff.rfl
theorem dIx_tup_q : ∀ {ds : List DL.DV} {i : Int} {s : DL.Sto} {Q : DL.KD},
    DL.dIx (DL.DV.tup ds) (DL.DV.int i) s Q = DL.ixD (L2.atI ds i) s Q := by intros; exact propext Iff.rfl
theorem dIx_scr_q : ∀ {ds : List DL.DV} {i : Int} {s : DL.Sto} {Q : DL.KD},
    DL.dIx (DL.DV.scr ds) (DL.DV.int i) s Q = DL.ixD (L2.atI ds i) s Q := by intros; exact propext Iff.rfl
theorem dIn_tup_q : ∀ {n : Bool} {x : DL.DV} {ds : List DL.DV} {s : DL.Sto} {Q : DL.KD},
    DL.dIn n x (DL.DV.tup ds) s Q =
      (DL.flatD x = Bool.true ∧
        ds.all DL.flatD = Bool.true ∧ Q (DL.DV.bl (if n = Bool.true then !DL.inF x ds else DL.inF x ds)) s) := by intros; exact propext Iff.rfl
theorem dIn_lst_q : ∀ {n : Bool} {x : DL.DV} {ds : List DL.DV} {s : DL.Sto} {Q : DL.KD},
    DL.dIn n x (DL.DV.lst ds) s Q =
      (DL.flatD x = Bool.true ∧
        ds.all DL.flatD = Bool.true ∧ Q (DL.DV.bl (if n = Bool.true then !DL.inF x ds else DL.inF x ds)) s) := by intros; exact propext Iff.rfl
theorem dIn_str_q : ∀ {n : Bool} {a b : PySem.Str} {s : DL.Sto} {Q : DL.KD},
    DL.dIn n (DL.DV.str a) (DL.DV.str b) s Q = Q (DL.DV.bl (if n = Bool.true then !DL.subS a b else DL.subS a b)) s := by intros; exact propext Iff.rfl
theorem dAdd_lst_q : ∀ {a b : List DL.DV} {s : DL.Sto} {Q : DL.KD},
    DL.dAdd (DL.DV.lst a) (DL.DV.lst b) s Q = (a.length + b.length ≤ PySem.sizeLine ∧ Q (DL.DV.lst (a ++ b)) s) := by intros; exact propext Iff.rfl
theorem dAdd_int_q : ∀ {a b : Int} {s : DL.Sto} {Q : DL.KD}, DL.dAdd (DL.DV.int a) (DL.DV.int b) s Q = Q (DL.DV.int (a + b)) s := by intros; exact propext Iff.rfl
theorem dAdd_str_q : ∀ {a b : PySem.Str} {s : DL.Sto} {Q : DL.KD},
    DL.dAdd (DL.DV.str a) (DL.DV.str b) s Q = (a.length + b.length ≤ PySem.sizeLine ∧ Q (DL.DV.str (a ++ b)) s) := by intros; exact propext Iff.rfl
theorem dAdd_tup_q : ∀ {a b : List DL.DV} {s : DL.Sto} {Q : DL.KD},
    DL.dAdd (DL.DV.tup a) (DL.DV.tup b) s Q = (a.length + b.length ≤ PySem.sizeLine ∧ Q (DL.DV.tup (a ++ b)) s) := by intros; exact propext Iff.rfl
theorem dMul_int_q : ∀ {a b : Int} {s : DL.Sto} {Q : DL.KD},
    DL.dMul (DL.DV.int a) (DL.DV.int b) s Q = ((L2.CMul a b ∨ L2.CMulW a b) ∧ Q (DL.DV.int (a * b)) s) := by intros; exact propext Iff.rfl
theorem dSlR_str_q : ∀ {z : PySem.Str} {lo hi : Option Int} {s : DL.Sto} {Q : DL.KD},
    DL.dSlR (DL.DV.str z) lo hi s Q = (z.length ≤ PySem.sizeLine ∧ Q (DL.DV.str (L2.cutS z lo hi)) s) := by intros; exact propext Iff.rfl
theorem dSlR_tup_q : ∀ {z : List DL.DV} {lo hi : Option Int} {s : DL.Sto} {Q : DL.KD},
    DL.dSlR (DL.DV.tup z) lo hi s Q = Q (DL.DV.tup (DL.cutD z lo hi)) s := by intros; exact propext Iff.rfl
theorem dSlR_lst_q : ∀ {z : List DL.DV} {lo hi : Option Int} {s : DL.Sto} {Q : DL.KD},
    DL.dSlR (DL.DV.lst z) lo hi s Q = Q (DL.DV.lst (DL.cutD z lo hi)) s := by intros; exact propext Iff.rfl
theorem lenD_tup {s : Sto} {ds : List DV} : lenD s (.tup ds) = some ds.length := nrfl rfl
theorem lenD_lst {s : Sto} {ds : List DV} : lenD s (.lst ds) = some ds.length := nrfl rfl
theorem lenD_scr {s : Sto} {ds : List DV} : lenD s (.scr ds) = some ds.length := nrfl rfl
def lenO : Option (List DV) → Option Nat
  | some ds => some ds.length
  | none => none
theorem lenO_q {ds : List DV} : lenO (some ds) = some ds.length := nrfl rfl
theorem lenD_re {s : Sto} {a : Addr} : lenD s (.ref a) = lenO (refL (s a)) := by
  show (lstD s (.ref a)).map (·.length) = _
  rw [lstD_re]
  cases refL (s a) <;> rfl
theorem set_q0 {α : Type _} {a b : α} {l : List α} : (a :: l).set 0 b = b :: l := nrfl rfl
theorem set_qs {α : Type _} {a b : α} {l : List α} {n : Nat} : (a :: l).set (n + 1) b = a :: l.set n b := nrfl rfl
theorem getD_q0 {α : Type _} {a d : α} {l : List α} : (a :: l).getD 0 d = a := nrfl rfl
theorem getD_qs {α : Type _} {a d : α} {l : List α} {n : Nat} : (a :: l).getD (n + 1) d = l.getD n d := nrfl rfl
theorem dSlR_scr {ds : List DV} {lo hi : Option Int} {s : Sto} {Q : KD} : dSlR (.scr ds) lo hi s Q = Q (.lst (cutD ds lo hi)) s := propext Iff.rfl
theorem truD_qs {s : Sto} {z : Str} : truD s (.str z) = if z.length ≤ sizeLine then some ((z.length : Int) != 0) else none := nrfl rfl
def kItO (R : List DV → (Sto → Prop) → Sto → Prop) (s : Sto) : Option (List DV × (Sto → Prop)) → Prop
  | some p => R p.1 p.2 s
  | none => False
theorem kIt_q {R : List DV → (Sto → Prop) → Sto → Prop} {d : DV} {s : Sto} : kIt R d s = kItO R s (itemsD s d) := by
  unfold kIt kItO
  cases itemsD s d <;> rfl
theorem kItO_q {R : List DV → (Sto → Prop) → Sto → Prop} {s : Sto} {ds : List DV} {G : Sto → Prop} : kItO R s (some (ds, G)) = R ds G s := propext Iff.rfl
end DL

set_option Elab.async false
set_option linter.all false
set_option maxRecDepth 100000
set_option maxHeartbeats 4000000
namespace DL
open PySem PySem.Spec PyProof.Rows L2
/-! ### enumerate(text, start=k) -/
/-- the signs of z, each in a new pair with its number, from k on -/
def Iten (z : Str) (k : Int) : It :=
  ⟨fun i _ => i < z.cps.size, fun i H v H' => ∃ (T : Addr) (c : Nat), v = .ref T ∧ H T = none ∧ z.cps[i]? = some c ∧ H' = upd H T (.tup [.int (k + (i : Nat)), .str ⟨#[c]⟩]), fun i _ => i = z.cps.size⟩
theorem enumS_turn {P : Program} {w : World} {K : PySem.W.Frag} {es : List Expr} {kk : Nat} {pt : Pos} (e it : Addr) (z : Str) (t : Tok) (k : Int) :
    Turn P w K (.Tuple es kk pt) (Iten z k) [e, it] e (fun i h => (∃ old, IsEnum h e it (k + ((i : Nat) : Int)) old) ∧ h.IsStrIter it (strIterType z) z t i ∧ e ≠ it) where
  mem := List.mem_cons_self ..
  obj := fun i h st b hb => by
    obtain ⟨⟨old, h1⟩, ⟨o, h2, hc, hd⟩, _⟩ := st
    rcases List.mem_cons.mp hb with q | q
    · subst q; exact ⟨_, h1, fun v y => nomatch y⟩
    · rw [List.mem_singleton.mp q]; exact ⟨o, h2, fun v y => by rw [hd] at y; cases y⟩
  keep := fun i h h' st kp => by
    obtain ⟨⟨old, h1⟩, ⟨o, h2, h3⟩, h4⟩ := st
    exact ⟨⟨old, kp e (List.mem_cons_self ..) _ h1⟩, ⟨o, kp it (List.mem_cons_of_mem _ (List.mem_cons_self ..)) o h2, h3⟩, h4⟩
  item := by
    intro X hP hw hK hc i pins s σ H E I hf st hg
    subst hP hw hK
    obtain ⟨⟨old, h1⟩, h2, hne⟩ := st
    have hh := I.ok.hd hc
    have D := Draws.text (prog := X.prog) (w := X.w) (A := X.A.in1) (by simp [hh]) it z t
    have l1 : e < s.heap.objs.size := Heap.lt_size h1
    have l2 : it < s.heap.objs.size := by obtain ⟨_, q, _⟩ := h2; exact Heap.lt_size q
    refine wpAny_pyNext_enum_itemC D h1 h2 hg hne (fun m => hne (List.mem_singleton.mp m)) fun x h' tk hP ho hst hT hz hk => ?_
    obtain ⟨c, u, hcz, rfl⟩ := hP
    refine ⟨_, rfl, wpAny_letOwnedTupleGo_enum (s := { s with heap := h', toks := tk + 1 }) ho fun h2' he' sb => ?_⟩
    have hT2 : h2'.get? s.heap.objs.size = some { cls := .type "tuple", data := .seq #[.int (k + (i : Nat)) tk, .str ⟨#[c]⟩ u] } := (sb.2 _ (Nat.ne_of_gt l1)).trans hT
    have new : ObjOk X.prog X.w (upd H s.heap.objs.size (.tup [.int (k + (i : Nat)), .str ⟨#[c]⟩])) h2' s.heap.objs.size (.tup [.int (k + (i : Nat)), .str ⟨#[c]⟩]) := by
      refine ⟨by show 2 ≤ sizeLine; decide, [.int (k + (i : Nat)) tk, .str ⟨#[c]⟩ u], ?_, ⟨_, hT2, rfl, _, rfl⟩⟩
      exact .cons ⟨tk, rfl⟩ (.cons ⟨u, rfl⟩ .nil)
    have I1 : Inv X pins σ (upd H s.heap.objs.size (.tup [.int (k + (i : Nat)), .str ⟨#[c]⟩])) { s with heap := h2', toks := tk + 1 } := by
      refine I.turnedNew (ch := [e, it]) (fun b ob hb q => ?_) hf (Nat.le_refl _) new
      have nb : b ≠ e := fun y => hb (by rw [y]; exact List.mem_cons_self ..)
      have nb2 : b ≠ it := fun y => hb (by rw [y]; exact List.mem_cons_of_mem _ (List.mem_cons_self ..))
      exact (sb.2 b nb).trans (hk b ob nb nb2 q)
    refine ⟨.ref s.heap.objs.size, _, I1, rfl, ⟨_, c, rfl, I.hok.fresh (Nat.le_refl _), hcz, rfl⟩, ⟨⟨.str ⟨#[c]⟩ u, ?_⟩, ?_, hne⟩, fun b hb => ?_⟩
    · have e1 : k + ((i + 1 : Nat) : Int) = k + (i : Nat) + 1 := by omega
      rw [e1]; exact he'
    · obtain ⟨o, q1, q2⟩ := hst
      exact ⟨o, (sb.2 it (Ne.symm hne)).trans q1, q2⟩
    · have lb : b < s.heap.objs.size := by
        rcases List.mem_cons.mp hb with q | q
        · rw [q]; exact l1
        · rw [List.mem_singleton.mp q]; exact l2
      rw [upd_ne (Nat.ne_of_lt lb)]
      exact (hf b hb).1
  done := by
    intro X hP hw hK hc i pins s σ H E I hf st hg
    subst hP hw hK
    obtain ⟨⟨old, h1⟩, h2, hne⟩ := st
    have hh := I.ok.hd hc
    have hm : it ∈ [e, it] := List.mem_cons_of_mem _ (List.mem_cons_self ..)
    obtain ⟨f0, f1, f2, f3, f4, f5⟩ := hf it hm
    have D := Draws.text (prog := X.prog) (w := X.w) (A := X.A.in1) (by simp [hh]) it z t
    have hi : i = z.cps.size := hg
    subst hi
    exact wpAny_pyNext_enum_endD D h1 h2 fun h' hx => ⟨rfl, I.turned (t' := s.toks) (fun b o hb q => hx b o hb q) f0 f1 f3 f4 f5⟩
  self := fun A i s Q E st h => by
    obtain ⟨⟨old, h1⟩, _⟩ := st
    exact wpAny_pyIter_enum h1 h
theorem typeK_call {M : Model} {A : Around} {E : Value → Shared → Prop} {s : Shared} {pos : Pos} {T : String} {args : List (Bool × Sem Value)} {kws : List (Option Str × Sem Value)} {Q : Value → Shared → Prop} (h1 : args.any (·.1) = false) (h2 : kws.any (·.1.isNone) = false)
    (h : wpAny M A (evalArgs (.type T) true args kws) (fun a s₁ => wpAny M A (call (.type T) a.pos a.kw) Q E s₁) E s) : wpAny M A (callWith pos (.type T) [] args kws) Q E s := by
  unfold callWith
  refine wpAny_bind (wpAny_holding (wpAny_mono h (fun a s₁ k => wpAny_bind (wpAny_standAt ?_)) fun _ _ y => y))
  simp only [h1, h2, Bool.or_false]
  refine wpAny_bind (wpAny_pure (wpAny_bind (wpAny_mono k (fun r s₂ q => ?_) fun _ _ y => y)))
  exact wpAny_bind (wpAny_holding (wpAny_point (wpAny_pure q)))
def iEnS (te tk : TE) : TI := fun σ H R => te σ H fun x H1 => ∃ z : Str, x = .str z ∧ tk σ H1 fun y H2 => ∃ k : Int, y = .int k ∧ -(2 ^ 62) ≤ k ∧ k < 2 ^ 62 ∧ R (Iten z k) H2
variable {X : Cx} {A : Anc}
theorem pi_enS {e ek : Expr} {te tk : TE} {p pos tpos kp : Pos} {es : List Expr} {kk : Nat} (hm : X.mg "enumerate" = none) (he : PE X e te) (hk : PE X ek tk) (hg : Gl X "enumerate" := by rfl)
    (h1 : backTo pos (starEach [e] X.env) = (false, eval e X.env) :: backTo pos (starEach [] X.env) := by rfl) (h2 : (backTo pos (starEach [e] X.env)).any (·.1) = false := by rfl) (h3 : (backToKw pos (keywordEach [⟨some "start", ek, kp⟩] X.env)).all (·.1.isSome) = true := by rfl)
    (h4 : (backToKw pos (keywordEach [⟨some "start", ek, kp⟩] X.env)).any (·.1.isNone) = false := by rfl) (h5 : (backToKw pos (keywordEach [⟨some "start", ek, kp⟩] X.env)).filterMap (·.1) = [Str.ofString "start"] := by rfl) :
    PI X (.Tuple es kk tpos) (.Call (.Name "enumerate" p) [e] [⟨some "start", ek, kp⟩] pos) (iEnS te tk) := by
  refine ⟨fun pins s σ H R I h => ?_⟩
  refine wpAny_Call_Name_kw (ld_blt I hg hm boot_enumerate (typeK_call h2 h4 ?_))
  rw [h1]
  refine evalArgs_kwB h3 ?_
  refine PySem.Calls.spliced_cons (thn (he.run pins s σ H _ I h) fun v s1 ⟨x, H1, I1, r1, z, ex, q1⟩ => args_nil ?_)
  subst ex
  obtain ⟨t, rfl⟩ := r1
  refine kws_cons (thn (hk.run pins s1 σ H1 _ I1 q1) fun u s2 ⟨y, H2, I2, r2, k, ey, k0, k1, q2⟩ => kws_nil ?_)
  subst ey
  obtain ⟨t2, rfl⟩ := r2
  rw [h5]
  show wpAny _ _ (call (.type "enumerate") [.str z t] [(Str.ofString "start", .int k t2)]) _ _ _
  refine enum_begins_start (begins_text z t) trivial (by omega) (by omega) fun h' a1 a2 a3 a4 => wpAny_pyIter_enum a1 ?_
  have I3 : Inv X pins σ H2 { s2 with heap := h' } := I2.kept (t' := s2.toks) a4
  have it0 : h'.IsStrIter s2.heap.objs.size (strIterType z) z t 0 := ⟨_, a2, rfl, rfl⟩
  refine ⟨s2.heap.objs.size + 1, [s2.heap.objs.size + 1, s2.heap.objs.size], _, _, H2, rfl, I3, enumS_turn (s2.heap.objs.size + 1) s2.heap.objs.size z t k, ⟨⟨.none, by rw [show k + ((0 : Nat) : Int) = k by omega]; exact a1⟩, it0, Nat.succ_ne_self _⟩, fun b hb => ?_, q2⟩
  have hle : s2.heap.objs.size ≤ b := by
    rcases List.mem_cons.mp hb with y | y
    · rw [y]; exact Nat.le_succ _
    · rw [List.mem_singleton.mp y]; exact Nat.le_refl _
  exact I2.fpOk hle (I2.hok.fresh hle)
def enD (z : Str) (k : Int) : List DV := (List.range z.length).map fun i : Nat => .tup [.int (k + (i : Nat)), .str ⟨#[z.cps.toList.getD i 0]⟩]
theorem enD_length (z : Str) (k : Int) : (enD z k).length = z.length := by unfold enD; simp
theorem enD_get {z : Str} {k : Int} {i c : Nat} (h : z.cps[i]? = some c) : (enD z k)[i]? = some (.tup [.int (k + (i : Nat)), .str ⟨#[c]⟩]) := by
  have hi : i < z.length := (Array.getElem?_eq_some_iff.mp h).1
  have h2 : z.cps.toList[i]? = some c := by rw [Array.getElem?_toList]; exact h
  have e : z.cps.toList.getD i 0 = c := by rw [List.getD_eq_getElem?_getD, h2]; rfl
  unfold enD
  rw [List.getElem?_map, List.getElem?_range hi]
  show some (DV.tup [.int (k + (i : Nat)), .str ⟨#[z.cps.toList.getD i 0]⟩]) = _
  rw [e]
theorem itd_enS {K : PySem.W.Frag} {s0 : Sto} {H0 : Hp} {z : Str} {k : Int} : ItD K s0 H0 (enD z k) gTrue (Iten z k) := ⟨
  fun i s H st rep g hi => by rw [enD_length] at hi; exact hi,
  fun i s H x H' st rep g hi y => by
    obtain ⟨T, c, rfl, hT, hc, rfl⟩ := y
    exact ⟨Stp.newF hT, rep.newF hT, _, enD_get hc, .tup (SqT.of upd_same) (.cons (.int _) (.cons (.str _) .nil))⟩,
  fun s H st rep g => enD_length z k⟩
def kEnS2 (z : Str) (R : List DV → (Sto → Prop) → Sto → Prop) (d : DV) (s2 : Sto) : Prop := match d with
  | .int k => (-(2 ^ 62) ≤ k ∧ k < 2 ^ 62) ∧ R (enD z k) gTrue s2
  | _ => False
def kEnS1 (tk : TEd) (δ : Ed) (R : List DV → (Sto → Prop) → Sto → Prop) (d : DV) (s1 : Sto) : Prop := match d with
  | .str z => tk δ s1 (kEnS2 z R)
  | _ => False
def dEnS (te tk : TEd) (δ : Ed) (s : Sto) (R : List DV → (Sto → Prop) → Sto → Prop) : Prop := te δ s (kEnS1 tk δ R)
theorem dEnS_q {te tk : TEd} {δ : Ed} {s : Sto} {R : List DV → (Sto → Prop) → Sto → Prop} : dEnS te tk δ s R = te δ s (kEnS1 tk δ R) := propext Iff.rfl
theorem kEnS1_q {tk : TEd} {δ : Ed} {z : Str} {s : Sto} {R : List DV → (Sto → Prop) → Sto → Prop} : kEnS1 tk δ R (.str z) s = tk δ s (kEnS2 z R) := propext Iff.rfl
theorem kEnS2_q {k : Int} {z : Str} {s : Sto} {R : List DV → (Sto → Prop) → Sto → Prop} : kEnS2 z R (.int k) s = ((-(2 ^ 62) ≤ k ∧ k < 2 ^ 62) ∧ R (enD z k) gTrue s) := propext Iff.rfl
theorem denS {e ek : Expr} {te tk : TEd} {p pos tpos kp : Pos} {es : List Expr} {kk : Nat} (hm : X.mg "enumerate" = none) (he : PD A X e te) (hk : PD A X ek tk) (hg : Gl X "enumerate" := by rfl)
    (h1 : backTo pos (starEach [e] X.env) = (false, eval e X.env) :: backTo pos (starEach [] X.env) := by rfl) (h2 : (backTo pos (starEach [e] X.env)).any (·.1) = false := by rfl) (h3 : (backToKw pos (keywordEach [⟨some "start", ek, kp⟩] X.env)).all (·.1.isSome) = true := by rfl)
    (h4 : (backToKw pos (keywordEach [⟨some "start", ek, kp⟩] X.env)).any (·.1.isNone) = false := by rfl) (h5 : (backToKw pos (keywordEach [⟨some "start", ek, kp⟩] X.env)).filterMap (·.1) = [Str.ofString "start"] := by rfl) :
    PId A X (.Tuple es kk tpos) (.Call (.Name "enumerate" p) [e] [⟨some "start", ek, kp⟩] pos) (dEnS te tk) :=
  piImp (pi_enS hm he hk hg h1 h2 h3 h4 h5) fun σ H R h => by
  obtain ⟨δ, s, R', S, t, k⟩ := h
  refine ⟨δ, s, _, S, t, fun v H1 d s1 st1 rep1 dv q => ?_⟩
  cases d with
  | str z =>
    cases dv
    refine ⟨z, rfl, δ, s1, _, S.go st1 rep1, q, fun v2 H2 d2 s2 st2 rep2 dv2 q2 => ?_⟩
    cases d2 with
    | int n =>
      cases dv2
      exact ⟨n, rfl, q2.1.1, q2.1.2, k _ gTrue s2 H2 _ (st1.trans st2) rep2 itd_enS q2.2⟩
    | _ => exact q2.elim
  | _ => exact q.elim
/-! ### *a, b = a list -/
theorem star_items {prog : Program} {w : World} {A : Around} {E : Value → Shared → Prop} {s : Shared} {l : Addr} {items : Array Value} {Q : List Value → Shared → Prop} (hh : A.handled = none) (hl : s.heap.IsList l items) (hz : items.size ≤ sizeLine) (h1 : 1 ≤ items.size)
    (hQ : ∀ s' : Shared, s'.os = s.os → s'.gens = s.gens → (∀ b o, s.heap.get? b = some o → s'.heap.get? b = some o) → Q (.ref s'.heap.objs.size :: items.toList.drop (items.size - 1)) { s' with heap := s'.heap.push { cls := .type "list", data := .seq (items.toList.take (items.size - 1)).toArray } }) :
    wpAny (model prog w) A (unpackItems (.ref l) 2 (some 0)) Q E s := by
  have hlt : l ≠ s.heap.objs.size := by obtain ⟨o, ho, _⟩ := hl; exact Nat.ne_of_lt (Heap.lt_size ho)
  have hh1 : A.in1.handled = none := by simp [hh]
  unfold unpackItems notIterableAtAll
  refine wpAny_bind (wpAny_bind (wpAny_specialOf hl.typeIs slot_list_iter.lookup (wpAny_pure ?_)))
  simp only [Bool.false_eq_true, if_false]
  refine wpAny_bind (wpAny_holding (wpAny_pyIter_list hl ?_))
  refine wpAny_bind (wpAny_holding ?_)
  show wpAny _ _ (pure []) _ _ _
  refine wpAny_pure ?_
  rw [if_neg (by decide)]
  have W := (Walks.list (prog := prog) (w := w) (A := A.in1) hh1 s.heap.objs.size l hlt items).toS
  refine wpAny_bind (wpAny_holding (wpAny_collect_iter (T := "list_iterator") (.inr (.inr (.inl rfl))) W (fun i s' st => ?_) ⟨⟨_, Heap.get?_push_size _ rfl, rfl, rfl⟩, hl.push _⟩ (fun b hb => ?_) (List.mem_cons_self ..) (fun s' acc hm hi => ?_) hz))
  · obtain ⟨⟨o, q1, q2, q3⟩, _⟩ := st
    exact ⟨o, q1, q2⟩
  · rw [Heap.size_push]
    rcases List.mem_cons.mp hb with q | q
    · rw [q]; exact Nat.lt_succ_self _
    · rw [List.mem_singleton.mp q]
      obtain ⟨o, ho, _⟩ := hl
      exact Nat.lt_succ_of_lt (Heap.lt_size ho)
  · have ea : acc = items := by
      refine Array.ext_getElem? fun j => ?_
      cases q : acc[j]? with
      | some v => exact (hi.2 j v q).symm
      | none =>
        have : acc.size ≤ j := by simpa using q
        exact (Array.getElem?_eq_none (by rw [← hi.1]; exact this)).symm
    subst ea
    have hl : acc.toList.length = acc.size := Array.length_toList
    rw [if_neg (by rw [hl]; show ¬ acc.size < 2 - 1 - 0; omega)]
    refine wpAny_bind (wpAny_newObj_type (wpAny_pure ?_) (by show (acc.toList.take (acc.toList.length - (2 - 1 - 0))).toArray.size ≤ sizeLine; rw [List.size_toArray, List.length_take, hl]; omega))
    have e1 : acc.toList.length - (2 - 1 - 0) = acc.size - 1 := by rw [hl]
    rw [e1]
    refine hQ s' hm.os (by have := hm.gens; exact this) fun b o q => hm.heap b o (fun m => ?_) (Heap.get?_push_of_some _ q)
    rw [List.mem_singleton.mp m] at q
    exact absurd (Heap.lt_size q) (Nat.lt_irrefl _)
section
variable {X : Cx} {A : Anc}
def gStar (K : PySem.W.Frag) (t : TGs) : TG := fun v σ H Q => ∃ (a : Addr) (xs : List V) (x : V), v = .ref a ∧ SqL K H a (xs ++ [x]) ∧ ∀ p, H p = none → t [.ref p, x] σ (upd H p (.lst xs)) Q
theorem pg_star2 {ea eb : Expr} {pa pos : Pos} {k : Nat} {t : TGs} (hc : X.calm = true) (h : PGs X [ea, eb] t) (he : assignEach [.Starred ea pa, eb] X.env = [(true, assign ea X.env), (false, assign eb X.env)] := by rfl)
    (h2 : (assignEach [ea, eb] X.env).map (·.2) = [assign ea X.env, assign eb X.env] := by rfl) : PG X (.Tuple [.Starred ea pa, eb] k pos) (gStar X.K t) := by
  refine ⟨fun pins s σ H v u Q I r hw => ?_⟩
  obtain ⟨a, xs, x, e1, hq, hw⟩ := hw
  subst e1
  cases r
  obtain ⟨its, rv, pl, hz⟩ := I.list hq
  have hl' : s.heap.IsList a its.toArray := by
    obtain ⟨o, m, e, c, d, q⟩ := pl
    exact ⟨o, e, c, m, q⟩
  have len : its.length = xs.length + 1 := by rw [← rv.length, List.length_append]; rfl
  rw [PyProof.Rows.assign_Tuple]
  refine wpAny_bind (wpAny_standAt ?_)
  unfold unpack
  rw [he]
  refine wpAny_bind (wpAny_holding (star_items (I.ok.hd hc) hl' (by rw [List.size_toArray, ← rv.length]; exact hz) (by simp [len]) fun s' ho hg kp => ?_))
  have e3 : its.toArray.size - 1 = xs.length := by simp [len]
  rw [e3]
  have I1 : Inv X pins σ H s' := I.call' (ch := []) ho (Un.kept kp) (I.hok.kept kp) (by rw [hg]; exact I.bare) (fun _ z => nomatch z)
  have hn : H s'.heap.objs.size = none := I1.hok.fresh (Nat.le_refl _)
  have r1 : Vals xs (its.take xs.length) := by
    have := rv.take xs.length
    rwa [List.take_left'  rfl] at this
  have r2 : Vals [x] (its.drop xs.length) := by
    have := rv.drop xs.length
    rwa [List.drop_left' rfl] at this
  have I2 : Inv X pins σ (upd H s'.heap.objs.size (.lst xs)) { s' with heap := s'.heap.push { cls := .type "list", data := .seq (its.take xs.length).toArray } } :=
    I1.laid (t' := s'.toks) (fun b o q => Heap.get?_push_of_some _ q) (Nat.le_refl _) ⟨by rw [List.length_append] at hz; exact Nat.le_trans (Nat.le_add_right ..) hz, its.take xs.length, _, r1, Heap.get?_push_size _ rfl⟩
  have := h.run pins _ σ _ [.ref s'.heap.objs.size, x] (.ref s'.heap.objs.size :: its.drop xs.length) Q I2 (.cons rfl r2) (hw _ hn)
  rw [h2] at this
  exact this
theorem DatL.snocInv {K : PySem.W.Frag} {s : Sto} {H : Hp} {y : DV} : ∀ {ys : List DV} {xs : List V}, DatL K s H xs (ys ++ [y]) → ∃ vs v, xs = vs ++ [v] ∧ DatL K s H vs ys ∧ Dat K s H v y
  | [], _, .cons h .nil => ⟨[], _, rfl, .nil, h⟩
  | d :: ys, _, .cons h t => by
    obtain ⟨vs, v, rfl, l, q⟩ := DatL.snocInv (ys := ys) t
    exact ⟨_ :: vs, v, rfl, .cons h l, q⟩
def kStar (t : TGsd) (δ : Ed) (s : Sto) (Q : Ed → Sto → Prop) (o : Option (List DV)) : Prop := ∃ ds d, o = some (ds ++ [d]) ∧ t [.lst ds, d] δ s Q
def gStarD (t : TGsd) (d : DV) (δ : Ed) (s : Sto) (Q : Ed → Sto → Prop) : Prop := kStar t δ s Q (lstD s d)
theorem gStarD_q {t : TGsd} {d : DV} {δ : Ed} {s : Sto} {Q : Ed → Sto → Prop} : gStarD t d δ s Q = kStar t δ s Q (lstD s d) := propext Iff.rfl
theorem dgstar {ea eb : Expr} {pa pos : Pos} {k : Nat} {t : TGsd} (hc : X.calm = true) (h : PGsd A X [ea, eb] t) (he : assignEach [.Starred ea pa, eb] X.env = [(true, assign ea X.env), (false, assign eb X.env)] := by rfl)
    (h2 : (assignEach [ea, eb] X.env).map (·.2) = [assign ea X.env, assign eb X.env] := by rfl) : PGd A X (.Tuple [.Starred ea pa, eb] k pos) (gStarD t) := pgImp (pg_star2 hc h he h2) fun v σ H Q hh => by
  obtain ⟨d, δ, s, Q', S, dv, ⟨ds, x, e, g⟩, kk⟩ := hh
  obtain ⟨a, xs, rfl, hq, l⟩ := lstD_ok S.rep dv e
  obtain ⟨vs, v, rfl, l1, l2⟩ := DatL.snocInv l
  refine ⟨a, vs, v, rfl, hq, fun p hp => ?_⟩
  have st := Stp.newF (s := s) (o := .lst vs) hp
  have rep := S.rep.newF (o := .lst vs) hp
  exact ⟨_, δ, s, Q', S.go st rep, .cons (.lst upd_same (S.rep.fresh hp) (l1.step st S.rep)) (.cons (l2.step st S.rep) .nil), g, kk⟩
/-! ### f-strings -/
def kFmt (Q : KD) (d : DV) (s1 : Sto) : Prop := match d with
  | .str y => y.length ≤ sizeLine ∧ Q (.str y) s1
  | .int i => i.natAbs.log2 < 1920 ∧ Q (.str (toString i)) s1
  | _ => False
def dFmt (te : TEd) (δ : Ed) (s : Sto) (Q : KD) : Prop := te δ s (kFmt Q)
theorem dFmt_q {te : TEd} {δ : Ed} {s : Sto} {Q : KD} : dFmt te δ s Q = te δ s (kFmt Q) := propext Iff.rfl
theorem kFmt_q1 {y : Str} {s : Sto} {Q : KD} : kFmt Q (.str y) s = (y.length ≤ sizeLine ∧ Q (.str y) s) := propext Iff.rfl
theorem kFmt_q2 {i : Int} {s : Sto} {Q : KD} : kFmt Q (.int i) s = (i.natAbs.log2 < 1920 ∧ Q (.str (toString i)) s) := propext Iff.rfl
theorem dfmt {e : Expr} {te : TEd} {pos : Pos} (he : PD A X e te) : PD A X (.FormattedValue e (-1) none pos) (dFmt te) := peImp (pe_fmt he) fun σ H Q h => by
  obtain ⟨δ, s, Q', S, t, k⟩ := h
  refine ⟨δ, s, _, S, t, fun v H1 d s1 st1 rep1 dv q => ?_⟩
  cases d with
  | str y => cases dv; exact .inl ⟨y, rfl, q.1, k _ H1 _ s1 st1 rep1 (.str _) q.2⟩
  | int i => cases dv; exact .inr ⟨i, rfl, q.1, k _ H1 _ s1 st1 rep1 (.str _) q.2⟩
  | _ => exact q.elim
def kJs (r : Str → Ed → Sto → KD → Prop) (acc : Str) (δ : Ed) (Q : KD) (d : DV) (s1 : Sto) : Prop := match d with
  | .str y => (acc ++ y).length ≤ sizeLine ∧ r (acc ++ y) δ s1 Q
  | _ => False
def dJs : List TEd → Str → Ed → Sto → KD → Prop
  | [], acc, _, s, Q => Q (.str acc) s
  | t :: ts, acc, δ, s, Q => t δ s (kJs (dJs ts) acc δ Q)
def dJst (ts : List TEd) (δ : Ed) (s : Sto) (Q : KD) : Prop := dJs ts Str.empty δ s Q
theorem dJst_q {ts : List TEd} {δ : Ed} {s : Sto} {Q : KD} : dJst ts δ s Q = dJs ts Str.empty δ s Q := propext Iff.rfl
theorem dJs_q1 {acc : Str} {δ : Ed} {s : Sto} {Q : KD} : dJs [] acc δ s Q = Q (.str acc) s := propext Iff.rfl
theorem dJs_q2 {t : TEd} {ts : List TEd} {acc : Str} {δ : Ed} {s : Sto} {Q : KD} : dJs (t :: ts) acc δ s Q = t δ s (kJs (dJs ts) acc δ Q) := propext Iff.rfl
theorem kJs_q {r : Str → Ed → Sto → KD → Prop} {acc y : Str} {δ : Ed} {s : Sto} {Q : KD} : kJs r acc δ Q (.str y) s = ((acc ++ y).length ≤ sizeLine ∧ r (acc ++ y) δ s Q) := propext Iff.rfl
inductive PJd (A : Anc) (X : Cx) : List Expr → List TEd → Prop where
  | nil : PJd A X [] []
  | cons {e : Expr} {t : TEd} {es : List Expr} {ts : List TEd} (h : PD A X e t) (r : PJd A X es ts) : PJd A X (e :: es) (t :: ts)
theorem PJd.pj {es : List Expr} {ts : List TEd} (h : PJd A X es ts) : PJ X es (ts.map (lE X.K A)) := by
  induction h with
  | nil => exact .nil
  | cons h r ih => exact .cons h ih
theorem js_run {K : PySem.W.Frag} {σ : L2.St} {δ : Ed} : ∀ {ts : List TEd} {acc : Str} {s : Sto} {H : Hp} {Q' : KD} {R : Str → Hp → Prop}, Sd K A σ H δ s → dJs ts acc δ s Q' →
    (∀ out H2 s2, Stp s H s2 H2 → Rep K s2 H2 → Q' (.str out) s2 → R out H2) → tJs (ts.map (lE K A)) acc σ H R
  | [], acc, s, H, Q', R, S, t, k => k acc H s (Stp.refl s H) S.rep t
  | t :: ts, acc, s, H, Q', R, S, h, k => by
    refine ⟨δ, s, _, S, h, fun v H1 d s1 st1 rep1 dv q => ?_⟩
    cases d with
    | str y =>
      cases dv
      exact ⟨y, rfl, q.1, js_run (S.go st1 rep1) q.2 fun out H2 s2 st2 rep2 q2 => k out H2 s2 (st1.trans st2) rep2 q2⟩
    | _ => exact q.elim
theorem djoined {v1 v2 : Expr} {rest : List Expr} {ts : List TEd} {pos : Pos} (h : PJd A X (v1 :: v2 :: rest) ts) : PD A X (.JoinedStr (v1 :: v2 :: rest) pos) (dJst ts) := peImp (pe_joined h.pj) fun σ H Q hh => by
  obtain ⟨δ, s, Q', S, t, k⟩ := hh
  exact js_run S t fun out H2 s2 st2 rep2 q => k _ H2 _ s2 st2 rep2 (.str out) q
/-! ### methods of texts -/
def dSplitK (x : DV) (xs : List DV) (s : Sto) (Q : KD) : Prop := match x, xs with
  | .str a, [.str b, .int k] => ((b.length == 0) = false ∧ -(2 ^ 63) ≤ k ∧ k < 2 ^ 63 ∧ a.length + 2 ≤ sizeLine) ∧ Q (.lst ((Txt.splitMax a b k).map DV.str)) s
  | _, _ => False
theorem dSplitK_q {a b : Str} {k : Int} {s : Sto} {Q : KD} : dSplitK (.str a) [.str b, .int k] s Q = (((b.length == 0) = false ∧ -(2 ^ 63) ≤ k ∧ k < 2 ^ 63 ∧ a.length + 2 ≤ sizeLine) ∧ Q (.lst ((Txt.splitMax a b k).map DV.str)) s) := propext Iff.rfl
theorem DatL.ofStrs {K : PySem.W.Frag} {s : Sto} {H : Hp} : ∀ ys : List Str, DatL K s H (ys.map V.str) (ys.map DV.str)
  | [] => .nil
  | y :: ys => .cons (.str y) (DatL.ofStrs ys)
theorem newStrs_ok {K : PySem.W.Frag} {s : Sto} {H : Hp} {ys : List Str} {Q : VK} (rep : Rep K s H) (k : ∀ v H2 d s2, Stp s H s2 H2 → Rep K s2 H2 → Dat K s2 H2 v d → d = .lst (ys.map DV.str) → s2 = s → Q v H2) : rNewStrs ys H Q := fun p hp =>
  k _ _ _ s (Stp.newF hp) (rep.newF hp) (.lst upd_same (rep.fresh hp) (DatL.ofStrs ys)) rfl rfl
theorem md_splitK : MtR X "str.split" (lM X.K dSplitK) := mtImp mt_splitMax fun x xs H Q h => by
  obtain ⟨d, ds, s, Q', rep, hx, hxs, r, k⟩ := h
  unfold dSplitK at r
  split at r
  · cases hx
    cases hxs with
    | cons h1 t =>
      cases t with
      | cons h2 t2 =>
        cases t2; cases h1; cases h2
        refine ⟨_, _, _, rfl, rfl, r.1.1, r.1.2.1, r.1.2.2.1, r.1.2.2.2, newStrs_ok rep fun v H2 d s2 st rep2 dv e1 e2 => ?_⟩
        subst e1 e2
        exact k _ H2 _ _ st rep2 dv r.2
  · exact r.elim
def dFind (x : DV) (xs : List DV) (s : Sto) (Q : KD) : Prop := match x, xs with
  | .str a, [.str b] => Q (.int (Txt.find a b)) s
  | .str a, [.str b, .int i] => Q (.int (Txt.find3 a b i)) s
  | _, _ => False
theorem dFind_q1 {a b : Str} {s : Sto} {Q : KD} : dFind (.str a) [.str b] s Q = Q (.int (Txt.find a b)) s := propext Iff.rfl
theorem dFind_q2 {a b : Str} {i : Int} {s : Sto} {Q : KD} : dFind (.str a) [.str b, .int i] s Q = Q (.int (Txt.find3 a b i)) s := propext Iff.rfl
theorem md_find : MtR X "str.find" (lM X.K dFind) := mtImp (MtR.or mt_find mt_find3) fun x xs H Q h => by
  obtain ⟨d, ds, s, Q', rep, hx, hxs, r, k⟩ := h
  unfold dFind at r
  split at r
  · cases hx
    cases hxs with
    | cons h1 t => cases t; cases h1; exact .inl ⟨_, _, rfl, rfl, k _ H _ s (Stp.refl s H) rep (.int _) r⟩
  · cases hx
    cases hxs with
    | cons h1 t =>
      cases t with
      | cons h2 t2 => cases t2; cases h1; cases h2; exact .inr ⟨_, _, _, rfl, rfl, k _ H _ s (Stp.refl s H) rep (.int _) r⟩
  · exact r.elim
end
end DL

set_option Elab.async false
set_option linter.all false
set_option maxRecDepth 100000
set_option maxHeartbeats 4000000
/-! The plain law of rows: codes alone, no program. -/
namespace RW
open PySem PySem.Spec PyProof.Rows L2 DL TL
/-! ### figures -/
theorem numL_mono : ∀ (n m : Nat), m ≤ n → (numL m).length ≤ (numL n).length := by
  intro n
  induction n using Nat.strongRecOn with
  | _ n ih =>
    intro m hm
    by_cases h : n < 10
    · rw [numL_lt h, numL_lt (Nat.lt_of_le_of_lt hm h)]
      exact Nat.le_refl _
    · rw [numL_step (by omega : 10 ≤ n), List.length_append]
      by_cases h2 : m < 10
      · rw [numL_lt h2]
        show 1 ≤ _ + 1
        omega
      · rw [numL_step (by omega : 10 ≤ m), List.length_append]
        exact Nat.add_le_add_right (ih (n / 10) (by omega) (m / 10) (Nat.div_le_div_right hm)) 1
/-! ### the sum -/
def wsum : Nat → List Nat → Nat
  | _, [] => 0
  | i, c :: r => c * i + wsum (i + 1) r
theorem wsum_app : ∀ (i : Nat) (a b : List Nat), wsum i (a ++ b) = wsum i a + wsum (i + a.length) b
  | i, [], b => by simp [wsum]
  | i, c :: a, b => by
    rw [List.cons_append, wsum, wsum, wsum_app (i + 1) a b, List.length_cons, Nat.add_assoc i 1, show i + (1 + a.length) = i + (a.length + 1) by omega, Nat.add_assoc]
def sumL (b : List Nat) : Nat := wsum 1 b % 1000003
def rowL (b : List Nat) : List Nat := numL b.length ++ 32 :: (numL (sumL b) ++ 32 :: b)
def IsRow (x : List Nat) : Prop := ∃ b, x = rowL b
/-! ### cut at the first blank -/
theorem cut1 : ∀ {a a' y y' : List Nat}, 32 ∉ a → 32 ∉ a' → a ++ 32 :: y = a' ++ 32 :: y' → a = a' ∧ y = y'
  | [], [], _, _, _, _, h => ⟨rfl, (List.cons.inj h).2⟩
  | [], c :: a', _, _, _, h2, h => by
    have := (List.cons.inj h).1
    exact absurd (by rw [← this]; exact List.mem_cons_self ..) h2
  | c :: a, [], _, _, h1, _, h => by
    have := (List.cons.inj h).1
    exact absurd (by rw [this]; exact List.mem_cons_self ..) h1
  | c :: a, d :: a', y, y', h1, h2, h => by
    obtain ⟨e1, e2⟩ := List.cons.inj h
    obtain ⟨e3, e4⟩ := cut1 (fun m => h1 (List.mem_cons_of_mem _ m)) (fun m => h2 (List.mem_cons_of_mem _ m)) e2
    exact ⟨by rw [e1, e3], e4⟩
theorem num32 (n : Nat) : 32 ∉ numL n := numL_free (.inl (by decide))
theorem cutN {n : Nat} {a y y' : List Nat} (h : 32 ∉ a) (e : a ++ 32 :: y = numL n ++ 32 :: y') : a = numL n ∧ y = y' := cut1 h (num32 n) e
theorem not_in_app {a b : List Nat} (h : 32 ∉ a) (h' : 32 ∉ b) : 32 ∉ a ++ b := fun m => (List.mem_append.mp m).elim h h'
theorem not_in_cons {c : Nat} {b : List Nat} (h : c ≠ 32) (h' : 32 ∉ b) : 32 ∉ c :: b := fun m => (List.mem_cons.mp m).elim (fun e => h e.symm) h'
theorem rowL_inj {a b : List Nat} (h : rowL a = rowL b) : a = b := by
  obtain ⟨_, h2⟩ := cutN (num32 _) h
  exact (cutN (num32 _) h2).2
/-! ### one sign otherwise -/
theorem sum_ne {a b : Nat} (h : a % 1000003 = b % 1000003) (h1 : a < b + 1000003) (h2 : b < a + 1000003) : a = b := by omega
theorem sum_set {b1 b2 : List Nat} {u v : Nat} (hu : u < 128) (hv : v < 128) (hl : b1.length + b2.length + 1 ≤ 5000) (h : sumL (b1 ++ u :: b2) = sumL (b1 ++ v :: b2)) : u = v := by
  unfold sumL at h
  rw [wsum_app, wsum_app, wsum, wsum] at h
  generalize wsum 1 b1 = A at h
  generalize wsum (1 + b1.length + 1) b2 = B at h
  have hk : 1 ≤ 1 + b1.length ∧ 1 + b1.length ≤ 5001 := by omega
  generalize 1 + b1.length = k at h hk
  have m1 : u * k ≤ 127 * 5001 := Nat.mul_le_mul (by omega) hk.2
  have m2 : v * k ≤ 127 * 5001 := Nat.mul_le_mul (by omega) hk.2
  have e := sum_ne h (by omega) (by omega)
  have e2 : u * k = v * k := by omega
  exact Nat.eq_of_mul_eq_mul_right hk.1 e2
theorem sum_swap {b1 b2 : List Nat} {u v : Nat} (hu : u < 128) (hv : v < 128) (h : sumL (b1 ++ u :: v :: b2) = sumL (b1 ++ v :: u :: b2)) : u = v := by
  unfold sumL at h
  rw [wsum_app, wsum_app, wsum, wsum, wsum, wsum] at h
  generalize wsum 1 b1 = A at h
  generalize wsum (1 + b1.length + 1 + 1) b2 = B at h
  generalize 1 + b1.length = k at h
  rw [Nat.mul_add, Nat.mul_add, Nat.mul_one, Nat.mul_one] at h
  have e := sum_ne h (by omega) (by omega)
  omega
/-- a place of a row: in the length, the first blank, in the sum, the second blank, in the body -/
theorem split_at {A y l r : List Nat} {u : Nat} (h : A ++ 32 :: y = l ++ u :: r) : (∃ A2, A = l ++ u :: A2 ∧ r = A2 ++ 32 :: y) ∨ (l = A ∧ u = 32 ∧ r = y) ∨ ∃ y1, l = A ++ 32 :: y1 ∧ y = y1 ++ u :: r := by
  rw [List.append_eq_append_iff] at h
  rcases h with ⟨a', e1, e2⟩ | ⟨c', e1, e2⟩
  · cases a' with
    | nil =>
      rw [List.append_nil] at e1
      rw [List.nil_append] at e2
      obtain ⟨q1, q2⟩ := List.cons.inj e2
      exact .inr (.inl ⟨e1, q1.symm, q2.symm⟩)
    | cons d a' =>
      rw [List.cons_append] at e2
      obtain ⟨q1, q2⟩ := List.cons.inj e2
      subst q1
      exact .inr (.inr ⟨a', e1, q2⟩)
  · cases c' with
    | nil =>
      rw [List.append_nil] at e1
      rw [List.nil_append] at e2
      obtain ⟨q1, q2⟩ := List.cons.inj e2
      exact .inr (.inl ⟨e1.symm, q1, q2⟩)
    | cons d c' =>
      rw [List.cons_append] at e2
      obtain ⟨q1, q2⟩ := List.cons.inj e2
      subst q1
      exact .inl ⟨c', e1, q2⟩
theorem notin_l {A l r : List Nat} {u : Nat} (e : A = l ++ u :: r) (h : 32 ∉ A) : 32 ∉ l ∧ u ≠ 32 ∧ 32 ∉ r := by
  subst e
  refine ⟨fun m => h (List.mem_append_left _ m), fun m => h (by rw [m]; exact List.mem_append_right _ (List.mem_cons_self ..)), fun m => h (List.mem_append_right _ (List.mem_cons_of_mem _ m))⟩
theorem sub_row {b l r : List Nat} {u v : Nat} (hb : ∀ c ∈ b, c < 128) (hl : b.length ≤ 4990) (h : rowL b = l ++ u :: r) (hv : v < 128) (ne : v ≠ u) : ¬ IsRow (l ++ v :: r) := by
  rintro ⟨b', e⟩
  have hA := num32 b.length
  have hB := num32 (sumL b)
  unfold rowL at h e
  rcases split_at h with ⟨A2, e1, e2⟩ | ⟨e1, e2, e3⟩ | ⟨y1, e1, e2⟩
  · -- in the length
    obtain ⟨n1, n2, n3⟩ := notin_l e1 hA
    subst e2
    by_cases c : v = 32
    · subst c
      obtain ⟨q1, q2⟩ := cutN n1 e
      obtain ⟨q3, q4⟩ := cutN n3 q2
      have := congrArg List.length q4
      have hlen : (numL b.length).length ≤ (numL b'.length).length := numL_mono _ _ (by rw [← this]; simp; omega)
      rw [e1, ← q1] at hlen
      simp at hlen
      omega
    · rw [show l ++ v :: (A2 ++ 32 :: (numL (sumL b) ++ 32 :: b)) = (l ++ v :: A2) ++ 32 :: (numL (sumL b) ++ 32 :: b) by simp] at e
      obtain ⟨q1, q2⟩ := cutN (not_in_app n1 (not_in_cons c n3)) e
      obtain ⟨q3, q4⟩ := cutN hB q2
      subst q4
      rw [e1] at q1
      have := List.append_cancel_left q1
      exact ne (List.cons.inj this).1
  · -- the first blank
    subst e1 e2 e3
    rw [show numL b.length ++ v :: (numL (sumL b) ++ 32 :: b) = (numL b.length ++ v :: numL (sumL b)) ++ 32 :: b by simp] at e
    obtain ⟨q1, q2⟩ := cutN (not_in_app hA (not_in_cons ne hB)) e
    have hlen : (numL b'.length).length ≤ (numL b.length).length := numL_mono _ _ (by rw [q2]; simp; omega)
    rw [← q1] at hlen
    simp at hlen
    omega
  · -- behind it
    subst e1
    rw [show numL b.length ++ 32 :: y1 ++ v :: r = numL b.length ++ 32 :: (y1 ++ v :: r) by simp] at e
    obtain ⟨q1, q2⟩ := cutN hA e
    have en := numL_inj q1
    rcases split_at e2 with ⟨B2, e3, e4⟩ | ⟨e3, e4, e5⟩ | ⟨b1, e3, e4⟩
    · -- in the sum
      obtain ⟨n1, n2, n3⟩ := notin_l e3 hB
      subst e4
      by_cases c : v = 32
      · subst c
        obtain ⟨q3, q4⟩ := cutN n1 q2
        have := congrArg List.length q4
        rw [← en] at this
        simp at this
        omega
      · rw [show y1 ++ v :: (B2 ++ 32 :: b) = (y1 ++ v :: B2) ++ 32 :: b by simp] at q2
        obtain ⟨q3, q4⟩ := cutN (not_in_app n1 (not_in_cons c n3)) q2
        subst q4
        rw [e3] at q3
        exact ne (List.cons.inj (List.append_cancel_left q3)).1
    · -- the second blank
      subst e3 e4 e5
      rw [show numL (sumL r) ++ v :: r = (numL (sumL r) ++ [v]) ++ r by simp] at q2
      have hS : 32 ∉ numL (sumL r) ++ [v] := not_in_app hB (not_in_cons ne (List.not_mem_nil))
      rcases List.append_eq_append_iff.mp q2 with ⟨a', e1, e2⟩ | ⟨c', e1, e2⟩
      · have := congrArg List.length e2
        simp at this
        omega
      · cases c' with
        | nil =>
          have := congrArg List.length e2
          simp at this
          omega
        | cons d c' =>
          have := (List.cons.inj e2).1
          exact hS (by rw [e1, ← this]; exact List.mem_append_right _ (List.mem_cons_self ..))
    · -- in the body
      subst e3
      rw [show numL (sumL b) ++ 32 :: b1 ++ v :: r = numL (sumL b) ++ 32 :: (b1 ++ v :: r) by simp] at q2
      obtain ⟨q3, q4⟩ := cutN hB q2
      have es := numL_inj q3
      rw [e4, ← q4] at es
      have hu : u < 128 := hb u (by rw [e4]; exact List.mem_append_right _ (List.mem_cons_self ..))
      have hl2 : b1.length + r.length + 1 ≤ 5000 := by
        have := congrArg List.length e4
        simp at this
        omega
      exact ne (sum_set hu hv hl2 es).symm
/-! ### two neighbours exchanged -/
theorem swap_row {b l r : List Nat} {u v : Nat} (hb : ∀ c ∈ b, c < 128) (h : rowL b = l ++ u :: v :: r) (ne : u ≠ v) : ¬ IsRow (l ++ v :: u :: r) := by
  rintro ⟨b', e⟩
  have hA := num32 b.length
  have hB := num32 (sumL b)
  unfold rowL at h e
  rcases split_at h with ⟨A2, e1, e2⟩ | ⟨e1, e2, e3⟩ | ⟨y1, e1, e2⟩
  · cases A2 with
    | nil =>
      -- the length's last figure and the first blank
      obtain ⟨q1, q2⟩ := List.cons.inj e2
      obtain ⟨n1, n2, n3⟩ := notin_l e1 hA
      subst q1 q2
      obtain ⟨q1, q2⟩ := cutN n1 e
      rw [show u :: (numL (sumL b) ++ 32 :: b) = (u :: numL (sumL b)) ++ 32 :: b by simp] at q2
      obtain ⟨q3, q4⟩ := cutN (not_in_cons n2 hB) q2
      subst q4
      rw [q1] at e1
      have := congrArg List.length e1
      simp at this
    | cons d A2 =>
      rw [List.cons_append] at e2
      obtain ⟨q1, q2⟩ := List.cons.inj e2
      subst q1 q2
      obtain ⟨n1, n2, n3⟩ := notin_l e1 hA
      rw [show l ++ v :: u :: (A2 ++ 32 :: (numL (sumL b) ++ 32 :: b)) = (l ++ v :: u :: A2) ++ 32 :: (numL (sumL b) ++ 32 :: b) by simp] at e
      obtain ⟨q1, q2⟩ := cutN (not_in_app n1 (not_in_cons (fun z => n3 (by rw [z]; exact List.mem_cons_self ..)) (not_in_cons n2 fun m => n3 (List.mem_cons_of_mem _ m)))) e
      obtain ⟨q3, q4⟩ := cutN hB q2
      subst q4
      rw [e1] at q1
      exact ne (List.cons.inj (List.append_cancel_left q1)).1.symm
  · -- the first blank and the sum's first figure
    subst e1 e2
    cases hs : numL (sumL b) with
    | nil => exact numL_ne _ hs
    | cons d t =>
      rw [hs] at e3 hB
      rw [List.cons_append] at e3
      obtain ⟨q1, q2⟩ := List.cons.inj e3
      subst q1 q2
      obtain ⟨n1, n2⟩ : v ≠ 32 ∧ 32 ∉ t := ⟨fun z => hB (by rw [z]; exact List.mem_cons_self ..), fun m => hB (List.mem_cons_of_mem _ m)⟩
      rw [show numL b.length ++ v :: 32 :: (t ++ 32 :: b) = (numL b.length ++ [v]) ++ 32 :: (t ++ 32 :: b) by simp] at e
      obtain ⟨q1, q2⟩ := cutN (not_in_app hA (not_in_cons n1 List.not_mem_nil)) e
      obtain ⟨q3, q4⟩ := cutN n2 q2
      subst q4
      have := congrArg List.length q1
      simp at this
  · subst e1
    rw [show numL b.length ++ 32 :: y1 ++ v :: u :: r = numL b.length ++ 32 :: (y1 ++ v :: u :: r) by simp] at e
    obtain ⟨q1, q2⟩ := cutN hA e
    have en := numL_inj q1
    rcases split_at e2 with ⟨B2, e3, e4⟩ | ⟨e3, e4, e5⟩ | ⟨b1, e3, e4⟩
    · obtain ⟨n1, n2, n3⟩ := notin_l e3 hB
      cases B2 with
      | nil =>
        obtain ⟨q3, q4⟩ := List.cons.inj e4
        subst q3 q4
        obtain ⟨q3, q4⟩ := cutN n1 q2
        have := congrArg List.length q4
        rw [← en] at this
        simp at this
      | cons d B2 =>
        rw [List.cons_append] at e4
        obtain ⟨q3, q4⟩ := List.cons.inj e4
        subst q3 q4
        rw [show y1 ++ v :: u :: (B2 ++ 32 :: b) = (y1 ++ v :: u :: B2) ++ 32 :: b by simp] at q2
        obtain ⟨q3, q4⟩ := cutN (not_in_app n1 (not_in_cons (fun z => n3 (by rw [z]; exact List.mem_cons_self ..)) (not_in_cons n2 fun m => n3 (List.mem_cons_of_mem _ m)))) q2
        subst q4
        rw [e3] at q3
        exact ne (List.cons.inj (List.append_cancel_left q3)).1.symm
    · -- the second blank and the body's first sign
      subst e3 e4
      rw [show numL (sumL b) ++ v :: 32 :: r = (numL (sumL b) ++ [v]) ++ 32 :: r by simp] at q2
      obtain ⟨q3, q4⟩ := cutN (not_in_app hB (not_in_cons (Ne.symm ne) List.not_mem_nil)) q2
      have := congrArg List.length e5
      have h2 := congrArg List.length q4
      simp at this
      omega
    · subst e3
      rw [show numL (sumL b) ++ 32 :: b1 ++ v :: u :: r = numL (sumL b) ++ 32 :: (b1 ++ v :: u :: r) by simp] at q2
      obtain ⟨q3, q4⟩ := cutN hB q2
      have es := numL_inj q3
      rw [e4, ← q4] at es
      have hu : u < 128 := hb u (by rw [e4]; exact List.mem_append_right _ (List.mem_cons_self ..))
      have hv : v < 128 := hb v (by rw [e4]; exact List.mem_append_right _ (List.mem_cons_of_mem _ (List.mem_cons_self ..)))
      exact ne (sum_swap hu hv es)
/-! ### an early end -/
theorem end_row {b l : List Nat} {u : Nat} {r : List Nat} (h : rowL b = l ++ u :: r) : ¬ IsRow l := by
  rintro ⟨b', e⟩
  have hA := num32 b.length
  have hB := num32 (sumL b)
  unfold rowL at h e
  subst e
  rw [show numL b'.length ++ 32 :: (numL (sumL b') ++ 32 :: b') ++ u :: r = numL b'.length ++ 32 :: (numL (sumL b') ++ 32 :: (b' ++ u :: r)) by simp] at h
  obtain ⟨q1, q2⟩ := cutN hA h
  obtain ⟨q3, q4⟩ := cutN hB q2
  have en := numL_inj q1
  have := congrArg List.length q4
  simp at this
  omega
/-! ### where a sign stands -/
def occL (c : Nat) : Nat → Nat → List Nat → List Nat
  | _, _, [] => []
  | 0, _, _ :: _ => []
  | m + 1, i, d :: r => if d = c then i :: occL c m (i + 1) r else occL c (m + 1) (i + 1) r
theorem occL_zero (c i : Nat) (l : List Nat) : occL c 0 i l = [] := by cases l <;> rfl
theorem sub_one (x : Str) (c i : Nat) : PySem.Builtin.Str.subAt x ⟨#[c]⟩ i = decide ((DL.tl x)[i]? = some c) := by
  rw [StrLaws.subAt_eq]
  show (((DL.tl x).drop i).take 1 == [c]) = _
  cases h : (DL.tl x)[i]? with
  | none =>
    rw [List.drop_eq_nil_of_le (by simpa using h)]
    rfl
  | some d =>
    obtain ⟨hi, e⟩ := List.getElem?_eq_some_iff.mp h
    rw [List.drop_eq_getElem_cons hi, e]
    show ([d] == [c]) = decide (some d = some c)
    by_cases q : d = c
    · subst q; simp
    · simp [q]
theorem occ_run (x : Str) (c m : Nat) : ∀ (n a : Nat) (st : Array Nat × Nat), a + n = x.length → st.1.size ≤ m → st.2 ≤ a →
    (forIn (List.range' a (n + 1)) st (StrLaws.occBody x ⟨#[c]⟩ x.length m)).run.1.toList = st.1.toList ++ occL c (m - st.1.size) a ((DL.tl x).drop a)
  | 0, a, st, h, h1, h2 => by
    have e : (DL.tl x).drop a = [] := List.drop_eq_nil_of_le (by rw [← DL.len_tl]; omega)
    rw [show List.range' a (0 + 1) = [a] from rfl, List.forIn_cons]
    unfold StrLaws.occBody
    rw [if_neg (fun q => by have := q.1.2; rw [DL.one_len] at this; omega), e]
    show st.1.toList = st.1.toList ++ occL c (m - st.1.size) a []
    unfold occL
    simp
  | n + 1, a, st, h, h1, h2 => by
    have hlt : a < (DL.tl x).length := by rw [← DL.len_tl]; omega
    have e : (DL.tl x).drop a = (DL.tl x)[a] :: (DL.tl x).drop (a + 1) := List.drop_eq_getElem_cons hlt
    rw [show List.range' a (n + 1 + 1) = a :: List.range' (a + 1) (n + 1) from rfl, List.forIn_cons, e]
    unfold StrLaws.occBody
    by_cases q : st.1.size < m ∧ (DL.tl x)[a] = c
    · have hs : PySem.Builtin.Str.subAt x ⟨#[c]⟩ a = true := by rw [sub_one, List.getElem?_eq_getElem hlt, q.2]; simp
      rw [if_pos ⟨⟨⟨q.1, h2⟩, by rw [DL.one_len]; omega⟩, hs⟩]
      have ih := occ_run x c m n (a + 1) (st.1.push a, a + 1) (by omega) (by rw [Array.size_push]; omega) (Nat.le_refl _)
      rw [Array.size_push] at ih
      have em : m - st.1.size = (m - (st.1.size + 1)) + 1 := by omega
      rw [em]
      show _ = st.1.toList ++ occL c ((m - (st.1.size + 1)) + 1) a ((DL.tl x)[a] :: (DL.tl x).drop (a + 1))
      rw [occL, if_pos q.2]
      refine ih.trans ?_
      simp
    · have hn : ¬ (((st.1.size < m ∧ st.2 ≤ a) ∧ a + Str.length ⟨#[c]⟩ ≤ x.length) ∧ PySem.Builtin.Str.subAt x ⟨#[c]⟩ a = true) := fun z => q ⟨z.1.1.1, by
        have := z.2
        rw [sub_one, List.getElem?_eq_getElem hlt] at this
        exact Option.some.inj (of_decide_eq_true this)⟩
      rw [if_neg hn]
      have ih := occ_run x c m n (a + 1) (st.1, st.2) (by omega) h1 (by show st.2 ≤ a + 1; omega)
      refine ih.trans ?_
      congr 1
      cases hm : m - st.1.size with
      | zero => rw [occL_zero, occL_zero]
      | succ k => rw [occL, if_neg fun z => q ⟨by omega, z⟩]
theorem occ_list (x : Str) (c m : Nat) : PySem.Builtin.Str.occurrences x ⟨#[c]⟩ 0 x.length m = occL c m 0 (DL.tl x) := by
  rw [StrLaws.occ_eq]
  have := occ_run x c m x.length 0 (#[], 0) (by omega) (Nat.zero_le _) (Nat.le_refl _)
  simpa using this
/-- the first two blanks of a row -/
theorem occL_skip {c : Nat} {m : Nat} : ∀ {a : List Nat} {i : Nat} {r : List Nat}, c ∉ a → occL c (m + 1) i (a ++ c :: r) = (i + a.length) :: occL c m (i + a.length + 1) r
  | [], i, r, _ => by rw [List.nil_append, occL, if_pos rfl]; rfl
  | d :: a, i, r, h => by
    rw [List.cons_append, occL, if_neg fun e => h (by rw [e]; exact List.mem_cons_self ..), occL_skip fun z => h (List.mem_cons_of_mem _ z), List.length_cons]
    rw [show i + 1 + a.length = i + (a.length + 1) by omega]
/-- the text of a row -/
def rowS (b : Str) : Str := ⟨(rowL (DL.tl b)).toArray⟩
theorem tl_rowS (b : Str) : DL.tl (rowS b) = rowL (DL.tl b) := rfl
theorem sep_kind (x : Str) : ¬ PySem.Builtin.Str.strKind x < PySem.Builtin.Str.strKind ⟨#[32]⟩ := TL.kind_ok (by simp)
theorem max_row (b : Str) : Txt.splitMax (rowS b) ⟨#[32]⟩ 2 = [⟨(numL (DL.tl b).length).toArray⟩, ⟨(numL (sumL (DL.tl b))).toArray⟩, b] := by
  have ho : PySem.Builtin.Str.occurrences (rowS b) ⟨#[32]⟩ 0 (rowS b).length (limitOf (rowS b) 2) = [(numL (DL.tl b).length).length, (numL (DL.tl b).length).length + 1 + (numL (sumL (DL.tl b))).length] := by
    rw [occ_list, show limitOf (rowS b) 2 = 2 from rfl, tl_rowS]
    unfold rowL
    rw [occL_skip (num32 _), occL_skip (num32 _), occL_zero]
    simp
  have hlen : (rowS b).length = (numL (DL.tl b).length).length + 1 + (numL (sumL (DL.tl b))).length + 1 + (DL.tl b).length := by
    rw [DL.len_tl, tl_rowS]
    unfold rowL
    simp
    omega
  unfold Txt.splitMax
  have n1 : ¬ (decide ((rowS b).length < (⟨#[32]⟩ : Str).length) || decide (PySem.Builtin.Str.strKind (rowS b) < PySem.Builtin.Str.strKind ⟨#[32]⟩)) = true := by
    rw [Bool.or_eq_true]
    rintro (h | h)
    · have := of_decide_eq_true h
      rw [hlen, DL.one_len] at this
      omega
    · exact sep_kind _ (of_decide_eq_true h)
  rw [ho, if_neg n1, if_neg (by simp)]
  generalize hd : numL (DL.tl b).length = d at hlen ⊢
  generalize hs : numL (sumL (DL.tl b)) = e at hlen ⊢
  have hrow : DL.tl (rowS b) = d ++ 32 :: (e ++ 32 :: DL.tl b) := by rw [tl_rowS]; unfold rowL; rw [hd, hs]
  have key : ∀ (l m r : List Nat) (k : Nat), DL.tl (rowS b) = l ++ m ++ r → k = l.length + m.length → PySem.Builtin.Str.strSub (rowS b) l.length k = ⟨m.toArray⟩ := fun l m r k h1 h2 => by
    refine DL.ext_tl ?_
    rw [show DL.tl (PySem.Builtin.Str.strSub (rowS b) l.length k) = ((DL.tl (rowS b)).drop l.length).take (k - l.length) from TL.tl_strSub .., h1, h2, List.append_assoc, List.drop_left' rfl, Nat.add_sub_cancel_left, List.take_left' rfl]
  have k1 := key [] d (32 :: (e ++ 32 :: DL.tl b)) d.length (by rw [hrow]; rfl) (by simp)
  have k2 := key (d ++ [32]) e (32 :: DL.tl b) (d.length + 1 + e.length) (by rw [hrow]; simp) (by simp)
  have k3 := key (d ++ [32] ++ e ++ [32]) (DL.tl b) [] (rowS b).length (by rw [hrow]; simp) (by rw [hlen]; simp; omega)
  have l2 : (d ++ [32]).length = d.length + 1 := by simp
  have l3 : (d ++ [32] ++ e ++ [32]).length = d.length + 1 + e.length + 1 := by simp; omega
  rw [l2] at k2
  rw [l3] at k3
  show [PySem.Builtin.Str.strSub (rowS b) 0 d.length, PySem.Builtin.Str.strSub (rowS b) (d.length + 1) (d.length + 1 + e.length), PySem.Builtin.Str.strSub (rowS b) (d.length + 1 + e.length + 1) (rowS b).length] = _
  rw [show (0 : Nat) = ([] : List Nat).length from rfl, k1, k2, k3]
/-- what body_of tells -/
def bodyD (x : Str) : DV := match (Txt.splitMax x ⟨#[32]⟩ 2).reverse with
  | b :: r => if r.length = 2 ∧ rowS b = x then .str b else .non
  | [] => .non
theorem bodyD_row (b : Str) : bodyD (rowS b) = .str b := by
  unfold bodyD
  rw [max_row]
  show (if (2 : Nat) = 2 ∧ rowS b = rowS b then DV.str b else .non) = _
  rw [if_pos ⟨rfl, rfl⟩]
theorem bodyD_not {x : Str} (h : ¬ IsRow (DL.tl x)) : bodyD x = .non := by
  unfold bodyD
  split
  · rename_i b r e
    rw [if_neg]
    rintro ⟨_, q⟩
    exact h ⟨DL.tl b, by rw [← q]; rfl⟩
  · rfl
/-- by the parts -/
theorem bodyD_parts {x b : Str} {r : List Str} (e : Txt.splitMax x ⟨#[32]⟩ 2 = r ++ [b]) : bodyD x = if r.length = 2 ∧ rowS b = x then .str b else .non := by
  unfold bodyD
  rw [e, List.reverse_append]
  show (if r.reverse.length = 2 ∧ rowS b = x then DV.str b else .non) = _
  rw [List.length_reverse]
theorem parts_ne (x : Str) : ∃ r b, Txt.splitMax x ⟨#[32]⟩ 2 = r ++ [b] := by
  have h : Txt.splitMax x ⟨#[32]⟩ 2 ≠ [] := by
    unfold Txt.splitMax
    split
    · exact fun z => nomatch z
    · split
      · exact fun z => nomatch z
      · intro z
        have := congrArg List.length z
        simp [PySem.Builtin.Str.partsBetween] at this
  exact ⟨_, _, (List.dropLast_concat_getLast h).symm⟩
theorem part_len {x b : Str} {r : List Str} (e : Txt.splitMax x ⟨#[32]⟩ 2 = r ++ [b]) : b.length ≤ x.length := partMax_short (k := 2) (y := ⟨#[32]⟩) (by rw [e]; exact List.mem_append_right _ (List.mem_singleton.mpr rfl))
end RW

set_option Elab.async false
set_option linter.all false
set_option maxRecDepth 100000
set_option maxHeartbeats 4000000
namespace DL
open PySem PySem.Spec PyProof.Rows L2
variable {X : Cx} {A : Anc}
/-! ### int(truth), int(number) -/
def dIntF (ds : List DV) (s : Sto) (Q : KD) : Prop := match ds with
  | [.int i] => Q (.int i) s
  | [.bl b] => Q (.int (if b then 1 else 0)) s
  | _ => False
theorem dIntF_q1 {i : Int} {s : Sto} {Q : KD} : dIntF [.int i] s Q = Q (.int i) s := propext Iff.rfl
theorem dIntF_q2 {b : Bool} {s : Sto} {Q : KD} : dIntF [.bl b] s Q = Q (.int (if b then 1 else 0)) s := propext Iff.rfl
theorem cd_int : CallR X (.type "int") (lC X.K dIntF) := callImp call_int1 fun xs H Q h => by
  obtain ⟨ds, s, Q', rep, dv, r, k⟩ := h
  unfold dIntF at r
  split at r
  · cases dv with
    | cons h t => cases t; cases h; exact .inl ⟨_, rfl, k _ H _ s (Stp.refl s H) rep (.int _) r⟩
  · cases dv with
    | cons h t => cases t; cases h; exact .inr ⟨_, rfl, k _ H _ s (Stp.refl s H) rep (.int _) r⟩
  · exact r.elim
/-! ### a text times a number -/
def dMulT (x y : DV) (s : Sto) (Q : KD) : Prop := match x, y with
  | .str z, .int k => (1 ≤ k ∧ k ≤ 10000 ∧ 1 ≤ z.length ∧ z.length ≤ 1000) ∧ Q (.str (repS z k)) s
  | _, _ => False
theorem dMulT_q {z : Str} {k : Int} {s : Sto} {Q : KD} : dMulT (.str z) (.int k) s Q = ((1 ≤ k ∧ k ≤ 10000 ∧ 1 ≤ z.length ∧ z.length ≤ 1000) ∧ Q (.str (repS z k)) s) := propext Iff.rfl
theorem op_mulT : OpR X (binaryOp .Mult) (fun x y H Q => ∃ z k, x = .str z ∧ y = .int k ∧ (1 ≤ k ∧ k ≤ 10000 ∧ 1 ≤ z.length ∧ z.length ≤ 1000) ∧ Q (.str (repS z k)) H) := by
  intro pins s σ H x y v u Q I rx ry h
  obtain ⟨z, k, rfl, rfl, ⟨h1, h2, h3, h4⟩, q⟩ := h
  obtain ⟨t, rfl⟩ := rx
  obtain ⟨t', rfl⟩ := ry
  have hm : z.length * k.toNat ≤ 1000 * 10000 := Nat.mul_le_mul h4 (by omega)
  have n1 : ¬ k < 1 := by omega
  refine PySem.P.mul_str ?_ (fun _ _ => ?_) (fun _ _ => ?_) ?_
  · rw [decide_eq_false (by omega), decide_eq_false (by omega)]; rfl
  · have h5 : (1000 : Int) ≤ (2 ^ 63 - 1) / k := by
      rw [Int.le_ediv_iff_mul_le (by omega)]
      omega
    omega
  · show decide (z.length * k.toNat > sizeLine) = false
    rw [decide_eq_false]
    rw [sizeLine_eq]
    omega
  · rw [if_neg n1]
    by_cases hk : k = 1
    · subst hk
      rw [if_pos (by simp)]
      refine ⟨.str _, H, I, ⟨_, rfl⟩, ?_⟩
      have e : repS z 1 = z := ext_tl (by show tl (repS z 1) = tl z; rw [show tl (repS z 1) = _ from repS_list z 1]; simp)
      rw [← e]
      exact q
    · have n2 : (k == 1 || z.length == 0) = false := by
        rw [Bool.or_eq_false_iff]
        exact ⟨by simpa using hk, by simpa using (show z.length ≠ 0 by omega)⟩
      rw [if_neg (by rw [n2]; exact Bool.false_ne_true)]
      refine ⟨?_, .str _, H, I.tok _, ⟨_, rfl⟩, q⟩
      show (repS z k).length ≤ sizeLine
      rw [repS_length, Nat.mul_comm, sizeLine_eq]
      omega
theorem od_mulT : OpD X (binaryOp .Mult) dMulT := opImp op_mulT fun x y H Q h => by
  obtain ⟨dx, dy, s, Q', rep, hx, hy, r, k⟩ := h
  unfold dMulT at r
  split at r
  · cases hx; cases hy
    exact ⟨_, _, rfl, rfl, r.1, k _ H _ s (Stp.refl s H) rep (.str _) r.2⟩
  · exact r.elim
/-! ### *a, b = a list, a and b names -/
def kStarN (i j : Nat) (δ : Ed) (s : Sto) (Q : Ed → Sto → Prop) (o : Option (List DV)) : Prop := ∃ ds d, o = some (ds ++ [d]) ∧ Q ((δ.set i (some (.lst ds))).set j (some d)) s
def gStarN (i j : Nat) (d : DV) (δ : Ed) (s : Sto) (Q : Ed → Sto → Prop) : Prop := kStarN i j δ s Q (lstD s d)
theorem gStarN_q {i j : Nat} {d : DV} {δ : Ed} {s : Sto} {Q : Ed → Sto → Prop} : gStarN i j d δ s Q = kStarN i j δ s Q (lstD s d) := propext Iff.rfl
theorem dgstarN {i j k : Nat} {x y : Str} {px py pa pos : Pos} (hc : X.calm = true) (hN : X.N.Nodup) (hi : X.N[i]? = some x) (hj : X.N[j]? = some y) (hx : Loc X.env.scope x) (hy : Loc X.env.scope y)
    (hfx : X.fn x = true ∨ X.env.scope.names.lookup x = some .local := by first | exact .inl rfl | exact .inr rfl | assumption) (hfy : X.fn y = true ∨ X.env.scope.names.lookup y = some .local := by first | exact .inl rfl | exact .inr rfl | assumption)
    (he : assignEach [.Starred (.Name x px) pa, .Name y py] X.env = [(true, assign (.Name x px) X.env), (false, assign (.Name y py) X.env)] := by rfl)
    (h2 : (assignEach [.Name x px, .Name y py] X.env).map (·.2) = [assign (.Name x px) X.env, assign (.Name y py) X.env] := by rfl)
    (h3 : (assignEach [.Name y py] X.env).map (·.2) = [assign (.Name y py) X.env] := by rfl) : PGd A X (.Tuple [.Starred (.Name x px) pa, .Name y py] k pos) (gStarN i j) :=
  pgImp (pg_star2 hc (pgs_cons (pg_name hN hi hx hfx) (pgs_cons (pg_name hN hj hy hfy) pgs_nil h3) (by rw [h2, h3])) he h2) fun v σ H Q hh => by
  obtain ⟨d, δ, s, Q', S, dv, ⟨ds, z, e, g⟩, kk⟩ := hh
  obtain ⟨a, xs, rfl, hq, l⟩ := lstD_ok S.rep dv e
  obtain ⟨vs, v, rfl, l1, l2⟩ := DatL.snocInv l
  refine ⟨a, vs, v, rfl, hq, fun p hp => ?_⟩
  have st := Stp.newF (s := s) (o := .lst vs) hp
  have rep := S.rep.newF (o := .lst vs) hp
  have S1 := S.go st rep
  have d1 : Dat X.K s (upd H p (.lst vs)) (.ref p) (.lst ds) := .lst upd_same (S.rep.fresh hp) (l1.step st S.rep)
  have d2 := l2.step st S.rep
  refine ⟨_, _, rfl, ⟨_, _, rfl, rfl, kk _ _ _ s ⟨S1.stp, S1.rep, (S1.env.set d1 i).set d2 j⟩ g⟩⟩
/-! ### small ones -/
theorem ifS_true {c : TTd} {a b : TSd} {D : EndsD} {δ : Ed} {s : Sto} (hc : ∀ Q : Bool → Sto → Prop, Q true s → c δ s Q) (h : a D δ s) : dIfS c a b D δ s := hc _ h
theorem ifS_false {c : TTd} {a b : TSd} {D : EndsD} {δ : Ed} {s : Sto} (hc : ∀ Q : Bool → Sto → Prop, Q false s → c δ s Q) (h : b D δ s) : dIfS c a b D δ s := hc _ h
theorem ixD_all {P : DV → Prop} {ds : List DV} {r : Int} {s : Sto} {Q : KD} (h : ∀ d ∈ ds, P d) (h0 : 0 ≤ r) (h1 : r < ds.length) (k : ∀ d, P d → Q d s) : ixD (atI ds r) s Q := by
  obtain ⟨d, e, hd⟩ := atI_all h h0 h1
  rw [e]
  exact k d hd
theorem chr_all {P : Nat → Prop} {ds : List Nat} {r : Int} {s : Sto} {Q : KD} (h : ∀ d ∈ ds, P d) (h0 : 0 ≤ r) (h1 : r < ds.length) (k : ∀ c, P c → Q (.str ⟨#[c]⟩) s) : kChr s Q (atI ds r) := by
  obtain ⟨d, e, hd⟩ := atI_all h h0 h1
  rw [e]
  exact k d hd
/-! ### an item of an object of the store -/
def kIxK (s : Sto) (Q : KD) (ks : List (Key × DV)) : Option Key → Prop
  | some k => ixD (getP ks k) s Q
  | none => False
theorem kIxK_q {s : Sto} {Q : KD} {ks : List (Key × DV)} {k : Key} : kIxK s Q ks (some k) = ixD (getP ks k) s Q := propext Iff.rfl
def kIxR (s : Sto) (Q : KD) (y : DV) : Option MO → Prop
  | some (.lst ds) => match y with
    | .int i => ixD (atI ds i) s Q
    | _ => False
  | some (.dK ks) => kIxK s Q ks (keyD y)
  | _ => False
theorem kIxR_q1 {s : Sto} {Q : KD} {ds : List DV} {i : Int} : kIxR s Q (.int i) (some (.lst ds)) = ixD (atI ds i) s Q := propext Iff.rfl
theorem kIxR_q2 {s : Sto} {Q : KD} {ks : List (Key × DV)} {y : DV} : kIxR s Q y (some (.dK ks)) = kIxK s Q ks (keyD y) := propext Iff.rfl
theorem dIx_re {s : Sto} {Q : KD} {a : Addr} {y : DV} : dIx (.ref a) y s Q = kIxR s Q y (s a) := by
  unfold dIx
  simp only [seqD_re]
  cases e : s a with
  | none => simp only [refL, kIxR, dictD, e]
  | some m =>
    cases m with
    | lst ds => cases y <;> simp only [refL, kIxR]
    | dK ks => simp only [refL, kIxR, dictD, e]; cases keyD y <;> simp only [kIxK]
    | _ => simp only [refL, kIxR, dictD, e]
end DL

set_option Elab.async false
set_option linter.all false
set_option maxRecDepth 100000
set_option maxHeartbeats 4000000
namespace Law
open PySem PySem.Spec PyProof.Rows L2 DL
def top (i : Nat) : Stmt := PySem.Challenge.pw_eventledger_k05_whole_each_flip_is_found.main.body.getD i (.Pass ⟨0, 0, 0, 0⟩)
abbrev s_sum_of : Stmt := top 2
abbrev n_sum_of : List Str := ["text", "modulus", "total", "place", "sign"]
theorem sc_sum_of : FnScope n_sum_of ["text", "modulus"] (defScope s_sum_of) := ⟨rfl, rfl, rfl, by decide +kernel, rfl, by decide +kernel, by decide +kernel⟩
abbrev s_framed : Stmt := top 3
abbrev n_framed : List Str := ["body"]
theorem sc_framed : FnScope n_framed ["body"] (defScope s_framed) := ⟨rfl, rfl, rfl, by decide +kernel, rfl, by decide +kernel, by decide +kernel⟩
abbrev s_body_of : Stmt := top 4
abbrev n_body_of : List Str := ["row", "ahead", "body"]
theorem sc_body_of : FnScope n_body_of ["row"] (defScope s_body_of) := ⟨rfl, rfl, rfl, by decide +kernel, rfl, by decide +kernel, by decide +kernel⟩
abbrev s__law_dealt : Stmt := top 6
abbrev n__law_dealt : List Str := ["script"]
theorem sc__law_dealt : FnScope n__law_dealt ["script"] (defScope s__law_dealt) := ⟨rfl, rfl, rfl, by decide +kernel, rfl, by decide +kernel, by decide +kernel⟩
abbrev s__law_pick : Stmt := top 7
abbrev n__law_pick : List Str := ["hand", "many", "digit", "turn", "cell", "mixed"]
theorem sc__law_pick : FnScope n__law_pick ["hand", "many"] (defScope s__law_pick) := ⟨rfl, rfl, rfl, by decide +kernel, rfl, by decide +kernel, by decide +kernel⟩
abbrev s__law_alphabet : Stmt := top 8
abbrev n__law_alphabet : List Str := ["some"]
theorem sc__law_alphabet : FnScope n__law_alphabet [] (defScope s__law_alphabet) := ⟨rfl, rfl, rfl, by decide +kernel, rfl, by decide +kernel, by decide +kernel⟩
abbrev s__law_any_body : Stmt := top 9
abbrev n__law_any_body : List Str := ["hand", "most", "signs", "few", "found", "k"]
theorem sc__law_any_body : FnScope n__law_any_body ["hand", "most"] (defScope s__law_any_body) := ⟨rfl, rfl, rfl, by decide +kernel, rfl, by decide +kernel, by decide +kernel⟩
abbrev s__law_none : Stmt := top 10
abbrev n__law_none : List Str := ["written", "at", "signs", "sign", "both"]
theorem sc__law_none : FnScope n__law_none ["written", "at", "signs"] (defScope s__law_none) := ⟨rfl, rfl, rfl, by decide +kernel, rfl, by decide +kernel, by decide +kernel⟩
abbrev s_law : Stmt := top 11
abbrev n_law : List Str := ["script", "hand", "signs", "turn", "body", "written", "at", "size"]
theorem sc_law : FnScope n_law ["script"] (defScope s_law) := ⟨rfl, rfl, rfl, by decide +kernel, rfl, by decide +kernel, by decide +kernel⟩
structure Txt (K : PySem.W.Frag) (mg : Str → Option Value) : Prop where
  d_framed : DefAt K mg "framed" s_framed ["body"]
  d_body_of : DefAt K mg "body_of" s_body_of ["row"]
  d__law_dealt : DefAt K mg "_law_dealt" s__law_dealt ["script"]
  d__law_pick : DefAt K mg "_law_pick" s__law_pick ["hand", "many"]
  d__law_alphabet : DefAt K mg "_law_alphabet" s__law_alphabet []
  d__law_any_body : DefAt K mg "_law_any_body" s__law_any_body ["hand", "most"]
  d__law_none : DefAt K mg "_law_none" s__law_none ["written", "at", "signs"]
  d_law : DefAt K mg "law" s_law ["script"]
  b_len : mg "len" = none
  b_abs : mg "abs" = none
  b_ord : mg "ord" = none
  b_range : mg "range" = none
  b_list : mg "list" = none
  b_int : mg "int" = none
  b_enumerate : mg "enumerate" = none
local macro_rules | `(tactic| walk_at "dl") => `(tactic| (try simp only [kOp1_e, kOp2_e, kTest_q1, kChain1_e, kChain2_e, kChain3_q1, kChain3_q2, dChain_e, kAnd_q1, kAnd_q2, kOr_q1, kOr_q2, kNot_e, kIf_q1, kIf_q2, kTru_k, kTruO_q1, kTruO_q2, kCons1_e, kCons2_e, kTup_e, kLst_e, kLstM_e, kFrz_e, kDrop_q1, kRetS_e, kIfS_e, kAsg_e, kGCons_e, kPart_q1, kSl1_e, kSl2_e, kSl3_e, kSub1_e, kSub2_e, kCB_e, kBM1_e, kBM2_e, kIt_q, kItO_q, kRng1_q1, kRng2_q1, kWhile_e, kLc1_e, kLc2_e, kLc2', kLc3_e, finF_e, finM_e, kAndE_q1, kAndE_q2, kOrE_q1, kOrE_q2, kNotE_q1, kNeg_q1, kCall_e, kCallK_e, kCallK2_e, dCallK_e, kMeth, kMeth2_e, kMade_e, kMake_e, kMakeK_e, kMakeK2_e, dMakeK_e, kFld, kSetFld_e, kSetFld2, kAugFld, kAugN1_e, kAugN2_e, kPair1_q1, kPair2_q1, kPair3_e, kDisp, dSeq_e, dAsg_e, dVar_k, kVar_q1, kVar_q2, dC_e, dOp_e, gNameD_e, gNilD_e, gConsD_q1, gConsD_q2, gTupD_q1, gifT_q, gifF_q, dTest_e, dTru_e, truD_q1, truD_q2, truD_q3, truD_q5, truD_q6, truD_q7, truD, truD_qs, dAnd_e, dOr_e, dNot_e, dAndE_e, dOrE_e, dNotE_e, dNeg_e, dIf_e, dRet_e, dRetN_e, dRetS_e, dNext_e, dDrop_e, dBreak_e, dCont_e, dCB_e, dCons_e, dNil_e, dIx_str, dIx_lst_q, dIx_tup_q, dIx_scr_q, kChr_q1, kChr_q2, dIx_re, kIxR_q1, kIxR_q2, kIxK_q, ixD_q1, ixD_q2, dSl_e, dSlR_str_q, dSlR_tup_q, dSlR_lst_q, dSlR_scr, dSlR_q1, dSlR_q2, dSlM, dPart_e, dNoPart_e, dI_q1, dI0_q1, dAdd_int_q, dAdd_str_q, dAdd_tup_q, dAdd_lst_q, dAdd_q1, dAdd_q2, dAdd_q3, dMul_int_q, dMul_q1, dMul_q2, dLtB_q1, dLtB_q2, dEq_k, kEqO_q1, kEqO_q2, kEqS_q1, dNe_k, dIs_q1, dIs_q2, isNonD_q1, isNonD, dIn_tup_q, dIn_lst_q, dIn_str_q, dIn_q1, scalEq_q1, scalEq_q2, scalEq_q3, scalEq_q4, scalEq_q5, scalEq_q6, scalEq_q7, scalEq_q8, scalEq, pdS, pd_q1, pd_q2, pd_q3, pd_q4, pd_q5, pd_q6, pd_q7, pd_q8, pdL_q1, pdL, pdL_ints, pdL_strs, eqv_nil, List.isEmpty_map, refL_lst_q, refL_dK_q, refL_ins_q, lstD_lst_q, lstD_scr_q, lstD_tup_q, lstD_str_q, lstD_int_q, lstD_re, lstW_lst_q, lstW_tup_q, lstW_str_q, lstW_int_q, lstW_re, seqD_tup_q, seqD_lst_q, seqD_scr_q, seqD_str_q, seqD_int_q, seqD_re, dictD, keyD_q1, keyD_q2, keyD, dLen_k, kLenO_q1, kLenO_q2, lenD_q1, lenD_tup, lenD_lst, lenD_scr, lenD_re, lenO_q, dAbs_q1, dMin2_q1, dMax2_q1, dListM, dListF_k, kSeqF_q1, kSeqF_q2, dTupF_k, dOrd_q1, dStr_q1, dLst_e, dLstM_e, dTup_e, gSubD_e, dSetR, dFld_e, dSetFld_e, dAugFld_e, dAugN, dIpAdd_q1, dBM_e, tyD_q1, tyD_q2, tyD_q4, tyD_q5, tyD, dAppend, dPop, dJoin, strsD_map, dMeth_e, dCall_e, dMake_e, dFrz_e, frzR_lst_q, frzR_dK_q, frzR_ins_q, frz_int_q, frz_str_q, frz_bl_q, frz_non_q, frz_tup_q, frz_lst_q, frz_scr_q, frz_re, er_none, atI_zero, atI_one, ixN_zero, ixN_one, dDisp_e, dPairs, keysD_q1, keysD, dLc_e, dLcM_e, dFor_e, wipeD_q1, wipeD_q2, dYes_q1, dIt_e, itemsD_q1, itemsD_q2, itemsD_q3, itemsD_q4, itemsD, dRng1_e, dRng2_e, startD_q1, up_same, up_up, er_up, Option.map_some, List.map_cons, List.map_nil, List.length_map, List.length_cons, List.length_nil, List.replicate_succ, List.replicate_zero, List.cons_append, List.nil_append, List.append_nil, getD_qs, getD_q0, set_qs, set_q0, Nat.reduceSub, Nat.reduceAdd, Nat.zero_add, Nat.sub_zero, Bool.not_true, Bool.not_false, if_true, if_false, Bool.true_eq_false, Bool.false_eq_true, reduceIte, true_and, and_true, beq_self_eq_true, Int.reduceEq, Int.reduceLT, Int.reduceLE, Int.reduceAdd, Int.reduceSub, Int.reduceNeg, Int.reduceMul, decide_true, decide_false, dEnS_q, kEnS1_q, kEnS2_q, gStarN_q, gStarD_q, dFmt_q, kFmt_q1, kFmt_q2, dJst_q, dJs_q1, dJs_q2, kJs_q, dSplitK_q, dFind_q1, dFind_q2, dIntF_q1, dIntF_q2, dMulT_q, dPar2_q1, kPar2_q1, dPar3_q1, kPar3_q1, dRev_q1, kRev_q1, kRev_q2, kRev_q3, *]))
local macro_rules | `(tactic| walk_at "side") => `(tactic| first | omega | exact size_lt (by omega) | exact size_le (by omega) | exact mulS (by omega) (by omega) | exact mulS' (by omega) (by omega) | exact cdiv (by omega) (by omega) | exact shaped_ints _ | exact shaped_nil | assumption)
local macro_rules | `(tactic| walk_at "sides") => `(tactic| repeat ((with_reducible refine And.intro ?_ ?_); next => walk_at "side"))
local macro_rules | `(tactic| walk_at "if") => `(tactic| (refine ifS ?_; walk_at "dl"))
local macro_rules | `(tactic| walk_at "for") => `(tactic| (unfold dFor; walk_at "dl"; walk_at "sides"))
local macro_rules | `(tactic| walk_at "upf") => `(tactic| first | exact up_same | assumption | ((rw [up_ne (by first | assumption | exact Ne.symm (by assumption))]); walk_at "upf") | ((rw [er_ne (by first | assumption | exact Ne.symm (by assumption))]); walk_at "upf"))

variable {P : Program} {w : World} {K : PySem.W.Frag} {mg : Str → Option Value} {base : Heap}
/-! ### the hand -/
def handL (ns : List Int) (a l : Int) : List DV := [.lst (ns.map DV.int), .int a, .int l]
def spDealt : Spd := fun ds s Q _ => ∃ ns : List Int, ds = [.scr (ns.map DV.int)] ∧ ns.length ≤ 63 ∧ Kp (∀ p, s p = none → Q (.ref p) (up s p (.lst (handL ns 0 0))))
theorem ok_dealt (T : Txt K mg) : Fn P w K mg base "_law_dealt" 1 ["script"] spDealt := by
  refine fnOk T.d__law_dealt sc__law_dealt (fun ds s Q E h => ?_) (fun A f cdv Ar outer s H E hr => (ds1 (dsret (dlstM (dac (dcallTy cd_listF T.b_list (by decide +kernel) (dac (dslice sl_d (dpv 0) dpn (dpo dint)) dan)) (dac dint (dac dint dan))))))) (fun ds s Q E h => ?_)
  · obtain ⟨ns, rfl, q⟩ := h
    rfl
  · obtain ⟨ns, rfl, hn, q⟩ := h
    have e63 : cutD (ns.map DV.int) none (some 63) = ns.map DV.int := by
      have h1 : HT.sIx (ns.map DV.int).length 0 none = 0 := rfl
      have h2 : HT.sIx (ns.map DV.int).length (ns.map DV.int).length (some 63) = (ns.map DV.int).length := by
        show min 63 _ = _
        rw [List.length_map]
        exact Nat.min_eq_right hn
      exact cutD_whole h1 h2
    walk_at "dl"
    exact ⟨by decide, fun p hp => q.out p hp⟩
def spPick0 : Spd := fun ds s Q _ => ∃ (p : Addr) (many : Int) (ns : List Int) (a l : Int), ds = [.ref p, .int many] ∧ s p = some (.lst (handL ns a l)) ∧ ns.length ≤ 63 ∧ 0 ≤ a ∧ a ≤ 2 ^ 40 ∧ 1 ≤ many ∧ many ≤ 2 ^ 40 ∧
  Kp (∀ (r a' l' : Int), 0 ≤ r → r < many → a ≤ a' → a' ≤ a + 1 → Q (.int r) (up s p (.lst (handL ns a' l'))))
theorem hand_0 (ns : List Int) (a l : Int) : atI (handL ns a l) 0 = some (.lst (ns.map DV.int)) := by rfl
theorem hand_1 (ns : List Int) (a l : Int) : atI (handL ns a l) 1 = some (.int a) := by rfl
theorem hand_2 (ns : List Int) (a l : Int) : atI (handL ns a l) 2 = some (.int l) := by rfl
theorem hand_i1 (ns : List Int) (a l : Int) : ixN (handL ns a l).length 1 = some 1 := by rfl
theorem hand_i2 (ns : List Int) (a l : Int) : ixN (handL ns a l).length 2 = some 2 := by rfl
theorem hand_s1 (ns : List Int) (a l a' : Int) : (handL ns a l).set 1 (.int a') = handL ns a' l := by rfl
theorem hand_s2 (ns : List Int) (a l l' : Int) : (handL ns a l).set 2 (.int l') = handL ns a l' := by rfl
theorem ok_pick0 (T : Txt K mg) : Fn P w K mg base "_law_pick" 1 ["hand", "many"] spPick0 := by
  refine fnOk T.d__law_pick sc__law_pick (fun ds s Q E h => ?_) (fun A f cdv Ar outer s H E hr => (dsc (dsif (dtcmp od_gt (dix (hu_of hr) (dpv 0) dint) dint (nomark _))
  (dsc (dsset (i := 2) sc__law_pick.nd rfl (Or.inl rfl) (dop od_mod (dix (hu_of hr) (dpv 0) dint) (dpv 1)))
  (dsc (dsasg (dop od_fdiv (dix (hu_of hr) (dpv 0) dint) (dpv 1)) (dgsub (hu_of hr) (dpv 0) dint))
  (ds1 (dsret (dpv 2)))))
  dsn)
  (dsc (dsset (i := 3) sc__law_pick.nd rfl (Or.inl rfl) (dix (hu_of hr) (dpv 0) dint))
  (dsc (dsasg (dop od_add (dpv 3) dint) (dgsub (hu_of hr) (dpv 0) dint))
  (dsc (dsset (i := 4) sc__law_pick.nd rfl (Or.inl rfl) (dop od_add (dop od_mul dint (dpv 3)) dint))
  (dsc (dsif (dtcmp (od_ne hr.units) (dix (hu_of hr) (dpv 0) dint) (dlst dan) (nomark _))
  (ds1 (dsset (i := 4) sc__law_pick.nd rfl (Or.inl rfl) (dix (hu_of hr) (dix (hu_of hr) (dpv 0) dint) (dop od_mod (dpv 3) (dcallB cd_len T.b_len PySem.boot_len (dac (dix (hu_of hr) (dpv 0) dint) dan))))))
  dsn)
  (dsc (dsif ((dpand (dtcmp od_lt (dpv 3) (dcallB cd_len T.b_len PySem.boot_len (dac (dix (hu_of hr) (dpv 0) dint) dan)) (nomark _)) (dpand1 (dtcmp od_ge (dcallB cd_abs T.b_abs (by decide +kernel) (dac (dpv 4) dan)) (dop od_pow dint dint) (nomark _))))).pt
  (dsc (dsasg (dop od_fdiv (dcallB cd_abs T.b_abs (by decide +kernel) (dac (dpv 4) dan)) (dpv 1)) (dgsub (hu_of hr) (dpv 0) dint))
  (ds1 (dsret (dop od_mod (dcallB cd_abs T.b_abs (by decide +kernel) (dac (dpv 4) dan)) (dpv 1)))))
  dsn)
  (dsc (dsset (i := 5) sc__law_pick.nd rfl (Or.inl rfl) (dop od_mod (dop od_mul (dop od_add (dop od_add (dop od_mod (dpv 4) dint) (dop od_mul dint (dpv 3))) dint) dint) dint))
  (dsc (dsset (i := 5) sc__law_pick.nd rfl (Or.inl rfl) (dop od_mod (dop od_add (dop od_add (dop od_mul (dpv 5) (dpv 5)) (dop od_mul dint (dpv 3))) dint) dint))
  (ds1 (dsret (dop od_mod (dop od_fdiv (dop od_mod (dop od_mul (dpv 5) (dop od_add (dop od_mod (dpv 5) dint) dint)) dint) dint) (dpv 1))))))))))))) (fun ds s Q E h => ?_)
  · obtain ⟨p, many, ns, a, l, rfl, h1, q⟩ := h
    rfl
  · obtain ⟨p, many, ns, a, l, rfl, h1, hn, ha0, ha, hm1, hm2, q⟩ := h
    have g0 := hand_0
    have g1 := hand_1
    have g2 := hand_2
    have i1 := hand_i1
    have i2 := hand_i2
    have s1 := hand_s1
    have s2 := hand_s2
    walk_at "dl"
    refine ifS ?_
    walk_at "dl"
    refine dGif_of (fun hl => ?_) (fun hl => ?_)
    · walk_at "dl"
      walk_at "sides"
      exact q.out _ a _ (Int.emod_nonneg _ (by omega)) (Int.emod_lt_of_pos _ (by omega)) (by omega) (by omega)
    · walk_at "dl"
      walk_at "sides"
      refine ifJ (fun δ s' => ∃ cell : Int, δ = [some (.ref p), some (.int many), none, some (.int a), some (.int cell), none] ∧ s' = up s p (.lst (handL ns (a + 1) l))) (fun R hR => ?_) (fun δ s' ⟨cell, e1, e2⟩ => ?_)
      · walk_at "dl"
        walk_at "sides"
        refine dGif_of (fun h => ?_) (fun h => ?_)
        · have hne : 0 < ns.length := by
            cases ns with
            | nil => simp at h
            | cons x xs => simp
          walk_at "dl"
          walk_at "sides"
          obtain ⟨c, e1, e2⟩ := atI_pos (xs := ns.map DV.int) (i := a % (ns.length : Int)) (Int.emod_nonneg _ (by omega)) (by rw [List.length_map]; exact Int.emod_lt_of_pos _ (by omega))
          obtain ⟨z, rfl⟩ := int_of_get e2
          rw [e1]
          exact hR _ _ ⟨_, rfl, rfl⟩
        · walk_at "dl"
          exact hR _ _ ⟨_, rfl, rfl⟩
      · subst e1 e2
        walk_at "dl"
        refine ifJ (fun δ s' => δ = [some (.ref p), some (.int many), none, some (.int a), some (.int cell), none] ∧ s' = up s p (.lst (handL ns (a + 1) l))) (fun R hR => ?_) (fun δ s' ⟨e1, e2⟩ => ?_)
        · walk_at "dl"
          cases hc : ltI a (ns.length : Int) with
          | false => walk_at "dl"; all_goals exact hR _ _ ⟨rfl, rfl⟩
          | true =>
            walk_at "dl"
            refine ⟨by unfold CPowD; decide, ?_⟩
            refine dGif_of (fun h => ?_) (fun h => ?_)
            · walk_at "dl"
              walk_at "sides"
              exact q.out _ _ _ (Int.emod_nonneg _ (by omega)) (Int.emod_lt_of_pos _ (by omega)) (by omega) (by omega)
            · exact hR _ _ ⟨rfl, rfl⟩
        · subst e1 e2
          walk_at "dl"
          walk_at "sides"
          exact q.out _ _ _ (Int.emod_nonneg _ (by omega)) (Int.emod_lt_of_pos _ (by omega)) (by omega) (by omega)

/-! ### the pen, told by how far it is -/
structure Pen (s : Sto) (p : Addr) (n : Nat) : Prop where
  ex : ∃ (ns : List Int) (a l : Int), s p = some (.lst (handL ns a l)) ∧ ns.length ≤ 63 ∧ 0 ≤ a ∧ a ≤ n
structure Nxt (s s' : Sto) (p : Addr) (n : Nat) : Prop where
  pen : Pen s' p n
  ext : ∀ a, a ≠ p → s a ≠ none → s' a = s a
theorem Pen.ne {s : Sto} {p : Addr} {n : Nat} (h : Pen s p n) : s p ≠ none := by
  obtain ⟨ns, a, l, e, _⟩ := h.ex
  rw [e]; exact fun z => nomatch z
theorem Pen.le {s : Sto} {p : Addr} {n m : Nat} (h : Pen s p n) (hm : n ≤ m) : Pen s p m := by
  obtain ⟨ns, a, l, e, h1, h2, h3⟩ := h.ex
  exact ⟨ns, a, l, e, h1, h2, by omega⟩
theorem Pen.neD {s : Sto} {p D : Addr} {n : Nat} (h : Pen s p n) (hD : s D = none) : p ≠ D := fun z => h.ne (z ▸ hD)
theorem Pen.put {s : Sto} {p D : Addr} {n : Nat} {m : MO} (h : Pen s p n) (hD : s D = none) : Pen (up s D m) p n := by
  obtain ⟨ns, a, l, e, r⟩ := h.ex
  exact ⟨ns, a, l, (up_ne (h.neD hD)).trans e, r⟩
theorem Nxt.refl {s : Sto} {p : Addr} {n : Nat} (h : Pen s p n) : Nxt s s p n := ⟨h, fun _ _ _ => rfl⟩
theorem Nxt.le {s s' : Sto} {p : Addr} {n m : Nat} (h : Nxt s s' p n) (hm : n ≤ m) : Nxt s s' p m := ⟨h.pen.le hm, h.ext⟩
theorem Nxt.trans {s s1 s2 : Sto} {p : Addr} {n m : Nat} (h : Nxt s s1 p n) (h2 : Nxt s1 s2 p m) : Nxt s s2 p m := ⟨h2.pen, fun a ha hs => by
  have e := h.ext a ha hs
  rw [h2.ext a ha (by rw [e]; exact hs), e]⟩
theorem Nxt.new {s : Sto} {p D : Addr} {n : Nat} {m : MO} (h : Pen s p n) (hD : s D = none) : Nxt s (up s D m) p n := ⟨h.put hD, fun a _ hs => up_ne fun z => hs (z ▸ hD)⟩
theorem Nxt.er {s s' : Sto} {p D : Addr} {n k : Nat} (h0 : Pen s p k) (hD : s D = none) (h : Nxt (up s D .hid) s' p n) : Nxt s (er s' D) p n := by
  have ne := h0.neD hD
  refine ⟨?_, fun a ha hs => ?_⟩
  · obtain ⟨ns, a, l, e, r⟩ := h.pen.ex
    exact ⟨ns, a, l, (er_ne ne).trans e, r⟩
  · have nD : a ≠ D := fun z => hs (z ▸ hD)
    rw [er_ne nD, h.ext a ha (by rw [up_ne nD]; exact hs), up_ne nD]
theorem Nxt.hidD {s s' : Sto} {p D : Addr} {n k : Nat} (h0 : Pen s p k) (hD : s D = none) (h : Nxt (up s D .hid) s' p n) : s' D = some .hid := by
  rw [h.ext D (h0.neD hD).symm (by rw [up_same]; exact fun z => nomatch z), up_same]
def spPck : Spd := fun ds s Q _ => ∃ (p : Addr) (many : Int) (n : Nat), ds = [.ref p, .int many] ∧ Pen s p n ∧ n ≤ 10 ^ 9 ∧ 1 ≤ many ∧ many ≤ 10 ^ 12 ∧ Kp (∀ (r : Int) s', 0 ≤ r → r < many → Nxt s s' p (n + 1) → Q (.int r) s')
theorem ok_pick (T : Txt K mg) : Fn P w K mg base "_law_pick" 1 ["hand", "many"] spPck := (ok_pick0 T).weak fun ds s Q E h => by
  obtain ⟨p, many, n, e, hp, hn, h1, h2, q⟩ := h
  obtain ⟨ns, a, l, hs, hl, h0, ha⟩ := hp.ex
  exact ⟨p, many, ns, a, l, e, hs, hl, h0, by omega, h1, by omega, ⟨fun r a' l' r0 r1 a1 a2 => q.out r _ r0 r1 ⟨⟨ns, a', l', up_same, hl, by omega, by omega⟩, fun b hb _ => up_ne hb⟩⟩⟩
def OfS (A : List Nat) (z : Str) : Prop := ∀ c ∈ tl z, c ∈ A
theorem OfS.join {A : List Nat} {ys : List Str} (h : ∀ y ∈ ys, OfS A y) : OfS A (Txt.join (Str.ofString "") ys) := fun c hc => by
  rw [tl_join0] at hc
  obtain ⟨l, hl, hc⟩ := List.mem_flatten.mp hc
  obtain ⟨y, hy, rfl⟩ := List.mem_map.mp hl
  exact h y hy c hc
/-- a text that is drawn sign by sign -/
structure TxtW (A : List Nat) (s : Sto) (p : Addr) (n : Nat) (D : Addr) (i : Nat) (acc : List DV) (s' : Sto) : Prop where
  ex : ∃ zs : List Str, acc = zs.map DV.str ∧ zs.length = i ∧ ∀ z ∈ zs, z.length = 1 ∧ OfS A z
  nx : Nxt (up s D .hid) s' p (n + i)
theorem TxtW.zero {A : List Nat} {s : Sto} {p D : Addr} {n : Nat} (hp : Pen s p n) (hD : s D = none) : TxtW A s p n D 0 [] (up s D .hid) := ⟨⟨[], rfl, rfl, fun z hz => nomatch hz⟩, .refl (hp.put hD)⟩
theorem TxtW.len {A : List Nat} {s s' : Sto} {p D : Addr} {n i : Nat} {acc : List DV} (h : TxtW A s p n D i acc s') : acc.length = i := by
  obtain ⟨zs, rfl, hl, _⟩ := h.ex
  rw [List.length_map, hl]
theorem TxtW.succ {A : List Nat} {s s' s2 : Sto} {p D : Addr} {n i c : Nat} {acc : List DV} (h : TxtW A s p n D i acc s') (hc : c ∈ A) (N : Nxt s' s2 p (n + i + 1)) : TxtW A s p n D (i + 1) (acc ++ [.str ⟨#[c]⟩]) s2 := by
  obtain ⟨zs, rfl, hl, hz⟩ := h.ex
  refine ⟨⟨zs ++ [⟨#[c]⟩], map_snoc DV.str zs _, by simp [hl], fun z h => ?_⟩, h.nx.trans N⟩
  rcases List.mem_append.mp h with h | h
  · exact hz z h
  · rw [List.mem_singleton.mp h]
    exact ⟨rfl, fun d hd => by rw [List.mem_singleton.mp (show d ∈ [c] from hd)]; exact hc⟩
theorem TxtW.fin {A : List Nat} {s s' : Sto} {p D : Addr} {n i k : Nat} {acc : List DV} (h : TxtW A s p n D i acc s') (hp : Pen s p k) (hD : s D = none) :
    ∃ zs : List Str, acc = zs.map DV.str ∧ zs.length = i ∧ (zs.map (·.length)).sum = i ∧ (Txt.join (Str.ofString "") zs).length = i ∧ OfS A (Txt.join (Str.ofString "") zs) ∧ Nxt s (er s' D) p (n + i) := by
  obtain ⟨zs, e, hl, hz⟩ := h.ex
  have hs : (zs.map (·.length)).sum = i := by
    have e2 : zs.map (·.length) = List.replicate zs.length 1 := by
      rw [List.eq_replicate_iff]
      refine ⟨List.length_map .., fun b hb => ?_⟩
      obtain ⟨z, h, rfl⟩ := List.mem_map.mp hb
      exact (hz z h).1
    rw [e2, List.sum_replicate_nat, Nat.mul_one, hl]
  exact ⟨zs, e, hl, hs, by rw [len_join0]; exact hs, OfS.join fun z h => (hz z h).2, Nxt.er hp hD h.nx⟩

end Law

set_option Elab.async false
set_option linter.all false
set_option maxRecDepth 100000
set_option maxHeartbeats 4000000
namespace Law
open PySem PySem.Spec PyProof.Rows L2 DL RW
local macro_rules | `(tactic| walk_at "dl") => `(tactic| (try simp only [kOp1_e, kOp2_e, kTest_q1, kChain1_e, kChain2_e, kChain3_q1, kChain3_q2, dChain_e, kAnd_q1, kAnd_q2, kOr_q1, kOr_q2, kNot_e, kIf_q1, kIf_q2, kTru_k, kTruO_q1, kTruO_q2, kCons1_e, kCons2_e, kTup_e, kLst_e, kLstM_e, kFrz_e, kDrop_q1, kRetS_e, kIfS_e, kAsg_e, kGCons_e, kPart_q1, kSl1_e, kSl2_e, kSl3_e, kSub1_e, kSub2_e, kCB_e, kBM1_e, kBM2_e, kIt_q, kItO_q, kRng1_q1, kRng2_q1, kWhile_e, kLc1_e, kLc2_e, kLc2', kLc3_e, finF_e, finM_e, kAndE_q1, kAndE_q2, kOrE_q1, kOrE_q2, kNotE_q1, kNeg_q1, kCall_e, kCallK_e, kCallK2_e, dCallK_e, kMeth, kMeth2_e, kMade_e, kMake_e, kMakeK_e, kMakeK2_e, dMakeK_e, kFld, kSetFld_e, kSetFld2, kAugFld, kAugN1_e, kAugN2_e, kPair1_q1, kPair2_q1, kPair3_e, kDisp, dSeq_e, dAsg_e, dVar_k, kVar_q1, kVar_q2, dC_e, dOp_e, gNameD_e, gNilD_e, gConsD_q1, gConsD_q2, gTupD_q1, gifT_q, gifF_q, dTest_e, dTru_e, truD_q1, truD_q2, truD_q3, truD_q5, truD_q6, truD_q7, truD, truD_qs, dAnd_e, dOr_e, dNot_e, dAndE_e, dOrE_e, dNotE_e, dNeg_e, dIf_e, dRet_e, dRetN_e, dRetS_e, dNext_e, dDrop_e, dBreak_e, dCont_e, dCB_e, dCons_e, dNil_e, dIx_str, dIx_lst_q, dIx_tup_q, dIx_scr_q, kChr_q1, kChr_q2, dIx_re, kIxR_q1, kIxR_q2, kIxK_q, ixD_q1, ixD_q2, dSl_e, dSlR_str_q, dSlR_tup_q, dSlR_lst_q, dSlR_scr, dSlR_q1, dSlR_q2, dSlM, dPart_e, dNoPart_e, dI_q1, dI0_q1, dAdd_int_q, dAdd_str_q, dAdd_tup_q, dAdd_lst_q, dAdd_q1, dAdd_q2, dAdd_q3, dMul_int_q, dMul_q1, dMul_q2, dLtB_q1, dLtB_q2, dEq_k, kEqO_q1, kEqO_q2, kEqS_q1, dNe_k, dIs_q1, dIs_q2, isNonD_q1, isNonD, dIn_tup_q, dIn_lst_q, dIn_str_q, dIn_q1, scalEq_q1, scalEq_q2, scalEq_q3, scalEq_q4, scalEq_q5, scalEq_q6, scalEq_q7, scalEq_q8, scalEq, pdS, pd_q1, pd_q2, pd_q3, pd_q4, pd_q5, pd_q6, pd_q7, pd_q8, pdL_q1, pdL, pdL_ints, pdL_strs, eqv_nil, List.isEmpty_map, refL_lst_q, refL_dK_q, refL_ins_q, lstD_lst_q, lstD_scr_q, lstD_tup_q, lstD_str_q, lstD_int_q, lstD_re, lstW_lst_q, lstW_tup_q, lstW_str_q, lstW_int_q, lstW_re, seqD_tup_q, seqD_lst_q, seqD_scr_q, seqD_str_q, seqD_int_q, seqD_re, dictD, keyD_q1, keyD_q2, keyD, dLen_k, kLenO_q1, kLenO_q2, lenD_q1, lenD_tup, lenD_lst, lenD_scr, lenD_re, lenO_q, dAbs_q1, dMin2_q1, dMax2_q1, dListM, dListF_k, kSeqF_q1, kSeqF_q2, dTupF_k, dOrd_q1, dStr_q1, dLst_e, dLstM_e, dTup_e, gSubD_e, dSetR, dFld_e, dSetFld_e, dAugFld_e, dAugN, dIpAdd_q1, dBM_e, tyD_q1, tyD_q2, tyD_q4, tyD_q5, tyD, dAppend, dPop, dJoin, strsD_map, dMeth_e, dCall_e, dMake_e, dFrz_e, frzR_lst_q, frzR_dK_q, frzR_ins_q, frz_int_q, frz_str_q, frz_bl_q, frz_non_q, frz_tup_q, frz_lst_q, frz_scr_q, frz_re, er_none, atI_zero, atI_one, ixN_zero, ixN_one, dDisp_e, dPairs, keysD_q1, keysD, dLc_e, dLcM_e, dFor_e, wipeD_q1, wipeD_q2, dYes_q1, dIt_e, itemsD_q1, itemsD_q2, itemsD_q3, itemsD_q4, itemsD, dRng1_e, dRng2_e, startD_q1, up_same, up_up, er_up, Option.map_some, List.map_cons, List.map_nil, List.length_map, List.length_cons, List.length_nil, List.replicate_succ, List.replicate_zero, List.cons_append, List.nil_append, List.append_nil, getD_qs, getD_q0, set_qs, set_q0, Nat.reduceSub, Nat.reduceAdd, Nat.zero_add, Nat.sub_zero, Bool.not_true, Bool.not_false, if_true, if_false, Bool.true_eq_false, Bool.false_eq_true, reduceIte, true_and, and_true, beq_self_eq_true, Int.reduceEq, Int.reduceLT, Int.reduceLE, Int.reduceAdd, Int.reduceSub, Int.reduceNeg, Int.reduceMul, decide_true, decide_false, dEnS_q, kEnS1_q, kEnS2_q, gStarN_q, gStarD_q, dFmt_q, kFmt_q1, kFmt_q2, dJst_q, dJs_q1, dJs_q2, kJs_q, dSplitK_q, dFind_q1, dFind_q2, dIntF_q1, dIntF_q2, dMulT_q, dPar2_q1, kPar2_q1, dPar3_q1, kPar3_q1, dRev_q1, kRev_q1, kRev_q2, kRev_q3, *]))
local macro_rules | `(tactic| walk_at "side") => `(tactic| first | omega | exact size_lt (by omega) | exact size_le (by omega) | exact mulS (by omega) (by omega) | exact mulS' (by omega) (by omega) | exact cdiv (by omega) (by omega) | exact shaped_ints _ | exact shaped_nil | assumption)
local macro_rules | `(tactic| walk_at "sides") => `(tactic| repeat ((with_reducible refine And.intro ?_ ?_); next => walk_at "side"))
local macro_rules | `(tactic| walk_at "if") => `(tactic| (refine ifS ?_; walk_at "dl"))
local macro_rules | `(tactic| walk_at "for") => `(tactic| (unfold dFor; walk_at "dl"; walk_at "sides"))
local macro_rules | `(tactic| walk_at "upf") => `(tactic| first | exact up_same | assumption | ((rw [up_ne (by first | assumption | exact Ne.symm (by assumption))]); walk_at "upf") | ((rw [er_ne (by first | assumption | exact Ne.symm (by assumption))]); walk_at "upf"))

local macro_rules | `(tactic| walk_at "tst") => `(tactic| (intro Q q; walk_at "dl"; all_goals assumption))
variable {P : Program} {w : World} {K : PySem.W.Frag} {mg : Str → Option Value} {base : Heap}
/-! ### rows -/
theorem enD_inv {z : Str} {k : Int} {i : Nat} {d : DV} (h : (enD z k)[i]? = some d) : ∃ c, (DL.tl z)[i]? = some c ∧ d = .tup [.int (k + (i : Nat)), .str ⟨#[c]⟩] := by
  have hi : i < (DL.tl z).length := by
    have := (List.getElem?_eq_some_iff.mp h).1
    rwa [enD_length, len_tl] at this
  obtain ⟨c, hc⟩ := get_lt hi
  refine ⟨c, hc, ?_⟩
  rw [enD_get (c := c) (by rw [← Array.getElem?_toList]; exact hc)] at h
  exact (Option.some.inj h).symm
theorem wsum_take {l : List Nat} {i c : Nat} (h : l[i]? = some c) : wsum 1 (l.take (i + 1)) = wsum 1 (l.take i) + c * (1 + i) := by
  have hi := (List.getElem?_eq_some_iff.mp h).1
  rw [List.take_add_one, h, Option.toList_some, wsum_app, List.length_take, Nat.min_eq_left (by omega)]
  show _ + (c * (1 + i) + wsum _ []) = _
  rfl
def spSum : Spd := fun ds s Q _ => ∃ (z : Str) (m : Int), ds = [.str z, .int m] ∧ z.length ≤ 100000 ∧ 0 < m ∧ Kp (Q (.int ((wsum 1 (DL.tl z) : Nat) % m)) s)
theorem ok_sum (T : Txt K mg) {f : Addr} {fd : FuncData} (F : FunD K "sum_of" "sum_of" (defArgs s_sum_of) (defBody s_sum_of) (defScope s_sum_of) [] [("modulus", .int 1000003)] f fd) : FnOk P w K mg base CX0 1 f fd ["text", "modulus"] (lSp K spSum) := by
  refine defOkD F sc_sum_of (fun ds s Q E h => ?_) (fun A cdv Ar outer s H E hr => (dsc (dsset (i := 2) sc_sum_of.nd rfl (Or.inl rfl) dint)
  (dsc (dsfor PassesOwn.never rfl (denS T.b_enumerate (dpv 0) dint) (fun _ _ => dgpat (pg_tup rfl (pgs_cons (pg_name (i := 3) sc_sum_of.nd rfl (Or.inl rfl)) (pgs_cons (pg_name (i := 4) sc_sum_of.nd rfl (Or.inl rfl)) pgs_nil))) (gmTup (gmCons (gmName 3) (gmCons (gmName 4) gmNil))) (patT (gmCons (gmName 3) (gmCons (gmName 4) gmNil)) (patsC (gmName 3) (gmCons (gmName 4) gmNil) (patN 3) (patsC (gmName 4) gmNil (patN 4) patsN)))) (fun _ _ => (ds1 (dsaug (i := 2) sc_sum_of.nd rfl (Or.inl rfl) (dop od_mul (dcallB cd_ord T.b_ord (by decide +kernel) (dac (dpv 4) dan)) (dpv 3)) ipd_add))))
  (ds1 (dsret (dop od_mod (dpv 2) (dpv 1))))))) (fun ds s Q E h => ?_)
  · obtain ⟨z, m, rfl, q⟩ := h
    rfl
  · obtain ⟨z, m, rfl, hz, hm, q⟩ := h
    walk_at "dl"
    walk_at "sides"
    refine for_its (fun i δ s' => ∃ x y, δ = [some (.str z), some (.int m), some (.int (wsum 1 ((DL.tl z).take i) : Nat)), x, y] ∧ s' = s) ⟨none, none, rfl, rfl⟩ (fun _ _ _ _ => trivial) (fun i d δ s' hd ⟨x, y, e1, e2⟩ => ?_) (fun δ s' ⟨x, y, e1, e2⟩ => ?_)
    · subst e1 e2
      obtain ⟨c, hc, rfl⟩ := enD_inv hd
      have hi : i < z.length := by rw [len_tl]; exact (List.getElem?_eq_some_iff.mp hc).1
      walk_at "dl"
      refine ⟨rfl, mulS' (by omega) (by omega), some (.int (1 + (i : Int))), some (.str ⟨#[c]⟩), ?_⟩
      rw [wsum_take hc]
      show [some (DV.str z), some (DV.int m), some (DV.int ((wsum 1 ((DL.tl z).take i) : Nat) + (c : Int) * (1 + (i : Int)))), some (DV.int (1 + (i : Int))), some (DV.str ⟨#[c]⟩)] = _
      rw [Int.natCast_add, Int.natCast_mul, Int.natCast_add]
      rfl
    · subst e1 e2
      rw [enD_length, List.take_of_length_le (by rw [← len_tl]; exact Nat.le_refl _)]
      walk_at "dl"
      exact q.out
theorem lapp (a b : Str) : (a ++ b).length = a.length + b.length := by rw [len_tl, tl_app, List.length_append, ← len_tl, ← len_tl]
theorem tlI (n : Nat) : DL.tl (Str.ofString (toString ((n : Nat) : Int))) = TL.numL n := TL.tl_num n
theorem lenI {n : Nat} (h : n < 10 ^ 9) : (Str.ofString (toString ((n : Nat) : Int))).length ≤ 9 := by
  rw [len_tl, tlI]
  exact TL.numL_len (by decide) h
theorem logN {n : Nat} (h : n < 10 ^ 9) : ((n : Nat) : Int).natAbs.log2 < 1920 := by
  show n.log2 < 1920
  by_cases h0 : n = 0
  · rw [h0]; decide
  · exact (Nat.log2_lt h0).mpr (Nat.lt_of_lt_of_le h (by decide))
def spFramed : Spd := fun ds s Q _ => ∃ z : Str, ds = [.str z] ∧ z.length ≤ 100000 ∧ Kp (Q (.str (rowS z)) s)
structure SumMk (P : Program) (w : World) (K : PySem.W.Frag) (mg : Str → Option Value) (base : Heap) : Prop where
  ex : ∃ f fd ds, FnOk P w K mg base CX0 1 f fd ["text", "modulus"] (lSp K spSum) ∧ mg "sum_of" = some (.ref f) ∧ PySem.W.keepIn K (.ref f) = true ∧ Vals [V.int 1000003] ds ∧ Binds K fd ["text", "modulus"] ds
theorem rowS_len {z : Str} (h : z.length ≤ 100000) : (rowS z).length ≤ z.length + 15 := by
  have h1 : (TL.numL (DL.tl z).length).length ≤ 6 := TL.numL_len (by decide) (by rw [← len_tl]; omega)
  have h2 : (TL.numL (sumL (DL.tl z))).length ≤ 7 := TL.numL_len (by decide) (by unfold sumL; omega)
  have h3 := len_tl z
  rw [len_tl, tl_rowS]
  unfold rowL
  simp only [List.length_append, List.length_cons]
  omega
theorem ok_framed (T : Txt K mg) (SM : SumMk P w K mg base) : Fn P w K mg base "framed" 2 ["body"] spFramed := by
  obtain ⟨f0, fd0, dv0, F0, h0, k0, V0, B0⟩ := SM.ex
  refine fnOk T.d_framed sc_framed (fun ds s Q E h => ?_) (fun A f cdv Ar outer s H E hr => (ds1 (dsret (djoined (PJd.cons (dfmt (dcallB cd_len T.b_len PySem.boot_len (dac (dpv 0) dan))) (PJd.cons dstr (PJd.cons (dfmt (dfrz (dcall F0 (hr.mono (by decide)) h0 k0 B0 V0 (fun _ _ => .cons (.int 1000003) .nil) (dac (dpv 0) dan)))) (PJd.cons dstr (PJd.cons (dfmt (dpv 0)) PJd.nil))))))))) (fun ds s Q E h => ?_)
  · obtain ⟨z, rfl, q⟩ := h
    rfl
  · obtain ⟨z, rfl, hz, q⟩ := h
    have hzs := size_le (n := z.length) (by omega)
    walk_at "dl"
    have hs : sumL (DL.tl z) < 10 ^ 9 := by unfold sumL; omega
    have b1 := lenI (n := z.length) (by omega)
    have b2 := lenI hs
    have es : ((wsum 1 (DL.tl z) : Nat) : Int) % 1000003 = ((sumL (DL.tl z) : Nat) : Int) := rfl
    have l0 : Str.empty.length = 0 := rfl
    have l1 : (Str.ofString " ").length = 1 := by decide +kernel
    refine ⟨logN (by omega), size_le (by rw [lapp]; omega), size_le (by rw [lapp, lapp]; omega), z, 1000003, rfl, hz, by decide, ⟨?_⟩⟩
    rw [es]
    walk_at "dl"
    refine ⟨logN hs, size_le (by simp only [lapp]; omega), size_le (by simp only [lapp]; omega), size_le (by simp only [lapp]; omega), ?_⟩
    have e : Str.empty ++ Str.ofString (toString ((z.length : Nat) : Int)) ++ Str.ofString " " ++ Str.ofString (toString ((sumL (DL.tl z) : Nat) : Int)) ++ Str.ofString " " ++ z = rowS z := by
      refine ext_tl ?_
      have eb : DL.tl (Str.ofString " ") = [32] := by decide +kernel
      rw [tl_app, tl_app, tl_app, tl_app, tl_app, tlI, tlI, eb, tl_rowS, len_tl]
      unfold rowL
      simp [DL.tl, Str.empty]
    rw [e]
    exact q.out
/-! ### body_of -/
def spBody : Spd := fun ds s Q _ => ∃ x : Str, ds = [.str x] ∧ x.length ≤ 100000 ∧ Kp (Q (bodyD x) s)
theorem ok_body (T : Txt K mg) (G_framed : Fn P w K mg base "framed" 2 ["body"] spFramed) : Fn P w K mg base "body_of" 3 ["row"] spBody := by
  refine fnOk T.d_body_of sc_body_of (fun ds s Q E h => ?_) (fun A f cdv Ar outer s H E hr => (dsc (dsasg (dbm PySem.F.plainAttrs_str PySem.F.slot_str_split PySem.F.type_str_split md_splitK (dpv 0) (dac dstr (dac dint dan))) (dgstarN (i := 1) (j := 2) rfl sc_body_of.nd rfl rfl (Or.inl rfl) (Or.inl rfl)))
  (ds1 (dsret (difexp ((dpand (dtcmp (od_eq hr.units) (dcallB cd_len T.b_len PySem.boot_len (dac (dpv 1) dan)) dint (nomark _)) (dpand1 (dtcmp (od_eq hr.units) (dfrz (dF G_framed (hr.mono (by decide)) (dac (dpv 2) dan))) (dpv 0) (nomark _))))).pt (dpv 2) dnon))))) (fun ds s Q E h => ?_)
  · obtain ⟨z, rfl, q⟩ := h
    rfl
  · obtain ⟨x, rfl, hx, q⟩ := h
    have hxs := size_le (n := x.length) (by omega)
    walk_at "dl"
    have e32 : Str.ofString " " = ⟨#[32]⟩ := by rfl
    obtain ⟨r, b, e⟩ := parts_ne x
    have hb := part_len e
    refine ⟨⟨by decide +kernel, by decide, by decide, size_le (by omega)⟩, ?_⟩
    rw [e32, e]
    refine ⟨r.map DV.str, .str b, by rw [List.map_append]; rfl, ?_⟩
    have q0 := q.out
    rw [bodyD_parts e] at q0
    walk_at "dl"
    by_cases h2 : r.length = 2
    · rw [decide_eq_true (show (r.length : Int) = 2 by omega)]
      walk_at "dl"
      refine ⟨b, rfl, by omega, ⟨?_⟩⟩
      walk_at "dl"
      by_cases h3 : rowS b = x
      · rw [if_pos ⟨h2, h3⟩] at q0
        rw [decide_eq_true h3]
        walk_at "dl"
      · rw [if_neg fun z => h3 z.2] at q0
        rw [decide_eq_false h3]
        walk_at "dl"
    · rw [if_neg fun z => h2 z.1] at q0
      rw [decide_eq_false (show ¬ (r.length : Int) = 2 by omega)]
      walk_at "dl"

/-! ### the alphabet, bodies -/
abbrev zA : Str := Str.ofString " !\"#$&'()*+,-./0123456789:;<=>?@ABCDEFGHIJKLMNOPQRSTUVWXYZ[\\]^_" ++ Str.ofString "`abcdefghijklmnopqrstuvwxyz{|}~"
theorem zA_len : zA.length = 94 := by decide +kernel
theorem zA_low : ∀ c ∈ DL.tl zA, c < 128 := by decide +kernel
def spAlpha : Spd := fun ds s Q _ => ds = [] ∧ Kp (Q (.str zA) s)
theorem ok_alpha (T : Txt K mg) : Fn P w K mg base "_law_alphabet" 1 [] spAlpha := by
  refine fnOk T.d__law_alphabet sc__law_alphabet (fun ds s Q E h => ?_) (fun A f cdv Ar outer s H E hr => (dsc (dsset (i := 0) sc__law_alphabet.nd rfl (Or.inl rfl) dstr)
  (ds1 (dsret (dop od_add (dpv 0) dstr))))) (fun ds s Q E h => ?_)
  · obtain ⟨rfl, q⟩ := h
    rfl
  · obtain ⟨rfl, q⟩ := h
    walk_at "dl"
    exact ⟨by decide +kernel, q.out⟩
def Low (z : Str) : Prop := ∀ c ∈ DL.tl z, c < 128
theorem Low.app {a b : Str} (h : Low a) (h' : Low b) : Low (a ++ b) := fun c hc => by
  rw [tl_app] at hc
  exact (List.mem_append.mp hc).elim (h c) (h' c)
theorem Low.cut {z : Str} (h : Low z) (lo hi : Option Int) : Low (cutS z lo hi) := fun c hc => h c (List.mem_of_mem_drop (List.mem_of_mem_take hc))
def spAny : Spd := fun ds s Q _ => ∃ (p : Addr) (n : Nat) (most : Int), ds = [.ref p, .int most] ∧ 0 ≤ most ∧ most ≤ 1000 ∧ Pen s p n ∧ n ≤ 10 ^ 7 ∧ Kp (∀ (z : Str) s', (z.length : Int) ≤ most → Low z → Nxt s s' p (n + 4000) → Q (.str z) s')

theorem ok_any (T : Txt K mg) (G__law_alphabet : Fn P w K mg base "_law_alphabet" 1 [] spAlpha) (G__law_pick : Fn P w K mg base "_law_pick" 1 ["hand", "many"] spPck) : Fn P w K mg base "_law_any_body" 2 ["hand", "most"] spAny := by
  refine fnOk T.d__law_any_body sc__law_any_body (fun ds s Q E h => ?_) (fun A f cdv Ar outer s H E hr => (dsc (dspar2 (i := 2) (j := 3) rfl sc__law_any_body.nd rfl rfl (by decide) rfl rfl (dac (dfrz (dF0 G__law_alphabet (hr.mono (by decide)))) (dac dstr dan)) (by rfl))
  (dsc (dsset (i := 4) sc__law_any_body.nd rfl (Or.inl rfl) dstr)
  (dsc (dsfor PassesOwn.never rfl (drange1 T.b_range (dac (dix (hu_of hr) (dlst (dac dint (dac (dfrz (dF G__law_pick (hr.mono (by decide)) (dac (dpv 0) (dac (dop od_add (dpv 1) dint) dan)))) (dac (dpv 1) dan)))) (dfrz (dF G__law_pick (hr.mono (by decide)) (dac (dpv 0) (dac dint dan))))) dan)) (fun _ _ => dgpat (pg_name (i := 5) sc__law_any_body.nd rfl (Or.inl rfl)) (gmName 5) (patN 5)) (fun _ _ => (ds1 (dsset (i := 4) sc__law_any_body.nd rfl (Or.inl rfl) (dop od_add (dpv 4) (dix (hu_of hr) (dlst (dac (dix (hu_of hr) (dpv 2) (dfrz (dF G__law_pick (hr.mono (by decide)) (dac (dpv 0) (dac dint dan))))) (dac (dix (hu_of hr) (dpv 3) (dfrz (dF G__law_pick (hr.mono (by decide)) (dac (dpv 0) (dac dint dan))))) dan))) (dfrz (dF G__law_pick (hr.mono (by decide)) (dac (dpv 0) (dac dint dan))))))))))
  (ds1 (dsret (dpv 4))))))) (fun ds s Q E h => ?_)
  · obtain ⟨p, n, most, rfl, q⟩ := h
    rfl
  · obtain ⟨p, n, most, rfl, m0, m1, hp, hn, q⟩ := h
    walk_at "dl"
    refine ⟨rfl, ⟨?_⟩⟩
    walk_at "dl"
    refine ⟨p, most + 1, n, rfl, hp, by omega, by omega, by omega, ⟨fun r1 s1 a0 a1 N1 => ?_⟩⟩
    walk_at "dl"
    refine ⟨by decide, p, 3, _, rfl, N1.pen, by omega, by decide, by decide, ⟨fun r2 s2 b0 b1 N2 => ?_⟩⟩
    walk_at "dl"
    refine ixD_all (P := fun d => ∃ b : Int, d = .int b ∧ 0 ≤ b ∧ b ≤ most) (by
      simp only [List.forall_mem_cons, List.not_mem_nil, false_imp_iff, implies_true, and_true]
      exact ⟨⟨_, rfl, by omega, by omega⟩, ⟨_, rfl, by omega, by omega⟩, ⟨_, rfl, by omega, by omega⟩⟩) b0 b1 fun d ⟨m, e, c0, c1⟩ => ?_
    subst e
    walk_at "dl"
    walk_at "sides"
    have em : (m.toNat : Int) = m := Int.toNat_of_nonneg c0
    refine for_rng (fun i δ s' => ∃ (z : Str) (x : Option DV), δ = [some (.ref p), some (.int most), some (.str zA), some (.str (Str.ofString "0123456789 0123456789 ")), some (.str z), x] ∧ z.length = i ∧ Low z ∧ Nxt s s' p (n + 2 + 3 * i)) ⟨Str.ofString "", none, rfl, rfl, List.forall_mem_nil _, (N1.trans N2).le (by omega)⟩ (fun i δ s' hi ⟨z, x, e1, h1, h2, N⟩ => ?_) (fun δ s' ⟨z, x, e1, h1, h2, N⟩ => ?_)
    · subst e1
      walk_at "dl"
      refine ⟨p, 94, _, rfl, N.pen, by omega, by decide, by decide, ⟨fun r3 s3 d0 d1 N3 => ?_⟩⟩
      walk_at "dl"
      refine ⟨by decide +kernel, ?_⟩
      refine chr_all zA_low d0 (by rw [← len_tl, zA_len]; exact d1) fun c hc => ?_
      walk_at "dl"
      refine ⟨p, 22, _, rfl, N3.pen, by omega, by decide, by decide, ⟨fun r4 s4 d0 d1 N4 => ?_⟩⟩
      walk_at "dl"
      refine ⟨by decide +kernel, ?_⟩
      refine chr_all (P := fun c => c < 128) (by decide +kernel) d0 (by rw [← len_tl, show (Str.ofString "0123456789 0123456789 ").length = 22 by decide +kernel]; exact d1) fun c' hc' => ?_
      walk_at "dl"
      refine ⟨by decide, p, 2, _, rfl, N4.pen, by omega, by decide, by decide, ⟨fun r5 s5 d0 d1 N5 => ?_⟩⟩
      walk_at "dl"
      refine ixD_all (P := fun d => ∃ c : Nat, d = .str ⟨#[c]⟩ ∧ c < 128) (by
        simp only [List.forall_mem_cons, List.not_mem_nil, false_imp_iff, implies_true, and_true]
        exact ⟨⟨_, rfl, hc⟩, ⟨_, rfl, hc'⟩⟩) d0 d1 fun d ⟨c2, e, hc2⟩ => ?_
      subst e
      have l1 : (⟨#[c2]⟩ : Str).length = 1 := rfl
      walk_at "dl"
      refine ⟨size_le (by omega), _, _, rfl, by rw [lapp]; omega, h2.app fun d hd => ?_, (((N.trans N3).trans N4).trans N5).le (by omega)⟩
      rw [List.mem_singleton.mp (show d ∈ [c2] from hd)]
      exact hc2
    · subst e1
      walk_at "dl"
      exact q.out _ _ (by omega) h2 (N.le (by omega))
/-! ### no row -/
theorem tl_cutA {z : Str} {k : Nat} : DL.tl (cutS z none (some (k : Int))) = (DL.tl z).take k := by
  show ((DL.tl z).drop (HT.sIx z.length 0 none)).take (HT.sIx z.length z.length (some (k : Int)) - HT.sIx z.length 0 none) = _
  rw [HT.sIx_none, HT.sIx_nat, List.drop_zero, Nat.sub_zero, len_tl]
  by_cases h : k ≤ (DL.tl z).length
  · rw [Nat.min_eq_left h]
  · rw [Nat.min_eq_right (by omega), List.take_of_length_le (Nat.le_refl _), List.take_of_length_le (by omega)]
theorem tl_cutB {z : Str} {k : Nat} : DL.tl (cutS z (some (k : Int)) none) = (DL.tl z).drop k := by
  show ((DL.tl z).drop (HT.sIx z.length 0 (some (k : Int)))).take (HT.sIx z.length z.length none - HT.sIx z.length 0 (some (k : Int))) = _
  rw [HT.sIx_none, HT.sIx_nat, len_tl]
  by_cases h : k ≤ (DL.tl z).length
  · rw [Nat.min_eq_left h, List.take_of_length_le (by rw [List.length_drop]; omega)]
  · rw [Nat.min_eq_right (by omega), List.drop_of_length_le (Nat.le_refl _), List.drop_of_length_le (by omega), List.take_nil]
theorem tl_cutM {z : Str} {k j : Nat} (h : k ≤ j) : DL.tl (cutS z (some (k : Int)) (some (j : Int))) = ((DL.tl z).drop k).take (j - k) := by
  show ((DL.tl z).drop (HT.sIx z.length 0 (some (k : Int)))).take (HT.sIx z.length z.length (some (j : Int)) - HT.sIx z.length 0 (some (k : Int))) = _
  rw [HT.sIx_nat, HT.sIx_nat, len_tl]
  by_cases h1 : k ≤ (DL.tl z).length
  · rw [Nat.min_eq_left h1]
    by_cases h2 : j ≤ (DL.tl z).length
    · rw [Nat.min_eq_left h2]
    · rw [Nat.min_eq_right (by omega), List.take_of_length_le (by rw [List.length_drop]; omega), List.take_of_length_le (by rw [List.length_drop]; omega)]
  · rw [Nat.min_eq_right (show (DL.tl z).length ≤ k by omega), List.drop_of_length_le (Nat.le_refl _), List.drop_of_length_le (by omega), List.take_nil, List.take_nil]
def spNone : Spd := fun ds s Q _ => ∃ (b sg : Str) (k : Nat), ds = [.str (rowS b), .int k, .str sg] ∧ Low b ∧ b.length ≤ 4500 ∧ k < (rowS b).length ∧ Low sg ∧ Kp (Q (.bl true) s)
theorem ok_none (T : Txt K mg) (G_body_of : Fn P w K mg base "body_of" 3 ["row"] spBody) : Fn P w K mg base "_law_none" 4 ["written", "at", "signs"] spNone := by
  refine fnOk T.d__law_none sc__law_none (fun ds s Q E h => ?_) (fun A f cdv Ar outer s H E hr => (dsc (dsfor PassesOwn.never rfl (diter (dpv 2)) (fun _ _ => dgpat (pg_name (i := 3) sc__law_none.nd rfl (Or.inl rfl)) (gmName 3) (patN 3)) (fun _ _ => (ds1 (dsif ((dpand (dtcmp (od_ne hr.units) (dpv 3) (dix (hu_of hr) (dpv 0) (dpv 1)) (nomark _)) (dpand1 (dtcmp od_isnot (dfrz (dF G_body_of (hr.mono (by decide)) (dac (dop od_add (dop od_add (dslice sl_d (dpv 0) dpn (dpo (dpv 1))) (dpv 3)) (dslice sl_d (dpv 0) (dpo (dop od_add (dpv 1) dint)) dpn)) dan))) dnon (nomark _))))).pt
  (ds1 (dsret dbl))
  dsn))))
  (dsc (dsset (i := 4) sc__law_none.nd rfl (Or.inl rfl) (dslice sl_d (dpv 0) (dpo (dpv 1)) (dpo (dop od_add (dpv 1) dint))))
  (dsc (dsif ((dpand (dtcmp (od_ne hr.units) (dpv 4) (drev (dpv 4)) (nomark _)) (dpand1 (dtcmp od_isnot (dfrz (dF G_body_of (hr.mono (by decide)) (dac (dop od_add (dop od_add (dslice sl_d (dpv 0) dpn (dpo (dpv 1))) (drev (dpv 4))) (dslice sl_d (dpv 0) (dpo (dop od_add (dpv 1) dint)) dpn)) dan))) dnon (nomark _))))).pt
  (ds1 (dsret dbl))
  dsn)
  (ds1 (dsret (dcmp od_is (dfrz (dF G_body_of (hr.mono (by decide)) (dac (dslice sl_d (dpv 0) dpn (dpo (dpv 1))) dan))) dnon (nomark _)))))))) (fun ds s Q E h => ?_)
  · obtain ⟨b, sg, k, rfl, q⟩ := h
    rfl
  · obtain ⟨b, sg, k, rfl, hb, hbl, hk, hsg, q⟩ := h
    have hrl := rowS_len (z := b) (by omega)
    have hkt : k < (DL.tl (rowS b)).length := by rw [← len_tl]; exact hk
    obtain ⟨u, hu⟩ := get_lt hkt
    have hdr : (DL.tl (rowS b)).drop k = u :: (DL.tl (rowS b)).drop (k + 1) := by
      rw [List.drop_eq_getElem_cons hkt]
      congr 1
      exact (List.getElem?_eq_some_iff.mp hu).2
    have hspl : rowL (DL.tl b) = (DL.tl (rowS b)).take k ++ u :: (DL.tl (rowS b)).drop (k + 1) := by
      rw [← hdr, List.take_append_drop, tl_rowS]
    have hat : atI (DL.tl (rowS b)) (k : Int) = some u := DL.atI_nat hu
    generalize hz : rowS b = z at *
    have non : ∀ {x : Str}, ¬ IsRow (DL.tl x) → bodyD x = .non := bodyD_not
    have hks : z.length ≤ sizeLine := size_le (by omega)
    walk_at "dl"
    refine for_its (fun i δ s' => ∃ y, δ = [some (.str z), some (.int k), some (.str sg), y, none] ∧ s' = s) ⟨none, rfl, rfl⟩ (fun _ _ _ _ => trivial) (fun i d δ s' hd ⟨y, e1, e2⟩ => ?_) (fun δ s' ⟨y, e1, e2⟩ => ?_)
    · subst e1 e2
      rw [List.getElem?_map] at hd
      cases hc : (sg.cps.toList)[i]? with
      | none => rw [hc] at hd; cases hd
      | some c =>
        rw [hc] at hd
        cases hd
        have hc8 : c < 128 := hsg c (List.mem_of_getElem? hc)
        walk_at "dl"
        refine ifS ?_
        walk_at "dl"
        by_cases hcu : c = u
        · rw [decide_eq_true (show (⟨#[c]⟩ : Str) = ⟨#[u]⟩ by rw [hcu])]
          walk_at "dl"
          exact ⟨_, rfl⟩
        · rw [decide_eq_false (show ¬ (⟨#[c]⟩ : Str) = ⟨#[u]⟩ from fun e => hcu (by injection e with e; simpa using e))]
          walk_at "dl"
          have l1 : (⟨#[c]⟩ : Str).length = 1 := rfl
          have l2 := cutS_length z none (some (k : Int))
          have l3 := cutS_length z (some ((k : Int) + 1)) none
          refine ⟨size_le (by omega), size_le (by rw [lapp]; omega), _, rfl, by rw [lapp, lapp]; omega, ⟨?_⟩⟩
          have ht : DL.tl (cutS z none (some (k : Int)) ++ ⟨#[c]⟩ ++ cutS z (some ((k : Int) + 1)) none) = (DL.tl z).take k ++ c :: (DL.tl z).drop (k + 1) := by
            rw [tl_app, tl_app, tl_cutA, show (k : Int) + 1 = ((k + 1 : Nat) : Int) from rfl, tl_cutB, List.append_assoc]
            rfl
          rw [non (by rw [ht]; exact sub_row hb (by rw [← len_tl]; omega) hspl hc8 hcu)]
          walk_at "dl"
          exact ⟨_, rfl⟩
    · subst e1 e2
      have hend : bodyD (cutS z none (some (k : Int))) = .non := non (by rw [tl_cutA]; exact end_row hspl)
      have l2 := cutS_length z none (some (k : Int))
      have l3 := cutS_length z (some ((k : Int) + 2)) none
      have l4 := cutS_length z (some (k : Int)) (some ((k : Int) + 2))
      have hbo : DL.tl (cutS z (some (k : Int)) (some ((k : Int) + 2))) = u :: ((DL.tl z).drop (k + 1)).take 1 := by
        rw [show (k : Int) + 2 = ((k + 2 : Nat) : Int) from rfl, tl_cutM (by omega), hdr, show k + 2 - k = 2 by omega]
        rfl
      walk_at "dl"
      have hbs : (cutS z (some (k : Int)) (some ((k : Int) + 2))).length ≤ sizeLine := size_le (by omega)
      refine ifS ?_
      walk_at "dl"
      cases hr : (DL.tl z).drop (k + 1) with
      | nil =>
        have eq : cutS z (some (k : Int)) (some ((k : Int) + 2)) = revS (cutS z (some (k : Int)) (some ((k : Int) + 2))) := by
          refine ext_tl ?_
          rw [show DL.tl (revS (cutS z (some (k : Int)) (some ((k : Int) + 2)))) = (DL.tl (cutS z (some (k : Int)) (some ((k : Int) + 2)))).reverse from rfl, hbo, hr]
          rfl
        rw [decide_eq_true eq]
        clear eq
        walk_at "dl"
        refine ⟨_, rfl, by omega, ⟨?_⟩⟩
        rw [hend]
        walk_at "dl"
        exact q.out
      | cons v r =>
        have hsp2 : rowL (DL.tl b) = (DL.tl z).take k ++ u :: v :: r := by rw [hspl, hr]
        have hr2 : (DL.tl z).drop (k + 2) = r := by
          have := congrArg (List.drop 1) hr
          rwa [List.drop_drop] at this
        by_cases huv : u = v
        · have eq : cutS z (some (k : Int)) (some ((k : Int) + 2)) = revS (cutS z (some (k : Int)) (some ((k : Int) + 2))) := by
            refine ext_tl ?_
            rw [show DL.tl (revS (cutS z (some (k : Int)) (some ((k : Int) + 2)))) = (DL.tl (cutS z (some (k : Int)) (some ((k : Int) + 2)))).reverse from rfl, hbo, hr, huv]
            rfl
          rw [decide_eq_true eq]
          clear eq
          walk_at "dl"
          refine ⟨_, rfl, by omega, ⟨?_⟩⟩
          rw [hend]
          walk_at "dl"
          exact q.out
        · have hrv : DL.tl (revS (cutS z (some (k : Int)) (some ((k : Int) + 2)))) = [v, u] := by
            rw [show DL.tl (revS (cutS z (some (k : Int)) (some ((k : Int) + 2)))) = (DL.tl (cutS z (some (k : Int)) (some ((k : Int) + 2)))).reverse from rfl, hbo, hr]
            rfl
          have neq : ¬ cutS z (some (k : Int)) (some ((k : Int) + 2)) = revS (cutS z (some (k : Int)) (some ((k : Int) + 2))) := fun e => by
            have := congrArg DL.tl e
            rw [hrv, hbo, hr] at this
            exact huv (List.cons.inj this).1
          rw [decide_eq_false neq]
          have l5 : (revS (cutS z (some (k : Int)) (some ((k : Int) + 2)))).length = 2 := by rw [len_tl, hrv]; rfl
          generalize cutS z (some (k : Int)) (some ((k : Int) + 2)) = bo at *
          walk_at "dl"
          refine ⟨size_le (by omega), size_le (by rw [lapp]; omega), _, rfl, by rw [lapp, lapp]; omega, ⟨?_⟩⟩
          have ht : DL.tl (cutS z none (some (k : Int)) ++ revS bo ++ cutS z (some ((k : Int) + 2)) none) = (DL.tl z).take k ++ v :: u :: r := by
            rw [tl_app, tl_app, tl_cutA, show (k : Int) + 2 = ((k + 2 : Nat) : Int) from rfl, tl_cutB, hrv, hr2, List.append_assoc]
            rfl
          rw [non (by rw [ht]; exact swap_row hb hsp2 huv)]
          walk_at "dl"
          refine ⟨_, rfl, by omega, ⟨?_⟩⟩
          rw [hend]
          walk_at "dl"
          exact q.out
end Law

set_option Elab.async false
set_option linter.all false
set_option maxRecDepth 100000
set_option maxHeartbeats 4000000
namespace Law
open PySem PySem.Spec PyProof.Rows L2 DL RW
local macro_rules | `(tactic| walk_at "dl") => `(tactic| (try simp only [kOp1_e, kOp2_e, kTest_q1, kChain1_e, kChain2_e, kChain3_q1, kChain3_q2, dChain_e, kAnd_q1, kAnd_q2, kOr_q1, kOr_q2, kNot_e, kIf_q1, kIf_q2, kTru_k, kTruO_q1, kTruO_q2, kCons1_e, kCons2_e, kTup_e, kLst_e, kLstM_e, kFrz_e, kDrop_q1, kRetS_e, kIfS_e, kAsg_e, kGCons_e, kPart_q1, kSl1_e, kSl2_e, kSl3_e, kSub1_e, kSub2_e, kCB_e, kBM1_e, kBM2_e, kIt_q, kItO_q, kRng1_q1, kRng2_q1, kWhile_e, kLc1_e, kLc2_e, kLc2', kLc3_e, finF_e, finM_e, kAndE_q1, kAndE_q2, kOrE_q1, kOrE_q2, kNotE_q1, kNeg_q1, kCall_e, kCallK_e, kCallK2_e, dCallK_e, kMeth, kMeth2_e, kMade_e, kMake_e, kMakeK_e, kMakeK2_e, dMakeK_e, kFld, kSetFld_e, kSetFld2, kAugFld, kAugN1_e, kAugN2_e, kPair1_q1, kPair2_q1, kPair3_e, kDisp, dSeq_e, dAsg_e, dVar_k, kVar_q1, kVar_q2, dC_e, dOp_e, gNameD_e, gNilD_e, gConsD_q1, gConsD_q2, gTupD_q1, gifT_q, gifF_q, dTest_e, dTru_e, truD_q1, truD_q2, truD_q3, truD_q5, truD_q6, truD_q7, truD, truD_qs, dAnd_e, dOr_e, dNot_e, dAndE_e, dOrE_e, dNotE_e, dNeg_e, dIf_e, dRet_e, dRetN_e, dRetS_e, dNext_e, dDrop_e, dBreak_e, dCont_e, dCB_e, dCons_e, dNil_e, dIx_str, dIx_lst_q, dIx_tup_q, dIx_scr_q, kChr_q1, kChr_q2, dIx_re, kIxR_q1, kIxR_q2, kIxK_q, ixD_q1, ixD_q2, dSl_e, dSlR_str_q, dSlR_tup_q, dSlR_lst_q, dSlR_scr, dSlR_q1, dSlR_q2, dSlM, dPart_e, dNoPart_e, dI_q1, dI0_q1, dAdd_int_q, dAdd_str_q, dAdd_tup_q, dAdd_lst_q, dAdd_q1, dAdd_q2, dAdd_q3, dMul_int_q, dMul_q1, dMul_q2, dLtB_q1, dLtB_q2, dEq_k, kEqO_q1, kEqO_q2, kEqS_q1, dNe_k, dIs_q1, dIs_q2, isNonD_q1, isNonD, dIn_tup_q, dIn_lst_q, dIn_str_q, dIn_q1, scalEq_q1, scalEq_q2, scalEq_q3, scalEq_q4, scalEq_q5, scalEq_q6, scalEq_q7, scalEq_q8, scalEq, pdS, pd_q1, pd_q2, pd_q3, pd_q4, pd_q5, pd_q6, pd_q7, pd_q8, pdL_q1, pdL, pdL_ints, pdL_strs, eqv_nil, List.isEmpty_map, refL_lst_q, refL_dK_q, refL_ins_q, lstD_lst_q, lstD_scr_q, lstD_tup_q, lstD_str_q, lstD_int_q, lstD_re, lstW_lst_q, lstW_tup_q, lstW_str_q, lstW_int_q, lstW_re, seqD_tup_q, seqD_lst_q, seqD_scr_q, seqD_str_q, seqD_int_q, seqD_re, dictD, keyD_q1, keyD_q2, keyD, dLen_k, kLenO_q1, kLenO_q2, lenD_q1, lenD_tup, lenD_lst, lenD_scr, lenD_re, lenO_q, dAbs_q1, dMin2_q1, dMax2_q1, dListM, dListF_k, kSeqF_q1, kSeqF_q2, dTupF_k, dOrd_q1, dStr_q1, dLst_e, dLstM_e, dTup_e, gSubD_e, dSetR, dFld_e, dSetFld_e, dAugFld_e, dAugN, dIpAdd_q1, dBM_e, tyD_q1, tyD_q2, tyD_q4, tyD_q5, tyD, dAppend, dPop, dJoin, strsD_map, dMeth_e, dCall_e, dMake_e, dFrz_e, frzR_lst_q, frzR_dK_q, frzR_ins_q, frz_int_q, frz_str_q, frz_bl_q, frz_non_q, frz_tup_q, frz_lst_q, frz_scr_q, frz_re, er_none, atI_zero, atI_one, ixN_zero, ixN_one, dDisp_e, dPairs, keysD_q1, keysD, dLc_e, dLcM_e, dFor_e, wipeD_q1, wipeD_q2, dYes_q1, dIt_e, itemsD_q1, itemsD_q2, itemsD_q3, itemsD_q4, itemsD, dRng1_e, dRng2_e, startD_q1, up_same, up_up, er_up, Option.map_some, List.map_cons, List.map_nil, List.length_map, List.length_cons, List.length_nil, List.replicate_succ, List.replicate_zero, List.cons_append, List.nil_append, List.append_nil, getD_qs, getD_q0, set_qs, set_q0, Nat.reduceSub, Nat.reduceAdd, Nat.zero_add, Nat.sub_zero, Bool.not_true, Bool.not_false, if_true, if_false, Bool.true_eq_false, Bool.false_eq_true, reduceIte, true_and, and_true, beq_self_eq_true, Int.reduceEq, Int.reduceLT, Int.reduceLE, Int.reduceAdd, Int.reduceSub, Int.reduceNeg, Int.reduceMul, decide_true, decide_false, dEnS_q, kEnS1_q, kEnS2_q, gStarN_q, gStarD_q, dFmt_q, kFmt_q1, kFmt_q2, dJst_q, dJs_q1, dJs_q2, kJs_q, dSplitK_q, dFind_q1, dFind_q2, dIntF_q1, dIntF_q2, dMulT_q, dPar2_q1, kPar2_q1, dPar3_q1, kPar3_q1, dRev_q1, kRev_q1, kRev_q2, kRev_q3, *]))
local macro_rules | `(tactic| walk_at "side") => `(tactic| first | omega | exact size_lt (by omega) | exact size_le (by omega) | exact mulS (by omega) (by omega) | exact mulS' (by omega) (by omega) | exact cdiv (by omega) (by omega) | exact shaped_ints _ | exact shaped_nil | assumption)
local macro_rules | `(tactic| walk_at "sides") => `(tactic| repeat ((with_reducible refine And.intro ?_ ?_); next => walk_at "side"))
local macro_rules | `(tactic| walk_at "if") => `(tactic| (refine ifS ?_; walk_at "dl"))
local macro_rules | `(tactic| walk_at "for") => `(tactic| (unfold dFor; walk_at "dl"; walk_at "sides"))
local macro_rules | `(tactic| walk_at "upf") => `(tactic| first | exact up_same | assumption | ((rw [up_ne (by first | assumption | exact Ne.symm (by assumption))]); walk_at "upf") | ((rw [er_ne (by first | assumption | exact Ne.symm (by assumption))]); walk_at "upf"))

variable {P : Program} {w : World} {K : PySem.W.Frag} {mg : Str → Option Value} {base : Heap}
theorem Low.rep {z : Str} (h : Low z) (k : Int) : Low (repS z k) := fun c hc => by
  rw [show DL.tl (repS z k) = _ from repS_list z k] at hc
  obtain ⟨l, hl, hc⟩ := List.mem_flatten.mp hc
  rw [(List.mem_replicate.mp hl).2] at hc
  exact h c hc
theorem bodyD_frz (b : Str) (s : Sto) : frzD s (bodyD (rowS b)) = (.str b, s) := by rw [bodyD_row]; rfl
def spLaw : Spd := fun ds s Q _ => ∃ ns : List Int, ds = [.scr (ns.map DV.int)] ∧ ns.length ≤ 63 ∧ Kp (∀ s', Q (.bl true) s')
theorem ok_law (T : Txt K mg) (G__law_dealt : Fn P w K mg base "_law_dealt" 1 ["script"] spDealt) (G__law_pick : Fn P w K mg base "_law_pick" 1 ["hand", "many"] spPck) (G__law_alphabet : Fn P w K mg base "_law_alphabet" 1 [] spAlpha) (G__law_any_body : Fn P w K mg base "_law_any_body" 2 ["hand", "most"] spAny)
    (G_framed : Fn P w K mg base "framed" 2 ["body"] spFramed) (G_body_of : Fn P w K mg base "body_of" 3 ["row"] spBody) (G__law_none : Fn P w K mg base "_law_none" 4 ["written", "at", "signs"] spNone)
    {f : Addr} {fd : FuncData} (FL : Fun K "law" "law" s_law f fd) : FnOk P w K mg base CX0 5 f fd ["script"] (lSp K spLaw) := by
  refine defOk FL sc_law (fun ds s Q E h => ?_) (fun A cdv Ar outer s H E hr => (dsc (dsset (i := 1) sc_law.nd rfl (Or.inl rfl) (dF G__law_dealt (hr.mono (by decide)) (dac (dpv 0) dan)))
  (dsc (dsset (i := 2) sc_law.nd rfl (Or.inl rfl) (dfrz (dF0 G__law_alphabet (hr.mono (by decide)))))
  (dsc (dsfor PassesOwn.never rfl (drange1 T.b_range (dac dint dan)) (fun _ _ => dgpat (pg_name (i := 3) sc_law.nd rfl (Or.inl rfl)) (gmName 3) (patN 3)) (fun _ _ => (dsc (dsset (i := 4) sc_law.nd rfl (Or.inl rfl) (dfrz (dF G__law_any_body (hr.mono (by decide)) (dac (dpv 1) (dac dint dan)))))
  (dsc (dsset (i := 5) sc_law.nd rfl (Or.inl rfl) (dfrz (dF G_framed (hr.mono (by decide)) (dac (dpv 4) dan))))
  (dsc (dsif (dtcmp (od_ne hr.units) (dfrz (dF G_body_of (hr.mono (by decide)) (dac (dpv 5) dan))) (dpv 4) (nomark _))
  (ds1 (dsret dbl))
  dsn)
  (dsc (dsfor PassesOwn.never rfl (drange1 T.b_range (dac (dcallB cd_len T.b_len PySem.boot_len (dac (dpv 5) dan)) dan)) (fun _ _ => dgpat (pg_name (i := 6) sc_law.nd rfl (Or.inl rfl)) (gmName 6) (patN 6)) (fun _ _ => (ds1 (dsif (dpnot (dtruth (dfrz (dF G__law_none (hr.mono (by decide)) (dac (dpv 5) (dac (dpv 6) (dac (dpv 2) dan)))))))
  (ds1 (dsret dbl))
  dsn))))
  (ds1 (dsif (dtcmp (od_ne hr.units) (dfrz (dF G_body_of (hr.mono (by decide)) (dac (dpv 5) dan))) (dpv 4) (nomark _))
  (ds1 (dsret dbl))
  dsn))))))))
  (dsc (dspar2 (i := 4) (j := 7) rfl sc_law.nd rfl rfl (by decide) rfl rfl (dac (dfrz (dF G__law_any_body (hr.mono (by decide)) (dac (dpv 1) (dac dint dan)))) (dac (dix (hu_of hr) (dlst (dac dint (dac (dop od_add dint (dfrz (dF G__law_pick (hr.mono (by decide)) (dac (dpv 1) (dac dint dan))))) dan))) (dfrz (dF G__law_pick (hr.mono (by decide)) (dac (dpv 1) (dac dint dan))))) dan)) (by rfl))
  (dsc (dsif (dtcmp od_gt (dpv 7) dint (nomark _))
  (ds1 (dsset (i := 4) sc_law.nd rfl (Or.inl rfl) (dslice sl_d (dop od_mulT (dop od_add (dpv 4) dstr) (dop od_add dint (dop od_fdiv (dpv 7) (dop od_add (dcallB cd_len T.b_len PySem.boot_len (dac (dpv 4) dan)) dint)))) dpn (dpo (dpv 7)))))
  dsn)
  (dsc (dsset (i := 5) sc_law.nd rfl (Or.inl rfl) (dfrz (dF G_framed (hr.mono (by decide)) (dac (dpv 4) dan))))
  (dsc (dsfor PassesOwn.never rfl (drange1 T.b_range (dac (dop od_add dint (dop od_mul dint (dcallTy cd_int T.b_int (by decide +kernel) (dac (dcmp (od_eq hr.units) (dpv 7) dint (nomark _)) dan)))) dan)) (fun _ _ => dgpat (pg_name (i := 3) sc_law.nd rfl (Or.inl rfl)) (gmName 3) (patN 3)) (fun _ _ => (ds1 (dsif (dpnot (dtruth (dfrz (dF G__law_none (hr.mono (by decide)) (dac (dpv 5) (dac (dfrz (dF G__law_pick (hr.mono (by decide)) (dac (dpv 1) (dac (dcallB cd_len T.b_len PySem.boot_len (dac (dpv 5) dan)) dan)))) (dac (dslice sl_d (dslice sl_d (dpv 2) (dpo (dfrz (dF G__law_pick (hr.mono (by decide)) (dac (dpv 1) (dac dint dan))))) dpn) dpn (dpo dint)) dan)))))))
  (ds1 (dsret dbl))
  dsn))))
  (ds1 (dsret (dcmp (od_eq hr.units) (dfrz (dF G_body_of (hr.mono (by decide)) (dac (dpv 5) dan))) (dpv 4) (nomark _)))))))))))) (fun ds s Q E h => ?_)
  · obtain ⟨ns, rfl, q⟩ := h
    rfl
  · obtain ⟨ns, rfl, hn, q⟩ := h
    walk_at "dl"
    refine ⟨ns, rfl, hn, ⟨fun p hp => ?_⟩⟩
    have P0 : Pen (up s p (.lst (handL ns 0 0))) p 0 := ⟨⟨ns, 0, 0, up_same, hn, by omega, by omega⟩⟩
    generalize up s p (.lst (handL ns 0 0)) = s0 at P0 ⊢
    walk_at "dl"
    refine ⟨rfl, ⟨?_⟩⟩
    walk_at "dl"
    walk_at "sides"
    refine for_rng (fun i δ s' => ∃ x3 x4 x5 x6, δ = [some (.scr (ns.map DV.int)), some (.ref p), some (.str zA), x3, x4, x5, x6, none] ∧ Pen s' p (5000 * i)) ⟨none, none, none, none, rfl, P0⟩ (fun i δ s1 hi ⟨x3, x4, x5, x6, e1, P1⟩ => ?_) (fun δ s1 ⟨x3, x4, x5, x6, e1, P1⟩ => ?_)
    · subst e1
      have hi3 : i < 3 := by simpa using hi
      walk_at "dl"
      refine ⟨p, _, 30, rfl, by decide, by decide, P1, by omega, ⟨fun z s2 hz hL N2 => ?_⟩⟩
      walk_at "dl"
      have hrl := rowS_len (z := z) (by omega)
      refine ⟨z, rfl, by omega, ⟨?_⟩⟩
      walk_at "dl"
      refine ifS ?_
      walk_at "dl"
      refine ⟨_, rfl, by omega, ⟨?_⟩⟩
      rw [bodyD_row]
      have hrs : (rowS z).length ≤ sizeLine := size_le (by omega)
      walk_at "dl"
      walk_at "sides"
      refine for_rng (fun j δ s' => ∃ x6, δ = [some (.scr (ns.map DV.int)), some (.ref p), some (.str zA), some (.int (0 + (i : Int))), some (.str z), some (.str (rowS z)), x6, none] ∧ s' = s2) ⟨_, rfl, rfl⟩ (fun j δ s' hj ⟨x6, e1, e2⟩ => ?_) (fun δ s' ⟨x6, e1, e2⟩ => ?_)
      · subst e1 e2
        have hj2 : j < (rowS z).length := by simpa using hj
        walk_at "dl"
        rw [Int.zero_add (j : Int)]
        refine ifS ?_
        walk_at "dl"
        refine ⟨z, zA, j, rfl, hL, by omega, hj2, zA_low, ⟨?_⟩⟩
        walk_at "dl"
        exact ⟨_, rfl⟩
      · subst e1 e2
        walk_at "dl"
        refine ifS ?_
        walk_at "dl"
        refine ⟨_, rfl, by omega, ⟨?_⟩⟩
        rw [bodyD_row]
        walk_at "dl"
        exact ⟨_, _, _, _, rfl, N2.pen.le (by omega)⟩
    · subst e1
      walk_at "dl"
      refine ⟨p, _, 800, rfl, by decide, by decide, P1, by omega, ⟨fun z s2 hz hL N2 => ?_⟩⟩
      walk_at "dl"
      refine ⟨p, 2400, _, rfl, N2.pen, by omega, by decide, by decide, ⟨fun r s3 r0 r1 N3 => ?_⟩⟩
      walk_at "dl"
      refine ⟨by decide, p, 2, _, rfl, N3.pen, by omega, by decide, by decide, ⟨fun r' s4 r0' r1' N4 => ?_⟩⟩
      walk_at "dl"
      refine ixD_all (P := fun d => ∃ m : Int, d = .int m ∧ 800 ≤ m ∧ m < 3900) (by
        simp only [List.forall_mem_cons, List.not_mem_nil, false_imp_iff, implies_true, and_true]
        exact ⟨⟨_, rfl, by omega, by omega⟩, ⟨_, rfl, by omega, by omega⟩⟩) r0' r1' fun d ⟨m, e, m0, m1⟩ => ?_
      subst e
      have P4 := N4.pen
      walk_at "dl"
      refine ifJ (fun δ s' => ∃ z' : Str, δ = [some (.scr (ns.map DV.int)), some (.ref p), some (.str zA), x3, some (.str z'), x5, x6, some (.int m)] ∧ s' = s4 ∧ Low z' ∧ z'.length ≤ 4000) (fun R hR => ?_) (fun δ s' ⟨z', e1, e2, hL', hz'⟩ => ?_)
      · walk_at "dl"
        refine dGif_of (fun hm => ?_) (fun hm => ?_)
        · have hzs : z.length ≤ sizeLine := size_le (by omega)
          have lx : (Str.ofString "x1 9").length = 4 := by decide +kernel
          have d0 : 0 ≤ m / ((z.length : Int) + 4) := Int.ediv_nonneg (by omega) (by omega)
          have d1 : m / ((z.length : Int) + 4) ≤ m := Int.ediv_le_self _ (by omega)
          have d2 : ((z.length : Int) + 4) * (m / ((z.length : Int) + 4)) ≤ m := Int.mul_ediv_self_le (by omega)
          have lr : (repS (z ++ Str.ofString "x1 9") (1 + m / ((z.length : Int) + 4))).length ≤ 5000 := by
            rw [repS_length, lapp, lx]
            generalize m / ((z.length : Int) + 4) = k at d0 d1 d2
            have hk : (((1 + k).toNat : Nat) : Int) = 1 + k := Int.toNat_of_nonneg (by omega)
            have h2 : (((1 + k).toNat * (z.length + 4) : Nat) : Int) = ((z.length : Int) + 4) + ((z.length : Int) + 4) * k := by
              rw [Int.natCast_mul, hk, Int.natCast_add, Int.add_mul, Int.one_mul, Int.mul_comm k]
              rfl
            omega
          walk_at "dl"
          refine ⟨size_le (by omega), cdiv (by omega) (by omega), ⟨by omega, by omega, by rw [lapp]; omega, by rw [lapp]; omega⟩, size_le (by omega), ?_⟩
          refine hR _ _ ⟨_, rfl, rfl, ((hL.app (by unfold Low; decide +kernel)).rep _).cut _ _, ?_⟩
          have em : (m.toNat : Int) = m := Int.toNat_of_nonneg (by omega)
          rw [← em, len_tl, tl_cutA, List.length_take]
          omega
        · exact hR _ _ ⟨z, rfl, rfl, hL, by omega⟩
      · subst e1 e2
        walk_at "dl"
        have hrl := rowS_len (z := z') (by omega)
        have hrs : (rowS z').length ≤ sizeLine := size_le (by omega)
        refine ⟨z', rfl, by omega, ⟨?_⟩⟩
        walk_at "dl"
        have ht : (if decide (m = 800) = true then (1 : Int) else 0) = 0 ∨ (if decide (m = 800) = true then (1 : Int) else 0) = 1 := by
          split
          · exact .inr rfl
          · exact .inl rfl
        generalize (if decide (m = 800) = true then (1 : Int) else 0) = t at ht ⊢
        have hpos : 1 ≤ (rowS z').length := by
          rw [len_tl, tl_rowS]
          unfold rowL
          rw [List.length_append, List.length_cons]
          omega
        refine ⟨mulS' (by omega) (by omega), ⟨by omega, by omega⟩, ?_⟩
        refine for_rng (fun j δ s'' => ∃ x3', δ = [some (.scr (ns.map DV.int)), some (.ref p), some (.str zA), x3', some (.str z'), some (.str (rowS z')), x6, some (.int m)] ∧ Pen s'' p (20000 + 2 * j)) ⟨_, rfl, P4.le (by omega)⟩ (fun j δ s'' hj ⟨x3', e1, P5⟩ => ?_) (fun δ s'' ⟨x3', e1, P5⟩ => ?_)
        · subst e1
          have hj40 : j < 40 := by omega
          walk_at "dl"
          refine ifS ?_
          walk_at "dl"
          refine ⟨p, _, _, rfl, P5, by omega, by omega, by omega, ⟨fun r3 s5 c0 c1 N5 => ?_⟩⟩
          obtain ⟨kk, rfl⟩ := Int.eq_ofNat_of_zero_le c0
          walk_at "dl"
          refine ⟨p, 94, _, rfl, N5.pen, by omega, by decide, by decide, ⟨fun r4 s6 d0 d1 N6 => ?_⟩⟩
          walk_at "dl"
          have lz := cutS_length zA (some r4) none
          rw [zA_len] at lz
          refine ⟨by decide +kernel, size_le (by omega), z', _, kk, rfl, hL', by omega, by omega, (Low.cut (Low.cut zA_low _ _) _ _), ⟨?_⟩⟩
          walk_at "dl"
          exact ⟨_, rfl, N6.pen.le (by omega)⟩
        · subst e1
          walk_at "dl"
          refine ⟨_, rfl, by omega, ⟨?_⟩⟩
          rw [bodyD_row]
          walk_at "dl"
          exact q.out _
end Law

set_option Elab.async false
set_option linter.all false
set_option maxRecDepth 100000
set_option maxHeartbeats 4000000
namespace Law
open PySem PySem.Spec PyProof.Rows L2 DL
/-! ### the head -/
def fnL : List He.DefD := [
  ⟨("framed", none), "framed", "framed", defArgs s_framed, defBody s_framed, defScope s_framed, [], []⟩,
  ⟨("body_of", none), "body_of", "body_of", defArgs s_body_of, defBody s_body_of, defScope s_body_of, [], []⟩,
  ⟨("_law_dealt", none), "_law_dealt", "_law_dealt", defArgs s__law_dealt, defBody s__law_dealt, defScope s__law_dealt, [], []⟩,
  ⟨("_law_pick", none), "_law_pick", "_law_pick", defArgs s__law_pick, defBody s__law_pick, defScope s__law_pick, [], []⟩,
  ⟨("_law_alphabet", none), "_law_alphabet", "_law_alphabet", defArgs s__law_alphabet, defBody s__law_alphabet, defScope s__law_alphabet, [], []⟩,
  ⟨("_law_any_body", none), "_law_any_body", "_law_any_body", defArgs s__law_any_body, defBody s__law_any_body, defScope s__law_any_body, [], []⟩,
  ⟨("_law_none", none), "_law_none", "_law_none", defArgs s__law_none, defBody s__law_none, defScope s__law_none, [], []⟩,
  ⟨("law", none), "law", "law", defArgs s_law, defBody s_law, defScope s_law, [], []⟩,
  ⟨("sum_of", none), "sum_of", "sum_of", defArgs s_sum_of, defBody s_sum_of, defScope s_sum_of, [], [("modulus", .int 1000003)]⟩]
def faL : List He.Fa := [.glo "framed", .glo "body_of", .glo "_law_dealt", .glo "_law_pick", .glo "_law_alphabet", .glo "_law_any_body", .glo "_law_none", .glo "law", .free "len", .free "abs", .free "ord", .free "range", .free "list", .free "int", .free "enumerate", .glo "sum_of"]
def exL (K : PySem.W.Frag) : Bool := true
abbrev RL : PySem.W.OpenRow := PySem.W.OpenLaw.row PySem.Challenge.rw_eventledger_k05_whole_each_flip_is_found
abbrev hkL : PySem.W.Hook := hookB 6 faL fnL exL
def obL (s : PySem.W.SharedT) : He.AlD × Bool := obB 6 faL fnL exL (HandSHeadRun.getT s)
theorem obL_eq (s : PySem.W.SharedT) : obL s = hkL.obs s.abs := obB_eq (HandSHeadRun.getT_eq s)
theorem runL (w : World) : HandSHeadRun.RunEq RL (PySem.W.view RL.prog [11]) hkL obL 3000 ["__name__", "MODULUS", "sum_of", "framed", "body_of", "_law_dealt", "_law_pick", "_law_alphabet", "_law_any_body", "_law_none"] w := by
  intro os
  kernel_rfl
section
variable {P : Program} {w : World} {K : PySem.W.Frag} {h : Heap} {mg : Str → Option Value} {base : Heap}
theorem txtL (X : K.In h) (G : h.Ns mainGlobals mg) (c : SaysB faL fnL exL K) : Txt K mg := ⟨
  (defAt_of X G (c.1.def_ 0 rfl) (c.1.fact 0 rfl) fun _ _ _ _ _ _ us hl => match us, hl with | [_], _ => rfl),
  (defAt_of X G (c.1.def_ 1 rfl) (c.1.fact 1 rfl) fun _ _ _ _ _ _ us hl => match us, hl with | [_], _ => rfl),
  (defAt_of X G (c.1.def_ 2 rfl) (c.1.fact 2 rfl) fun _ _ _ _ _ _ us hl => match us, hl with | [_], _ => rfl),
  (defAt_of X G (c.1.def_ 3 rfl) (c.1.fact 3 rfl) fun _ _ _ _ _ _ us hl => match us, hl with | [_, _], _ => rfl),
  (defAt_of X G (c.1.def_ 4 rfl) (c.1.fact 4 rfl) fun _ _ _ _ _ _ us hl => match us, hl with | [], _ => rfl),
  (defAt_of X G (c.1.def_ 5 rfl) (c.1.fact 5 rfl) fun _ _ _ _ _ _ us hl => match us, hl with | [_, _], _ => rfl),
  (defAt_of X G (c.1.def_ 6 rfl) (c.1.fact 6 rfl) fun _ _ _ _ _ _ us hl => match us, hl with | [_, _, _], _ => rfl),
  (defAt_of X G (c.1.def_ 7 rfl) (c.1.fact 7 rfl) fun _ _ _ _ _ _ us hl => match us, hl with | [_], _ => rfl),
  (He.free_ok X G (c.1.fact 8 rfl)),
  (He.free_ok X G (c.1.fact 9 rfl)),
  (He.free_ok X G (c.1.fact 10 rfl)),
  (He.free_ok X G (c.1.fact 11 rfl)),
  (He.free_ok X G (c.1.fact 12 rfl)),
  (He.free_ok X G (c.1.fact 13 rfl)),
  (He.free_ok X G (c.1.fact 14 rfl))⟩
theorem sumL_mk {fd : FuncData} (T : Txt K mg) (F : FunD K "sum_of" "sum_of" (defArgs s_sum_of) (defBody s_sum_of) (defScope s_sum_of) [] [("modulus", .int 1000003)] (He.ga K "sum_of") fd) (g : mg "sum_of" = some (.ref (He.ga K "sum_of"))) : SumMk P w K mg base := by
  refine Exists.elim (F.binds0 (ps := ["text", "modulus"]) 1 (fun z => nomatch z) rfl (fun D doc pm an cdv ct us ks h1 h2 => ?_)) fun ds h => ?_
  · match us, ks, h1, h2 with
    | [u1], [k1], _, _ =>
      refine ⟨_, _, _, _, _, _, rfl, rfl, ?_⟩
      rfl
  · exact ⟨_, _, ds, ok_sum T F, g, F.kp, h.1, h.2⟩
theorem facts {fl : Addr} (X : K.In h) (G : h.Ns mainGlobals mg) (hfa : mg ("law" : Str) = some (.ref fl)) (c : SaysB faL fnL exL K) :
    ∃ fd : FuncData, (∀ (s : Shared) (v : Value), BindsTo s fd ⟨[v], []⟩ [("script", v)]) ∧ ∀ base : Heap, K.In base → base.Ns mainGlobals mg → FnOk P w K mg base CX0 5 fl fd ["script"] (lSp K spLaw) := by
  have T := txtL X G c
  obtain ⟨fd, F⟩ := c.1.def_ 7 rfl
  have e := hfa.symm.trans (He.glo_ok X G (c.1.fact 7 rfl))
  cases e
  have b := FunD.bindsA (ps := ["script"]) F fun _ _ _ _ _ _ us hl => match us, hl with | [_], _ => rfl
  obtain ⟨fd0, F0⟩ := c.1.def_ 8 rfl
  have g0 := He.glo_ok X G (x := "sum_of") (c.1.fact 15 rfl)
  refine ⟨fd, fun s v => b s [v] rfl, fun base _ _ => ?_⟩
  exact ok_law T (ok_dealt T) (ok_pick T) (ok_alpha T) (ok_any T (ok_alpha T) (ok_pick T)) (ok_framed T (sumL_mk T F0 g0)) (ok_body T (ok_framed T (sumL_mk T F0 g0))) (ok_none T (ok_body T (ok_framed T (sumL_mk T F0 g0)))) (fun_of F)
end
end Law
open PySem PySem.W PySem.Calls PyProof.Rows
theorem PySem.Challenge.cw_eventledger_k05_whole_each_flip_is_found_holds : PySem.Challenge.rw_eventledger_k05_whole_each_flip_is_found.Holds := by
  w_on; o_law
  refine HandSHeadRun.head_any (r := OpenLaw.row PySem.Challenge.rw_eventledger_k05_whole_each_flip_is_found) (q := view (OpenLaw.row PySem.Challenge.rw_eventledger_k05_whole_each_flip_is_found).prog [11]) (H := Law.hkL) (ob := Law.obL) (M := 3000) (loose := ["__name__", "MODULUS", "sum_of", "framed", "body_of", "_law_dealt", "_law_pick", "_law_alphabet", "_law_any_body", "_law_none"]) (d := HandSHeadRun.topDef (OpenLaw.row PySem.Challenge.rw_eventledger_k05_whole_each_flip_is_found).prog 11) (kwd := []) Law.obL_eq
    (by kernel_rfl) (fun s => by kernel_rfl) Law.runL (by kernel_rfl) (by kernel_rfl) (by kernel_rfl) (by rfl) (by first | assumption | decide +kernel) (by decide +kernel) ⟨rfl, rfl, rfl, rfl, rfl, by decide +kernel⟩ ?hw ?hc
  case hw => w_witness2
  case hc =>
    refine L2.walk_ofE (l := PySem.Challenge.rw_eventledger_k05_whole_each_flip_is_found) (n := 63) (k := 5) (x := "script") (CX := L2.CX0) rfl (by decide) (by kernel_rfl) ⟨rfl, by decide, by decide⟩ ?F (fun _ _ _ _ z => z)
    intro w mg fa h Y G hmg0
    obtain ⟨K, KX, c⟩ := Y
    have hmg : mg ("law" : PySem.Str) = some (.ref fa) := by
      have e : (HandSHeadRun.topDef (OpenLaw.row PySem.Challenge.rw_eventledger_k05_whole_each_flip_is_found).prog 11).name = ("law" : PySem.Str) := by kernel_rfl
      rw [← e]
      exact hmg0
    obtain ⟨fd, hb, hF⟩ := Law.facts (P := (PySem.Challenge.rw_eventledger_k05_whole_each_flip_is_found).prog) (w := w) KX G hmg c
    exact ⟨K, fd, DL.lSp K Law.spLaw, KX, hb, fun H a ns hl hO hS => DL.law_of hO hS ⟨ns, rfl, hl, ⟨fun _ => rfl⟩⟩, hF⟩

