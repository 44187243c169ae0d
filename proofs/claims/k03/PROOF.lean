import PyProof.Rows.All
import Wide.All
import OpenK.AllK
import Wide.FinOn
import HandS.ForExc
import HandS.ForMost
import HandS.Wide
import HandS.TupAny
import HandS.TupLe
import HandS.TupMul
import HandS.Defaults
import HandS.MakeKwOnly
import HandS.IsInst
import HandS.Style
import HandS.Flow
import HandS.EndBits
import HandS.Codes
import KE.KStateDown
import HandS.Head0
import HandS.Head1
import HandS.Head2
import HandS.HeadEnd
import HandS.HeadHook1
import HandS.HeadHook2
import HandS.Text
import HandS.Zip
import KE.KRevSl
import KE.GoesEnumKw
import KE.GoesMore
import KE.KUnpack
import PyProof.CollectIter
import PyProof.Rows.CallKwBuiltin
import HandS.FStr
import HandS.StrSplit
import HandS.StrMore
import HandS.Replace
import HandS.ReplaceLit
import HandS.WordsExc
import HandS.CallSlots
import HandS.ExcField
import HandS.ExcIs
import KE.KExcInit
import HandS.ExcInit
import KE.KExcIs
import PyProof.StrLawsReplace
import PyProof.NeKinds
import PyProof.ReprText
import PyProof.StrLawsRepr
import PySem.Challenge.RW_eventledger_k03_whole_writings_begin_and
set_option Elab.async false
set_option linter.all false
set_option maxRecDepth 100000
set_option maxHeartbeats 4000000
/-! A layer of plain data over the hand layer: values are data (tuples and lists that nobody changes are seen through), what changes stands in a store by its address; a piece of syntax is read as a predicate transformer over data and store. -/
namespace DL
open PySem PySem.Spec PyProof.Rows L2

inductive DV where
  | non | bl (b : Bool) | int (i : Int) | str (x : Str) | tup (ds : List DV) | lst (ds : List DV) | scr (ds : List DV) | ref (a : Addr) | ty (n : String)

inductive MO where
  | hid
  | lst (ds : List DV)
  | dK (ks : List (Key × DV))
  | ins (C : Addr) (fs : List (Str × DV))
  | exc (C : Addr) (fs : List (Str × DV))
/-- at a: an exception of the class at C that was caught, its dict at dx -/
def exk (a C dx : Addr) : HO := .ext fun h => ∃ oe : Obj, h.get? a = some oe ∧ oe.cls = .ref C ∧ oe.dict = some dx ∧ PySem.W.notCls oe = true

abbrev Sto := Addr → Option MO
def up (s : Sto) (a : Addr) (m : MO) : Sto := fun b => if b = a then some m else s b
def er (s : Sto) (a : Addr) : Sto := fun b => if b = a then none else s b
theorem up_same {s : Sto} {a : Addr} {m : MO} : up s a m a = some m := by unfold up; rw [if_pos rfl]
theorem up_ne {s : Sto} {a b : Addr} {m : MO} (h : b ≠ a) : up s a m b = s b := by unfold up; rw [if_neg h]
theorem er_same {s : Sto} {a : Addr} : er s a a = none := by unfold er; rw [if_pos rfl]
theorem er_ne {s : Sto} {a b : Addr} (h : b ≠ a) : er s a b = s b := by unfold er; rw [if_neg h]
theorem up_up {s : Sto} {a : Addr} {m n : MO} : up (up s a m) a n = up s a n := by
  funext b
  by_cases e : b = a
  · rw [e, up_same, up_same]
  · rw [up_ne e, up_ne e, up_ne e]
theorem er_up {s : Sto} {a : Addr} {m : MO} : er (up s a m) a = er s a := by
  funext b
  by_cases e : b = a
  · rw [e, er_same, er_same]
  · rw [er_ne e, up_ne e, er_ne e]
theorem er_none {s : Sto} {a : Addr} (h : s a = none) : er s a = s := by
  funext b
  unfold er
  split
  · rename_i e; rw [e, h]
  · rfl
theorem up_id {s : Sto} {a : Addr} {m : MO} (h : s a = some m) : up s a m = s := by
  funext b
  by_cases e : b = a
  · rw [e, up_same, h]
  · rw [up_ne e]
theorem up_comm {s : Sto} {a b : Addr} {m n : MO} (h : a ≠ b) : up (up s a m) b n = up (up s b n) a m := by
  funext c
  unfold up
  by_cases h1 : c = b
  · by_cases h2 : c = a
    · exact absurd (h2.symm.trans h1) h
    · simp [h1, Ne.symm h]
  · simp [h1]
theorem er_up_ne {s : Sto} {a b : Addr} {m : MO} (h : b ≠ a) : er (up s a m) b = up (er s b) a m := by
  funext c
  unfold up er
  by_cases h1 : c = b
  · by_cases h2 : c = a
    · exact absurd (h1.symm.trans h2) h
    · simp [h1, h]
  · simp [h1]

/-- a list of the written part -/
def KLst (K : PySem.W.Frag) (a : Addr) (xs : List V) : Prop :=
  ∃ (o : Obj) (its : Array Value) (n : Nat), K.lookup a = some o ∧ o.cls = .type "list" ∧ o.dict = none ∧ o.data = .seq its n ∧ its.size ≤ sizeLine ∧ Vals xs its.toList
/-- a list that cannot be changed (the script, a written one) -/
def ScrL (K : PySem.W.Frag) (H : Hp) (a : Addr) (xs : List V) : Prop := (∃ o, H a = some (.frz o (.lst xs))) ∨ KLst K a xs
mutual
/-- a value is some data -/
inductive Dat (K : PySem.W.Frag) (s : Sto) (H : Hp) : V → DV → Prop
  | non : Dat K s H .non .non
  | bl (b : Bool) : Dat K s H (.bl b) (.bl b)
  | int (i : Int) : Dat K s H (.int i) (.int i)
  | str (x : Str) : Dat K s H (.str x) (.str x)
  | ty (n : String) : Dat K s H (.ty n) (.ty n)
  | ref (a : Addr) : Dat K s H (.ref a) (.ref a)
  | tup {a : Addr} {xs : List V} {ds : List DV} : SqT K H a xs → DatL K s H xs ds → Dat K s H (.ref a) (.tup ds)
  | lst {a : Addr} {xs : List V} {ds : List DV} : H a = some (.lst xs) → s a = none → DatL K s H xs ds → Dat K s H (.ref a) (.lst ds)
  | scr {a : Addr} {xs : List V} {ds : List DV} : ScrL K H a xs → DatL K s H xs ds → Dat K s H (.ref a) (.scr ds)
inductive DatL (K : PySem.W.Frag) (s : Sto) (H : Hp) : List V → List DV → Prop
  | nil : DatL K s H [] []
  | cons {v : V} {vs : List V} {d : DV} {ds : List DV} : Dat K s H v d → DatL K s H vs ds → DatL K s H (v :: vs) (d :: ds)
end
def DatP (K : PySem.W.Frag) (s : Sto) (H : Hp) {κ : Type} : List (κ × V) → List (κ × DV) → Prop := Paired fun p q => p.1 = q.1 ∧ Dat K s H p.2 q.2

def RepO (K : PySem.W.Frag) (s : Sto) (H : Hp) (a : Addr) : MO → Prop
  | .hid => ∃ o, H a = some o
  | .lst ds => ∃ xs, H a = some (.lst xs) ∧ DatL K s H xs ds
  | .dK ks => ∃ kvs, H a = some (.dK kvs) ∧ DatP K s H kvs ks
  | .ins C fs => ∃ dx gs, H a = some (.ins C dx gs) ∧ DatP K s H gs fs
  | .exc C fs => ∃ dx gs, H a = some (exk a C dx) ∧ DatP K s H gs fs ∧ H dx = some (.xd gs) ∧ s dx = none
/-- the store is held -/
def Rep (K : PySem.W.Frag) (s : Sto) (H : Hp) : Prop := ∀ a m, s a = some m → RepO K s H a m
/-- what is not in the store stays -/
def Stp (s : Sto) (H : Hp) (s' : Sto) (H' : Hp) : Prop := ∀ a o, H a = some o → s a = none ∨ s a = some .hid → H' a = some o ∧ s' a = s a
theorem Stp.refl (s : Sto) (H : Hp) : Stp s H s H := fun _ _ h _ => ⟨h, rfl⟩
theorem Stp.trans {s s1 s2 : Sto} {H H1 H2 : Hp} (a : Stp s H s1 H1) (b : Stp s1 H1 s2 H2) : Stp s H s2 H2 := fun x o h n => by
  obtain ⟨h1, e1⟩ := a x o h n
  obtain ⟨h2, e2⟩ := b x o h1 (by rw [e1]; exact n)
  exact ⟨h2, e2.trans e1⟩
theorem Stp.new {s : Sto} {H : Hp} {p : Addr} {o : HO} {m : MO} (h : H p = none) : Stp s H (up s p m) (upd H p o) := fun a u e _ => by
  have n := ne_of_none e h
  exact ⟨by rw [upd_ne n]; exact e, up_ne n⟩
theorem Stp.newF {s : Sto} {H : Hp} {p : Addr} {o : HO} (h : H p = none) : Stp s H s (upd H p o) := fun a u e _ => by
  have n := ne_of_none e h
  exact ⟨by rw [upd_ne n]; exact e, rfl⟩
def Chg : Option MO → Prop
  | some (.lst _) => True
  | some (.dK _) => True
  | some (.ins _ _) => True
  | _ => False
theorem Stp.wr {s : Sto} {H : Hp} {p : Addr} {o : HO} {m : MO} (h : Chg (s p)) : Stp s H (up s p m) (upd H p o) := fun a u e n => by
  have ne : a ≠ p := fun z => by
    subst z
    rcases n with n | n
    · rw [n] at h; exact h
    · rw [n] at h; exact h
  exact ⟨by rw [upd_ne ne]; exact e, up_ne ne⟩
section
variable {K : PySem.W.Frag} {s s' : Sto} {H H' : Hp}
theorem Rep.known (rep : Rep K s H) {a : Addr} {m : MO} (h : s a = some m) : ∃ o, H a = some o := by
  have r := rep a m h
  cases m with
  | hid => exact r
  | lst ds => obtain ⟨xs, h, _⟩ := r; exact ⟨_, h⟩
  | dK ks => obtain ⟨xs, h, _⟩ := r; exact ⟨_, h⟩
  | ins C fs => obtain ⟨dx, gs, h, _⟩ := r; exact ⟨_, h⟩
  | exc C fs => obtain ⟨dx, gs, h, _⟩ := r; exact ⟨_, h⟩
theorem Rep.fresh (rep : Rep K s H) {a : Addr} (h : H a = none) : s a = none := by
  cases e : s a with
  | none => rfl
  | some m =>
    obtain ⟨o, q⟩ := rep.known e
    rw [h] at q
    cases q
theorem Rep.imm (rep : Rep K s H) {a : Addr} {o : HO} (h : H a = some o) (h1 : ∀ xs, o ≠ .lst xs) (h2 : ∀ kvs, o ≠ .dK kvs) (h3 : ∀ C dx fs, o ≠ .ins C dx fs) (h4 : ∀ φ, o ≠ .ext φ := by exact fun _ z => (nomatch z)) : s a = none ∨ s a = some .hid := by
  cases e : s a with
  | none => exact .inl rfl
  | some m =>
    have r := rep a m e
    cases m with
    | hid => exact .inr rfl
    | lst ds => obtain ⟨xs, q, _⟩ := r; rw [h] at q; cases q; exact absurd rfl (h1 xs)
    | dK ks => obtain ⟨xs, q, _⟩ := r; rw [h] at q; cases q; exact absurd rfl (h2 xs)
    | ins C fs => obtain ⟨dx, gs, q, _⟩ := r; rw [h] at q; cases q; exact absurd rfl (h3 C dx gs)
    | exc C fs => obtain ⟨dx, gs, q, _⟩ := r; rw [h] at q; exact absurd (Option.some.inj q) (h4 _)
theorem sqT_step (st : Stp s H s' H') (rep : Rep K s H) {a : Addr} {xs : List V} (h : SqT K H a xs) : SqT K H' a xs := by
  rcases h with (h | ⟨o, h⟩) | h
  · exact .inl (.inl (st a _ h (rep.imm h (fun _ z => nomatch z) (fun _ z => nomatch z) (fun _ _ _ z => nomatch z))).1)
  · exact .inl (.inr ⟨o, (st a _ h (rep.imm h (fun _ z => nomatch z) (fun _ z => nomatch z) (fun _ _ _ z => nomatch z))).1⟩)
  · exact .inr h
theorem scrL_step (st : Stp s H s' H') (rep : Rep K s H) {a : Addr} {xs : List V} (h : ScrL K H a xs) : ScrL K H' a xs := by
  rcases h with ⟨o, h⟩ | h
  · exact .inl ⟨o, (st a _ h (rep.imm h (fun _ z => nomatch z) (fun _ z => nomatch z) (fun _ _ _ z => nomatch z))).1⟩
  · exact .inr h
theorem ScrL.sq {a : Addr} {xs : List V} (h : ScrL K H a xs) : SqL K H a xs := by
  rcases h with ⟨o, h⟩ | h
  · exact .inl (.inr ⟨o, h⟩)
  · exact .inr h
mutual
theorem Dat.step (st : Stp s H s' H') (rep : Rep K s H) : ∀ {v : V} {d : DV}, Dat K s H v d → Dat K s' H' v d
  | _, _, .non => .non
  | _, _, .bl b => .bl b
  | _, _, .int i => .int i
  | _, _, .str x => .str x
  | _, _, .ty n => .ty n
  | _, _, .ref a => .ref a
  | _, _, .tup h l => .tup (sqT_step st rep h) (DatL.step st rep l)
  | _, _, .lst h n l => .lst (st _ _ h (.inl n)).1 ((st _ _ h (.inl n)).2.trans n) (DatL.step st rep l)
  | _, _, .scr h l => .scr (scrL_step st rep h) (DatL.step st rep l)
theorem DatL.step (st : Stp s H s' H') (rep : Rep K s H) : ∀ {vs : List V} {ds : List DV}, DatL K s H vs ds → DatL K s' H' vs ds
  | _, _, .nil => .nil
  | _, _, .cons h t => .cons (Dat.step st rep h) (DatL.step st rep t)
end
theorem DatP.step {κ : Type} (st : Stp s H s' H') (rep : Rep K s H) : ∀ {vs : List (κ × V)} {ds : List (κ × DV)}, DatP K s H vs ds → DatP K s' H' vs ds
  | _, _, .nil => .nil
  | _, _, .cons h t => .cons ⟨h.1, h.2.step st rep⟩ (DatP.step st rep t)
theorem RepO.step (st : Stp s H s' H') (rep : Rep K s H) {a : Addr} {m : MO} (ha : H' a = H a) (h : RepO K s H a m) : RepO K s' H' a m := by
  cases m with
  | hid => obtain ⟨o, h⟩ := h; exact ⟨o, ha.trans h⟩
  | lst ds => obtain ⟨xs, h, l⟩ := h; exact ⟨xs, ha.trans h, l.step st rep⟩
  | dK ks => obtain ⟨xs, h, l⟩ := h; exact ⟨xs, ha.trans h, l.step st rep⟩
  | ins C fs => obtain ⟨dx, xs, h, l⟩ := h; exact ⟨dx, xs, ha.trans h, l.step st rep⟩
  | exc C fs =>
    obtain ⟨dx, xs, h, l, hx, n⟩ := h
    obtain ⟨h1, e1⟩ := st dx _ hx (.inl n)
    exact ⟨dx, xs, ha.trans h, l.step st rep, h1, e1.trans n⟩
/-- one address changes (or is new) -/
theorem Rep.put (rep : Rep K s H) {p : Addr} {m : MO} {o : HO} (st : Stp s H (up s p m) (upd H p o)) (h : RepO K (up s p m) (upd H p o) p m) : Rep K (up s p m) (upd H p o) := fun a n e => by
  by_cases ne : a = p
  · subst ne
    rw [up_same] at e
    cases e
    exact h
  · rw [up_ne ne] at e
    exact (rep a n e).step st rep (upd_ne ne)
theorem Rep.newF (rep : Rep K s H) {p : Addr} {o : HO} (h : H p = none) : Rep K s (upd H p o) := fun a n e => by
  have ne : a ≠ p := fun z => by
    obtain ⟨u, q⟩ := rep.known e
    rw [z, h] at q
    cases q
  exact (rep a n e).step (Stp.newF h) rep (upd_ne ne)
/-- dropping entries of the store -/
structure Sub (s' s : Sto) : Prop where
  le : ∀ a m, s' a = some m → s a = some m
  hid : ∀ a, s a = some .hid → s' a = some .hid
theorem Sub.refl (s : Sto) : Sub s s := ⟨fun _ _ h => h, fun _ h => h⟩
theorem Sub.trans {s1 s2 s3 : Sto} (a : Sub s1 s2) (b : Sub s2 s3) : Sub s1 s3 := ⟨fun x m h => b.le x m (a.le x m h), fun x h => a.hid x (b.hid x h)⟩
theorem Sub.er {s : Sto} {a : Addr} (h : s a ≠ some .hid) : Sub (er s a) s := ⟨fun x m e => by
  by_cases z : x = a
  · rw [z, er_same] at e; cases e
  · rw [er_ne z] at e; exact e, fun x e => by
  by_cases z : x = a
  · rw [z] at e; exact absurd e h
  · rw [er_ne z]; exact e⟩
theorem Sub.none {s s' : Sto} (b : Sub s' s) {a : Addr} (h : s a = none) : s' a = Option.none := by
  cases e : s' a with
  | none => rfl
  | some m => rw [b.le a m e] at h; cases h
mutual
theorem Dat.subN (b : ∀ a, s a = none → s' a = none) : ∀ {v : V} {d : DV}, Dat K s H v d → Dat K s' H v d
  | _, _, .non => .non
  | _, _, .bl b => .bl b
  | _, _, .int i => .int i
  | _, _, .str x => .str x
  | _, _, .ty n => .ty n
  | _, _, .ref a => .ref a
  | _, _, .tup h l => .tup h (DatL.subN b l)
  | _, _, .lst h n l => .lst h (b _ n) (DatL.subN b l)
  | _, _, .scr h l => .scr h (DatL.subN b l)
theorem DatL.subN (b : ∀ a, s a = none → s' a = none) : ∀ {vs : List V} {ds : List DV}, DatL K s H vs ds → DatL K s' H vs ds
  | _, _, .nil => .nil
  | _, _, .cons h t => .cons (Dat.subN b h) (DatL.subN b t)
end
theorem DatP.subN {κ : Type} (b : ∀ a, s a = none → s' a = none) : ∀ {vs : List (κ × V)} {ds : List (κ × DV)}, DatP K s H vs ds → DatP K s' H vs ds
  | _, _, .nil => .nil
  | _, _, .cons h t => .cons ⟨h.1, h.2.subN b⟩ (DatP.subN b t)
theorem RepO.subN (b : ∀ a, s a = none → s' a = none) {a : Addr} {m : MO} (h : RepO K s H a m) : RepO K s' H a m := by
  cases m with
  | hid => exact h
  | lst ds => obtain ⟨xs, h, l⟩ := h; exact ⟨xs, h, l.subN b⟩
  | dK ks => obtain ⟨xs, h, l⟩ := h; exact ⟨xs, h, l.subN b⟩
  | ins C fs => obtain ⟨dx, xs, h, l⟩ := h; exact ⟨dx, xs, h, l.subN b⟩
  | exc C fs => obtain ⟨dx, xs, h, l, hx, n⟩ := h; exact ⟨dx, xs, h, l.subN b, hx, b dx n⟩
theorem Dat.sub (b : Sub s' s) {v : V} {d : DV} (h : Dat K s H v d) : Dat K s' H v d := h.subN fun _ => b.none
theorem DatL.sub (b : Sub s' s) {v : List V} {d : List DV} (h : DatL K s H v d) : DatL K s' H v d := h.subN fun _ => b.none
theorem DatP.sub {κ : Type} (b : Sub s' s) {v : List (κ × V)} {d : List (κ × DV)} (h : DatP K s H v d) : DatP K s' H v d := h.subN fun _ => b.none
theorem Rep.sub (b : Sub s' s) (rep : Rep K s H) : Rep K s' H := fun a m e => (rep a m (b.le a m e)).subN fun _ => b.none
/-- a hidden entry goes -/
theorem Rep.erase (rep : Rep K s H) (p : Addr) : Rep K (er s p) H := fun a m e => by
  have ne : a ≠ p := fun z => by rw [z, er_same] at e; cases e
  rw [er_ne ne] at e
  refine (rep a m e).subN fun x h => ?_
  by_cases z : x = p
  · rw [z, er_same]
  · rw [er_ne z]; exact h
theorem erN {p : Addr} : ∀ a, s a = none → er s p a = none := fun x h => by
  by_cases z : x = p
  · rw [z, er_same]
  · rw [er_ne z]; exact h
/-- a hidden list changes -/
theorem sqT_hid {D : Addr} {xs : List V} {o : HO} (hD : H D = some (.lst xs)) {a : Addr} {ys : List V} (h : SqT K H a ys) : SqT K (upd H D o) a ys := by
  rcases h with (h | ⟨u, h⟩) | h
  · exact .inl (.inl (by rw [upd_ne (ne_of h hD (fun z => nomatch z))]; exact h))
  · exact .inl (.inr ⟨u, by rw [upd_ne (ne_of h hD (fun z => nomatch z))]; exact h⟩)
  · exact .inr h
mutual
theorem Dat.hid {D : Addr} {xs : List V} {o : HO} (hs : s D = some .hid) (hD : H D = some (.lst xs)) : ∀ {v : V} {d : DV}, Dat K s H v d → Dat K s (upd H D o) v d
  | _, _, .non => .non
  | _, _, .bl b => .bl b
  | _, _, .int i => .int i
  | _, _, .str x => .str x
  | _, _, .ty n => .ty n
  | _, _, .ref a => .ref a
  | _, _, .tup h l => .tup (sqT_hid hD h) (DatL.hid hs hD l)
  | _, _, .lst (a := a) h n l => .lst (by rw [upd_ne (fun z => by rw [z, hs] at n; cases n)]; exact h) n (DatL.hid hs hD l)
  | _, _, .scr h l => .scr (by
      rcases h with ⟨u, h⟩ | h
      · exact .inl ⟨u, by rw [upd_ne (ne_of h hD (fun z => nomatch z))]; exact h⟩
      · exact .inr h) (DatL.hid hs hD l)
theorem DatL.hid {D : Addr} {xs : List V} {o : HO} (hs : s D = some .hid) (hD : H D = some (.lst xs)) : ∀ {vs : List V} {ds : List DV}, DatL K s H vs ds → DatL K s (upd H D o) vs ds
  | _, _, .nil => .nil
  | _, _, .cons h t => .cons (Dat.hid hs hD h) (DatL.hid hs hD t)
end
theorem DatP.hid {κ : Type} {D : Addr} {xs : List V} {o : HO} (hs : s D = some .hid) (hD : H D = some (.lst xs)) : ∀ {vs : List (κ × V)} {ds : List (κ × DV)}, DatP K s H vs ds → DatP K s (upd H D o) vs ds
  | _, _, .nil => .nil
  | _, _, .cons h t => .cons ⟨h.1, h.2.hid hs hD⟩ (DatP.hid hs hD t)
theorem Rep.hidden (rep : Rep K s H) {D : Addr} {xs : List V} {o : HO} (hs : s D = some .hid) (hD : H D = some (.lst xs)) : Rep K s (upd H D o) := fun a m e => by
  have h := rep a m e
  by_cases z : a = D
  · subst z
    rw [hs] at e; cases e
    exact ⟨o, upd_same⟩
  · cases m with
    | hid => obtain ⟨u, h⟩ := h; exact ⟨u, by rw [upd_ne z]; exact h⟩
    | lst ds => obtain ⟨ys, h, l⟩ := h; exact ⟨ys, by rw [upd_ne z]; exact h, l.hid hs hD⟩
    | dK ks => obtain ⟨ys, h, l⟩ := h; exact ⟨ys, by rw [upd_ne z]; exact h, l.hid hs hD⟩
    | ins C fs => obtain ⟨dx, ys, h, l⟩ := h; exact ⟨dx, ys, by rw [upd_ne z]; exact h, l.hid hs hD⟩
    | exc C fs => obtain ⟨dx, ys, h, l, hx, n⟩ := h; exact ⟨dx, ys, by rw [upd_ne z]; exact h, l.hid hs hD, by rw [upd_ne (fun e => by rw [e, hs] at n; cases n)]; exact hx, n⟩
theorem Stp.sub {s0 : Sto} {H0 : Hp} (st : Stp s0 H0 s H) (b : Sub s' s) : Stp s0 H0 s' H := fun a o h n => by
  obtain ⟨h1, e1⟩ := st a o h n
  refine ⟨h1, ?_⟩
  rcases n with n | n
  · rw [n]; exact b.none (e1.trans n)
  · rw [n]; exact b.hid a (e1.trans n)
theorem Dat.lstInv {v : V} {ds : List DV} (h : Dat K s H v (.lst ds)) : ∃ a xs, v = .ref a ∧ H a = some (.lst xs) ∧ s a = none ∧ DatL K s H xs ds := by
  cases h with
  | lst h n l => exact ⟨_, _, rfl, h, n, l⟩
theorem Dat.scrInv {v : V} {ds : List DV} (h : Dat K s H v (.scr ds)) : ∃ a xs, v = .ref a ∧ ScrL K H a xs ∧ DatL K s H xs ds := by
  cases h with
  | scr h l => exact ⟨_, _, rfl, h, l⟩
theorem Dat.tupInv {v : V} {ds : List DV} (h : Dat K s H v (.tup ds)) : ∃ a xs, v = .ref a ∧ SqT K H a xs ∧ DatL K s H xs ds := by
  cases h with
  | tup h l => exact ⟨_, _, rfl, h, l⟩
theorem Dat.intInv {v : V} {i : Int} (h : Dat K s H v (.int i)) : v = .int i := by cases h; rfl
theorem Dat.strInv {v : V} {i : Str} (h : Dat K s H v (.str i)) : v = .str i := by cases h; rfl
theorem Dat.blInv {v : V} {i : Bool} (h : Dat K s H v (.bl i)) : v = .bl i := by cases h; rfl
theorem Dat.nonInv {v : V} (h : Dat K s H v .non) : v = .non := by cases h; rfl
theorem Dat.refInv {v : V} {a : Addr} (h : Dat K s H v (.ref a)) : v = .ref a := by cases h; rfl
theorem Dat.tyInv {v : V} {n : String} (h : Dat K s H v (.ty n)) : v = .ty n := by cases h; rfl
theorem DatL.length : ∀ {vs : List V} {ds : List DV}, DatL K s H vs ds → vs.length = ds.length
  | _, _, .nil => rfl
  | _, _, .cons _ t => congrArg Nat.succ t.length
theorem DatL.get : ∀ {vs : List V} {ds : List DV} {i : Nat} {v : V}, DatL K s H vs ds → vs[i]? = some v → ∃ d, ds[i]? = some d ∧ Dat K s H v d
  | _, _, _, _, .nil, e => by simp at e
  | _, _, 0, _, .cons h _, e => ⟨_, rfl, by cases (Option.some.inj e); exact h⟩
  | _, _, i + 1, _, .cons _ t, e => DatL.get (i := i) t e
theorem DatL.get' : ∀ {vs : List V} {ds : List DV} {i : Nat} {d : DV}, DatL K s H vs ds → ds[i]? = some d → ∃ v, vs[i]? = some v ∧ Dat K s H v d
  | _, _, _, _, .nil, e => by simp at e
  | _, _, 0, _, .cons h _, e => ⟨_, rfl, by cases (Option.some.inj e); exact h⟩
  | _, _, i + 1, _, .cons _ t, e => DatL.get' (i := i) t e
theorem DatL.append : ∀ {vs ws : List V} {ds es : List DV}, DatL K s H vs ds → DatL K s H ws es → DatL K s H (vs ++ ws) (ds ++ es)
  | _, _, _, _, .nil, b => b
  | _, _, _, _, .cons h t, b => .cons h (t.append b)
theorem DatL.take : ∀ {vs : List V} {ds : List DV} (n : Nat), DatL K s H vs ds → DatL K s H (vs.take n) (ds.take n)
  | _, _, 0, _ => .nil
  | _, _, _ + 1, .nil => .nil
  | _, _, n + 1, .cons h t => .cons h (t.take n)
theorem DatL.drop : ∀ {vs : List V} {ds : List DV} (n : Nat), DatL K s H vs ds → DatL K s H (vs.drop n) (ds.drop n)
  | _, _, 0, r => r
  | _, _, _ + 1, .nil => .nil
  | _, _, n + 1, .cons _ t => t.drop n
theorem DatL.setAt {v : V} {d : DV} (h : Dat K s H v d) : ∀ {vs : List V} {ds : List DV} (i : Nat), DatL K s H vs ds → DatL K s H (vs.set i v) (ds.set i d)
  | _, _, _, .nil => .nil
  | _, _, 0, .cons _ t => .cons h t
  | _, _, i + 1, .cons q t => .cons q (t.setAt h i)
theorem DatL.strs : ∀ {vs : List V} {zs : List Str}, DatL K s H vs (zs.map DV.str) → vs = zs.map V.str
  | _, [], .nil => rfl
  | _, z :: zs, .cons h t => by cases h; rw [DatL.strs t]; rfl
theorem DatL.of_strs : ∀ (zs : List Str), DatL K s H (zs.map V.str) (zs.map DV.str)
  | [] => .nil
  | z :: zs => .cons (.str z) (DatL.of_strs zs)
theorem DatL.of_ints : ∀ (zs : List Int), DatL K s H (zs.map V.int) (zs.map DV.int)
  | [] => .nil
  | z :: zs => .cons (.int z) (DatL.of_ints zs)
theorem DatL.flatten_rep {vs : List V} {ds : List DV} (h : DatL K s H vs ds) : ∀ n, DatL K s H (List.replicate n vs).flatten (List.replicate n ds).flatten
  | 0 => .nil
  | n + 1 => by
    rw [List.replicate_succ, List.replicate_succ, List.flatten_cons, List.flatten_cons]
    exact h.append (h.flatten_rep n)
end
end DL

set_option Elab.async false
set_option linter.all false
set_option maxRecDepth 100000
set_option maxHeartbeats 4000000
namespace DL
open PySem PySem.Spec PyProof.Rows L2

abbrev Ed := List (Option DV)
abbrev KD := DV → Sto → Prop
abbrev TEd := Ed → Sto → KD → Prop
abbrev TTd := Ed → Sto → (Bool → Sto → Prop) → Prop
abbrev TAd := Ed → Sto → (List DV → Sto → Prop) → Prop
structure EndsD where
  nx : Ed → Sto → Prop
  rt : KD
  bk : Ed → Sto → Prop := fun _ _ => False
  ct : Ed → Sto → Prop := fun _ _ => False
abbrev TSd := EndsD → Ed → Sto → Prop
abbrev TGd := DV → Ed → Sto → (Ed → Sto → Prop) → Prop
abbrev TGsd := List DV → Ed → Sto → (Ed → Sto → Prop) → Prop
/-- where a def began -/
structure Anc where
  s : Sto
  H : Hp
structure EnvR (K : PySem.W.Frag) (s : Sto) (H : Hp) (σ : L2.St) (δ : Ed) : Prop where
  len : σ.length = δ.length
  at_ : ∀ (i : Nat) (d : DV), δ[i]? = some (some d) → ∃ v, σ[i]? = some (some v) ∧ Dat K s H v d
structure Sd (K : PySem.W.Frag) (A : Anc) (σ : L2.St) (H : Hp) (δ : Ed) (s : Sto) : Prop where
  stp : Stp A.s A.H s H
  rep : Rep K s H
  env : EnvR K s H σ δ
section
variable {K : PySem.W.Frag} {A : Anc} {σ : L2.St} {H H2 : Hp} {δ : Ed} {s s2 : Sto}
theorem EnvR.step (e : EnvR K s H σ δ) (st : Stp s H s2 H2) (rep : Rep K s H) : EnvR K s2 H2 σ δ := ⟨e.len, fun i d h => by
  obtain ⟨v, h1, h2⟩ := e.at_ i d h
  exact ⟨v, h1, h2.step st rep⟩⟩
theorem Sd.go (S : Sd K A σ H δ s) (st : Stp s H s2 H2) (rep : Rep K s2 H2) : Sd K A σ H2 δ s2 := ⟨S.stp.trans st, rep, S.env.step st S.rep⟩
theorem EnvR.set (e : EnvR K s H σ δ) {v : V} {d : DV} (h : Dat K s H v d) (i : Nat) : EnvR K s H (σ.set i (some v)) (δ.set i (some d)) := ⟨by simp [e.len], fun j x hj => by
  by_cases c : i = j
  · subst c
    have hl : i < (δ.set i (some d)).length := by
      rcases Nat.lt_or_ge i (δ.set i (some d)).length with z | z
      · exact z
      · rw [List.getElem?_eq_none z] at hj; cases hj
    have hd : i < δ.length := by simpa using hl
    rw [List.getElem?_set_self hd] at hj
    cases hj
    exact ⟨v, List.getElem?_set_self (by rw [e.len]; exact hd), h⟩
  · rw [List.getElem?_set_ne c] at hj
    rw [List.getElem?_set_ne c]
    exact e.at_ j x hj⟩
theorem EnvR.unset (e : EnvR K s H σ δ) (i : Nat) (v : Option V) : EnvR K s H (σ.set i v) (δ.set i none) := ⟨by simp [e.len], fun j x hj => by
  by_cases c : i = j
  · subst c
    rcases Nat.lt_or_ge i δ.length with z | z
    · rw [List.getElem?_set_self z] at hj; cases hj
    · rw [List.set_eq_of_length_le z, List.getElem?_eq_none z] at hj; cases hj
  · rw [List.getElem?_set_ne c] at hj
    rw [List.getElem?_set_ne c]
    exact e.at_ j x hj⟩
end
def lE (K : PySem.W.Frag) (A : Anc) (t : TEd) : TE := fun σ H Q => ∃ δ s Q', Sd K A σ H δ s ∧ t δ s Q' ∧ ∀ v H2 d s2, Stp s H s2 H2 → Rep K s2 H2 → Dat K s2 H2 v d → Q' d s2 → Q v H2
def lT (K : PySem.W.Frag) (A : Anc) (t : TTd) : TT := fun σ H Q => ∃ δ s Q', Sd K A σ H δ s ∧ t δ s Q' ∧ ∀ b H2 s2, Stp s H s2 H2 → Rep K s2 H2 → Q' b s2 → Q b H2
def lA (K : PySem.W.Frag) (A : Anc) (t : TAd) : TA := fun σ H Q => ∃ δ s Q', Sd K A σ H δ s ∧ t δ s Q' ∧ ∀ vs H2 ds s2, Stp s H s2 H2 → Rep K s2 H2 → DatL K s2 H2 vs ds → Q' ds s2 → Q vs H2
structure Lnk (K : PySem.W.Frag) (A : Anc) (D' : EndsD) (D : Ends) : Prop where
  nx : ∀ σ H δ s, Sd K A σ H δ s → D'.nx δ s → D.nx σ H
  bk : ∀ σ H δ s, Sd K A σ H δ s → D'.bk δ s → D.bk σ H
  ct : ∀ σ H δ s, Sd K A σ H δ s → D'.ct δ s → D.ct σ H
  rt : ∀ v H d s, Stp A.s A.H s H → Rep K s H → Dat K s H v d → D'.rt d s → D.rt v H
def lS (K : PySem.W.Frag) (A : Anc) (t : TSd) : TS := fun D σ H => ∃ δ s D', Sd K A σ H δ s ∧ t D' δ s ∧ Lnk K A D' D
def lG (K : PySem.W.Frag) (A : Anc) (g : TGd) : TG := fun v σ H Q => ∃ d δ s Q', Sd K A σ H δ s ∧ Dat K s H v d ∧ g d δ s Q' ∧ ∀ σ2 H2 δ2 s2, Sd K A σ2 H2 δ2 s2 → Q' δ2 s2 → Q σ2 H2
def lGs (K : PySem.W.Frag) (A : Anc) (g : TGsd) : TGs := fun v σ H Q => ∃ d δ s Q', Sd K A σ H δ s ∧ DatL K s H v d ∧ g d δ s Q' ∧ ∀ σ2 H2 δ2 s2, Sd K A σ2 H2 δ2 s2 → Q' δ2 s2 → Q σ2 H2
abbrev PD (A : Anc) (X : Cx) (e : Expr) (t : TEd) : Prop := PE X e (lE X.K A t)
abbrev PTd (A : Anc) (X : Cx) (e : Expr) (t : TTd) : Prop := PT X e (lT X.K A t)
abbrev PWd (A : Anc) (X : Cx) (e : Expr) (t : TTd) : Prop := PW X e (lT X.K A t)
abbrev PAd (A : Anc) (X : Cx) (es : List Expr) (t : TAd) : Prop := PA X es (lA X.K A t)
abbrev PSd (A : Anc) (X : Cx) (st : Stmt) (t : TSd) : Prop := PS X st (lS X.K A t)
abbrev PSsd (A : Anc) (X : Cx) (st : List Stmt) (t : TSd) : Prop := PSs X st (lS X.K A t)
abbrev PGd (A : Anc) (X : Cx) (e : Expr) (g : TGd) : Prop := PG X e (lG X.K A g)
abbrev PGsd (A : Anc) (X : Cx) (es : List Expr) (g : TGsd) : Prop := PGs X es (lGs X.K A g)

section
variable {X : Cx} {e : Expr} {es : List Expr} {st : Stmt} {sts : List Stmt}
theorem peImp {t t' : TE} (h : PE X e t) (w : ∀ σ H Q, t' σ H Q → t σ H Q) : PE X e t' := ⟨fun pins s σ H Q I q => h.run pins s σ H Q I (w _ _ _ q)⟩
theorem ptImp {t t' : TT} (h : PT X e t) (w : ∀ σ H Q, t' σ H Q → t σ H Q) : PT X e t' := ⟨fun pins s σ H Q I q => h.run pins s σ H Q I (w _ _ _ q)⟩
theorem pwImp {t t' : TT} (h : PW X e t) (w : ∀ σ H Q, t' σ H Q → t σ H Q) : PW X e t' := ⟨fun wh pins s σ H Q I q => h.run wh pins s σ H Q I (w _ _ _ q)⟩
theorem paImp {t t' : TA} (h : PA X es t) (w : ∀ σ H Q, t' σ H Q → t σ H Q) : PA X es t' := ⟨fun pos pins s σ H Q I q => h.run pos pins s σ H Q I (w _ _ _ q)⟩
theorem psImp {t t' : TS} (h : PS X st t) (w : ∀ D σ H, t' D σ H → t D σ H) : PS X st t' := ⟨fun pins s σ H D I q => h.run pins s σ H D I (w _ _ _ q)⟩
theorem pssImp {t t' : TS} (h : PSs X sts t) (w : ∀ D σ H, t' D σ H → t D σ H) : PSs X sts t' := ⟨fun pins s σ H D I q => h.run pins s σ H D I (w _ _ _ q)⟩
theorem pgImp {t t' : TG} (h : PG X e t) (w : ∀ v σ H Q, t' v σ H Q → t v σ H Q) : PG X e t' := ⟨fun pins s σ H v u Q I r q => h.run pins s σ H v u Q I r (w _ _ _ _ q)⟩
theorem pgsImp {t t' : TGs} (h : PGs X es t) (w : ∀ v σ H Q, t' v σ H Q → t v σ H Q) : PGs X es t' := ⟨fun pins s σ H v u Q I r q => h.run pins s σ H v u Q I r (w _ _ _ _ q)⟩
end

/-! ### names and constants -/
def dVar (i : Nat) (δ : Ed) (s : Sto) (Q : KD) : Prop := match δ.getD i none with
  | some d => Q d s
  | none => False
def dC (d : DV) (δ : Ed) (s : Sto) (Q : KD) : Prop := Q d s
section
variable {A : Anc} {X : Cx} {pos : Pos}
theorem dpv (i : Nat) {x : Str} (hN : X.N[i]? = some x := by rfl) (hv : Vis X.env.scope x := by first | exact Or.inl rfl | exact Or.inr (Or.inl rfl) | exact Or.inr (Or.inr rfl)) (hd : (x == ("__debug__" : Str)) = false := by decide)
    (hcd : (x == ("__classdict__" : Str)) = false := by decide) : PD A X (.Name x pos) (dVar i) := peImp (pe_var hN hv hd hcd) fun σ H Q h => by
  obtain ⟨δ, s, Q', S, t, k⟩ := h
  unfold dVar at t
  cases e : δ.getD i none with
  | none => rw [e] at t; exact False.elim t
  | some d =>
    rw [e] at t
    have e2 : δ[i]? = some (some d) := by
      rw [List.getD_eq_getElem?_getD] at e
      cases q : δ[i]? with
      | none => rw [q] at e; cases e
      | some o => rw [q] at e; exact congrArg some e
    obtain ⟨v, h1, h2⟩ := S.env.at_ i d e2
    exact ⟨v, h1, k v H d s (Stp.refl s H) S.rep h2 t⟩
theorem dconst {e : Expr} {v : V} {d : DV} (h : PE X e (tC v)) (hd : ∀ K s H, Dat K s H v d) : PD A X e (dC d) := peImp h fun σ H Q h => by
  obtain ⟨δ, s, Q', S, t, k⟩ := h
  exact k v H d s (Stp.refl s H) S.rep (hd _ _ _) t
theorem dint {i j} : PD A X (.Constant (.int i) j pos) (dC (.int i)) := dconst pe_int fun _ _ _ => .int _
theorem dbl {i j} : PD A X (.Constant (.bool i) j pos) (dC (.bl i)) := dconst pe_bl fun _ _ _ => .bl _
theorem dnon {j} : PD A X (.Constant .none j pos) (dC .non) := dconst pe_non fun _ _ _ => .non
theorem dstr {i j} : PD A X (.Constant (.str i) j pos) (dC (.str i)) := dconst pe_str fun _ _ _ => .str _
/-- a module's constant that is no object -/
theorem dglob {x : Str} {v : V} {u : Value} {d : DV} (hm : X.mg x = some u) (r : RelV v u) (hd : ∀ K s H, Dat K s H v d) (hg : Gl X x := by rfl) (hb : (x == ("__debug__" : Str)) = false := by decide) : PD A X (.Name x pos) (dC d) :=
  dconst (pe_glob hg hm r hb) hd
theorem dbltn {x : Str} {n : String} (hm : X.mg x = none) (hv : bootBuiltins x = some (.type n)) (hg : Gl X x := by rfl) (hn : x ≠ "__name__" := by decide) (hb : (x == ("__debug__" : Str)) = false := by decide) : PD A X (.Name x pos) (dC (.ty n)) :=
  dconst (pe_bltn (v := .ty n) hg hm hv rfl hn hb) fun _ _ _ => .ty n
end

/-! ### operators -/
abbrev R2d := DV → DV → Sto → KD → Prop
def kOp2 (r : R2d) (Q : KD) (x y : DV) (s2 : Sto) : Prop := r x y s2 Q
def kOp1 (r : R2d) (tb : TEd) (δ : Ed) (Q : KD) (x : DV) (s1 : Sto) : Prop := tb δ s1 (kOp2 r Q x)
def dOp (r : R2d) (ta tb : TEd) (δ : Ed) (s : Sto) (Q : KD) : Prop := ta δ s (kOp1 r tb δ Q)
def lR (K : PySem.W.Frag) (r : R2d) : R2 := fun x y H Q => ∃ dx dy s Q', Rep K s H ∧ Dat K s H x dx ∧ Dat K s H y dy ∧ r dx dy s Q' ∧ ∀ v H2 d s2, Stp s H s2 H2 → Rep K s2 H2 → Dat K s2 H2 v d → Q' d s2 → Q v H2
abbrev OpD (X : Cx) (f : Value → Value → Sem Value) (r : R2d) : Prop := OpR X f (lR X.K r)
theorem opImp {X : Cx} {f : Value → Value → Sem Value} {r r' : R2} (h : OpR X f r) (w : ∀ x y H Q, r' x y H Q → r x y H Q) : OpR X f r' := fun pins s σ H x y v u Q I rx ry q => h pins s σ H x y v u Q I rx ry (w _ _ _ _ q)
theorem opOr {X : Cx} {f : Value → Value → Sem Value} {r r' : R2} (h : OpR X f r) (h' : OpR X f r') : OpR X f (fun x y H Q => r x y H Q ∨ r' x y H Q) := fun pins s σ H x y v u Q I rx ry q =>
  q.elim (fun q => h pins s σ H x y v u Q I rx ry q) fun q => h' pins s σ H x y v u Q I rx ry q
theorem lE_bin {K : PySem.W.Frag} {A : Anc} {r : R2d} {ta tb : TEd} {σ : L2.St} {H : Hp} {Q : VK} (h : lE K A (dOp r ta tb) σ H Q) : tOp (lR K r) (lE K A ta) (lE K A tb) σ H Q := by
  obtain ⟨δ, s, Q', S, t, k⟩ := h
  refine ⟨δ, s, _, S, t, fun v H1 d s1 st1 rep1 dv q1 => ?_⟩
  have S1 := S.go st1 rep1
  refine ⟨δ, s1, _, S1, q1, fun v2 H2 d2 s2 st2 rep2 dv2 q2 => ?_⟩
  exact ⟨d, d2, s2, _, rep2, dv.step st2 rep1, dv2, q2, fun v3 H3 d3 s3 st3 => k v3 H3 d3 s3 ((st1.trans st2).trans st3)⟩
section
variable {A : Anc} {X : Cx} {a b : Expr} {ta tb : TEd} {r : R2d} {pos : Pos}
theorem dop {op : Operator} (ho : OpD X (binaryOp op) r) (ha : PD A X a ta) (hb : PD A X b tb) : PD A X (.BinOp a op b pos) (dOp r ta tb) := peImp (pe_op ho ha hb) fun _ _ _ h => lE_bin h
theorem dcmp {op : CmpOp} (ho : OpD X (compareOp op) r) (ha : PD A X a ta) (hb : PD A X b tb) (hm : behindInMarks op b = false) : PD A X (.Compare a [op] [b] pos) (dOp r ta tb) := peImp (pe_cmpR ho ha hb hm) fun _ _ _ h => lE_bin h
/-- a test by a comparison -/
def kTest (Q : Bool → Sto → Prop) (d : DV) (s1 : Sto) : Prop := match d with
  | .bl b => Q b s1
  | _ => False
def dTest (t : TEd) (δ : Ed) (s : Sto) (Q : Bool → Sto → Prop) : Prop := t δ s (kTest Q)
theorem lT_test {K : PySem.W.Frag} {t : TEd} {σ : L2.St} {H : Hp} {Q : Bool → Hp → Prop} (h : lT K A (dTest t) σ H Q) : tTest (lE K A t) σ H Q := by
  obtain ⟨δ, s, Q', S, t, k⟩ := h
  refine ⟨δ, s, _, S, t, fun v H2 d s2 st rep dv q => ?_⟩
  cases d with
  | bl b => exact ⟨b, dv.blInv, k b H2 s2 st rep q⟩
  | _ => exact False.elim q
theorem dtcmp {op : CmpOp} (ho : OpD X (compareOp op) r) (ha : PD A X a ta) (hb : PD A X b tb) (hm : behindInMarks op b = false) : PTd A X (.Compare a [op] [b] pos) (dTest (dOp r ta tb)) :=
  ptImp (pt_cmpR ho ha hb hm) fun σ H Q h => by
    have h2 := lT_test h
    exact by
      obtain ⟨δ, s, Q', S, t, k⟩ := h2
      exact lE_bin ⟨δ, s, Q', S, t, k⟩
def kChain3 (r' : R2d) (tc : TEd) (δ : Ed) (Q : KD) (y z : DV) (s3 : Sto) : Prop := match z with
  | .bl true => tc δ s3 (kOp2 r' Q y)
  | .bl false => Q (.bl false) s3
  | _ => False
def kChain2 (r r' : R2d) (tc : TEd) (δ : Ed) (Q : KD) (x y : DV) (s2 : Sto) : Prop := r x y s2 (kChain3 r' tc δ Q y)
def kChain1 (r r' : R2d) (tb tc : TEd) (δ : Ed) (Q : KD) (x : DV) (s1 : Sto) : Prop := tb δ s1 (kChain2 r r' tc δ Q x)
def dChain (r r' : R2d) (ta tb tc : TEd) (δ : Ed) (s : Sto) (Q : KD) : Prop := ta δ s (kChain1 r r' tb tc δ Q)
theorem lE_chain {K : PySem.W.Frag} {r r' : R2d} {ta tb tc : TEd} {σ : L2.St} {H : Hp} {Q : VK} (h : lE K A (dChain r r' ta tb tc) σ H Q) : tChain (lR K r) (lR K r') (lE K A ta) (lE K A tb) (lE K A tc) σ H Q := by
  obtain ⟨δ, s, Q', S, t, k⟩ := h
  refine ⟨δ, s, _, S, t, fun v H1 d s1 st1 rep1 dv q1 => ?_⟩
  have S1 := S.go st1 rep1
  refine ⟨δ, s1, _, S1, q1, fun v2 H2 d2 s2 st2 rep2 dv2 q2 => ?_⟩
  refine ⟨d, d2, s2, _, rep2, dv.step st2 rep1, dv2, q2, fun v3 H3 d3 s3 st3 rep3 dv3 q3 => ?_⟩
  cases d3 with
  | bl b =>
    refine ⟨b, dv3.blInv, ?_⟩
    cases b with
    | true =>
      rw [if_pos rfl]
      refine ⟨δ, s3, _, (S1.go st2 rep2).go st3 rep3, q3, fun v4 H4 d4 s4 st4 rep4 dv4 q4 => ?_⟩
      exact ⟨d2, d4, s4, _, rep4, (dv2.step st3 rep2).step st4 rep3, dv4, q4, fun v5 H5 d5 s5 st5 => k v5 H5 d5 s5 ((((st1.trans st2).trans st3).trans st4).trans st5)⟩
    | false =>
      rw [if_neg Bool.false_ne_true]
      exact k _ H3 _ s3 ((st1.trans st2).trans st3) rep3 (.bl false) q3
  | _ => exact False.elim q3
variable {c : Expr} {tc : TEd} {r' : R2d}
theorem dchain {op op' : CmpOp} (ho : OpD X (compareOp op) r) (ho' : OpD X (compareOp op') r') (ha : PD A X a ta) (hb : PD A X b tb) (hc : PD A X c tc)
    (h : ∀ {t : TE}, t = tChain (lR X.K r) (lR X.K r') (lE X.K A ta) (lE X.K A tb) (lE X.K A tc) → PE X (.Compare a [op, op'] [b, c] pos) t) : PD A X (.Compare a [op, op'] [b, c] pos) (dChain r r' ta tb tc) :=
  peImp (h rfl) fun _ _ _ h => lE_chain h
end

/-! ### tests -/
def kAnd (u : TTd) (δ : Ed) (Q : Bool → Sto → Prop) (b : Bool) (s1 : Sto) : Prop := match b with
  | true => u δ s1 Q
  | false => Q false s1
def dAnd (t u : TTd) (δ : Ed) (s : Sto) (Q : Bool → Sto → Prop) : Prop := t δ s (kAnd u δ Q)
def kOr (u : TTd) (δ : Ed) (Q : Bool → Sto → Prop) (b : Bool) (s1 : Sto) : Prop := match b with
  | true => Q true s1
  | false => u δ s1 Q
def dOr (t u : TTd) (δ : Ed) (s : Sto) (Q : Bool → Sto → Prop) : Prop := t δ s (kOr u δ Q)
def kNot (Q : Bool → Sto → Prop) (b : Bool) (s1 : Sto) : Prop := Q (!b) s1
def dNot (t : TTd) (δ : Ed) (s : Sto) (Q : Bool → Sto → Prop) : Prop := t δ s (kNot Q)
section
variable {A : Anc} {X : Cx} {a b : Expr} {rest : List Expr} {t u : TTd} {ta tb : TEd} {pos : Pos}
theorem dpand (ha : PTd A X a t) (hb : PWd A X (.BoolOp .And (b :: rest) pos) u) : PWd A X (.BoolOp .And (a :: b :: rest) pos) (dAnd t u) := pwImp (pw_and ha hb) fun σ H Q h => by
  obtain ⟨δ, s, Q', S, t, k⟩ := h
  refine ⟨δ, s, _, S, t, fun b H2 s2 st rep q => ?_⟩
  cases b with
  | true => exact ⟨δ, s2, _, S.go st rep, q, fun b3 H3 s3 st3 => k b3 H3 s3 (st.trans st3)⟩
  | false => exact k false H2 s2 st rep q
theorem dpor (ha : PTd A X a t) (hb : PWd A X (.BoolOp .Or (b :: rest) pos) u) : PWd A X (.BoolOp .Or (a :: b :: rest) pos) (dOr t u) := pwImp (pw_or ha hb) fun σ H Q h => by
  obtain ⟨δ, s, Q', S, t, k⟩ := h
  refine ⟨δ, s, _, S, t, fun b H2 s2 st rep q => ?_⟩
  cases b with
  | false => exact ⟨δ, s2, _, S.go st rep, q, fun b3 H3 s3 st3 => k b3 H3 s3 (st.trans st3)⟩
  | true => exact k true H2 s2 st rep q
theorem dpand1 (ha : PTd A X a t) : PWd A X (.BoolOp .And [a] pos) t := pw_and1 ha
theorem dpor1 (ha : PTd A X a t) : PWd A X (.BoolOp .Or [a] pos) t := pw_or1 ha
theorem dpnot (ha : PTd A X a t) : PTd A X (.UnaryOp .Not a pos) (dNot t) := ptImp (pt_not ha) fun σ H Q h => by
  obtain ⟨δ, s, Q', S, t, k⟩ := h
  exact ⟨δ, s, _, S, t, fun b H2 s2 st rep q => k (!b) H2 s2 st rep q⟩
def kIf (ta tb : TEd) (δ : Ed) (Q : KD) (b : Bool) (s1 : Sto) : Prop := match b with
  | true => ta δ s1 Q
  | false => tb δ s1 Q
def dIf (t : TTd) (ta tb : TEd) (δ : Ed) (s : Sto) (Q : KD) : Prop := t δ s (kIf ta tb δ Q)
theorem difexp {c : Expr} (hc : PTd A X c t) (ha : PD A X a ta) (hb : PD A X b tb) : PD A X (.IfExp c a b pos) (dIf t ta tb) := peImp (pe_ifExp hc ha hb) fun σ H Q h => by
  obtain ⟨δ, s, Q', S, t, k⟩ := h
  refine ⟨δ, s, _, S, t, fun b H2 s2 st rep q => ?_⟩
  cases b with
  | true =>
    rw [if_pos rfl]
    exact ⟨δ, s2, _, S.go st rep, q, fun v3 H3 d3 s3 st3 => k v3 H3 d3 s3 (st.trans st3)⟩
  | false =>
    rw [if_neg Bool.false_ne_true]
    exact ⟨δ, s2, _, S.go st rep, q, fun v3 H3 d3 s3 st3 => k v3 H3 d3 s3 (st.trans st3)⟩
/-- a value's truth -/
def truD (s : Sto) : DV → Option Bool
  | .non => some false
  | .bl b => some b
  | .int i => some (i != 0)
  | .str z => if z.length ≤ sizeLine then some ((z.length : Int) != 0) else none
  | .tup ds => some (!ds.isEmpty)
  | .lst ds => some (!ds.isEmpty)
  | .scr ds => some (!ds.isEmpty)
  | .ref a => match s a with
    | some (.lst ds) => some (!ds.isEmpty)
    | some (.dK ks) => some (!ks.isEmpty)
    | _ => none
  | .ty _ => none
def kTru (Q : Bool → Sto → Prop) (d : DV) (s1 : Sto) : Prop := match truD s1 d with
  | some b => Q b s1
  | none => False
def dTru (t : TEd) (δ : Ed) (s : Sto) (Q : Bool → Sto → Prop) : Prop := t δ s (kTru Q)
theorem Paired.len0 {α β : Type} {R : α → β → Prop} {xs : List α} {ys : List β} (h : Paired R xs ys) : xs.isEmpty = ys.isEmpty := by cases h <;> rfl
theorem DatL.len0 {K : PySem.W.Frag} {s : Sto} {H : Hp} {xs : List V} {ys : List DV} (h : DatL K s H xs ys) : xs.isEmpty = ys.isEmpty := by cases h <;> rfl
theorem SqLof {K : PySem.W.Frag} {H : Hp} {a : Addr} {xs : List V} (h : Rd H a (.lst xs)) : SqL K H a xs := .inl h
theorem truV {K : PySem.W.Frag} {s : Sto} {H : Hp} {v : V} {d : DV} {b : Bool} (rep : Rep K s H) (h : Dat K s H v d) (e : truD s d = some b) : TruV K v H b := by
  cases h with
  | non => exact (Option.some.inj e).symm
  | bl b => exact (Option.some.inj e).symm
  | int i => exact (Option.some.inj e).symm
  | str z =>
    simp only [truD] at e
    split at e
    · exact ⟨‹_›, (Option.some.inj e).symm⟩
    · cases e
  | ty n => cases e
  | tup h l => exact .inr (.inl ⟨_, h, by rw [← Option.some.inj e, l.len0]⟩)
  | lst h n l => exact .inl ⟨_, SqL.of h, by rw [← Option.some.inj e, l.len0]⟩
  | scr h l => exact .inl ⟨_, h.sq, by rw [← Option.some.inj e, l.len0]⟩
  | ref a =>
    cases q : s a with
    | none => simp only [truD, q] at e; cases e
    | some m =>
      simp only [truD, q] at e
      have r := rep a m q
      cases m with
      | hid => cases e
      | ins C fs => cases e
      | exc C fs => cases e
      | lst ds => obtain ⟨xs, h1, h2⟩ := r; exact .inl ⟨xs, SqL.of h1, by rw [← Option.some.inj e, h2.len0]⟩
      | dK ks => obtain ⟨xs, h1, h2⟩ := r; exact .inr (.inr ⟨xs, h1, by rw [← Option.some.inj e, Paired.len0 h2]⟩)
theorem dtruth (ha : PD A X a ta) (he : ∀ whole, isTrue a X.env whole = (do let v ← whole; standAt a.pos; holding [v] (truthy v)) := by intro _; rfl) : PTd A X a (dTru ta) := ptImp (pt_truth ha he) fun σ H Q h => by
  obtain ⟨δ, s, Q', S, t, k⟩ := h
  refine ⟨δ, s, _, S, t, fun v H2 d s2 st rep dv q => ?_⟩
  unfold kTru at q
  cases e : truD s2 d with
  | none => rw [e] at q; exact False.elim q
  | some b => rw [e] at q; exact ⟨b, truV rep dv e, k b H2 s2 st rep q⟩
end

/-! ### argument lists, displays -/
def dNil (δ : Ed) (s : Sto) (Q : List DV → Sto → Prop) : Prop := Q [] s
def kCons2 (Q : List DV → Sto → Prop) (x : DV) (xs : List DV) (s2 : Sto) : Prop := Q (x :: xs) s2
def kCons1 (tr : TAd) (δ : Ed) (Q : List DV → Sto → Prop) (x : DV) (s1 : Sto) : Prop := tr δ s1 (kCons2 Q x)
def dCons (ta : TEd) (tr : TAd) (δ : Ed) (s : Sto) (Q : List DV → Sto → Prop) : Prop := ta δ s (kCons1 tr δ Q)
def kTup (Q : KD) (ds : List DV) (s1 : Sto) : Prop := ds.length ≤ sizeLine ∧ Q (.tup ds) s1
def dTup (t : TAd) (δ : Ed) (s : Sto) (Q : KD) : Prop := t δ s (kTup Q)
/-- a list that nobody will change -/
def kLst (Q : KD) (ds : List DV) (s1 : Sto) : Prop := ds.length ≤ sizeLine ∧ Q (.lst ds) s1
def dLst (t : TAd) (δ : Ed) (s : Sto) (Q : KD) : Prop := t δ s (kLst Q)
/-- a list in the store -/
def kLstM (Q : KD) (ds : List DV) (s1 : Sto) : Prop := ds.length ≤ sizeLine ∧ ∀ p, s1 p = none → Q (.ref p) (up s1 p (.lst ds))
def dLstM (t : TAd) (δ : Ed) (s : Sto) (Q : KD) : Prop := t δ s (kLstM Q)
/-- a list of the store is from now on seen through -/
def frzD (s : Sto) (d : DV) : DV × Sto := match d with
  | .ref a => match s a with
    | some (.lst ds) => (.lst ds, er s a)
    | _ => (d, s)
  | _ => (d, s)
def kFrz (Q : KD) (d : DV) (s1 : Sto) : Prop := Q (frzD s1 d).1 (frzD s1 d).2
def dFrz (t : TEd) (δ : Ed) (s : Sto) (Q : KD) : Prop := t δ s (kFrz Q)
section
variable {A : Anc} {X : Cx} {e : Expr} {es : List Expr} {te : TEd} {t : TAd} {pos : Pos}
theorem dan : PAd A X [] dNil := paImp pa_nil fun σ H Q h => by
  obtain ⟨δ, s, Q', S, t, k⟩ := h
  exact k [] H [] s (Stp.refl s H) S.rep .nil t
theorem dac (ha : PD A X e te) (hr : PAd A X es t) (hs : starEach (e :: es) X.env = (false, eval e X.env) :: starEach es X.env := by rfl) : PAd A X (e :: es) (dCons te t) := paImp (pa_cons ha hr hs) fun σ H Q h => by
  obtain ⟨δ, s, Q', S, t, k⟩ := h
  refine ⟨δ, s, _, S, t, fun v H1 d s1 st1 rep1 dv q1 => ?_⟩
  refine ⟨δ, s1, _, S.go st1 rep1, q1, fun vs H2 ds s2 st2 rep2 dvs q2 => ?_⟩
  exact k (v :: vs) H2 (d :: ds) s2 (st1.trans st2) rep2 (.cons (dv.step st2 rep1) dvs) q2
theorem dtup {x1} (h : PAd A X es t) : PD A X (.Tuple es x1 pos) (dTup t) := peImp (pe_tup h) fun σ H Q h => by
  obtain ⟨δ, s, Q', S, t, k⟩ := h
  refine ⟨δ, s, _, S, t, fun vs H1 ds s1 st1 rep1 dvs ⟨z, q⟩ => ⟨by rw [dvs.length]; exact z, fun p hp => ?_⟩⟩
  have st2 : Stp s1 H1 s1 (upd H1 p (.tup vs)) := Stp.newF hp
  exact k _ _ _ s1 (st1.trans st2) (rep1.newF hp) (.tup (SqT.of upd_same) (dvs.step st2 rep1)) q
theorem dlst (h : PAd A X es t) : PD A X (.List es pos) (dLst t) := peImp (pe_lst h) fun σ H Q h => by
  obtain ⟨δ, s, Q', S, t, k⟩ := h
  refine ⟨δ, s, _, S, t, fun vs H1 ds s1 st1 rep1 dvs ⟨z, q⟩ => ⟨by rw [dvs.length]; exact z, fun p hp => ?_⟩⟩
  have st2 : Stp s1 H1 s1 (upd H1 p (.lst vs)) := Stp.newF hp
  exact k _ _ _ s1 (st1.trans st2) (rep1.newF hp) (.lst upd_same (rep1.fresh hp) (dvs.step st2 rep1)) q
theorem new_lst {K : PySem.W.Frag} {s : Sto} {H : Hp} {p : Addr} {vs : List V} {ds : List DV} (rep : Rep K s H) (hp : H p = none) (h : DatL K s H vs ds) :
    Stp s H (up s p (.lst ds)) (upd H p (.lst vs)) ∧ Rep K (up s p (.lst ds)) (upd H p (.lst vs)) :=
  ⟨Stp.new hp, rep.put (Stp.new hp) ⟨vs, upd_same, h.step (Stp.new hp) rep⟩⟩
theorem dlstM (h : PAd A X es t) : PD A X (.List es pos) (dLstM t) := peImp (pe_lst h) fun σ H Q h => by
  obtain ⟨δ, s, Q', S, t, k⟩ := h
  refine ⟨δ, s, _, S, t, fun vs H1 ds s1 st1 rep1 dvs ⟨z, q⟩ => ⟨by rw [dvs.length]; exact z, fun p hp => ?_⟩⟩
  obtain ⟨st2, rep2⟩ := new_lst rep1 hp dvs
  exact k _ _ _ _ (st1.trans st2) rep2 (.ref p) (q p (rep1.fresh hp))
theorem frz_ok {K : PySem.W.Frag} {s : Sto} {H : Hp} {v : V} {d : DV} (rep : Rep K s H) (h : Dat K s H v d) : Stp s H (frzD s d).2 H ∧ Rep K (frzD s d).2 H ∧ Dat K (frzD s d).2 H v (frzD s d).1 := by
  have triv : Stp s H s H ∧ Rep K s H ∧ Dat K s H v d := ⟨Stp.refl s H, rep, h⟩
  by_cases q : ∃ a ds, d = .ref a ∧ s a = some (.lst ds)
  · obtain ⟨a, ds, rfl, e⟩ := q
    have z : frzD s (.ref a) = (.lst ds, er s a) := by simp only [frzD, e]
    rw [z]
    cases h
    obtain ⟨xs, h1, h2⟩ := rep a _ e
    have b : Sub (er s a) s := Sub.er (by rw [e]; intro z; cases z)
    exact ⟨(Stp.refl s H).sub b, rep.sub b, .lst h1 er_same (h2.sub b)⟩
  · have z : frzD s d = (d, s) := by
      unfold frzD
      split
      · split
        · exact absurd ⟨_, _, rfl, ‹_›⟩ q
        · rfl
      · rfl
    rw [z]
    exact triv
theorem dfrz (h : PD A X e te) : PD A X e (dFrz te) := peImp h fun σ H Q h => by
  obtain ⟨δ, s, Q', S, t, k⟩ := h
  refine ⟨δ, s, _, S, t, fun v H1 d s1 st1 rep1 dv q => ?_⟩
  obtain ⟨a, b, c⟩ := frz_ok rep1 dv
  exact k v H1 _ _ (st1.trans a) b c q
end

/-! ### statements -/
def dNext (D : EndsD) (δ : Ed) (s : Sto) : Prop := D.nx δ s
def dSeq (t u : TSd) (D : EndsD) (δ : Ed) (s : Sto) : Prop := t { D with nx := u D } δ s
def dBreak (D : EndsD) (δ : Ed) (s : Sto) : Prop := D.bk δ s
def dCont (D : EndsD) (δ : Ed) (s : Sto) : Prop := D.ct δ s
def kDrop (D : EndsD) (δ : Ed) (_ : DV) (s1 : Sto) : Prop := D.nx δ s1
def dDrop (te : TEd) (D : EndsD) (δ : Ed) (s : Sto) : Prop := te δ s (kDrop D δ)
def dRet (te : TEd) (D : EndsD) (δ : Ed) (s : Sto) : Prop := te δ s D.rt
/-- a return that drops entries of the store -/
def kRetS (D : EndsD) (d : DV) (s1 : Sto) : Prop := ∃ s2, Sub s2 s1 ∧ D.rt d s2
def dRetS (te : TEd) (D : EndsD) (δ : Ed) (s : Sto) : Prop := te δ s (kRetS D)
def dRetN (D : EndsD) (δ : Ed) (s : Sto) : Prop := D.rt .non s
def dGif (b : Bool) (t u : Sto → Prop) (s : Sto) : Prop := match b with
  | true => t s
  | false => u s
def kIfS (t u : TSd) (D : EndsD) (δ : Ed) (b : Bool) (s1 : Sto) : Prop := dGif b (t D δ) (u D δ) s1
def dIfS (c : TTd) (t u : TSd) (D : EndsD) (δ : Ed) (s : Sto) : Prop := c δ s (kIfS t u D δ)
def gNameD (i : Nat) (d : DV) (δ : Ed) (s : Sto) (Q : Ed → Sto → Prop) : Prop := Q (δ.set i (some d)) s
def kAsg (g : TGd) (D : EndsD) (δ : Ed) (x : DV) (s1 : Sto) : Prop := g x δ s1 D.nx
def dAsg (te : TEd) (g : TGd) (D : EndsD) (δ : Ed) (s : Sto) : Prop := te δ s (kAsg g D δ)
/-- what is known in between -/
def dCut (M : Ed → Sto → Prop) (t u : TSd) (D : EndsD) (δ : Ed) (s : Sto) : Prop := t { D with nx := M } δ s ∧ ∀ δ s, M δ s → u D δ s
theorem dGif_of {b : Bool} {t u : Sto → Prop} {s : Sto} (h1 : b = true → t s) (h2 : b = false → u s) : dGif b t u s := by
  cases b with
  | true => exact h1 rfl
  | false => exact h2 rfl
section
variable {A : Anc} {X : Cx} {st : Stmt} {rest : List Stmt} {t u : TSd} {e : Expr} {te : TEd} {g : TGd} {pos : Pos}
theorem dsn : PSsd A X [] dNext := pssImp pss_nil fun D σ H h => by
  obtain ⟨δ, s, D', S, t, L⟩ := h
  exact L.nx σ H δ s S t
theorem dsc (h1 : PSd A X st t) (h2 : PSsd A X rest u) : PSsd A X (st :: rest) (dSeq t u) := pssImp (pss_cons h1 h2) fun D σ H h => by
  obtain ⟨δ, s, D', S, t, L⟩ := h
  exact ⟨δ, s, _, S, t, ⟨fun σ1 H1 δ1 s1 S1 q => ⟨δ1, s1, D', S1, q, L⟩, L.bk, L.ct, L.rt⟩⟩
theorem ds1 (h1 : PSd A X st t) : PSsd A X [st] t := pss_one h1
theorem dscut (M : Ed → Sto → Prop) (h1 : PSd A X st t) (h2 : PSsd A X rest u) : PSsd A X (st :: rest) (dCut M t u) := pssImp (pss_cons h1 h2) fun D σ H h => by
  obtain ⟨δ, s, D', S, ⟨t, u⟩, L⟩ := h
  exact ⟨δ, s, _, S, t, ⟨fun σ1 H1 δ1 s1 S1 q => ⟨δ1, s1, D', S1, u δ1 s1 q, L⟩, L.bk, L.ct, L.rt⟩⟩
theorem dspass : PSd A X (.Pass pos) dNext := psImp ps_pass fun D σ H h => by
  obtain ⟨δ, s, D', S, t, L⟩ := h
  exact L.nx σ H δ s S t
theorem dsbreak : PSd A X (.Break pos) dBreak := psImp ps_break fun D σ H h => by
  obtain ⟨δ, s, D', S, t, L⟩ := h
  exact L.bk σ H δ s S t
theorem dscont : PSd A X (.Continue pos) dCont := psImp ps_continue fun D σ H h => by
  obtain ⟨δ, s, D', S, t, L⟩ := h
  exact L.ct σ H δ s S t
theorem dsexpr (he : PD A X e te) (hs : swapsWith e none pos.line X.env = pure false := by rfl) : PSd A X (.Expr e pos) (dDrop te) := psImp (ps_expr he hs) fun D σ H h => by
  obtain ⟨δ, s, D', S, t, L⟩ := h
  exact ⟨δ, s, _, S, t, fun v H2 d s2 st rep dv q => L.nx σ H2 δ s2 (S.go st rep) q⟩
theorem dsret (he : PD A X e te) : PSd A X (.Return (some e) pos) (dRet te) := psImp (ps_ret he) fun D σ H h => by
  obtain ⟨δ, s, D', S, t, L⟩ := h
  exact ⟨δ, s, _, S, t, fun v H2 d s2 st rep dv q => L.rt v H2 d s2 (S.stp.trans st) rep dv q⟩
theorem dsretS (he : PD A X e te) : PSd A X (.Return (some e) pos) (dRetS te) := psImp (ps_ret he) fun D σ H h => by
  obtain ⟨δ, s, D', S, t, L⟩ := h
  exact ⟨δ, s, _, S, t, fun v H2 d s2 st rep dv ⟨s3, b, q⟩ => L.rt v H2 d s3 ((S.stp.trans st).sub b) (rep.sub b) (dv.sub b) q⟩
theorem dsretN : PSd A X (.Return none pos) dRetN := psImp ps_retN fun D σ H h => by
  obtain ⟨δ, s, D', S, t, L⟩ := h
  exact L.rt .non H .non s S.stp S.rep .non t
theorem dsif {c : Expr} {a b : List Stmt} {tc : TTd} (hc : PTd A X c tc) (ha : PSsd A X a t) (hb : PSsd A X b u) : PSd A X (.If c a b pos) (dIfS tc t u) := psImp (ps_if hc ha hb) fun D σ H h => by
  obtain ⟨δ, s, D', S, t, L⟩ := h
  refine ⟨δ, s, _, S, t, fun b H2 s2 st rep q => ?_⟩
  cases b with
  | true => rw [if_pos rfl]; exact ⟨δ, s2, D', S.go st rep, q, L⟩
  | false => rw [if_neg Bool.false_ne_true]; exact ⟨δ, s2, D', S.go st rep, q, L⟩
theorem dsset {i : Nat} {x : Str} {pos' : Pos} (hN : X.N.Nodup) (hi : X.N[i]? = some x) (hx : Loc X.env.scope x) (he : PD A X e te) (hs : swapsWith e (some (.Name x pos')) pos.line X.env = pure false := by rfl)
    (hf : X.fn x = true ∨ X.env.scope.names.lookup x = some .local := by first | exact .inl rfl | exact .inr rfl | assumption) : PSd A X (.Assign [.Name x pos'] e pos) (dAsg te (gNameD i)) := psImp (ps_set hN hi hx he hs hf) fun D σ H h => by
  obtain ⟨δ, s, D', S, t, L⟩ := h
  exact ⟨δ, s, _, S, t, fun v H2 d s2 st rep dv q => L.nx _ H2 _ s2 ⟨S.stp.trans st, rep, (S.env.step st S.rep).set dv i⟩ q⟩
theorem dgname {i : Nat} {x : Str} (hN : X.N.Nodup) (hi : X.N[i]? = some x) (hx : Loc X.env.scope x) (hf : X.fn x = true ∨ X.env.scope.names.lookup x = some .local := by first | exact .inl rfl | exact .inr rfl | assumption) : PGd A X (.Name x pos) (gNameD i) :=
  pgImp (pg_name hN hi hx hf) fun v σ H Q h => by
    obtain ⟨d, δ, s, Q', S, dv, g, k⟩ := h
    exact k _ H _ s ⟨S.stp, S.rep, S.env.set dv i⟩ g
theorem dsasg {tg : Expr} (he : PD A X e te) (hg : PGd A X tg g) (hs : swapsWithSole [tg] e pos.line X.env = pure false := by rfl) (hw : swappedStores [tg] e X.env = pure none := by rfl)
    (h1 : (assignEach [tg] X.env).map (·.2) = [assign tg X.env] := by rfl) : PSd A X (.Assign [tg] e pos) (dAsg te g) := psImp (ps_asg he hg hs hw h1) fun D σ H h => by
  obtain ⟨δ, s, D', S, t, L⟩ := h
  exact ⟨δ, s, _, S, t, fun v H2 d s2 st rep dv q => ⟨d, δ, s2, _, S.go st rep, dv, q, L.nx⟩⟩
end
def gNilD (ds : List DV) (δ : Ed) (s : Sto) (Q : Ed → Sto → Prop) : Prop := ds = [] ∧ Q δ s
def kGCons (u : TGsd) (Q : Ed → Sto → Prop) (r : List DV) (δ' : Ed) (s' : Sto) : Prop := u r δ' s' Q
def gConsD (t : TGd) (u : TGsd) (ds : List DV) (δ : Ed) (s : Sto) (Q : Ed → Sto → Prop) : Prop := match ds with
  | d :: r => t d δ s (kGCons u Q r)
  | [] => False
def gTupD (n : Nat) (t : TGsd) (d : DV) (δ : Ed) (s : Sto) (Q : Ed → Sto → Prop) : Prop := match d with
  | .tup ds => ds.length = n ∧ t ds δ s Q
  | _ => False
end DL

set_option Elab.async false
set_option linter.all false
set_option maxRecDepth 100000
set_option maxHeartbeats 4000000
namespace DL
open PySem PySem.Spec PyProof.Rows L2

/-! ### what a list, a tuple holds -/
/-- a list that may be read -/
def lstD (s : Sto) (d : DV) : Option (List DV) := match d with
  | .lst ds => some ds
  | .scr ds => some ds
  | .ref a => match s a with
    | some (.lst ds) => some ds
    | _ => none
  | _ => none
/-- a list of one's own -/
def lstW (s : Sto) (d : DV) : Option (List DV) := match d with
  | .lst ds => some ds
  | .ref a => match s a with
    | some (.lst ds) => some ds
    | _ => none
  | _ => none
theorem lstD_ref {s : Sto} {a : Addr} {ds : List DV} (h : s a = some (.lst ds)) : lstD s (.ref a) = some ds := by simp only [lstD, h]
theorem lstW_ref {s : Sto} {a : Addr} {ds : List DV} (h : s a = some (.lst ds)) : lstW s (.ref a) = some ds := by simp only [lstW, h]
section
variable {K : PySem.W.Frag} {s : Sto} {H : Hp} {v : V} {d : DV} {ds : List DV}
theorem lstW_ok (rep : Rep K s H) (h : Dat K s H v d) (e : lstW s d = some ds) : ∃ a xs, v = .ref a ∧ H a = some (.lst xs) ∧ DatL K s H xs ds := by
  cases d with
  | lst es =>
    cases (Option.some.inj e)
    obtain ⟨a, xs, h1, h2, _, h3⟩ := h.lstInv
    exact ⟨a, xs, h1, h2, h3⟩
  | ref a =>
    cases h
    cases q : s a with
    | none => simp only [lstW, q] at e; cases e
    | some m =>
      cases m with
      | lst es =>
        simp only [lstW, q] at e
        cases e
        obtain ⟨xs, h1, h2⟩ := rep a _ q
        exact ⟨a, xs, rfl, h1, h2⟩
      | hid => simp only [lstW, q] at e; cases e
      | dK ks => simp only [lstW, q] at e; cases e
      | ins C fs => simp only [lstW, q] at e; cases e
      | exc C fs => simp only [lstW, q] at e; cases e
  | _ => cases e
theorem lstD_ok (rep : Rep K s H) (h : Dat K s H v d) (e : lstD s d = some ds) : ∃ a xs, v = .ref a ∧ SqL K H a xs ∧ DatL K s H xs ds := by
  cases d with
  | scr es =>
    cases (Option.some.inj e)
    obtain ⟨a, xs, h1, h2, h3⟩ := h.scrInv
    exact ⟨a, xs, h1, h2.sq, h3⟩
  | lst es =>
    obtain ⟨a, xs, h1, h2, h3⟩ := lstW_ok rep h (show lstW s (.lst es) = some ds from e)
    exact ⟨a, xs, h1, SqL.of h2, h3⟩
  | ref a =>
    obtain ⟨a, xs, h1, h2, h3⟩ := lstW_ok rep h (show lstW s (.ref a) = some ds from e)
    exact ⟨a, xs, h1, SqL.of h2, h3⟩
  | _ => cases e
end

/-! ### arithmetic -/
def kOk (p : Prop) (Q : Prop) : Prop := p ∧ Q
def dAdd (x y : DV) (s : Sto) (Q : KD) : Prop := match x, y with
  | .int i, .int j => Q (.int (i + j)) s
  | .str a, .str b => a.length + b.length ≤ sizeLine ∧ Q (.str (a ++ b)) s
  | .tup a, .tup b => a.length + b.length ≤ sizeLine ∧ Q (.tup (a ++ b)) s
  | x, y => match lstW s x, lstW s y with
    | some a, some b => a.length + b.length ≤ sizeLine ∧ Q (.lst (a ++ b)) s
    | _, _ => False
section
variable {X : Cx}
theorem od_add : OpD X (binaryOp .Add) dAdd := by
  refine opImp (opOr op_add (opOr op_add_str (opOr op_catA op_cat))) fun x y H Q h => ?_
  obtain ⟨dx, dy, s, Q', rep, hx, hy, r, k⟩ := h
  have lists : ∀ a b, lstW s dx = some a → lstW s dy = some b → a.length + b.length ≤ sizeLine ∧ Q' (.lst (a ++ b)) s → rCat x y H Q := fun a b ea eb ⟨z, q⟩ => by
    obtain ⟨p, xs, rfl, h1, l1⟩ := lstW_ok rep hx ea
    obtain ⟨p2, ys, rfl, h2, l2⟩ := lstW_ok rep hy eb
    refine ⟨p, p2, xs, ys, rfl, rfl, h1, h2, by rw [l1.length, l2.length]; exact z, fun r hr => ?_⟩
    have st : Stp s H s (upd H r (.lst (xs ++ ys))) := Stp.newF hr
    exact k _ _ _ s st (rep.newF hr) (.lst upd_same (rep.fresh hr) ((l1.append l2).step st rep)) q
  unfold dAdd at r
  split at r
  · cases hx; cases hy
    exact .inl ⟨_, _, rfl, rfl, k _ H _ s (Stp.refl s H) rep (.int _) r⟩
  · cases hx; cases hy
    exact .inr (.inl ⟨_, _, rfl, rfl, r.1, k _ H _ s (Stp.refl s H) rep (.str _) r.2⟩)
  · rename_i a b
    obtain ⟨z, q⟩ := r
    obtain ⟨p, xs, rfl, h1, l1⟩ := hx.tupInv
    obtain ⟨p2, ys, rfl, h2, l2⟩ := hy.tupInv
    refine .inr (.inr (.inl ⟨p, p2, xs, ys, rfl, rfl, h1, h2, by rw [l1.length, l2.length]; exact z, fun e => ?_, fun _ e => ?_, fun _ _ r hr => ?_⟩))
    · subst e; cases l1
      exact k _ H _ s (Stp.refl s H) rep (.tup h2 l2) q
    · subst e; cases l2
      refine k _ H _ s (Stp.refl s H) rep (.tup h1 l1) ?_
      rw [List.append_nil] at q
      exact q
    · have st : Stp s H s (upd H r (.tup (xs ++ ys))) := Stp.newF hr
      exact k _ _ _ s st (rep.newF hr) (.tup (SqT.of upd_same) ((l1.append l2).step st rep)) q
  · split at r
    · exact .inr (.inr (.inr (lists _ _ ‹_› ‹_› r)))
    · exact r.elim
def dI (C : Int → Int → Prop) (g : Int → Int → DV) (x y : DV) (s : Sto) (Q : KD) : Prop := match x, y with
  | .int i, .int j => C i j ∧ Q (g i j) s
  | _, _ => False
def dI0 (g : Int → Int → DV) (x y : DV) (s : Sto) (Q : KD) : Prop := match x, y with
  | .int i, .int j => Q (g i j) s
  | _, _ => False
theorem od_I {f : Value → Value → Sem Value} {C : Int → Int → Prop} {g : Int → Int → V} {g' : Int → Int → DV} (h : OpR X f (rI C g)) (hg : ∀ K s H i j, Dat K s H (g i j) (g' i j)) : OpD X f (dI C g') := opImp h fun x y H Q h => by
  obtain ⟨dx, dy, s, Q', rep, hx, hy, r, k⟩ := h
  unfold dI at r
  split at r
  · cases hx; cases hy
    exact ⟨_, _, rfl, rfl, r.1, k _ H _ s (Stp.refl s H) rep (hg _ _ _ _ _) r.2⟩
  · exact r.elim
theorem od_I0 {f : Value → Value → Sem Value} {g : Int → Int → V} {g' : Int → Int → DV} (h : OpR X f (rI0 g)) (hg : ∀ K s H i j, Dat K s H (g i j) (g' i j)) : OpD X f (dI0 g') := opImp h fun x y H Q h => by
  obtain ⟨dx, dy, s, Q', rep, hx, hy, r, k⟩ := h
  unfold dI0 at r
  split at r
  · cases hx; cases hy
    exact ⟨_, _, rfl, rfl, k _ H _ s (Stp.refl s H) rep (hg _ _ _ _ _) r⟩
  · exact r.elim
theorem od_sub : OpD X (binaryOp .Sub) (dI0 fun i j => .int (i - j)) := od_I0 op_sub fun _ _ _ _ _ => .int _
theorem od_mod : OpD X (binaryOp .Mod) (dI (fun _ j => 0 < j) fun i j => .int (i % j)) := od_I op_mod fun _ _ _ _ _ => .int _
theorem od_fdiv : OpD X (binaryOp .FloorDiv) (dI CDivW fun i j => .int (i / j)) := od_I op_fdivW fun _ _ _ _ _ => .int _
def CPowD (i j : Int) : Prop := 0 ≤ j ∧ (Builtin.Int.intBits i : Int) * j ≤ 2 ^ 27
theorem op_powD : OpR X (binaryOp .Pow) (rI CPowD fun i j => .int (i ^ j.toNat)) := opI fun _ _ _ _ _ _ _ hc q => pow_int hc.1 hc.2 q
theorem od_pow : OpD X (binaryOp .Pow) (dI CPowD fun i j => .int (i ^ j.toNat)) := od_I op_powD fun _ _ _ _ _ => .int _
theorem opOrI {C D : Int → Int → Prop} {g : Int → Int → V} {f : Value → Value → Sem Value} (h : OpR X f (rI C g)) (h' : OpR X f (rI D g)) : OpR X f (rI (fun i j => C i j ∨ D i j) g) := opImp (opOr h h') fun x y H Q q => by
  obtain ⟨i, j, e1, e2, c | c, q⟩ := q
  · exact .inl ⟨i, j, e1, e2, c, q⟩
  · exact .inr ⟨i, j, e1, e2, c, q⟩
def dMul (x y : DV) (s : Sto) (Q : KD) : Prop := match x, y with
  | .int i, .int j => (CMul i j ∨ CMulW i j) ∧ Q (.int (i * j)) s
  | .tup ds, .int k => (ds ≠ [] ∧ 2 ≤ k ∧ k ≤ 1000 ∧ ds.length ≤ 1000) ∧ Q (.tup (List.replicate k.toNat ds).flatten) s
  | x, .int k => match lstW s x with
    | some ds => (-(2 ^ 63) ≤ k ∧ k < 2 ^ 63 ∧ ds.length * k.toNat ≤ sizeLine) ∧ Q (.lst (List.replicate k.toNat ds).flatten) s
    | none => False
  | _, _ => False
theorem od_mul : OpD X (binaryOp .Mult) dMul := by
  refine opImp (opOr (opOrI op_mul op_mulW) (opOr op_repT op_rep)) fun x y H Q h => ?_
  obtain ⟨dx, dy, s, Q', rep, hx, hy, r, k⟩ := h
  unfold dMul at r
  split at r
  · cases hx; cases hy
    exact .inl ⟨_, _, rfl, rfl, r.1, k _ H _ s (Stp.refl s H) rep (.int _) r.2⟩
  · obtain ⟨⟨h1, h2, h3, h4⟩, q⟩ := r
    obtain ⟨p, xs, rfl, t1, l1⟩ := hx.tupInv
    cases hy
    refine .inr (.inl ⟨p, _, xs, rfl, rfl, t1, fun e => ?_, h2, h3, by rw [l1.length]; exact h4, fun r hr => ?_⟩)
    · subst e; cases l1; exact h1 rfl
    · exact k _ _ _ s (Stp.newF hr) (rep.newF hr) (.tup (SqT.of upd_same) ((l1.flatten_rep _).step (Stp.newF hr) rep)) q
  · split at r
    · rename_i ds e
      obtain ⟨⟨h1, h2, h3⟩, q⟩ := r
      obtain ⟨p, xs, rfl, t1, l1⟩ := lstW_ok rep hx e
      cases hy
      refine .inr (.inr ⟨p, _, xs, rfl, rfl, t1, h1, h2, by rw [l1.length]; exact h3, fun r hr => ?_⟩)
      exact k _ _ _ s (Stp.newF hr) (rep.newF hr) (.lst upd_same (rep.fresh hr) ((l1.flatten_rep _).step (Stp.newF hr) rep)) q
    · exact r.elim
  · exact r.elim

/-! ### comparisons -/
def dLtB (fI : Int → Int → Bool) (fS : Str → Str → Bool) (x y : DV) (s : Sto) (Q : KD) : Prop := match x, y with
  | .int i, .int j => Q (.bl (fI i j)) s
  | .str a, .str b => Q (.bl (fS a b)) s
  | _, _ => False
theorem od_ord {f : Value → Value → Sem Value} {fI : Int → Int → Bool} {fS : Str → Str → Bool} (h : OpR X f (rI0 fun i j => .bl (fI i j))) (h' : OpR X f fun x y H Q => ∃ i j, x = .str i ∧ y = .str j ∧ Q (.bl (fS i j)) H) : OpD X f (dLtB fI fS) :=
  opImp (opOr h h') fun x y H Q h => by
  obtain ⟨dx, dy, s, Q', rep, hx, hy, r, k⟩ := h
  unfold dLtB at r
  split at r
  · cases hx; cases hy
    exact .inl ⟨_, _, rfl, rfl, k _ H _ s (Stp.refl s H) rep (.bl _) r⟩
  · cases hx; cases hy
    exact .inr ⟨_, _, rfl, rfl, k _ H _ s (Stp.refl s H) rep (.bl _) r⟩
  · exact r.elim
def ltI (i j : Int) : Bool := decide (i < j)
def leI (i j : Int) : Bool := decide (i ≤ j)
def ltS (a b : Str) : Bool := decide (a.cps.toList < b.cps.toList)
def leS (a b : Str) : Bool := !decide (b.cps.toList < a.cps.toList)
theorem od_lt : OpD X (compareOp .Lt) (dLtB ltI ltS) := od_ord op_lt op_lt_str
theorem od_le : OpD X (compareOp .LtE) (dLtB leI leS) := od_ord op_le op_le_str
theorem od_gt : OpD X (compareOp .Gt) (dLtB (fun i j => ltI j i) (fun a b => ltS b a)) := od_ord op_gt op_gt_str
theorem od_ge : OpD X (compareOp .GtE) (dLtB (fun i j => leI j i) (fun a b => leS b a)) := od_ord op_ge op_ge_str
mutual
def pd : DV → Option PyData
  | .non => some .none
  | .bl b => some (.bool b)
  | .int i => some (.int i)
  | .str x => some (.str x)
  | .tup ds => (pdL ds).map .tuple
  | .lst ds => (pdL ds).map .list
  | .scr ds => (pdL ds).map .list
  | .ref _ => none
  | .ty _ => none
def pdL : List DV → Option (List PyData)
  | [] => some []
  | d :: ds => match pd d, pdL ds with
    | some p, some ps => some (p :: ps)
    | _, _ => none
end
def pdS (s : Sto) (d : DV) : Option PyData := match d with
  | .ref a => match s a with
    | some (.lst ds) => (pdL ds).map .list
    | _ => none
  | d => pd d
section
variable {K : PySem.W.Frag} {s : Sto} {H : Hp}
mutual
theorem pd_ok (rep : Rep K s H) : ∀ {d : DV} {v : V} {p : PyData}, Dat K s H v d → pd d = some p → Dp K H v p
  | .non, _, _, h, e => by cases h; cases e; exact .non
  | .bl _, _, _, h, e => by cases h; cases e; exact .bl _
  | .int _, _, _, h, e => by cases h; cases e; exact .int _
  | .str _, _, _, h, e => by cases h; cases e; exact .str _
  | .tup ds, _, _, h, e => by
    obtain ⟨a, xs, rfl, h1, l⟩ := h.tupInv
    cases q : pdL ds with
    | none => simp only [pd, q] at e; cases e
    | some ps => simp only [pd, q] at e; cases e; exact .tup h1 (pdL_ok rep l q)
  | .lst ds, _, _, h, e => by
    obtain ⟨a, xs, rfl, h1, _, l⟩ := h.lstInv
    cases q : pdL ds with
    | none => simp only [pd, q] at e; cases e
    | some ps => simp only [pd, q] at e; cases e; exact .lst (SqL.of h1) (pdL_ok rep l q)
  | .scr ds, _, _, h, e => by
    obtain ⟨a, xs, rfl, h1, l⟩ := h.scrInv
    cases q : pdL ds with
    | none => simp only [pd, q] at e; cases e
    | some ps => simp only [pd, q] at e; cases e; exact .lst h1.sq (pdL_ok rep l q)
  | .ref _, _, _, _, e => by simp only [pd] at e; cases e
  | .ty _, _, _, _, e => by simp only [pd] at e; cases e
theorem pdL_ok (rep : Rep K s H) : ∀ {ds : List DV} {vs : List V} {ps : List PyData}, DatL K s H vs ds → pdL ds = some ps → DpAll K H vs ps
  | [], _, _, h, e => by cases h; simp only [pdL] at e; cases e; exact .nil
  | d :: ds, _, _, h, e => by
    cases h with
    | cons h1 h2 =>
      cases q1 : pd d with
      | none => simp only [pdL, q1] at e; cases e
      | some p =>
        cases q2 : pdL ds with
        | none => simp only [pdL, q1, q2] at e; cases e
        | some ps => simp only [pdL, q1, q2] at e; cases e; exact .cons (pd_ok rep h1 q1) (pdL_ok rep h2 q2)
end
theorem pdS_ok (rep : Rep K s H) {d : DV} {v : V} {p : PyData} (h : Dat K s H v d) (e : pdS s d = some p) : Dp K H v p := by
  cases d with
  | ref a =>
    cases h
    cases q : s a with
    | none => simp only [pdS, q] at e; cases e
    | some m =>
      cases m with
      | lst ds =>
        obtain ⟨xs, h1, l⟩ := rep a _ q
        cases q2 : pdL ds with
        | none => simp only [pdS, q, q2] at e; cases e
        | some ps => simp only [pdS, q, q2] at e; cases e; exact .lst (SqL.of h1) (pdL_ok rep l q2)
      | hid => simp only [pdS, q] at e; cases e
      | dK ks => simp only [pdS, q] at e; cases e
      | ins C fs => simp only [pdS, q] at e; cases e
      | exc C fs => simp only [pdS, q] at e; cases e
  | _ => exact pd_ok rep h e
end
/-- == of plain things -/
def scalEq (x y : DV) : Option Bool := match x, y with
  | .int i, .int j => some (decide (i = j))
  | .str i, .str j => some (decide (i = j))
  | .bl i, .bl j => some (decide (i = j))
  | .non, .non => some true
  | .non, .int _ => some false
  | .int _, .non => some false
  | .non, .str _ => some false
  | .str _, .non => some false
  | .non, .bl _ => some false
  | .bl _, .non => some false
  | _, _ => none
def eqData (s : Sto) (x y : DV) (F : Bool → Prop) : Prop := match pdS s x, pdS s y with
  | some d, some e => SeqAt.shaped d = true ∧ SeqAt.shaped e = true ∧ F (PyData.eqv d e)
  | _, _ => False
def dEq (x y : DV) (s : Sto) (Q : KD) : Prop := match scalEq x y with
  | some b => Q (.bl b) s
  | none => eqData s x y fun b => Q (.bl b) s
def dNe (x y : DV) (s : Sto) (Q : KD) : Prop := match scalEq x y with
  | some b => Q (.bl (!b)) s
  | none => eqData s x y fun b => Q (.bl (!b)) s
theorem scalEq_ok {K : PySem.W.Frag} {s : Sto} {H : Hp} {x y : V} {dx dy : DV} {b : Bool} (hx : Dat K s H x dx) (hy : Dat K s H y dy) (e : scalEq dx dy = some b) : scal x y = true ∧ b = decide (x = y) := by
  unfold scalEq at e
  split at e <;> (try cases e) <;> cases hx <;> cases hy <;> first | exact ⟨rfl, rfl⟩ | exact ⟨rfl, by simp⟩
theorem od_eq (hu : X.A.units + 64 < cLine) : OpD X (compareOp .Eq) dEq := opImp (opOr op_eq (op_eqD hu)) fun x y H Q h => by
  obtain ⟨dx, dy, s, Q', rep, hx, hy, r, k⟩ := h
  unfold dEq at r
  split at r
  · rename_i b e
    obtain ⟨h1, h2⟩ := scalEq_ok hx hy e
    exact .inl ⟨h1, by rw [← h2]; exact k _ H _ s (Stp.refl s H) rep (.bl b) r⟩
  · unfold eqData at r
    split at r
    · rename_i d e e1 e2
      exact .inr ⟨d, e, pdS_ok rep hx e1, pdS_ok rep hy e2, r.1, r.2.1, k _ H _ s (Stp.refl s H) rep (.bl _) r.2.2⟩
    · exact r.elim
theorem od_ne (hu : X.A.units + 64 < cLine) : OpD X (compareOp .NotEq) dNe := opImp (opOr op_ne (op_neD hu)) fun x y H Q h => by
  obtain ⟨dx, dy, s, Q', rep, hx, hy, r, k⟩ := h
  unfold dNe at r
  split at r
  · rename_i b e
    obtain ⟨h1, h2⟩ := scalEq_ok hx hy e
    exact .inl ⟨h1, by rw [← h2]; exact k _ H _ s (Stp.refl s H) rep (.bl (!b)) r⟩
  · unfold eqData at r
    split at r
    · rename_i d e e1 e2
      exact .inr ⟨d, e, pdS_ok rep hx e1, pdS_ok rep hy e2, r.1, r.2.1, k _ H _ s (Stp.refl s H) rep (.bl _) r.2.2⟩
    · exact r.elim
def isNonD : DV → Bool
  | .non => true
  | _ => false
theorem isNon_ok {K : PySem.W.Frag} {s : Sto} {H : Hp} {x : V} {dx : DV} (hx : Dat K s H x dx) : isNonD dx = decide (x = .non) := by
  cases hx <;> simp [isNonD]
def dIs (neg : Bool) (x y : DV) (s : Sto) (Q : KD) : Prop := match y with
  | .non => Q (.bl (if neg then !isNonD x else isNonD x)) s
  | .bl b => match x with
    | .bl a => Q (.bl (if neg then !decide (a = b) else decide (a = b))) s
    | _ => False
  | _ => False
theorem od_is : OpD X (compareOp .Is) (dIs false) := opImp (opOr op_isN op_is_bl) fun x y H Q h => by
  obtain ⟨dx, dy, s, Q', rep, hx, hy, r, k⟩ := h
  unfold dIs at r
  split at r
  · cases hy
    rw [isNon_ok hx] at r
    exact .inl ⟨rfl, k _ H _ s (Stp.refl s H) rep (.bl _) r⟩
  · split at r
    · cases hx; cases hy
      exact .inr ⟨_, _, rfl, rfl, k _ H _ s (Stp.refl s H) rep (.bl _) r⟩
    · exact r.elim
  · exact r.elim
theorem od_isnot : OpD X (compareOp .IsNot) (dIs true) := opImp (opOr op_notN op_isnot_bl) fun x y H Q h => by
  obtain ⟨dx, dy, s, Q', rep, hx, hy, r, k⟩ := h
  unfold dIs at r
  split at r
  · cases hy
    rw [isNon_ok hx] at r
    exact .inl ⟨rfl, k _ H _ s (Stp.refl s H) rep (.bl _) r⟩
  · split at r
    · cases hx; cases hy
      exact .inr ⟨_, _, rfl, rfl, k _ H _ s (Stp.refl s H) rep (.bl _) r⟩
    · exact r.elim
  · exact r.elim
/-- x in a text; in a list or tuple of plain things -/
def flatD : DV → Bool
  | .non => true
  | .bl _ => true
  | .int _ => true
  | .str _ => true
  | _ => false
def eqF : DV → DV → Bool
  | .non, .non => true
  | .bl a, .bl b => a == b
  | .bl a, .int b => (if a then 1 else 0) == b
  | .int a, .bl b => a == (if b then 1 else 0)
  | .int a, .int b => a == b
  | .str a, .str b => a == b
  | _, _ => false
def inF (x : DV) (ds : List DV) : Bool := ds.any fun y => eqF y x
def subS (a b : Str) : Bool := !(Builtin.Str.occurrences b a 0 b.length 1).isEmpty
def seqD (s : Sto) (d : DV) : Option (List DV) := match d with
  | .tup ds => some ds
  | d => lstD s d
def dIn (neg : Bool) (x y : DV) (s : Sto) (Q : KD) : Prop := match y with
  | .str b => match x with
    | .str a => Q (.bl (if neg then !subS a b else subS a b)) s
    | _ => False
  | y => match seqD s y with
    | some ds => flatD x = true ∧ ds.all flatD = true ∧ Q (.bl (if neg then !inF x ds else inF x ds)) s
    | none => False
section
variable {K : PySem.W.Frag} {s : Sto} {H : Hp}
theorem flat_ok {x : V} {d : DV} (h : Dat K s H x d) (e : flatD d = true) : flatV x = true := by cases h <;> first | rfl | cases e
theorem flatL_ok : ∀ {xs : List V} {ds : List DV}, DatL K s H xs ds → ds.all flatD = true → xs.all flatV = true
  | _, _, .nil, _ => rfl
  | _, _, .cons h t, e => by
    rw [List.all_cons, Bool.and_eq_true] at e ⊢
    exact ⟨flat_ok h e.1, flatL_ok t e.2⟩
theorem eqF_ok {x y : V} {d e : DV} (h : Dat K s H x d) (h' : Dat K s H y e) (f : flatD d = true) (f' : flatD e = true) : eqV x y = eqF d e := by
  cases h <;> cases h' <;> first | rfl | cases f | cases f'
theorem inF_ok {x : V} {d : DV} (h : Dat K s H x d) (f : flatD d = true) : ∀ {xs : List V} {ds : List DV}, DatL K s H xs ds → ds.all flatD = true → inV x xs = inF d ds
  | _, _, .nil, _ => rfl
  | _, _, .cons h1 t, e => by
    rw [List.all_cons, Bool.and_eq_true] at e
    have ih := inF_ok h f t e.2
    unfold inV inF at ih ⊢
    rw [List.any_cons, List.any_cons, eqF_ok h1 h e.1 f, ih]
theorem seqD_ok (rep : Rep K s H) {v : V} {d : DV} {ds : List DV} (h : Dat K s H v d) (e : seqD s d = some ds) : ∃ a xs, v = .ref a ∧ (SqL K H a xs ∨ SqT K H a xs) ∧ DatL K s H xs ds := by
  unfold seqD at e
  split at e
  · cases e
    obtain ⟨a, xs, e1, h1, l⟩ := h.tupInv
    exact ⟨a, xs, e1, .inr h1, l⟩
  · obtain ⟨a, xs, e1, h1, l⟩ := lstD_ok rep h e
    exact ⟨a, xs, e1, .inl h1, l⟩
end
theorem od_in : OpD X (compareOp .In) (dIn false) := opImp (opOr op_in_str op_in_seq) fun x y H Q h => by
  obtain ⟨dx, dy, s, Q', rep, hx, hy, r, k⟩ := h
  unfold dIn at r
  split at r
  · split at r
    · cases hx; cases hy
      exact .inl ⟨_, _, rfl, rfl, k _ H _ s (Stp.refl s H) rep (.bl _) r⟩
    · exact r.elim
  · split at r
    · rename_i ds e
      obtain ⟨a, xs, rfl, hs, l⟩ := seqD_ok rep hy e
      refine .inr ⟨a, xs, rfl, hs, flat_ok hx r.1, flatL_ok l r.2.1, ?_⟩
      rw [inF_ok hx r.1 l r.2.1]
      exact k _ H _ s (Stp.refl s H) rep (.bl _) r.2.2
    · exact r.elim
theorem od_notin : OpD X (compareOp .NotIn) (dIn true) := opImp (opOr op_notIn_str op_notIn_seq) fun x y H Q h => by
  obtain ⟨dx, dy, s, Q', rep, hx, hy, r, k⟩ := h
  unfold dIn at r
  split at r
  · split at r
    · cases hx; cases hy
      exact .inl ⟨_, _, rfl, rfl, k _ H _ s (Stp.refl s H) rep (.bl _) r⟩
    · exact r.elim
  · split at r
    · rename_i ds e
      obtain ⟨a, xs, rfl, hs, l⟩ := seqD_ok rep hy e
      refine .inr ⟨a, xs, rfl, hs, flat_ok hx r.1, flatL_ok l r.2.1, ?_⟩
      rw [inF_ok hx r.1 l r.2.1]
      exact k _ H _ s (Stp.refl s H) rep (.bl _) r.2.2
    · exact r.elim
end
end DL

set_option Elab.async false
set_option linter.all false
set_option maxRecDepth 100000
set_option maxHeartbeats 4000000
namespace DL
open PySem PySem.Spec PyProof.Rows L2

/-! ### a dict of the store -/
def keyD : DV → Option Key
  | .int i => some (.inl i)
  | .str x => some (.inr x)
  | _ => none
def getP {κ : Type} [DecidableEq κ] (ks : List (κ × DV)) (k : κ) : Option DV := (ks.find? fun kv => decide (kv.1 = k)).map (·.2)
def putP {κ : Type} [DecidableEq κ] (ks : List (κ × DV)) (k : κ) (v : DV) : List (κ × DV) :=
  if (ks.any fun kv => decide (kv.1 = k)) = true then ks.map (fun kv => if kv.1 = k then (kv.1, v) else kv) else ks ++ [(k, v)]
def dictD (s : Sto) (d : DV) : Option (List (Key × DV)) := match d with
  | .ref a => match s a with
    | some (.dK ks) => some ks
    | _ => none
  | _ => none
section
variable {K : PySem.W.Frag} {s : Sto} {H : Hp}
theorem keyD_ok {v : V} {d : DV} {k : Key} (h : Dat K s H v d) (e : keyD d = some k) : v = kV k := by
  cases d with
  | int i => cases h; cases e; rfl
  | str i => cases h; cases e; rfl
  | _ => cases e
theorem dictD_ok (rep : Rep K s H) {v : V} {d : DV} {ks : List (Key × DV)} (h : Dat K s H v d) (e : dictD s d = some ks) : ∃ a kvs, d = .ref a ∧ s a = some (.dK ks) ∧ v = .ref a ∧ H a = some (.dK kvs) ∧ DatP K s H kvs ks := by
  cases d with
  | ref a =>
    cases h
    cases q : s a with
    | none => simp only [dictD, q] at e; cases e
    | some m =>
      cases m with
      | dK es =>
        simp only [dictD, q] at e
        cases e
        obtain ⟨kvs, h1, h2⟩ := rep a _ q
        exact ⟨a, kvs, rfl, q, rfl, h1, h2⟩
      | hid => simp only [dictD, q] at e; cases e
      | lst ks => simp only [dictD, q] at e; cases e
      | ins C fs => simp only [dictD, q] at e; cases e
      | exc C fs => simp only [dictD, q] at e; cases e
  | _ => cases e
variable {κ : Type} [DecidableEq κ]
theorem getP_ok : ∀ {kvs : List (κ × V)} {ks : List (κ × DV)} {k : κ} {d : DV}, DatP K s H kvs ks → getP ks k = some d → ∃ v, valV kvs k = some v ∧ Dat K s H v d
  | _, _, _, _, .nil, e => by cases e
  | _, _, k, d, .cons (a := p) (b := q) h t, e => by
    by_cases c : q.1 = k
    · have c2 : p.1 = k := h.1.trans c
      have e2 : q.2 = d := by
        unfold getP at e
        rw [List.find?_cons_of_pos (by simpa using c)] at e
        exact Option.some.inj e
      refine ⟨p.2, ?_, by rw [← e2]; exact h.2⟩
      unfold valV
      rw [List.find?_cons_of_pos (by simpa using c2)]
      rfl
    · have c2 : ¬ p.1 = k := by rw [h.1]; exact c
      unfold getP at e
      rw [List.find?_cons_of_neg (by simpa using c)] at e
      obtain ⟨v, h1, h2⟩ := getP_ok (k := k) (d := d) t e
      refine ⟨v, ?_, h2⟩
      unfold valV
      rw [List.find?_cons_of_neg (by simpa using c2)]
      exact h1
theorem getP_none : ∀ {kvs : List (κ × V)} {ks : List (κ × DV)} {k : κ}, DatP K s H kvs ks → getP ks k = none → valV kvs k = none
  | _, _, _, .nil, e => rfl
  | _, _, k, .cons (a := p) (b := q) h t, e => by
    by_cases c : q.1 = k
    · unfold getP at e
      rw [List.find?_cons_of_pos (by simpa using c)] at e
      cases e
    · have c2 : ¬ p.1 = k := by rw [h.1]; exact c
      unfold getP at e
      rw [List.find?_cons_of_neg (by simpa using c)] at e
      have ih := getP_none (k := k) t e
      unfold valV
      rw [List.find?_cons_of_neg (by simpa using c2)]
      exact ih
theorem anyP_ok (k : κ) : ∀ {kvs : List (κ × V)} {ks : List (κ × DV)}, DatP K s H kvs ks → (kvs.any fun kv => decide (kv.1 = k)) = (ks.any fun kv => decide (kv.1 = k))
  | _, _, .nil => rfl
  | _, _, .cons h t => by rw [List.any_cons, List.any_cons, h.1, anyP_ok k t]
theorem DatP.append : ∀ {a b : List (κ × V)} {c d : List (κ × DV)}, DatP K s H a c → DatP K s H b d → DatP K s H (a ++ b) (c ++ d)
  | _, _, _, _, .nil, h => h
  | _, _, _, _, .cons h t, h' => .cons h (DatP.append t h')
theorem mapP_ok (k : κ) {v : V} {d : DV} (hv : Dat K s H v d) : ∀ {kvs : List (κ × V)} {ks : List (κ × DV)}, DatP K s H kvs ks → DatP K s H (kvs.map fun kv => if kv.1 = k then (kv.1, v) else kv) (ks.map fun kv => if kv.1 = k then (kv.1, d) else kv)
  | _, _, .nil => .nil
  | _, _, .cons (a := p) (b := q) h t => by
    refine .cons ?_ (mapP_ok k hv t)
    by_cases c : q.1 = k
    · have c2 : p.1 = k := h.1.trans c
      simp only [c, c2, if_true]
      exact ⟨trivial, hv⟩
    · have c2 : ¬ p.1 = k := by rw [h.1]; exact c
      simp only [c, c2, if_false]
      exact h
theorem putP_ok (k : κ) {v : V} {d : DV} (hv : Dat K s H v d) {kvs : List (κ × V)} {ks : List (κ × DV)} (h : DatP K s H kvs ks) : DatP K s H (putK kvs k v) (putP ks k d) := by
  unfold putK putP
  rw [anyP_ok k h]
  split
  · exact mapP_ok k hv h
  · exact h.append (.cons ⟨rfl, hv⟩ .nil)
end

/-! ### subscripts -/
def ixD (xs : Option DV) (s : Sto) (Q : KD) : Prop := match xs with
  | some d => Q d s
  | none => False
def dIx (x y : DV) (s : Sto) (Q : KD) : Prop := match x with
  | .str z => match y with
    | .int i => z.length ≤ sizeLine ∧ match atI z.cps.toList i with
      | some c => Q (.str ⟨#[c]⟩) s
      | none => False
    | _ => False
  | x => match seqD s x with
    | some ds => match y with
      | .int i => ixD (atI ds i) s Q
      | _ => False
    | none => match dictD s x, keyD y with
      | some ks, some k => ixD (getP ks k) s Q
      | _, _ => False
section
variable {X : Cx}
theorem ix_dict (hu : X.A.units + 1 < cLine) : IxR X (fun x y H Q => ∃ a v, x = .ref a ∧ DGet H a y (some v) ∧ Q v H) := by
  intro value slice pins s σ H x y o i Q I rx ry h hs
  obtain ⟨a, v, rfl, g, q⟩ := h
  obtain rfl : o = Value.ref a := rx
  have hT := dict_typeIs I g
  unfold subscriptTail
  refine wpAny_bind ?_
  rw [getitemInPython_of_ne hT.not_modules]
  refine wpAny_bind (wpAny_specialOf hT PySem.F.slot_dict_getitem.lookup ?_)
  have fin : wpAny (model X.prog X.w) X.A (subscripted slice false (.ref a) i) (fun r s₃ => wpAny (model X.prog X.w) X.A (letTemporaryGo value (.ref a) r >>= fun _ => pure r) (EP X pins σ Q) X.xe s₃) X.xe s := by
    rw [hs]
    exact wpAny_operating (d_getItem hu I g ry fun w' s3 I3 rw' => wpAny_bind (wpAny_letTemporaryGo (wpAny_pure ⟨v, H, I3, rw', q⟩)))
  first
    | exact wpAny_pure (wpAny_bind fin)
    | exact wpAny_bind (wpAny_pure (wpAny_bind fin))
    | exact wpAny_bind fin
theorem ixOr {r r' : R2} (h : IxR X r) (h' : IxR X r') : IxR X (fun x y H Q => r x y H Q ∨ r' x y H Q) := fun value slice pins s σ H x y v u Q I rx ry q e =>
  q.elim (fun q => h value slice pins s σ H x y v u Q I rx ry q e) fun q => h' value slice pins s σ H x y v u Q I rx ry q e
theorem ixImp {r r' : R2} (h : IxR X r) (w : ∀ x y H Q, r' x y H Q → r x y H Q) : IxR X r' := fun value slice pins s σ H x y v u Q I rx ry q e => h value slice pins s σ H x y v u Q I rx ry (w _ _ _ _ q) e
theorem atI_ok {K : PySem.W.Frag} {s : Sto} {H : Hp} {xs : List V} {ds : List DV} {i : Int} {d : DV} (l : DatL K s H xs ds) (e : atI ds i = some d) : ∃ v, atI xs i = some v ∧ Dat K s H v d := by
  unfold atI at e ⊢
  rw [← l.length] at e
  cases q : ixN xs.length i with
  | none => rw [q] at e; cases e
  | some j =>
    rw [q] at e
    exact l.get' e
theorem ix_d (hu : X.A.units + 1 < cLine) : IxR X (lR X.K dIx) := by
  refine ixImp (ixOr ix_list (ixOr ix_tup (ixOr ix_str (ix_dict hu)))) fun x y H Q h => ?_
  obtain ⟨dx, dy, s, Q', rep, hx, hy, r, k⟩ := h
  have k0 := fun v d hv q => k v H d s (Stp.refl s H) rep hv q
  unfold dIx at r
  split at r
  · split at r
    · cases hx; cases hy
      obtain ⟨z, r⟩ := r
      split at r
      · exact .inr (.inr (.inl ⟨_, _, _, rfl, rfl, z, ‹_›, k0 _ _ (.str _) r⟩))
      · exact r.elim
    · exact r.elim
  · split at r
    · rename_i ds e
      split at r
      · cases hy
        unfold ixD at r
        split at r
        · rename_i d ed
          obtain ⟨a, xs, rfl, hs, l⟩ := seqD_ok rep hx e
          obtain ⟨v, h1, h2⟩ := atI_ok l ed
          rcases hs with hs | hs
          · exact .inl ⟨a, xs, _, v, rfl, rfl, hs, h1, k0 _ _ h2 r⟩
          · exact .inr (.inl ⟨a, xs, _, v, rfl, rfl, hs, h1, k0 _ _ h2 r⟩)
        · exact r.elim
      · exact r.elim
    · split at r
      · rename_i ks kk e1 e2
        unfold ixD at r
        split at r
        · rename_i d ed
          obtain ⟨a, kvs, e0, _, rfl, hH, hp⟩ := dictD_ok rep hx e1
          obtain ⟨v, h1, h2⟩ := getP_ok hp ed
          exact .inr (.inr (.inr ⟨a, v, rfl, .inl ⟨kvs, kk, .inl hH, keyD_ok hy e2, h1.symm⟩, k0 _ _ h2 r⟩))
        · exact r.elim
      · exact r.elim
variable {A : Anc} {a b e : Expr} {ta tb te : TEd} {pos p2 : Pos}
theorem dix (hu : X.A.units + 1 < cLine) (ha : PD A X a ta) (hb : PD A X b tb) (hs : PlainIx b := by first | exact fun _ _ => rfl | (intro _ _; rfl)) : PD A X (.Subscript a b pos) (dOp dIx ta tb) := peImp (pe_ix (ix_d hu) ha hb hs) fun _ _ _ h => lE_bin h
end

/-! ### slices -/
abbrev TOd := Ed → Sto → (Option Int → Sto → Prop) → Prop
def lO (K : PySem.W.Frag) (A : Anc) (t : TOd) : TO := fun σ H Q => ∃ δ s Q', Sd K A σ H δ s ∧ t δ s Q' ∧ ∀ o H2 s2, Stp s H s2 H2 → Rep K s2 H2 → Q' o s2 → Q o H2
abbrev POd (A : Anc) (X : Cx) (e : Option Expr) (t : TOd) : Prop := PO X e (lO X.K A t)
def kPart (Q : Option Int → Sto → Prop) (d : DV) (s1 : Sto) : Prop := match d with
  | .int i => Q (some i) s1
  | _ => False
def dPart (t : TEd) (δ : Ed) (s : Sto) (Q : Option Int → Sto → Prop) : Prop := t δ s (kPart Q)
def dNoPart (δ : Ed) (s : Sto) (Q : Option Int → Sto → Prop) : Prop := Q none s
def cutD (ds : List DV) (lo hi : Option Int) : List DV := (ds.drop (HT.sIx ds.length 0 lo)).take (HT.sIx ds.length ds.length hi - HT.sIx ds.length 0 lo)
abbrev RSd := DV → Option Int → Option Int → Sto → KD → Prop
def dSlR (x : DV) (lo hi : Option Int) (s : Sto) (Q : KD) : Prop := match x with
  | .str z => z.length ≤ sizeLine ∧ Q (.str (cutS z lo hi)) s
  | .tup ds => Q (.tup (cutD ds lo hi)) s
  | x => match lstD s x with
    | some ds => Q (.lst (cutD ds lo hi)) s
    | none => False
def dSlM (x : DV) (lo hi : Option Int) (s : Sto) (Q : KD) : Prop := match lstD s x with
    | some ds => ∀ p, s p = none → Q (.ref p) (up s p (.lst (cutD ds lo hi)))
    | none => False
def kSl3 (r : RSd) (Q : KD) (x : DV) (l u : Option Int) (s3 : Sto) : Prop := r x l u s3 Q
def kSl2 (r : RSd) (th : TOd) (δ : Ed) (Q : KD) (x : DV) (l : Option Int) (s2 : Sto) : Prop := th δ s2 (kSl3 r Q x l)
def kSl1 (r : RSd) (tl th : TOd) (δ : Ed) (Q : KD) (x : DV) (s1 : Sto) : Prop := tl δ s1 (kSl2 r th δ Q x)
def dSl (r : RSd) (te : TEd) (tl th : TOd) (δ : Ed) (s : Sto) (Q : KD) : Prop := te δ s (kSl1 r tl th δ Q)
def lSl (K : PySem.W.Frag) (r : RSd) : V → Option Int → Option Int → Hp → VK → Prop := fun x lo hi H Q => ∃ d s Q', Rep K s H ∧ Dat K s H x d ∧ r d lo hi s Q' ∧ ∀ v H2 d s2, Stp s H s2 H2 → Rep K s2 H2 → Dat K s2 H2 v d → Q' d s2 → Q v H2
section
variable {X : Cx}
theorem slOr {r r' : V → Option Int → Option Int → Hp → VK → Prop} (h : SlR X r) (h' : SlR X r') : SlR X (fun x l u H Q => r x l u H Q ∨ r' x l u H Q) := fun pins s σ H x v vl vu lo hi sl Q I rx hs pl pu q =>
  q.elim (fun q => h pins s σ H x v vl vu lo hi sl Q I rx hs pl pu q) fun q => h' pins s σ H x v vl vu lo hi sl Q I rx hs pl pu q
theorem slImp {r r' : V → Option Int → Option Int → Hp → VK → Prop} (h : SlR X r) (w : ∀ x l u H Q, r' x l u H Q → r x l u H Q) : SlR X r' := fun pins s σ H x v vl vu lo hi sl Q I rx hs pl pu q =>
  h pins s σ H x v vl vu lo hi sl Q I rx hs pl pu (w _ _ _ _ _ q)
theorem cut_ok {K : PySem.W.Frag} {s : Sto} {H : Hp} {xs : List V} {ds : List DV} (l : DatL K s H xs ds) (lo hi : Option Int) : DatL K s H (cutV xs lo hi) (cutD ds lo hi) := by
  unfold cutV cutD
  rw [l.length]
  exact (l.drop _).take _
theorem cutD_whole {ds : List DV} {lo hi : Option Int} (h1 : HT.sIx ds.length 0 lo = 0) (h2 : HT.sIx ds.length ds.length hi = ds.length) : cutD ds lo hi = ds := by
  unfold cutD
  rw [h1, h2]
  simp
theorem sl_d : SlR X (lSl X.K dSlR) := by
  refine slImp (slOr sl_list (slOr sl_tupA sl_str)) fun x lo hi H Q h => ?_
  obtain ⟨d, s, Q', rep, hx, r, k⟩ := h
  unfold dSlR at r
  split at r
  · cases hx
    exact .inr (.inr ⟨_, rfl, r.1, k _ H _ s (Stp.refl s H) rep (.str _) r.2⟩)
  · rename_i ds
    obtain ⟨a, xs, rfl, h1, l⟩ := hx.tupInv
    refine .inr (.inl ⟨a, xs, rfl, h1, fun w => ?_, fun _ p hp => ?_⟩)
    · rw [l.length] at w
      rw [cutD_whole w.1 w.2] at r
      exact k _ H _ s (Stp.refl s H) rep (.tup h1 l) r
    · exact k _ _ _ s (Stp.newF hp) (rep.newF hp) (.tup (SqT.of upd_same) ((cut_ok l lo hi).step (Stp.newF hp) rep)) r
  · split at r
    · rename_i ds e
      obtain ⟨a, xs, rfl, hs, l⟩ := lstD_ok rep hx e
      exact .inl ⟨a, xs, rfl, hs, fun p hp => k _ _ _ s (Stp.newF hp) (rep.newF hp) (.lst upd_same (rep.fresh hp) ((cut_ok l lo hi).step (Stp.newF hp) rep)) r⟩
    · exact r.elim
theorem sl_m : SlR X (lSl X.K dSlM) := by
  refine slImp sl_list fun x lo hi H Q h => ?_
  obtain ⟨d, s, Q', rep, hx, r, k⟩ := h
  unfold dSlM at r
  split at r
  · rename_i ds e
    obtain ⟨a, xs, rfl, hs, l⟩ := lstD_ok rep hx e
    refine ⟨a, xs, rfl, hs, fun p hp => ?_⟩
    obtain ⟨st2, rep2⟩ := new_lst rep hp (cut_ok l lo hi)
    exact k _ _ _ _ st2 rep2 (.ref p) (r p (rep.fresh hp))
  · exact r.elim
variable {A : Anc} {e : Expr} {lo hi : Option Expr} {te : TEd} {tl th : TOd} {r : RSd} {pos p2 : Pos}
theorem dpo (h : PD A X e te) : POd A X (some e) (dPart te) := ⟨fun pins s σ H Q I h' => (po_some h).run pins s σ H Q I (by
  obtain ⟨δ, s, Q', S, t, k⟩ := h'
  refine ⟨δ, s, _, S, t, fun v H2 d s2 st rep dv q => ?_⟩
  cases d with
  | int i => exact ⟨i, dv.intInv, k _ H2 s2 st rep q⟩
  | _ => exact False.elim q)⟩
theorem dpn : POd A X none dNoPart := ⟨fun pins s σ H Q I h' => po_none.run pins s σ H Q I (by
  obtain ⟨δ, s, Q', S, t, k⟩ := h'
  exact k none H s (Stp.refl s H) S.rep t)⟩
theorem dslice (hr : SlR X (lSl X.K r)) (he : PD A X e te) (hl : POd A X lo tl) (hu : POd A X hi th) : PD A X (.Subscript e (.Slice lo hi none p2) pos) (dSl r te tl th) := peImp (pe_slice hr he hl hu) fun σ H Q h => by
  obtain ⟨δ, s, Q', S, t, k⟩ := h
  refine ⟨δ, s, _, S, t, fun v H1 d s1 st1 rep1 dv q1 => ?_⟩
  have S1 := S.go st1 rep1
  refine ⟨δ, s1, _, S1, q1, fun l H2 s2 st2 rep2 q2 => ?_⟩
  refine ⟨δ, s2, _, S1.go st2 rep2, q2, fun u H3 s3 st3 rep3 q3 => ?_⟩
  exact ⟨d, s3, _, rep3, (dv.step st2 rep1).step st3 rep2, q3, fun v4 H4 d4 s4 st4 => k v4 H4 d4 s4 (((st1.trans st2).trans st3).trans st4)⟩
end

/-! ### stores by subscript -/
abbrev RSetD := DV → DV → DV → Sto → (Sto → Prop) → Prop
def dSetR (o i v : DV) (s : Sto) (Q : Sto → Prop) : Prop := match o with
  | .ref a => match s a with
    | some (.lst ds) => match i with
      | .int k => match ixN ds.length k with
        | some j => Q (up s a (.lst (ds.set j v)))
        | none => False
      | _ => False
    | some (.dK ks) => match keyD i with
      | some k => ks.length < sizeLine ∧ Q (up s a (.dK (putP ks k v)))
      | none => False
    | _ => False
  | _ => False
def lSet (K : PySem.W.Frag) : TSet := fun o i v H Q => ∃ do_ di dv s Q', Rep K s H ∧ Dat K s H o do_ ∧ Dat K s H i di ∧ Dat K s H v dv ∧ dSetR do_ di dv s Q' ∧ ∀ H2 s2, Stp s H s2 H2 → Rep K s2 H2 → Q' s2 → Q H2
def kSub2 (d : DV) (δ : Ed) (Q : Ed → Sto → Prop) (o i : DV) (s2 : Sto) : Prop := dSetR o i d s2 (Q δ)
def kSub1 (ti : TEd) (d : DV) (δ : Ed) (Q : Ed → Sto → Prop) (o : DV) (s1 : Sto) : Prop := ti δ s1 (kSub2 d δ Q o)
def gSubD (to ti : TEd) (d : DV) (δ : Ed) (s : Sto) (Q : Ed → Sto → Prop) : Prop := to δ s (kSub1 ti d δ Q)
section
variable {X : Cx}
theorem set_dict (hu : X.A.units + 1 < cLine) : PSet X (fun o i v H Q => ∃ a H', o = .ref a ∧ DPut H a i v H' ∧ Q H') := by
  intro pins s σ H o i v ov iv u Q I ro ri rv h
  obtain ⟨a, H', rfl, g, q⟩ := h
  obtain rfl : ov = Value.ref a := ro
  exact d_setItem hu I g ri rv fun s4 I4 => ⟨H', I4, q⟩
theorem Paired.length' {α β : Type} {R : α → β → Prop} {xs : List α} {ys : List β} (h : Paired R xs ys) : xs.length = ys.length := Paired.length h
theorem set_d (hu : X.A.units + 1 < cLine) : PSet X (lSet X.K) := by
  intro pins s σ H o i v ov iv u Q I ro ri rv h
  obtain ⟨do_, di, dv, s0, Q', rep, ho, hi, hv, r, k⟩ := h
  unfold dSetR at r
  split at r
  · rename_i a
    cases ho
    split at r
    · rename_i ds e
      split at r
      · rename_i kk
        cases hi
        split at r
        · rename_i j ej
          obtain ⟨xs, h1, l⟩ := rep a _ e
          have st : Stp s0 H (up s0 a (.lst (ds.set j dv))) (upd H a (.lst (xs.set j v))) := Stp.wr (by rw [e]; trivial)
          refine set_list pins s σ H _ _ v ov iv u Q I ro ri rv ⟨a, xs, kk, j, rfl, rfl, h1, by rw [l.length]; exact ej, ?_⟩
          exact k _ _ st (rep.put st ⟨_, upd_same, (l.setAt hv j).step st rep⟩) r
        · exact r.elim
      · exact r.elim
    · rename_i ks e
      split at r
      · rename_i kk ek
        obtain ⟨kvs, h1, l⟩ := rep a _ e
        have st : Stp s0 H (up s0 a (.dK (putP ks kk dv))) (upd H a (.dK (putK kvs kk v))) := Stp.wr (by rw [e]; trivial)
        refine set_dict hu pins s σ H _ _ v ov iv u Q I ro ri rv ⟨a, _, rfl, .inl ⟨kvs, kk, h1, keyD_ok hi ek, by rw [Paired.length' l]; exact r.1, rfl⟩, ?_⟩
        exact k _ _ st (rep.put st ⟨_, upd_same, (putP_ok kk hv l).step st rep⟩) r.2
      · exact r.elim
    · exact r.elim
  · exact r.elim
variable {A : Anc} {o i : Expr} {to ti : TEd} {pos : Pos}
theorem dgsub (hu : X.A.units + 1 < cLine) (ho : PD A X o to) (hi : PD A X i ti) (ha : ∀ v, assign (.Subscript o i pos) X.env v = (do
      let ov ← holding [v] (eval o X.env)
      let iv ← holding [v, ov] (eval i X.env)
      standAt pos
      holding [v, ov, iv] (setItem ov iv v)
      release [v, ov, iv] []) := by intro _; rfl) : PGd A X (.Subscript o i pos) (gSubD to ti) := pgImp (pg_sub ho hi (set_d hu) ha) fun v σ H Q h => by
  obtain ⟨d, δ, s, Q', S, dv, g, k⟩ := h
  refine ⟨δ, s, _, S, g, fun x1 H1 d1 s1 st1 rep1 dv1 q1 => ?_⟩
  have S1 := S.go st1 rep1
  refine ⟨δ, s1, _, S1, q1, fun x2 H2 d2 s2 st2 rep2 dv2 q2 => ?_⟩
  refine ⟨d1, d2, d, s2, _, rep2, dv1.step st2 rep1, dv2, (dv.step st1 S.rep).step st2 rep1, q2, fun H3 s3 st3 rep3 q3 => ?_⟩
  exact k σ H3 δ s3 ((S1.go st2 rep2).go st3 rep3) q3
end

/-! ### calls of what is built in -/
abbrev RCd := List DV → Sto → KD → Prop
def lC (K : PySem.W.Frag) (r : RCd) : List V → Hp → VK → Prop := fun xs H Q => ∃ ds s Q', Rep K s H ∧ DatL K s H xs ds ∧ r ds s Q' ∧ ∀ v H2 d s2, Stp s H s2 H2 → Rep K s2 H2 → Dat K s2 H2 v d → Q' d s2 → Q v H2
def kCB (r : RCd) (Q : KD) (ds : List DV) (s1 : Sto) : Prop := r ds s1 Q
def dCB (r : RCd) (t : TAd) (δ : Ed) (s : Sto) (Q : KD) : Prop := t δ s (kCB r Q)
section
variable {X : Cx} {A : Anc} {x : Str} {id T : String} {r : RCd} {e : Expr} {es : List Expr} {t : TAd} {p pos : Pos}
theorem lE_CB {K : PySem.W.Frag} {σ : L2.St} {H : Hp} {Q : VK} (h : lE K A (dCB r t) σ H Q) : tCB (lC K r) (lA K A t) σ H Q := by
  obtain ⟨δ, s, Q', S, t, k⟩ := h
  exact ⟨δ, s, _, S, t, fun vs H2 ds s2 st rep dv q => ⟨ds, s2, _, rep, dv, q, fun v3 H3 d3 s3 st3 => k v3 H3 d3 s3 (st.trans st3)⟩⟩
theorem dcallB (hc : CallR X (.builtin id) (lC X.K r)) (hm : X.mg x = none) (hv : bootBuiltins x = some (.builtin id)) (ha : PAd A X (e :: es) t) (hg : Gl X x := by rfl) (hn : x ≠ "__name__" := by decide) (hdb : (x == ("__debug__" : Str)) = false := by decide)
    (he : starEach (e :: es) X.env = (false, eval e X.env) :: starEach es X.env := by rfl) (hpl : (backTo pos (starEach es X.env)).any (·.1) = false := by rfl) : PD A X (.Call (.Name x p) (e :: es) [] pos) (dCB r t) :=
  peImp (pe_callB hc hg hm hv ha hn hdb he hpl) fun _ _ _ h => lE_CB h
theorem dcallTy (hc : CallR X (.type T) (lC X.K r)) (hm : X.mg x = none) (hv : bootBuiltins x = some (.type T)) (ha : PAd A X (e :: es) t) (hg : Gl X x := by rfl) (hn : x ≠ "__name__" := by decide) (hdb : (x == ("__debug__" : Str)) = false := by decide)
    (he : starEach (e :: es) X.env = (false, eval e X.env) :: starEach es X.env := by rfl) (hpl : (backTo pos (starEach es X.env)).any (·.1) = false := by rfl) : PD A X (.Call (.Name x p) (e :: es) [] pos) (dCB r t) :=
  peImp (pe_callTy hc hg hm hv ha hn hdb he hpl) fun _ _ _ h => lE_CB h
theorem callImp {f : Value} {r r' : List V → Hp → VK → Prop} (h : CallR X f r) (w : ∀ xs H Q, r' xs H Q → r xs H Q) : CallR X f r' := fun pins s σ H xs us Q I rx q => h pins s σ H xs us Q I rx (w _ _ _ q)
theorem callOr {f : Value} {r r' : List V → Hp → VK → Prop} (h : CallR X f r) (h' : CallR X f r') : CallR X f (fun xs H Q => r xs H Q ∨ r' xs H Q) := fun pins s σ H xs us Q I rx q =>
  q.elim (fun q => h pins s σ H xs us Q I rx q) fun q => h' pins s σ H xs us Q I rx q
def lenD (s : Sto) (d : DV) : Option Nat := match d with
  | .str z => if z.length ≤ sizeLine then some z.length else none
  | d => (seqD s d).map (·.length)
def dLen (ds : List DV) (s : Sto) (Q : KD) : Prop := match ds with
  | [d] => match lenD s d with
    | some n => Q (.int n) s
    | none => False
  | _ => False
theorem cd_len : CallR X (.builtin "len") (lC X.K dLen) := callImp call_len fun xs H Q h => by
  obtain ⟨ds, s, Q', rep, hx, r, k⟩ := h
  unfold dLen at r
  split at r
  · rename_i d
    cases hx with
    | cons h t =>
      cases t
      split at r
      · rename_i n e
        have fin := fun v d hv q => k v H d s (Stp.refl s H) rep hv q
        unfold lenD at e
        split at e
        · cases h
          split at e
          · cases e
            exact ⟨_, _, rfl, ⟨‹_›, rfl⟩, fin _ _ (.int _) r⟩
          · cases e
        · cases q : seqD s d with
          | none => rw [q] at e; cases e
          | some ds =>
            rw [q] at e
            cases e
            obtain ⟨a, xs, rfl, hs, l⟩ := seqD_ok rep h q
            refine ⟨_, xs.length, rfl, ?_, by rw [l.length]; exact fin _ _ (.int _) r⟩
            rcases hs with hs | hs
            · exact .inl ⟨xs, hs, rfl⟩
            · exact .inr ⟨xs, hs, rfl⟩
      · exact r.elim
  · exact r.elim
def dAbs (ds : List DV) (s : Sto) (Q : KD) : Prop := match ds with
  | [.int i] => Q (.int (if i < 0 then -i else i)) s
  | _ => False
theorem cd_abs : CallR X (.builtin "abs") (lC X.K dAbs) := callImp call_abs fun xs H Q h => by
  obtain ⟨ds, s, Q', rep, hx, r, k⟩ := h
  unfold dAbs at r
  split at r
  · cases hx with
    | cons h t => cases t; cases h; exact ⟨_, rfl, k _ H _ s (Stp.refl s H) rep (.int _) r⟩
  · exact r.elim
def dMin2 (ds : List DV) (s : Sto) (Q : KD) : Prop := match ds with
  | [.int i, .int j] => Q (.int (if j < i then j else i)) s
  | _ => False
theorem cd_min2 (hc : X.calm = true) : CallR X (.builtin "min") (lC X.K dMin2) := callImp (call_min2 hc) fun xs H Q h => by
  obtain ⟨ds, s, Q', rep, hx, r, k⟩ := h
  unfold dMin2 at r
  split at r
  · cases hx with
    | cons h t => cases t with
      | cons h2 t => cases t; cases h; cases h2; exact ⟨_, _, rfl, k _ H _ s (Stp.refl s H) rep (.int _) r⟩
  · exact r.elim
def dMax2 (ds : List DV) (s : Sto) (Q : KD) : Prop := match ds with
  | [.int i, .int j] => Q (.int (if j > i then j else i)) s
  | _ => False
theorem cd_max2 (hc : X.calm = true) : CallR X (.builtin "max") (lC X.K dMax2) := callImp (call_max2 hc) fun xs H Q h => by
  obtain ⟨ds, s, Q', rep, hx, r, k⟩ := h
  unfold dMax2 at r
  split at r
  · cases hx with
    | cons h t => cases t with
      | cons h2 t => cases t; cases h; cases h2; exact ⟨_, _, rfl, k _ H _ s (Stp.refl s H) rep (.int _) r⟩
  · exact r.elim
/-- list(x): kept apart in the store, or seen through -/
def dListM (ds : List DV) (s : Sto) (Q : KD) : Prop := match ds with
  | [d] => match seqD s d with
    | some es => ∀ p, s p = none → Q (.ref p) (up s p (.lst es))
    | none => False
  | _ => False
def dListF (ds : List DV) (s : Sto) (Q : KD) : Prop := match ds with
  | [d] => match seqD s d with
    | some es => Q (.lst es) s
    | none => False
  | _ => False
def dTupF (ds : List DV) (s : Sto) (Q : KD) : Prop := match ds with
  | [d] => match seqD s d with
    | some es => Q (.tup es) s
    | none => False
  | _ => False
theorem cd_listM : CallR X (.type "list") (lC X.K dListM) := callImp call_list_of fun xs H Q h => by
  obtain ⟨ds, s, Q', rep, hx, r, k⟩ := h
  unfold dListM at r
  split at r
  · cases hx with
    | cons h t =>
      cases t
      split at r
      · rename_i es e
        obtain ⟨a, ys, rfl, hs, l⟩ := seqD_ok rep h e
        refine ⟨a, ys, rfl, hs, fun p hp => ?_⟩
        obtain ⟨st2, rep2⟩ := new_lst rep hp l
        exact k _ _ _ _ st2 rep2 (.ref p) (r p (rep.fresh hp))
      · exact r.elim
  · exact r.elim
theorem cd_listF : CallR X (.type "list") (lC X.K dListF) := callImp call_list_of fun xs H Q h => by
  obtain ⟨ds, s, Q', rep, hx, r, k⟩ := h
  unfold dListF at r
  split at r
  · cases hx with
    | cons h t =>
      cases t
      split at r
      · rename_i es e
        obtain ⟨a, ys, rfl, hs, l⟩ := seqD_ok rep h e
        exact ⟨a, ys, rfl, hs, fun p hp => k _ _ _ s (Stp.newF hp) (rep.newF hp) (.lst upd_same (rep.fresh hp) (l.step (Stp.newF hp) rep)) r⟩
      · exact r.elim
  · exact r.elim
theorem cd_tup : CallR X (.type "tuple") (lC X.K dTupF) := callImp call_tuple_of fun xs H Q h => by
  obtain ⟨ds, s, Q', rep, hx, r, k⟩ := h
  unfold dTupF at r
  split at r
  · cases hx with
    | cons h t =>
      cases t
      split at r
      · rename_i es e
        obtain ⟨a, ys, rfl, hs, l⟩ := seqD_ok rep h e
        refine ⟨a, ys, rfl, ?_⟩
        rcases hs with hs | hs
        · exact .inl ⟨hs, fun p hp => k _ _ _ s (Stp.newF hp) (rep.newF hp) (.tup (SqT.of upd_same) (l.step (Stp.newF hp) rep)) r⟩
        · exact .inr ⟨hs, k _ H _ s (Stp.refl s H) rep (.tup hs l) r⟩
      · exact r.elim
  · exact r.elim
def dOrd (ds : List DV) (s : Sto) (Q : KD) : Prop := match ds with
  | [.str z] => z.length = 1 ∧ Q (.int (z.cps.getD 0 0 : Nat)) s
  | _ => False
theorem cd_ord : CallR X (.builtin "ord") (lC X.K dOrd) := callImp call_ord fun xs H Q h => by
  obtain ⟨ds, s, Q', rep, hx, r, k⟩ := h
  unfold dOrd at r
  split at r
  · cases hx with
    | cons h t => cases t; cases h; exact ⟨_, rfl, r.1, k _ H _ s (Stp.refl s H) rep (.int _) r.2⟩
  · exact r.elim
def dStr (ds : List DV) (s : Sto) (Q : KD) : Prop := match ds with
  | [.int i] => i.natAbs.log2 < 1920 ∧ Q (.str (toString i)) s
  | _ => False
theorem cd_str : CallR X (.type "str") (lC X.K dStr) := callImp call_str_int fun xs H Q h => by
  obtain ⟨ds, s, Q', rep, hx, r, k⟩ := h
  unfold dStr at r
  split at r
  · cases hx with
    | cons h t => cases t; cases h; exact ⟨_, rfl, r.1, k _ H _ s (Stp.refl s H) rep (.str _) r.2⟩
  · exact r.elim
end

/-! ### methods of what is built in -/
abbrev RMd := DV → List DV → Sto → KD → Prop
def lM (K : PySem.W.Frag) (r : RMd) : V → List V → Hp → VK → Prop := fun x xs H Q => ∃ d ds s Q', Rep K s H ∧ Dat K s H x d ∧ DatL K s H xs ds ∧ r d ds s Q' ∧ ∀ v H2 d s2, Stp s H s2 H2 → Rep K s2 H2 → Dat K s2 H2 v d → Q' d s2 → Q v H2
def tyD (T : String) (s : Sto) (d : DV) : Bool := match d with
  | .str _ => T == "str"
  | .int _ => T == "int"
  | .ref a => match s a with
    | some (.lst _) => T == "list"
    | some (.dK _) => T == "dict"
    | _ => false
  | .lst _ => T == "list"
  | .scr _ => T == "list"
  | _ => false
def kBM2 (r : RMd) (Q : KD) (x : DV) (xs : List DV) (s2 : Sto) : Prop := r x xs s2 Q
def kBM1 (T : String) (r : RMd) (t : TAd) (δ : Ed) (Q : KD) (x : DV) (s1 : Sto) : Prop := tyD T s1 x = true ∧ t δ s1 (kBM2 r Q x)
def dBM (T : String) (r : RMd) (to : TEd) (t : TAd) (δ : Ed) (s : Sto) (Q : KD) : Prop := to δ s (kBM1 T r t δ Q)
section
variable {X : Cx} {A : Anc} {T id : String} {name : Str} {r : RMd} {o e : Expr} {es : List Expr} {to : TEd} {t : TAd} {apos cpos : Pos}
theorem tyD_ok {K : PySem.W.Frag} {s : Sto} {H : Hp} {v : V} {d : DV} (rep : Rep K s H) (h : Dat K s H v d) (e : tyD T s d = true) : tyV K T v H := by
  cases d with
  | str z => cases h; exact beq_iff_eq.mp e
  | int z => cases h; exact beq_iff_eq.mp e
  | lst ds => obtain ⟨a, xs, rfl, h1, _, l⟩ := h.lstInv; exact .inl ⟨beq_iff_eq.mp e, xs, SqL.of h1⟩
  | scr ds => obtain ⟨a, xs, rfl, h1, l⟩ := h.scrInv; exact .inl ⟨beq_iff_eq.mp e, xs, h1.sq⟩
  | ref a =>
    cases h
    cases q : s a with
    | none => simp only [tyD, q] at e; cases e
    | some m =>
      cases m with
      | lst ds => simp only [tyD, q] at e; obtain ⟨xs, h1, _⟩ := rep a _ q; exact .inl ⟨beq_iff_eq.mp e, xs, SqL.of h1⟩
      | dK ds => simp only [tyD, q] at e; obtain ⟨xs, h1, _⟩ := rep a _ q; exact .inr (.inr (.inl ⟨beq_iff_eq.mp e, .inl ⟨xs, h1⟩⟩))
      | hid => simp only [tyD, q] at e; cases e
      | ins C fs => simp only [tyD, q] at e; cases e
      | exc C fs => simp only [tyD, q] at e; cases e
  | _ => cases e
theorem dbm (pa : PlainAttrs T) (slot : Slot T name id) (hty : typeOf (.builtin id) = pure (.type "method_descriptor")) (hm : MtR X id (lM X.K r)) (ho : PD A X o to) (ha : PAd A X (e :: es) t)
    (hbase : attributeBase o name X.env (eval o X.env) = eval o X.env := by rfl)
    (hfew : ((backTo cpos (starEach (e :: es) X.env)).all (fun x => !x.1) && (backToKw cpos (keywordEach [] X.env)).all (fun x => x.1.isSome)
      && decide ((e :: es).length + ([] : List Keyword).length + (if ([] : List Keyword).isEmpty then 0 else 1) < 30)) = true := by rfl)
    (hline : (apos.endLine == cpos.line) = true := by rfl) (hs : starEach (e :: es) X.env = (false, eval e X.env) :: starEach es X.env := by rfl) (hplain : (backTo cpos (starEach es X.env)).any (·.1) = false := by rfl) :
    PD A X (.Call (.Attribute o name apos) (e :: es) [] cpos) (dBM T r to t) := peImp (pe_bm pa slot hty hm ho ha hbase hfew hline hs hplain) fun σ H Q h => by
  obtain ⟨δ, s, Q', S, t, k⟩ := h
  refine ⟨δ, s, _, S, t, fun v H1 d s1 st1 rep1 dv ⟨ty, q1⟩ => ⟨tyD_ok rep1 dv ty, ?_⟩⟩
  refine ⟨δ, s1, _, S.go st1 rep1, q1, fun vs H2 ds s2 st2 rep2 dvs q2 => ?_⟩
  exact ⟨d, ds, s2, _, rep2, dv.step st2 rep1, dvs, q2, fun v3 H3 d3 s3 st3 => k v3 H3 d3 s3 ((st1.trans st2).trans st3)⟩
theorem dbm0 (pa : PlainAttrs T) (slot : Slot T name id) (hty : typeOf (.builtin id) = pure (.type "method_descriptor")) (hm : MtR X id (lM X.K r)) (ho : PD A X o to)
    (hbase : attributeBase o name X.env (eval o X.env) = eval o X.env := by rfl) (hline : (apos.endLine == cpos.line) = true := by rfl) :
    PD A X (.Call (.Attribute o name apos) [] [] cpos) (dBM T r to dNil) := peImp (pe_bm0 pa slot hty hm ho hbase hline) fun σ H Q h => by
  obtain ⟨δ, s, Q', S, t, k⟩ := h
  refine ⟨δ, s, _, S, t, fun v H1 d s1 st1 rep1 dv ⟨ty, q1⟩ => ⟨tyD_ok rep1 dv ty, ?_⟩⟩
  exact ⟨d, [], s1, _, rep1, dv, .nil, q1, fun v3 H3 d3 s3 st3 => k v3 H3 d3 s3 (st1.trans st3)⟩
theorem mtImp {r r' : V → List V → Hp → VK → Prop} (h : MtR X id r) (w : ∀ x xs H Q, r' x xs H Q → r x xs H Q) : MtR X id r' := fun pins s σ H x xs v us Q I rx rxs q => h pins s σ H x xs v us Q I rx rxs (w _ _ _ _ q)
def dAppend (x : DV) (xs : List DV) (s : Sto) (Q : KD) : Prop := match x, xs with
  | .ref a, [d] => match s a with
    | some (.lst ds) => ds.length < sizeLine ∧ Q .non (up s a (.lst (ds ++ [d])))
    | _ => False
  | _, _ => False
theorem md_append : MtR X "list.append" (lM X.K dAppend) := mtImp mt_append fun x xs H Q h => by
  obtain ⟨d, ds, s, Q', rep, hx, hxs, r, k⟩ := h
  unfold dAppend at r
  split at r
  · rename_i a d
    cases hx
    cases hxs with
    | cons hd t =>
      cases t
      split at r
      · rename_i v0 _ ds e
        obtain ⟨ys, h1, l⟩ := rep a _ e
        have st : Stp s H (up s a (.lst (ds ++ [d]))) (upd H a (.lst (ys ++ [v0]))) := Stp.wr (by rw [e]; trivial)
        exact ⟨a, ys, v0, rfl, rfl, h1, by rw [l.length]; exact r.1, k _ _ _ _ st (rep.put st ⟨_, upd_same, (l.append (.cons hd .nil)).step st rep⟩) .non r.2⟩
      · exact r.elim
  · exact r.elim
def dPop (x : DV) (xs : List DV) (s : Sto) (Q : KD) : Prop := match x, xs with
  | .ref a, [] => match s a with
    | some (.lst ds) => match ds[ds.length - 1]? with
      | some d => Q d (up s a (.lst ds.dropLast))
      | none => False
    | _ => False
  | _, _ => False
theorem DatL.dropLast {K : PySem.W.Frag} {s : Sto} {H : Hp} {xs : List V} {ds : List DV} (l : DatL K s H xs ds) : DatL K s H xs.dropLast ds.dropLast := by
  rw [List.dropLast_eq_take, List.dropLast_eq_take, l.length]
  exact l.take _
theorem md_pop : MtR X "list.pop" (lM X.K dPop) := mtImp mt_pop fun x xs H Q h => by
  obtain ⟨d, ds, s, Q', rep, hx, hxs, r, k⟩ := h
  unfold dPop at r
  split at r
  · rename_i a
    cases hx
    cases hxs
    split at r
    · rename_i ds e
      split at r
      · rename_i d ed
        obtain ⟨ys, h1, l⟩ := rep a _ e
        obtain ⟨v, hv1, hv2⟩ := l.get' ed
        have st : Stp s H (up s a (.lst ds.dropLast)) (upd H a (.lst ys.dropLast)) := Stp.wr (by rw [e]; trivial)
        exact ⟨a, ys, v, rfl, rfl, h1, by rw [l.length]; exact hv1, k _ _ _ _ st (rep.put st ⟨_, upd_same, l.dropLast.step st rep⟩) (hv2.step st rep) r⟩
      · exact r.elim
    · exact r.elim
  · exact r.elim
/-- the texts of a list -/
def strsD : List DV → Option (List Str)
  | [] => some []
  | .str z :: ds => (strsD ds).map (z :: ·)
  | _ :: _ => none
theorem strsD_map : ∀ zs : List Str, strsD (zs.map DV.str) = some zs
  | [] => rfl
  | z :: zs => by
    show (strsD (zs.map DV.str)).map (z :: ·) = some (z :: zs)
    rw [strsD_map zs]
    rfl
theorem strsD_ok : ∀ {ds : List DV} {zs : List Str}, strsD ds = some zs → ds = zs.map DV.str
  | [], _, e => by cases e; rfl
  | .str z :: ds, _, e => by
    cases q : strsD ds with
    | none => simp only [strsD, q] at e; cases e
    | some ys => simp only [strsD, q] at e; cases e; rw [strsD_ok q]; rfl
  | .non :: _, _, e => by cases e
  | .bl _ :: _, _, e => by cases e
  | .int _ :: _, _, e => by cases e
  | .tup _ :: _, _, e => by cases e
  | .lst _ :: _, _, e => by cases e
  | .scr _ :: _, _, e => by cases e
  | .ref _ :: _, _, e => by cases e
  | .ty _ :: _, _, e => by cases e
def dJoin (x : DV) (xs : List DV) (s : Sto) (Q : KD) : Prop := match x, xs with
  | .str a, [d] => match seqD s d with
    | some ds => match strsD ds with
      | some ys => (ys.map (·.length)).sum + ys.length * a.length ≤ 16777216 ∧ Q (.str (Txt.join a ys)) s
      | none => False
    | none => False
  | _, _ => False
theorem md_join : MtR X "str.join" (lM X.K dJoin) := mtImp mt_join fun x xs H Q h => by
  obtain ⟨d, ds, s, Q', rep, hx, hxs, r, k⟩ := h
  unfold dJoin at r
  split at r
  · cases hx
    cases hxs with
    | cons hd t =>
      cases t
      split at r
      · rename_i ds e
        split at r
        · rename_i zs ez
          obtain ⟨a, ys, rfl, hs, l⟩ := seqD_ok rep hd e
          rw [strsD_ok ez] at l
          have el := DatL.strs l
          subst el
          exact ⟨_, a, zs, rfl, rfl, hs, r.1, k _ H _ s (Stp.refl s H) rep (.str _) r.2⟩
        · exact r.elim
      · exact r.elim
  · exact r.elim
end
end DL

set_option Elab.async false
set_option linter.all false
set_option maxRecDepth 100000
set_option maxHeartbeats 4000000
namespace DL
open PySem PySem.Spec PyProof.Rows L2

/-! ### targets made of names -/
structure PatOk (K : PySem.W.Frag) (g : TG) (g' : TGd) (sl : List Nat) : Prop where
  ok : ∀ (v : V) (d : DV) (σ : L2.St) (H : Hp) (δ : Ed) (s : Sto) (Q : Ed → Sto → Prop), Rep K s H → EnvR K s H σ δ → Dat K s H v d → g' d δ s Q →
    g v σ H fun σ2 H2 => H2 = H ∧ (∃ δ2, EnvR K s H σ2 δ2 ∧ Q δ2 s) ∧ ∀ vs : List Nat, (∀ i ∈ sl, i ∈ vs) → wipe σ2 vs = wipe σ vs
structure PatsOk (K : PySem.W.Frag) (g : TGs) (g' : TGsd) (sl : List Nat) (n : Nat) : Prop where
  ok : ∀ (v : List V) (d : List DV) (σ : L2.St) (H : Hp) (δ : Ed) (s : Sto) (Q : Ed → Sto → Prop), Rep K s H → EnvR K s H σ δ → DatL K s H v d → g' d δ s Q →
    g v σ H fun σ2 H2 => H2 = H ∧ (∃ δ2, EnvR K s H σ2 δ2 ∧ Q δ2 s) ∧ ∀ vs : List Nat, (∀ i ∈ sl, i ∈ vs) → wipe σ2 vs = wipe σ vs
theorem wipe_set (x : Option V) : ∀ (vs : List Nat) (σ : L2.St) (i : Nat), i ∈ vs → wipe (σ.set i x) vs = wipe σ vs
  | v :: vs, σ, i, h => by
    show (wipe (σ.set i x) vs).set v none = (wipe σ vs).set v none
    by_cases c : i ∈ vs
    · rw [wipe_set x vs σ i c]
    · have e : i = v := by
        cases h with
        | head => rfl
        | tail _ h => exact absurd h c
      subst e
      have comm : ∀ (ws : List Nat) (τ : L2.St), wipe (τ.set i x) ws = if i ∈ ws then wipe τ ws else (wipe τ ws).set i x := by
        intro ws
        induction ws with
        | nil => intro τ; simp [wipe]
        | cons w ws ih =>
          intro τ
          show (wipe (τ.set i x) ws).set w none = _
          rw [ih τ]
          by_cases c2 : i ∈ ws
          · rw [if_pos c2, if_pos (List.mem_cons_of_mem _ c2)]; rfl
          · rw [if_neg c2]
            by_cases c3 : i = w
            · subst c3
              rw [if_pos List.mem_cons_self, List.set_set]; rfl
            · rw [if_neg (fun z => by rcases List.mem_cons.mp z with z | z; exact c3 z; exact c2 z), List.set_comm _ _ c3]; rfl
      rw [comm vs σ, if_neg c, List.set_set]
def wipeD (δ : Ed) : List Nat → Ed
  | [] => δ
  | v :: vs => (wipeD δ vs).set v none
theorem env_wipe {K : PySem.W.Frag} {s : Sto} {H : Hp} {σ : L2.St} {δ : Ed} (e : EnvR K s H σ δ) : ∀ vs : List Nat, EnvR K s H (wipe σ vs) (wipeD δ vs)
  | [] => e
  | v :: vs => (env_wipe e vs).unset v none
section
variable {K : PySem.W.Frag}
theorem patN (i : Nat) : PatOk K (gName i) (gNameD i) [i] := ⟨fun v d σ H δ s Q _ e dv q => ⟨rfl, ⟨_, e.set dv i, q⟩, fun vs h => wipe_set _ vs σ i (h i List.mem_cons_self)⟩⟩
theorem patsN : PatsOk K gNil gNilD [] 0 := ⟨fun v d σ H δ s Q _ e dv q => by
  obtain ⟨h, q⟩ := q
  subst h
  cases dv
  exact ⟨rfl, rfl, ⟨δ, e, q⟩, fun _ _ => rfl⟩⟩
end
/-- a target that is moved on keeps what it does -/
structure GMono (g : TG) : Prop where
  mono : ∀ v σ H (Q Q' : L2.St → Hp → Prop), (∀ σ H, Q σ H → Q' σ H) → g v σ H Q → g v σ H Q'
structure GsMono (g : TGs) : Prop where
  mono : ∀ v σ H (Q Q' : L2.St → Hp → Prop), (∀ σ H, Q σ H → Q' σ H) → g v σ H Q → g v σ H Q'
theorem gmName (i : Nat) : GMono (gName i) := ⟨fun _ _ _ _ _ h q => h _ _ q⟩
theorem gmNil : GsMono gNil := ⟨fun _ _ _ _ _ h q => ⟨q.1, h _ _ q.2⟩⟩
theorem gmCons {t : TG} {u : TGs} (a : GMono t) (b : GsMono u) : GsMono (gCons t u) := ⟨fun _ _ _ _ _ h ⟨v, r, e, q⟩ => ⟨v, r, e, a.mono _ _ _ _ _ (fun _ _ q => b.mono _ _ _ _ _ h q) q⟩⟩
theorem gmTup {K : PySem.W.Frag} {n : Nat} {u : TGs} (b : GsMono u) : GMono (gTup K n u) := ⟨fun _ _ _ _ _ h ⟨a, xs, e, t, l, q⟩ => ⟨a, xs, e, t, l, b.mono _ _ _ _ _ h q⟩⟩
section
variable {K : PySem.W.Frag}
theorem patsC {t : TG} {u : TGs} {t' : TGd} {u' : TGsd} {a b : List Nat} {n : Nat} (mt : GMono t) (mu : GsMono u) (h1 : PatOk K t t' a) (h2 : PatsOk K u u' b n) : PatsOk K (gCons t u) (gConsD t' u') (a ++ b) (n + 1) := ⟨fun v d σ H δ s Q rep e dv q => by
  unfold gConsD at q
  cases dv with
  | nil => exact False.elim q
  | cons hd tl =>
    refine ⟨_, _, rfl, mt.mono _ _ _ _ _ ?_ (h1.ok _ _ σ H δ s _ rep e hd q)⟩
    rintro σ2 H2 ⟨rfl, ⟨δ2, e2, q2⟩, w2⟩
    refine mu.mono _ _ _ _ _ ?_ (h2.ok _ _ σ2 H2 δ2 s _ rep e2 tl q2)
    rintro σ3 H3 ⟨rfl, q3, w3⟩
    refine ⟨rfl, q3, fun vs hvs => ?_⟩
    rw [w3 vs fun i hi => hvs i (List.mem_append_right _ hi), w2 vs fun i hi => hvs i (List.mem_append_left _ hi)]⟩
theorem patT {u : TGs} {u' : TGsd} {b : List Nat} {n : Nat} (mu : GsMono u) (h2 : PatsOk K u u' b n) : PatOk K (gTup K n u) (gTupD n u') b := ⟨fun v d σ H δ s Q rep e dv q => by
  cases d with
  | tup ds =>
    obtain ⟨hl, q⟩ := q
    obtain ⟨a, xs, rfl, hs, l⟩ := dv.tupInv
    exact ⟨a, xs, rfl, hs, by rw [l.length]; exact hl, h2.ok xs ds σ H δ s Q rep e l q⟩
  | _ => exact False.elim q⟩
/-- a target made of names is a target -/
theorem dgpat {A : Anc} {X : Cx} {e : Expr} {g : TG} {g' : TGd} {sl : List Nat} (h : PG X e g) (m : GMono g) (p : PatOk X.K g g' sl) : PGd A X e g' := pgImp h fun v σ H Q hh => by
  obtain ⟨d, δ, s, Q', S, dv, q, k⟩ := hh
  refine m.mono _ _ _ _ _ ?_ (p.ok v d σ H δ s Q' S.rep S.env dv q)
  rintro σ2 H2 ⟨rfl, ⟨δ2, e2, q2⟩, _⟩
  exact k σ2 H2 δ2 s ⟨S.stp, S.rep, e2⟩ q2
end

/-! ### what a loop walks -/
structure ItD (K : PySem.W.Frag) (s0 : Sto) (H0 : Hp) (ds : List DV) (G : Sto → Prop) (J : It) : Prop where
  go : ∀ i s H, Stp s0 H0 s H → Rep K s H → G s → i < ds.length → J.go i H
  yld : ∀ i s H x H', Stp s0 H0 s H → Rep K s H → G s → i < ds.length → J.yld i H x H' → Stp s H s H' ∧ Rep K s H' ∧ ∃ d, ds[i]? = some d ∧ Dat K s H' x d
  stop : ∀ s H, Stp s0 H0 s H → Rep K s H → G s → J.stop ds.length H
abbrev TId := Ed → Sto → (List DV → (Sto → Prop) → Sto → Prop) → Prop
def lI (K : PySem.W.Frag) (A : Anc) (it : TId) : TI := fun σ H R => ∃ δ s R', Sd K A σ H δ s ∧ it δ s R' ∧ ∀ ds G s2 H2 J, Stp s H s2 H2 → Rep K s2 H2 → ItD K s2 H2 ds G J → R' ds G s2 → R J H2
abbrev PId (A : Anc) (X : Cx) (tg iter : Expr) (it : TId) : Prop := PI X tg iter (lI X.K A it)
theorem piImp {X : Cx} {tg e : Expr} {t t' : TI} (h : PI X tg e t) (w : ∀ σ H Q, t' σ H Q → t σ H Q) : PI X tg e t' := ⟨fun pins s σ H Q I q => h.run pins s σ H Q I (w _ _ _ q)⟩
def gTrue (_ : Sto) : Prop := True
/-- the items of a list, a tuple, a text, and what must stay -/
def itemsD (s : Sto) (d : DV) : Option (List DV × (Sto → Prop)) := match d with
  | .lst ds => some (ds, gTrue)
  | .scr ds => some (ds, gTrue)
  | .tup ds => some (ds, gTrue)
  | .str z => some (z.cps.toList.map fun c => .str ⟨#[c]⟩, gTrue)
  | .ref a => match s a with
    | some (.lst ds) => some (ds, fun s => s a = some (.lst ds))
    | _ => none
  | _ => none
def kIt (R : List DV → (Sto → Prop) → Sto → Prop) (d : DV) (s1 : Sto) : Prop := match itemsD s1 d with
  | some p => R p.1 p.2 s1
  | none => False
def dIt (te : TEd) (δ : Ed) (s : Sto) (R : List DV → (Sto → Prop) → Sto → Prop) : Prop := te δ s (kIt R)
def iAny (K : PySem.W.Frag) (te : TE) : TI := fun σ H R => te σ H fun x H1 => (∃ a, x = .ref a ∧ (∃ xs, SqL K H1 a xs) ∧ R (Itl K a) H1) ∨ (∃ a, x = .ref a ∧ (∃ xs, SqT K H1 a xs) ∧ R (Itt K a) H1) ∨ ∃ z, x = .str z ∧ R (Its z) H1
theorem sql_inj {K : PySem.W.Frag} {s : Sto} {H : Hp} {a : Addr} {xs ys : List V} (h : H a = some (.lst xs)) (h' : H a = some (.lst ys)) : xs = ys := by
  rw [h] at h'; cases h'; rfl
section
variable {X : Cx} {A : Anc} {tg e : Expr} {te : TEd}
theorem pi_any {te : TE} (hl : PE X e te) : PI X tg e (iAny X.K te) := by
  refine ⟨fun pins s σ H R I h => ?_⟩
  refine thn (hl.run pins s σ H _ I h) fun v s1 ⟨x, H1, I1, r1, q1⟩ => ?_
  rcases q1 with ⟨a, e, ⟨xs, hq⟩, q⟩ | ⟨a, e, ⟨xs, hq⟩, q⟩ | ⟨z, e, q⟩
  · subst e
    cases r1
    obtain ⟨its, rv, p, hz⟩ := I1.list hq
    refine wpAny_pyIter_list p.isList ?_
    refine ⟨s1.heap.objs.size, [s1.heap.objs.size], _, _, H1, rfl, I1.kept (t' := s1.toks) fun b o e => Heap.get?_push_of_some _ e, turn_list a _, ⟨_, Heap.get?_push_size _ rfl, rfl, rfl⟩, fun b hb => ?_, q⟩
    have e : b = s1.heap.objs.size := by simpa using hb
    subst e
    exact I1.fpOk (Nat.le_refl _) (I1.hok.fresh (Nat.le_refl _))
  · subst e
    cases r1
    obtain ⟨its, rv, p, hz⟩ := I1.tuple hq
    refine wpAny_pyIter_tuple (show s1.heap.IsTuple a its.toArray from p) ?_
    refine ⟨s1.heap.objs.size, [s1.heap.objs.size], _, _, H1, rfl, I1.kept (t' := s1.toks) fun b o e => Heap.get?_push_of_some _ e, turn_tuple a _, ⟨_, Heap.get?_push_size _ rfl, rfl, rfl⟩, fun b hb => ?_, q⟩
    have e : b = s1.heap.objs.size := by simpa using hb
    subst e
    exact I1.fpOk (Nat.le_refl _) (I1.hok.fresh (Nat.le_refl _))
  · subst e
    obtain ⟨t, rfl⟩ := r1
    cases ha : z.cps.all (· < 128)
    · exact wpAny_pyIter_wide ha (pi_one (tk := s1.toks) I1 _ (turn_str _ z t "str_iterator" (.inr rfl)) ⟨_, Heap.get?_push_size _ rfl, rfl, rfl⟩ q)
    · exact wpAny_pyIter_ascii ha (pi_one (tk := s1.toks) I1 _ (turn_str _ z t "str_ascii_iterator" (.inl rfl)) ⟨_, Heap.get?_push_size _ rfl, rfl, rfl⟩ q)
theorem get_lt {α : Type} {xs : List α} {i : Nat} (h : i < xs.length) : ∃ x, xs[i]? = some x := ⟨xs[i], List.getElem?_eq_getElem h⟩
/-- a list that is there (written, the script, of the store) -/
theorem itd_list {K : PySem.W.Frag} {s0 : Sto} {H0 : Hp} {a : Addr} {ds : List DV} {G : Sto → Prop} (w : ∀ s H, Stp s0 H0 s H → Rep K s H → G s → ∃ xs, SqL K H a xs ∧ DatL K s H xs ds) : ItD K s0 H0 ds G (Itl K a) := ⟨
  fun i s H st rep g hi => by
    obtain ⟨xs, h1, l⟩ := w s H st rep g
    obtain ⟨x, hx⟩ := get_lt (xs := xs) (i := i) (by rw [l.length]; exact hi)
    exact ⟨xs, x, h1, hx⟩,
  fun i s H x H' st rep g hi y => by
    obtain ⟨xs, h1, l⟩ := w s H st rep g
    obtain ⟨e, y⟩ := y
    subst e
    exact ⟨Stp.refl s _, rep, l.get (y xs h1)⟩,
  fun s H st rep g => by
    obtain ⟨xs, h1, l⟩ := w s H st rep g
    exact ⟨xs, h1, by rw [l.length]; exact Nat.le_refl _⟩⟩
theorem itd_tup {K : PySem.W.Frag} {s0 : Sto} {H0 : Hp} {a : Addr} {ds : List DV} {G : Sto → Prop} (w : ∀ s H, Stp s0 H0 s H → Rep K s H → G s → ∃ xs, SqT K H a xs ∧ DatL K s H xs ds) : ItD K s0 H0 ds G (Itt K a) := ⟨
  fun i s H st rep g hi => by
    obtain ⟨xs, h1, l⟩ := w s H st rep g
    obtain ⟨x, hx⟩ := get_lt (xs := xs) (i := i) (by rw [l.length]; exact hi)
    exact ⟨xs, x, h1, hx⟩,
  fun i s H x H' st rep g hi y => by
    obtain ⟨xs, h1, l⟩ := w s H st rep g
    obtain ⟨e, y⟩ := y
    subst e
    exact ⟨Stp.refl s _, rep, l.get (y xs h1)⟩,
  fun s H st rep g => by
    obtain ⟨xs, h1, l⟩ := w s H st rep g
    exact ⟨xs, h1, by rw [l.length]; exact Nat.le_refl _⟩⟩
theorem itd_str {K : PySem.W.Frag} {s0 : Sto} {H0 : Hp} {z : Str} {G : Sto → Prop} : ItD K s0 H0 (z.cps.toList.map fun c => DV.str ⟨#[c]⟩) G (Its z) := ⟨
  fun i s H st rep g hi => by
    show i < z.cps.size
    simpa using hi,
  fun i s H x H' st rep g hi y => by
    obtain ⟨e, c, hc, ex⟩ := y
    subst e ex
    refine ⟨Stp.refl s _, rep, .str ⟨#[c]⟩, ?_, .str _⟩
    rw [List.getElem?_map, Array.getElem?_toList, hc]
    rfl,
  fun s H st rep g => by
    show z.cps.size ≤ _
    simp⟩
theorem diter (he : PD A X e te) : PId A X tg e (dIt te) := piImp (pi_any he) fun σ H R h => by
  obtain ⟨δ, s, R', S, t, k⟩ := h
  refine ⟨δ, s, _, S, t, fun v H1 d s1 st1 rep1 dv q => ?_⟩
  cases d with
  | lst ds =>
    obtain ⟨a, xs, rfl, h1, n1, l⟩ := dv.lstInv
    refine .inl ⟨a, rfl, ⟨xs, SqL.of h1⟩, k ds gTrue s1 H1 _ st1 rep1 (itd_list fun s2 H2 st2 _ _ => ?_) q⟩
    exact ⟨xs, SqL.of (st2 a _ h1 (.inl n1)).1, l.step st2 rep1⟩
  | scr ds =>
    obtain ⟨a, xs, rfl, h1, l⟩ := dv.scrInv
    exact .inl ⟨a, rfl, ⟨xs, h1.sq⟩, k ds gTrue s1 H1 _ st1 rep1 (itd_list fun s2 H2 st2 _ _ => ⟨xs, (scrL_step st2 rep1 h1).sq, l.step st2 rep1⟩) q⟩
  | tup ds =>
    obtain ⟨a, xs, rfl, h1, l⟩ := dv.tupInv
    exact .inr (.inl ⟨a, rfl, ⟨xs, h1⟩, k ds gTrue s1 H1 _ st1 rep1 (itd_tup fun s2 H2 st2 _ _ => ⟨xs, sqT_step st2 rep1 h1, l.step st2 rep1⟩) q⟩)
  | str z => cases dv; exact .inr (.inr ⟨z, rfl, k _ gTrue s1 H1 _ st1 rep1 itd_str q⟩)
  | ref a =>
    cases dv
    cases e : s1 a with
    | none => simp only [kIt, itemsD, e] at q
    | some m =>
      cases m with
      | lst ds =>
        simp only [kIt, itemsD, e] at q
        obtain ⟨xs, h1, l⟩ := rep1 a _ e
        refine .inl ⟨a, rfl, ⟨xs, SqL.of h1⟩, k ds _ s1 H1 _ st1 rep1 (itd_list fun s2 H2 st2 rep2 g => ?_) q⟩
        obtain ⟨ys, h2, l2⟩ := rep2 a _ g
        exact ⟨ys, SqL.of h2, l2⟩
      | hid => simp only [kIt, itemsD, e] at q
      | dK ks => simp only [kIt, itemsD, e] at q
      | ins C fs => simp only [kIt, itemsD, e] at q
      | exc C fs => simp only [kIt, itemsD, e] at q
  | _ => exact False.elim q
def rngD (lo : Int) (n : Nat) : List DV := (List.range n).map fun i : Nat => .int (lo + i)
theorem rngD_get {lo : Int} {n i : Nat} {d : DV} (h : (rngD lo n)[i]? = some d) : i < n ∧ d = .int (lo + i) := by
  unfold rngD at h
  rw [List.getElem?_map] at h
  by_cases c : i < n
  · rw [List.getElem?_range c] at h
    exact ⟨c, (Option.some.inj h).symm⟩
  · rw [List.getElem?_eq_none (by simpa using c)] at h; cases h
theorem rngD_length {lo : Int} {n : Nat} : (rngD lo n).length = n := by unfold rngD; simp
theorem itd_rng {K : PySem.W.Frag} {s0 : Sto} {H0 : Hp} {lo : Int} {n : Nat} : ItD K s0 H0 (rngD lo n) gTrue (Itr lo n) := ⟨
  fun i s H st rep g hi => by rw [rngD_length] at hi; exact hi,
  fun i s H x H' st rep g hi y => by
    obtain ⟨e, y⟩ := y
    subst e y
    refine ⟨Stp.refl s _, rep, .int (lo + i), ?_, .int _⟩
    unfold rngD
    rw [List.getElem?_map, List.getElem?_range (by rw [rngD_length] at hi; exact hi)]
    rfl,
  fun s H st rep g => by rw [rngD_length]; exact Nat.le_refl _⟩
def kRng1 (R : List DV → (Sto → Prop) → Sto → Prop) (ds : List DV) (s1 : Sto) : Prop := match ds with
  | [.int j] => (-(2 ^ 62) ≤ j ∧ j < 2 ^ 62) ∧ R (rngD 0 j.toNat) gTrue s1
  | _ => False
def dRng1 (ta : TAd) (δ : Ed) (s : Sto) (R : List DV → (Sto → Prop) → Sto → Prop) : Prop := ta δ s (kRng1 R)
def kRng2 (R : List DV → (Sto → Prop) → Sto → Prop) (ds : List DV) (s1 : Sto) : Prop := match ds with
  | [.int i, .int j] => (-(2 ^ 62) ≤ i ∧ i < 2 ^ 62 ∧ -(2 ^ 62) ≤ j ∧ j < 2 ^ 62) ∧ R (rngD i (j - i).toNat) gTrue s1
  | _ => False
def dRng2 (ta : TAd) (δ : Ed) (s : Sto) (R : List DV → (Sto → Prop) → Sto → Prop) : Prop := ta δ s (kRng2 R)
theorem drange1 {a : Expr} {ta : TAd} {p pos : Pos} (hm : X.mg "range" = none) (ha : PAd A X [a] ta) (hg : Gl X "range" := by rfl) (hs : starEach [a] X.env = [(false, eval a X.env)] := by rfl) : PId A X tg (.Call (.Name "range" p) [a] [] pos) (dRng1 ta) :=
  piImp (pi_range1 hg hm ha hs) fun σ H R h => by
  obtain ⟨δ, s, R', S, t, k⟩ := h
  refine ⟨δ, s, _, S, t, fun vs H1 ds s1 st1 rep1 dv q => ?_⟩
  unfold kRng1 at q
  split at q
  · cases dv with
    | cons h t => cases t; cases h; exact ⟨_, rfl, q.1.1, q.1.2, k _ _ s1 H1 _ st1 rep1 itd_rng q.2⟩
  · exact False.elim q
theorem drange2 {a b : Expr} {ta : TAd} {p pos : Pos} (hm : X.mg "range" = none) (ha : PAd A X [a, b] ta) (hg : Gl X "range" := by rfl) (hs : starEach [a, b] X.env = [(false, eval a X.env), (false, eval b X.env)] := by rfl) (hs2 : starEach [b] X.env = [(false, eval b X.env)] := by rfl) :
    PId A X tg (.Call (.Name "range" p) [a, b] [] pos) (dRng2 ta) :=
  piImp (pi_range2 hg hm ha hs hs2) fun σ H R h => by
  obtain ⟨δ, s, R', S, t, k⟩ := h
  refine ⟨δ, s, _, S, t, fun vs H1 ds s1 st1 rep1 dv q => ?_⟩
  unfold kRng2 at q
  split at q
  · cases dv with
    | cons h t => cases t with
      | cons h2 t => cases t; cases h; cases h2; exact ⟨_, _, rfl, q.1, k _ _ s1 H1 _ st1 rep1 itd_rng q.2⟩
  · exact False.elim q
end

/-! ### loops -/
def Anc.le (A B : Anc) : Prop := Stp A.s A.H B.s B.H
/-- W: what holds ahead of turn i -/
def dForW (g : TGd) (tb : TSd) (D : EndsD) (δ : Ed) (ds : List DV) (G : Sto → Prop) (s1 : Sto) : Prop := ∃ W : Nat → Ed → Sto → Prop, W 0 δ s1 ∧
  (∀ i d δ s, ds[i]? = some d → W i δ s → G s ∧ g d δ s (tb ⟨W (i + 1), D.rt, D.nx, W (i + 1)⟩)) ∧ ∀ δ s, W ds.length δ s → G s ∧ D.nx δ s
def dFor (it : TId) (g : TGd) (tb : TSd) (D : EndsD) (δ : Ed) (s : Sto) : Prop := it δ s (dForW g tb D δ)
def lessW (W : Nat → Ed → Sto → Prop) (m : Nat) (δ' : Ed) (s' : Sto) : Prop := ∃ m', m' < m ∧ W m' δ' s'
def kWhile (tb : TSd) (D : EndsD) (W : Nat → Ed → Sto → Prop) (m : Nat) (δ : Ed) (b : Bool) (s1 : Sto) : Prop := dGif b (tb { D with nx := lessW W m, ct := lessW W m, bk := D.nx } δ) (D.nx δ) s1
def dWhile (c : TTd) (tb : TSd) (D : EndsD) (δ : Ed) (s : Sto) : Prop := ∃ W : Nat → Ed → Sto → Prop, (∃ m, W m δ s) ∧ ∀ m δ s, W m δ s →
  c δ s (kWhile tb D W m δ)
section
variable {X : Cx} {A : Anc} {tg iter : Expr} {it : TId} {g : TGd} {body : List Stmt} {tb : TSd} {pos : Pos}
theorem dsfor (hp : PassesOwn (model X.prog X.w) X.A X.env X.xe) (hc : X.calm = true) (hi : PId A X tg iter it) (hg : ∀ B, A.le B → PGd B X tg g) (hb : ∀ B, A.le B → PSsd B X body tb)
    (hs : ∀ x, foldedSetIterable iter X.env x = pure x := by intro _; rfl) : PSd A X (.For tg iter body [] pos) (dFor it g tb) := by
  -- the body is read from where the walk began
  have key : ∀ (B : Anc), A.le B → PS X (.For tg iter body [] pos) (tFor (lI X.K A it) (lG X.K B g) (lS X.K B tb)) := fun B hB => ps_for hp hc hi (hg B hB) (hb B hB) hs
  refine ⟨fun pins s σ H D I h => ?_⟩
  -- the walk's own rule once more, the anchor chosen behind the iterator
  obtain ⟨δ, s0, D', S, t, L⟩ := h
  -- choose the anchor when the iterator is there: by a union over anchors
  have all : PS X (.For tg iter body [] pos) (tFor (lI X.K A it) (fun v σ H Q => ∃ B, A.le B ∧ lG X.K B g v σ H Q) (fun D σ H => ∃ B, A.le B ∧ lS X.K B tb D σ H)) := by
    refine ps_for hp hc hi ⟨fun pins s σ H v u Q I r q => ?_⟩ ⟨fun pins s σ H D I q => ?_⟩ hs
    · obtain ⟨B, hB, q⟩ := q
      exact (hg B hB).run pins s σ H v u Q I r q
    · obtain ⟨B, hB, q⟩ := q
      exact (hb B hB).run pins s σ H D I q
  refine all.run pins s σ H D I ?_
  refine ⟨δ, s0, _, S, t, fun ds G s1 H1 J st1 rep1 iD ⟨W, w0, step, fin⟩ => ?_⟩
  have S1 := S.go st1 rep1
  have hB : A.le ⟨s1, H1⟩ := S1.stp
  refine ⟨fun i m σ2 H2 => m = ds.length - i ∧ i ≤ ds.length ∧ ∃ δ2 s2, Sd X.K ⟨s1, H1⟩ σ2 H2 δ2 s2 ∧ W i δ2 s2, ⟨ds.length, by simp, Nat.zero_le _, δ, s1, ⟨Stp.refl s1 H1, rep1, S1.env⟩, w0⟩, ?_⟩
  rintro i m σ2 H2 ⟨rfl, hi, δ2, s2, S2, w2⟩
  have up : ∀ {σ H δ s}, Sd X.K ⟨s1, H1⟩ σ H δ s → Sd X.K A σ H δ s := fun S => ⟨S1.stp.trans S.stp, S.rep, S.env⟩
  by_cases hlt : i < ds.length
  · obtain ⟨d, hd⟩ := get_lt hlt
    obtain ⟨gs, _⟩ := step i d δ2 s2 hd w2
    refine .inr ⟨iD.go i s2 H2 S2.stp S2.rep gs hlt, fun σ3 H3 => ∃ δ3 s3, Sd X.K ⟨s1, H1⟩ σ3 H3 δ3 s3 ∧ W (i + 1) δ3 s3, fun σ3 H3 ⟨δ3, s3, S3, w3⟩ => ⟨ds.length - (i + 1), by omega, rfl, hlt, δ3, s3, S3, w3⟩, fun x H3 y => ?_⟩
    obtain ⟨st3, rep3, d3, hd3, dv3⟩ := iD.yld i s2 H2 x H3 S2.stp S2.rep gs hlt y
    obtain ⟨_, q3⟩ := step i d3 δ2 s2 hd3 w2
    refine ⟨⟨s1, H1⟩, hB, d3, δ2, s2, _, S2.go st3 rep3, dv3, q3, fun σ4 H4 δ4 s4 S4 q4 => ?_⟩
    exact ⟨⟨s1, H1⟩, hB, δ4, s4, _, S4, q4, ⟨fun σ H δ s S q => ⟨δ, s, S, q⟩, fun σ H δ s S q => L.nx σ H δ s (up S) q, fun σ H δ s S q => ⟨δ, s, S, q⟩, fun v H d s st rep dv q => L.rt v H d s (S1.stp.trans st) rep dv q⟩⟩
  · have e : i = ds.length := by omega
    subst e
    obtain ⟨gs, q⟩ := fin δ2 s2 w2
    exact .inl ⟨iD.stop s2 H2 S2.stp S2.rep gs, L.nx σ2 H2 δ2 s2 (up S2) q⟩
theorem dswhile {c : Expr} {tc : TTd} (hp : PassesOwn (model X.prog X.w) X.A X.env X.xe) (hc : PTd A X c tc) (hb : PSsd A X body tb) : PSd A X (.While c body [] pos) (dWhile tc tb) := psImp (ps_while hp hc hb) fun D σ H h => by
  obtain ⟨δ, s, D', S, ⟨W, ⟨m, w0⟩, step⟩, L⟩ := h
  refine ⟨fun m σ2 H2 => ∃ δ2 s2, Sd X.K A σ2 H2 δ2 s2 ∧ W m δ2 s2, ⟨m, δ, s, S, w0⟩, ?_⟩
  rintro m σ2 H2 ⟨δ2, s2, S2, w2⟩
  refine ⟨δ2, s2, _, S2, step m δ2 s2 w2, fun b H3 s3 st3 rep3 q => ?_⟩
  have S3 := S2.go st3 rep3
  cases b with
  | false => exact iteF (L.nx σ2 H3 δ2 s3 S3 q)
  | true =>
    refine iteT ?_
    refine ⟨fun σ4 H4 => ∃ δ4 s4, Sd X.K A σ4 H4 δ4 s4 ∧ ∃ m', m' < m ∧ W m' δ4 s4, fun σ4 H4 ⟨δ4, s4, S4, m', hm, w4⟩ => ⟨m', hm, δ4, s4, S4, w4⟩, δ2, s3, _, S3, q, ?_⟩
    exact ⟨fun σ H δ s S q => ⟨δ, s, S, q⟩, fun σ H δ s S q => L.nx σ H δ s S q, fun σ H δ s S q => ⟨δ, s, S, q⟩, L.rt⟩
end

/-! ### comprehensions -/
def dYes (_ : Ed) (s : Sto) (Q : Bool → Sto → Prop) : Prop := Q true s
abbrev PTsd (A : Anc) (X : Cx) (ifs : List Expr) (t : TTd) : Prop := PTs X ifs (lT X.K A t)
/-- the list under way is hidden at D -/
def kLc3 (W : Nat → List DV → Sto → Prop) (i : Nat) (acc : List DV) (y : DV) (s3 : Sto) : Prop := acc.length < sizeLine ∧ W (i + 1) (acc ++ [y]) s3
def kLc2' (te : TEd) (W : Nat → List DV → Sto → Prop) (i : Nat) (acc : List DV) (δ' : Ed) (s2 : Sto) : Prop := te δ' s2 (kLc3 W i acc)
def kLc2 (te : TEd) (W : Nat → List DV → Sto → Prop) (i : Nat) (acc : List DV) (δ' : Ed) (b : Bool) (s2 : Sto) : Prop := dGif b (kLc2' te W i acc δ') (W (i + 1) acc) s2
def kLc1 (tt : TTd) (te : TEd) (W : Nat → List DV → Sto → Prop) (i : Nat) (acc : List DV) (δ' : Ed) (s' : Sto) : Prop := tt δ' s' (kLc2 te W i acc δ')
def dLcW (g : TGd) (tt : TTd) (te : TEd) (vs : List Nat) (δ : Ed) (fin : Addr → List DV → Sto → Prop) (ds : List DV) (G : Sto → Prop) (s1 : Sto) : Prop := ∀ D, s1 D = none → ∃ W : Nat → List DV → Sto → Prop, W 0 [] (up s1 D .hid) ∧
  (∀ i d acc s, ds[i]? = some d → W i acc s → G s ∧ g d (wipeD δ vs) s (kLc1 tt te W i acc)) ∧
  ∀ acc s, W ds.length acc s → G s ∧ fin D acc s
def finF (Q : KD) (D : Addr) (acc : List DV) (s : Sto) : Prop := Q (.lst acc) (er s D)
def finM (Q : KD) (D : Addr) (acc : List DV) (s : Sto) : Prop := Q (.ref D) (up s D (.lst acc))
def dLc (it : TId) (g : TGd) (tt : TTd) (te : TEd) (vs : List Nat) (δ : Ed) (s : Sto) (Q : KD) : Prop := it δ s (dLcW g tt te vs δ (finF Q))
def dLcM (it : TId) (g : TGd) (tt : TTd) (te : TEd) (vs : List Nat) (δ : Ed) (s : Sto) (Q : KD) : Prop := it δ s (dLcW g tt te vs δ (finM Q))
section
variable {X : Cx} {A : Anc} {tg iter elt : Expr} {ifs : List Expr} {scope : Scope} {own : List (Str × Nat)} {it : TId} {g : TG} {g' : TGd} {tt : TTd} {te : TEd} {sl : List Nat} {pos : Pos}
theorem dtsn : PTsd A X [] dYes := ⟨fun pins s σ H Q I h => pts_nil.run pins s σ H Q I (by
  obtain ⟨δ, s, Q', S, t, k⟩ := h
  exact k true H s (Stp.refl s H) S.rep t)⟩
theorem dts1 {c : Expr} (h : PTd A X c tt) : PTsd A X [c] tt := pts_one h
/-- the end of a comprehension -/
structure LcEnd (K : PySem.W.Frag) (D : Addr) (acc : List DV) (s : Sto) (H : Hp) : Prop where
  rep : Rep K s H
  hid : s D = some .hid
  at_ : ∃ xs, H D = some (.lst xs) ∧ DatL K s H xs acc
theorem lc_run {K : PySem.W.Frag} {σ : L2.St} {H : Hp} {Q : VK} {δ : Ed} {s : Sto} {vs : List Nat} {fin : Addr → List DV → Sto → Prop} (mg : GMono g) (hp : PatOk K g g' sl) (hsl : ∀ i ∈ sl, i ∈ vs) (S : Sd K A σ H δ s)
    (t : it δ s (dLcW g' tt te vs δ fin))
    (k : ∀ D acc s1 H1 s2 H2, Stp s H s1 H1 → H1 D = none → Stp s1 H1 s2 H2 → LcEnd K D acc s2 H2 → fin D acc s2 → Q (.ref D) H2) : tLc (lI K A it) g (lT K A tt) (lE K A te) vs σ H Q := by
  refine ⟨δ, s, _, S, t, fun ds G s1 H1 J st1 rep1 iD q1 D hD => ?_⟩
  obtain ⟨W, w0, step, fn⟩ := q1 D (rep1.fresh hD)
  have S1 := S.go st1 rep1
  have L0 : LcEnd K D [] (up s1 D .hid) (upd H1 D (.lst [])) := ⟨rep1.put (Stp.new hD) ⟨_, upd_same⟩, up_same, [], upd_same, .nil⟩
  refine ⟨fun i m H2 => m = ds.length - i ∧ i ≤ ds.length ∧ ∃ acc s2, Stp s1 H1 s2 H2 ∧ LcEnd K D acc s2 H2 ∧ W i acc s2, ⟨ds.length, by simp, Nat.zero_le _, [], _, Stp.new hD, L0, w0⟩, ?_⟩
  rintro i m H2 ⟨rfl, hi, acc, s2, st2, Le, w2⟩
  by_cases hlt : i < ds.length
  · obtain ⟨d, hd⟩ := get_lt hlt
    obtain ⟨gs, _⟩ := step i d acc s2 hd w2
    refine .inr ⟨iD.go i s2 H2 st2 Le.rep gs hlt, fun H3 => ∃ acc s3, Stp s1 H1 s3 H3 ∧ LcEnd K D acc s3 H3 ∧ W (i + 1) acc s3, fun H3 ⟨acc, s3, a, b, c⟩ => ⟨ds.length - (i + 1), by omega, rfl, hlt, acc, s3, a, b, c⟩, fun x H3 y => ?_⟩
    obtain ⟨st3, rep3, d3, hd3, dv3⟩ := iD.yld i s2 H2 x H3 st2 Le.rep gs hlt y
    obtain ⟨_, q3⟩ := step i d3 acc s2 hd3 w2
    have env3 : EnvR K s2 H3 (wipe σ vs) (wipeD δ vs) := env_wipe (S1.env.step (st2.trans st3) rep1) vs
    refine mg.mono _ _ _ _ _ ?_ (hp.ok x d3 _ H3 _ s2 _ rep3 env3 dv3 q3)
    rintro σ4 H4 ⟨rfl, ⟨δ4, env4, q4⟩, wp⟩
    refine ⟨?_, ?_⟩
    · rw [wp vs hsl]
      have idem : ∀ (ws vs : List Nat) (τ : L2.St), (∀ i ∈ ws, i ∈ vs) → wipe (wipe τ ws) vs = wipe τ vs := by
        intro ws
        induction ws with
        | nil => intro vs τ _; rfl
        | cons w ws ih =>
          intro vs τ h
          show wipe ((wipe τ ws).set w none) vs = _
          rw [wipe_set none vs _ w (h w List.mem_cons_self), ih vs τ fun i hi => h i (List.mem_cons_of_mem _ hi)]
      exact idem vs vs σ fun _ h => h
    · have S4 : Sd K A σ4 H4 δ4 s2 := ⟨(S1.stp.trans st2).trans st3, rep3, env4⟩
      refine ⟨δ4, s2, _, S4, q4, fun b H5 s5 st5 rep5 q5 => ?_⟩
      obtain ⟨xs, hx, lx⟩ := Le.at_
      have hx4 := (st3 D _ hx (.inr Le.hid)).1
      have hx5 := st5 D _ hx4 (.inr Le.hid)
      have lx5 := (lx.step st3 Le.rep).step st5 rep3
      cases b with
      | false =>
        refine iteF ?_
        exact ⟨acc, s5, (st2.trans st3).trans st5, ⟨rep5, hx5.2.trans Le.hid, xs, hx5.1, lx5⟩, q5⟩
      | true =>
        refine iteT ?_
        refine ⟨δ4, s5, _, S4.go st5 rep5, q5, fun y6 H6 d6 s6 st6 rep6 dv6 ⟨hl, q6⟩ => ?_⟩
        have hx6 := st6 D _ hx5.1 (.inr (hx5.2.trans Le.hid))
        have hh : s6 D = some .hid := hx6.2.trans (hx5.2.trans Le.hid)
        have lx6 := lx5.step st6 rep5
        refine ⟨xs, hx6.1, by rw [lx.length]; exact hl, acc ++ [d6], s6, ?_, ⟨rep6.hidden hh hx6.1, hh, xs ++ [y6], upd_same, (lx6.append (.cons dv6 .nil)).hid hh hx6.1⟩, q6⟩
        intro a o ha hn
        have ne : a ≠ D := ne_of_none ha hD
        rw [upd_ne ne]
        exact ((st2.trans st3).trans (st5.trans st6)) a o ha hn
  · have e : i = ds.length := by omega
    subst e
    obtain ⟨gs, q⟩ := fn acc s2 w2
    exact .inl ⟨iD.stop s2 H2 st2 Le.rep gs, k D acc s1 H1 s2 H2 st1 hD st2 Le q⟩
theorem LcEnd.lst {K : PySem.W.Frag} {D : Addr} {acc : List DV} {s0 s : Sto} {H0 H : Hp} (L : LcEnd K D acc s H) (st : Stp s0 H0 s H) (hD : H0 D = none) : Stp s0 H0 (er s D) H ∧ Rep K (er s D) H ∧ Dat K (er s D) H (.ref D) (.lst acc) := by
  obtain ⟨xs, hx, lx⟩ := L.at_
  refine ⟨fun a o ha hn => ?_, L.rep.erase D, .lst hx er_same (lx.subN erN)⟩
  have ne : a ≠ D := ne_of_none ha hD
  rw [er_ne ne]
  exact st a o ha hn
theorem LcEnd.mut {K : PySem.W.Frag} {D : Addr} {acc : List DV} {s0 s : Sto} {H0 H : Hp} (L : LcEnd K D acc s H) (st : Stp s0 H0 s H) (hD : H0 D = none) : Stp s0 H0 (up s D (.lst acc)) H ∧ Rep K (up s D (.lst acc)) H := by
  obtain ⟨xs, hx, lx⟩ := L.at_
  have sub : ∀ a, s a = none → up s D (.lst acc) a = none := fun a h => by
    have ne : a ≠ D := fun z => by rw [z, L.hid] at h; cases h
    rw [up_ne ne]; exact h
  refine ⟨fun a o ha hn => ?_, fun a m e => ?_⟩
  · have ne : a ≠ D := ne_of_none ha hD
    rw [up_ne ne]
    exact st a o ha hn
  · by_cases z : a = D
    · subst z
      rw [up_same] at e; cases e
      exact ⟨xs, hx, lx.subN sub⟩
    · rw [up_ne z] at e
      exact (L.rep a m e).subN sub
theorem dlc (hc : X.calm = true) (hN : X.N.Nodup) (hi : PId A X tg iter it) (ok : BlkOk X.N X.env.scope scope own) (mg : GMono g) (hp : PatOk X.K g g' sl) (hsl : ∀ i ∈ sl, i ∈ own.map (·.2))
    (hg : ∀ (s : Shared) (H : Hp) (C : Addr) (cl : List (Str × Addr)) (fp : List Addr), PG (X.blk s H scope (compEnvC scope cl C X.env) fp) tg g)
    (ht : ∀ (s : Shared) (H : Hp) (C : Addr) (cl : List (Str × Addr)) (fp : List Addr), PTsd A (X.blk s H scope (compEnvC scope cl C X.env) fp) ifs tt)
    (he : ∀ (s : Shared) (H : Hp) (C : Addr) (cl : List (Str × Addr)) (fp : List Addr), PD A (X.blk s H scope (compEnvC scope cl C X.env) fp) elt te) (hs : ∀ x, foldedSetIterable iter X.env x = pure x := by intro _; rfl) :
    PD A X (.ListComp elt [⟨tg, iter, ifs, 0⟩] scope pos) (dLc it g' tt te (own.map (·.2))) := peImp (pe_lc hc hN hi ok hg ht he hs) fun σ H Q h => by
  obtain ⟨δ, s, Q', S, t, k⟩ := h
  refine lc_run mg hp hsl S t fun D acc s1 H1 s2 H2 st1 hD st2 L q => ?_
  obtain ⟨a, b, c⟩ := L.lst st2 hD
  exact k _ H2 _ _ (st1.trans a) b c q
theorem dlcM (hc : X.calm = true) (hN : X.N.Nodup) (hi : PId A X tg iter it) (ok : BlkOk X.N X.env.scope scope own) (mg : GMono g) (hp : PatOk X.K g g' sl) (hsl : ∀ i ∈ sl, i ∈ own.map (·.2))
    (hg : ∀ (s : Shared) (H : Hp) (C : Addr) (cl : List (Str × Addr)) (fp : List Addr), PG (X.blk s H scope (compEnvC scope cl C X.env) fp) tg g)
    (ht : ∀ (s : Shared) (H : Hp) (C : Addr) (cl : List (Str × Addr)) (fp : List Addr), PTsd A (X.blk s H scope (compEnvC scope cl C X.env) fp) ifs tt)
    (he : ∀ (s : Shared) (H : Hp) (C : Addr) (cl : List (Str × Addr)) (fp : List Addr), PD A (X.blk s H scope (compEnvC scope cl C X.env) fp) elt te) (hs : ∀ x, foldedSetIterable iter X.env x = pure x := by intro _; rfl) :
    PD A X (.ListComp elt [⟨tg, iter, ifs, 0⟩] scope pos) (dLcM it g' tt te (own.map (·.2))) := peImp (pe_lc hc hN hi ok hg ht he hs) fun σ H Q h => by
  obtain ⟨δ, s, Q', S, t, k⟩ := h
  refine lc_run mg hp hsl S t fun D acc s1 H1 s2 H2 st1 hD st2 L q => ?_
  obtain ⟨a, b⟩ := L.mut st2 hD
  exact k _ H2 _ _ (st1.trans a) b (.ref D) q
end
end DL

set_option Elab.async false
set_option linter.all false
set_option maxRecDepth 100000
set_option maxHeartbeats 4000000
namespace DL
open PySem PySem.Spec PyProof.Rows L2

/-! ### promises over data -/
abbrev XDd := Value → List (Str × DV) → Sto → Prop
def noX : XDd := fun _ _ _ => False
abbrev Spd := List DV → Sto → KD → XDd → Prop
/-- a promise called: the simplifier looks at what is handed in alone -/
def cSp (sp : Spd) (ds : List DV) (s : Sto) (Q : KD) (E : XDd) : Prop := sp ds s Q E
def XdR (K : PySem.W.Frag) (s : Sto) (H : Hp) (dd : Option Addr) (fs : List (Str × DV)) : Prop := (dd = none ∧ fs = []) ∨ ∃ a gs, dd = some a ∧ H a = some (.xd gs) ∧ DatP K s H gs fs ∧ s a = none
def ExL (K : PySem.W.Frag) (s0 : Sto) (H0 : Hp) (E' : XDd) (E : XK) : Prop := ∀ cls dd fs s H, Stp s0 H0 s H → Rep K s H → XdR K s H dd fs → E' cls fs s → E cls dd H
theorem ExL.no {K : PySem.W.Frag} {s0 : Sto} {H0 : Hp} {E : XK} : ExL K s0 H0 noX E := fun _ _ _ _ _ _ _ _ z => z.elim
theorem ExL.go {K : PySem.W.Frag} {s0 s1 : Sto} {H0 H1 : Hp} {E' : XDd} {E : XK} (h : ExL K s0 H0 E' E) (st : Stp s0 H0 s1 H1) : ExL K s1 H1 E' E := fun cls dd fs s H st' => h cls dd fs s H (st.trans st')
def lSp (K : PySem.W.Frag) (sp : Spd) : Sp := fun vs H Q E => ∃ ds s Q' E', Rep K s H ∧ DatL K s H vs ds ∧ sp ds s Q' E' ∧ (∀ v H2 d s2, Stp s H s2 H2 → Rep K s2 H2 → Dat K s2 H2 v d → Q' d s2 → Q v H2) ∧ ExL K s H E' E
def startD (n : Nat) (ds : List DV) : Ed := ds.map some ++ List.replicate (n - ds.length) none
theorem env_start {K : PySem.W.Frag} {s : Sto} {H : Hp} {vs : List V} {ds : List DV} (N : List Str) (h : DatL K s H vs ds) : EnvR K s H (L2.start N vs) (startD N.length ds) := ⟨by simp [L2.start, startD, h.length], fun i d e => by
  unfold startD at e
  by_cases c : i < ds.length
  · rw [List.getElem?_append_left (by simpa using c), List.getElem?_map] at e
    obtain ⟨d', hd⟩ := get_lt c
    rw [hd] at e
    cases e
    obtain ⟨v, h1, h2⟩ := h.get' hd
    refine ⟨v, ?_, h2⟩
    show (vs.map some ++ _)[i]? = _
    rw [List.getElem?_append_left (by simpa [h.length] using c), List.getElem?_map, h1]
    rfl
  · rw [List.getElem?_append_right (by simpa using Nat.le_of_not_lt c)] at e
    rw [List.getElem?_replicate] at e
    split at e <;> cases e⟩
section
variable {P : Program} {w : World} {K : PySem.W.Frag} {mg : Str → Option Value} {base : Heap}
/-- THE RULE for a def from which nothing is raised -/
theorem defOk {x qual : Str} {st : Stmt} {f : Addr} {fd : FuncData} {N ps : List Str} {k : Nat} {sp : Spd} {t : TSd} (F : Fun K x qual st f fd) (S : FnScope N ps (defScope st)) (len : ∀ ds s Q E, sp ds s Q E → ds.length = ps.length)
    (hbody : ∀ (A : Anc) (cdv : Value) (Ar : Around) (outer : List Env) (s : Shared) (H : Hp) (E : XK), Room k (Ar.deeper (envOfC qual (defScope st) s.heap.objs.size f cdv)) →
      PSsd A (cxOf CX0 P w K mg base N qual (defScope st) f cdv Ar outer s H E).nox (defBody st) t)
    (hread : ∀ ds s Q E, sp ds s Q E → t { nx := fun _ s => Q .non s, rt := Q } (startD N.length ds) s) : FnOk P w K mg base CX0 (k + 1) f fd ps (lSp K sp) := by
  refine F.ok S (fun vs H Q E h => ?_) (fun cdv Ar outer s H vs Q E hr h => ?_)
  · obtain ⟨ds, s, Q', E', rep, dv, q, _⟩ := h
    rw [dv.length]
    exact len ds s Q' E' q
  · obtain ⟨ds, s0, Q', E', rep, dv, q, kq, ke⟩ := h
    refine ⟨_, hbody ⟨s0, H⟩ cdv Ar outer s H E hr, startD N.length ds, s0, _, ⟨Stp.refl s0 H, rep, env_start N dv⟩, hread ds s0 Q' E' q, ?_⟩
    exact ⟨fun σ H2 δ s2 S2 q2 => kq .non H2 .non s2 S2.stp S2.rep .non q2, fun _ _ _ _ _ z => z.elim, fun _ _ _ _ _ z => z.elim, fun v H2 d s2 st rep2 dv2 q2 => kq v H2 d s2 st rep2 dv2 q2⟩
theorem fnImp {CX : CXT} {k : Nat} {f : Addr} {fd : FuncData} {ps : List Str} {sp sp' : Spd} (F : FnOk P w K mg base CX k f fd ps (lSp K sp)) (h : ∀ ds s Q E, sp' ds s Q E → sp ds s Q E) : FnOk P w K mg base CX k f fd ps (lSp K sp') :=
  F.imp fun vs H Q E ⟨ds, s, Q', E', rep, dv, q, kq, ke⟩ => ⟨ds, s, Q', E', rep, dv, h _ _ _ _ q, kq, ke⟩
end

/-! ### calls -/
def kCall (sp : Spd) (dvs : List DV) (Q : KD) (ds : List DV) (s1 : Sto) : Prop := cSp sp (ds ++ dvs) s1 Q noX
def dCall (sp : Spd) (dvs : List DV) (t : TAd) (δ : Ed) (s : Sto) (Q : KD) : Prop := t δ s (kCall sp dvs Q)
def kCallK2 (sp : Spd) (n m : Nat) (g : List DV → List DV → List DV) (Q : KD) (ds es : List DV) (s2 : Sto) : Prop := (ds.length = n ∧ es.length = m) ∧ cSp sp (g ds es) s2 Q noX
def kCallK (sp : Spd) (n m : Nat) (g : List DV → List DV → List DV) (tk : TAd) (δ : Ed) (Q : KD) (ds : List DV) (s1 : Sto) : Prop := tk δ s1 (kCallK2 sp n m g Q ds)
def dCallK (sp : Spd) (n m : Nat) (g : List DV → List DV → List DV) (t tk : TAd) (δ : Ed) (s : Sto) (Q : KD) : Prop := t δ s (kCallK sp n m g tk δ Q)
def kMeth2 (sp : Spd) (dvs : List DV) (Q : KD) (a : Addr) (ds : List DV) (s2 : Sto) : Prop := cSp sp (.ref a :: (ds ++ dvs)) s2 Q noX
def kMeth (C : Addr) (m : Str) (sp : Spd) (dvs : List DV) (t : TAd) (δ : Ed) (Q : KD) (o : DV) (s1 : Sto) : Prop := match o with
  | .ref a => match s1 a with
    | some (.ins C' fs) => C' = C ∧ fs.lookup m = none ∧ t δ s1 (kMeth2 sp dvs Q a)
    | _ => False
  | _ => False
def dMeth (C : Addr) (m : Str) (sp : Spd) (dvs : List DV) (to : TEd) (t : TAd) (δ : Ed) (s : Sto) (Q : KD) : Prop := to δ s (kMeth C m sp dvs t δ Q)
def kMade (Q : KD) (x : Addr) (d : DV) (s2 : Sto) : Prop := d = .non ∧ Q (.ref x) s2
def kMake (C : Addr) (sp : Spd) (dvs : List DV) (Q : KD) (ds : List DV) (s1 : Sto) : Prop := ∀ x, s1 x = none → cSp sp (.ref x :: (ds ++ dvs)) (up s1 x (.ins C [])) (kMade Q x) noX
def dMake (C : Addr) (sp : Spd) (dvs : List DV) (t : TAd) (δ : Ed) (s : Sto) (Q : KD) : Prop := t δ s (kMake C sp dvs Q)
def kMakeK2 (C : Addr) (sp : Spd) (n m : Nat) (g : List DV → List DV → List DV) (Q : KD) (ds es : List DV) (s2 : Sto) : Prop := (ds.length = n ∧ es.length = m) ∧ ∀ x, s2 x = none → cSp sp (g (.ref x :: ds) es) (up s2 x (.ins C [])) (kMade Q x) noX
def kMakeK (C : Addr) (sp : Spd) (n m : Nat) (g : List DV → List DV → List DV) (tk : TAd) (δ : Ed) (Q : KD) (ds : List DV) (s1 : Sto) : Prop := tk δ s1 (kMakeK2 C sp n m g Q ds)
def dMakeK (C : Addr) (sp : Spd) (n m : Nat) (g : List DV → List DV → List DV) (t tk : TAd) (δ : Ed) (s : Sto) (Q : KD) : Prop := t δ s (kMakeK C sp n m g tk δ Q)
def kFld (C : Addr) (f : Str) (Q : KD) (d : DV) (s1 : Sto) : Prop := match d with
  | .ref a => match s1 a with
    | some (.ins C' fs) => C' = C ∧ match fs.lookup f with
      | some d => Q d s1
      | none => False
    | _ => False
  | _ => False
def dFld (C : Addr) (f : Str) (t : TEd) (δ : Ed) (s : Sto) (Q : KD) : Prop := t δ s (kFld C f Q)
def putFD (f : Str) (v : DV) : List (Str × DV) → List (Str × DV)
  | [] => [(f, v)]
  | (g, x) :: r => if g = f then (g, v) :: r else (g, x) :: putFD f v r
def kSetFld2 (C : Addr) (f : Str) (D : EndsD) (δ : Ed) (v o : DV) (s2 : Sto) : Prop := match o with
  | .ref a => match s2 a with
    | some (.ins C' fs) => C' = C ∧ fs.length < 1000 ∧ D.nx δ (up s2 a (.ins C (putFD f v fs)))
    | _ => False
  | _ => False
def kSetFld (C : Addr) (f : Str) (to : TEd) (D : EndsD) (δ : Ed) (v : DV) (s1 : Sto) : Prop := to δ s1 (kSetFld2 C f D δ v)
def dSetFld (C : Addr) (f : Str) (to tv : TEd) (D : EndsD) (δ : Ed) (s : Sto) : Prop := tv δ s (kSetFld C f to D δ)
/-- o.f += j, j written -/
def kAugFld (C : Addr) (f : Str) (g : Int → Int) (D : EndsD) (δ : Ed) (o : DV) (s1 : Sto) : Prop := match o with
  | .ref a => match s1 a with
    | some (.ins C' fs) => C' = C ∧ match fs.lookup f with
      | some (.int i) => fs.length < 1000 ∧ D.nx δ (up s1 a (.ins C (putFD f (.int (g i)) fs)))
      | _ => False
    | _ => False
  | _ => False
def dAugFld (C : Addr) (f : Str) (g : Int → Int) (to : TEd) (D : EndsD) (δ : Ed) (s : Sto) : Prop := to δ s (kAugFld C f g D δ)
theorem lookP {K : PySem.W.Frag} {s : Sto} {H : Hp} (f : Str) : ∀ {gs : List (Str × V)} {fs : List (Str × DV)}, DatP K s H gs fs → (fs.lookup f = none → gs.lookup f = none) ∧ ∀ d, fs.lookup f = some d → ∃ v, gs.lookup f = some v ∧ Dat K s H v d
  | _, _, .nil => ⟨fun _ => rfl, fun _ e => by cases e⟩
  | _, _, .cons (a := p) (b := q) h t => by
    obtain ⟨i1, i2⟩ := lookP f t
    obtain ⟨p1, p2⟩ := p
    obtain ⟨q1, q2⟩ := q
    obtain ⟨e, hv⟩ := h
    have e' : p1 = q1 := e
    subst e'
    by_cases c : f = p1
    · subst c
      simp only [List.lookup, beq_self_eq_true]
      exact ⟨fun z => (nomatch z), fun d hd => ⟨p2, rfl, by cases hd; exact hv⟩⟩
    · have cb : (f == p1) = false := by simpa using c
      simp only [List.lookup, cb]
      exact ⟨i1, i2⟩
theorem putF_ok {K : PySem.W.Frag} {s : Sto} {H : Hp} {f : Str} {v : V} {d : DV} (hv : Dat K s H v d) : ∀ {gs : List (Str × V)} {fs : List (Str × DV)}, DatP K s H gs fs → DatP K s H (putF f v gs) (putFD f d fs)
  | _, _, .nil => .cons ⟨rfl, hv⟩ .nil
  | _, _, .cons (a := p) (b := q) h t => by
    obtain ⟨p1, p2⟩ := p
    obtain ⟨q1, q2⟩ := q
    obtain ⟨e, hv'⟩ := h
    have e' : p1 = q1 := e
    subst e'
    unfold putF putFD
    by_cases c : p1 = f
    · rw [if_pos c, if_pos c]; exact .cons ⟨rfl, hv⟩ t
    · rw [if_neg c, if_neg c]; exact .cons ⟨rfl, hv'⟩ (putF_ok hv t)
section
variable {X : Cx} {A : Anc} {k : Nat} {f C : Addr} {fd : FuncData} {ps ks : List Str} {sp : Spd} {dvs : List V} {dds : List DV} {ds : List Value} {x m : Str} {p pos apos kpos : Pos} {e o : Expr} {es : List Expr} {kws : List Keyword} {te to tv : TEd} {t tk : TAd}
theorem lSp_of {K : PySem.W.Frag} {s : Sto} {H : Hp} {vs : List V} {es : List DV} {Q' : KD} {Q : VK} {E : XK} (rep : Rep K s H) (dv : DatL K s H vs es) (q : sp es s Q' noX) (k : ∀ v H2 d s2, Stp s H s2 H2 → Rep K s2 H2 → Dat K s2 H2 v d → Q' d s2 → Q v H2) : lSp K sp vs H Q E :=
  ⟨es, s, Q', noX, rep, dv, q, k, ExL.no⟩
theorem dcall (F : FnOk X.prog X.w X.K X.mg X.base CX0 k f fd ps (lSp X.K sp)) (hr : Room k X.A) (hm : X.mg x = some (.ref f)) (hk : PySem.W.keepIn X.K (.ref f) = true) (hb : Binds X.K fd ps ds) (hd : Vals dvs ds) (hdd : ∀ s H, DatL X.K s H dvs dds)
    (ha : PAd A X (e :: es) t) (hg : Gl X x := by rfl) (hdb : (x == ("__debug__" : Str)) = false := by decide) (he : starEach (e :: es) X.env = (false, eval e X.env) :: starEach es X.env := by rfl) (hpl : (backTo pos (starEach es X.env)).any (·.1) = false := by rfl) :
    PD A X (.Call (.Name x p) (e :: es) [] pos) (dCall sp dds t) := peImp (pe_call F hr hg hm hk hb hd pass0 ha hdb he hpl) fun σ H Q h => by
  obtain ⟨δ, s, Q', S, t, k⟩ := h
  exact ⟨δ, s, _, S, t, fun vs H1 es s1 st1 rep1 dv q => lSp_of rep1 (dv.append (hdd s1 H1)) q fun v2 H2 d2 s2 st2 => k v2 H2 d2 s2 (st1.trans st2)⟩
theorem dcall0 (F : FnOk X.prog X.w X.K X.mg X.base CX0 k f fd ps (lSp X.K sp)) (hr : Room k X.A) (hm : X.mg x = some (.ref f)) (hk : PySem.W.keepIn X.K (.ref f) = true) (hb : Binds X.K fd ps ds) (hd : Vals dvs ds) (hdd : ∀ s H, DatL X.K s H dvs dds)
    (hg : Gl X x := by rfl) (hdb : (x == ("__debug__" : Str)) = false := by decide) :
    PD A X (.Call (.Name x p) [] [] pos) (dCall sp dds dNil) := peImp (pe_call0 F hr hg hm hk hb hd pass0 hdb) fun σ H Q h => by
  obtain ⟨δ, s, Q', S, t, k⟩ := h
  exact lSp_of S.rep (hdd s H) t fun v2 H2 d2 s2 st2 => k v2 H2 d2 s2 st2
theorem dmeth {pl : Sem Bool} (ho : PD A X o to) (c : Cls X.K C) (hm : Meth X.K C m f) (F : FnOk X.prog X.w X.K X.mg X.base CX0 k f fd ps (lSp X.K sp)) (hr : Room k X.A) (hb : Binds X.K fd ps ds) (hd : Vals dvs ds) (hdd : ∀ s H, DatL X.K s H dvs dds) (ha : PAd A X (e :: es) t)
    (hst : starEach (e :: es) X.env = (false, eval e X.env) :: starEach es X.env := by rfl) (hpl : (backTo pos (starEach es X.env)).any (·.1) = false := by rfl)
    (ht : eval (.Call (.Attribute o m apos) (e :: es) [] pos) X.env = (do
      let ov ← eval o X.env
      standAt apos.atName
      let (f, first) ← holding [ov] (getMethod ov m pl)
      callWith pos f first (backTo pos (starEach (e :: es) X.env)) (backToKw pos (keywordEach [] X.env))) := by rfl) :
    PD A X (.Call (.Attribute o m apos) (e :: es) [] pos) (dMeth C m sp dds to t) := peImp (pe_meth ho c hm F hr hb hd pass0 ha hst hpl ht) fun σ H Q h => by
  obtain ⟨δ, s, Q', S, t, k⟩ := h
  refine ⟨δ, s, _, S, t, fun v H1 d s1 st1 rep1 dv q => ?_⟩
  unfold kMeth at q
  split at q
  · rename_i a
    cases dv
    split at q
    · rename_i C' fs e
      obtain ⟨rfl, hl, q⟩ := q
      obtain ⟨dx, gs, h1, hp⟩ := rep1 a _ e
      refine ⟨a, dx, gs, rfl, h1, (lookP m hp).1 hl, δ, s1, _, S.go st1 rep1, q, fun vs H2 es s2 st2 rep2 dvv q2 => ?_⟩
      exact lSp_of rep2 (.cons (.ref a) (dvv.append (hdd s2 H2))) q2 fun v3 H3 d3 s3 st3 => k v3 H3 d3 s3 ((st1.trans st2).trans st3)
    · exact False.elim q
  · exact False.elim q
theorem dmeth0 {pl : Sem Bool} (ho : PD A X o to) (c : Cls X.K C) (hm : Meth X.K C m f) (F : FnOk X.prog X.w X.K X.mg X.base CX0 k f fd ps (lSp X.K sp)) (hr : Room k X.A) (hb : Binds X.K fd ps ds) (hd : Vals dvs ds) (hdd : ∀ s H, DatL X.K s H dvs dds)
    (ht : eval (.Call (.Attribute o m apos) [] [] pos) X.env = (do
      let ov ← eval o X.env
      standAt apos.atName
      let (f, first) ← holding [ov] (getMethod ov m pl)
      callWith pos f first (backTo pos (starEach [] X.env)) (backToKw pos (keywordEach [] X.env))) := by rfl) :
    PD A X (.Call (.Attribute o m apos) [] [] pos) (dMeth C m sp dds to dNil) := peImp (pe_meth0 ho c hm F hr hb hd pass0 ht) fun σ H Q h => by
  obtain ⟨δ, s, Q', S, t, k⟩ := h
  refine ⟨δ, s, _, S, t, fun v H1 d s1 st1 rep1 dv q => ?_⟩
  unfold kMeth at q
  split at q
  · rename_i a
    cases dv
    split at q
    · rename_i C' fs e
      obtain ⟨rfl, hl, q⟩ := q
      obtain ⟨dx, gs, h1, hp⟩ := rep1 a _ e
      refine ⟨a, dx, gs, rfl, h1, (lookP m hp).1 hl, ?_⟩
      exact lSp_of rep1 (.cons (.ref a) (hdd s1 H1)) q fun v3 H3 d3 s3 st3 => k v3 H3 d3 s3 (st1.trans st3)
    · exact False.elim q
  · exact False.elim q
theorem made_ok {K : PySem.W.Frag} {s : Sto} {H : Hp} {x dx : Addr} (rep : Rep K s H) (hx : H x = none) (hdx : H dx = none) (ne : dx ≠ x) :
    Stp s H (up s x (.ins C [])) (upd (upd H dx (.own x)) x (.ins C dx [])) ∧ Rep K (up s x (.ins C [])) (upd (upd H dx (.own x)) x (.ins C dx [])) := by
  have hx' : upd H dx (.own x) x = none := by rw [upd_ne (Ne.symm ne)]; exact hx
  have st1 : Stp s H s (upd H dx (.own x)) := Stp.newF hdx
  have st2 : Stp s (upd H dx (.own x)) (up s x (.ins C [])) (upd (upd H dx (.own x)) x (.ins C dx [])) := Stp.new hx'
  exact ⟨st1.trans st2, (rep.newF hdx).put st2 ⟨dx, [], upd_same, .nil⟩⟩
theorem dmake (M : Mk X.K C f) (F : FnOk X.prog X.w X.K X.mg X.base CX0 k f fd ps (lSp X.K sp)) (hr : Room (k + 1) X.A) (hm : X.mg x = some (.ref C)) (hb : Binds X.K fd ps ds) (hd : Vals dvs ds) (hdd : ∀ s H, DatL X.K s H dvs dds)
    (ha : PAd A X (e :: es) t) (hg : Gl X x := by rfl) (hdb : (x == ("__debug__" : Str)) = false := by decide) (he : starEach (e :: es) X.env = (false, eval e X.env) :: starEach es X.env := by rfl) (hpl : (backTo pos (starEach es X.env)).any (·.1) = false := by rfl) :
    PD A X (.Call (.Name x p) (e :: es) [] pos) (dMake C sp dds t) := peImp (pe_make M F hr hg hm hb hd pass0 ha hdb he hpl) fun σ H Q h => by
  obtain ⟨δ, s, Q', S, t, k⟩ := h
  refine ⟨δ, s, _, S, t, fun vs H1 es s1 st1 rep1 dv q y dy hy hdy ne => ?_⟩
  obtain ⟨st2, rep2⟩ := made_ok (C := C) rep1 hy hdy ne
  refine lSp_of rep2 (.cons (.ref y) ((dv.step st2 rep1).append (hdd _ _))) (q y (rep1.fresh hy)) fun v3 H3 d3 s3 st3 rep3 dv3 q3 => ?_
  obtain ⟨rfl, q3⟩ := q3
  exact ⟨dv3.nonInv, k _ H3 _ s3 ((st1.trans st2).trans st3) rep3 (.ref y) q3⟩
theorem dmake0 (M : Mk X.K C f) (F : FnOk X.prog X.w X.K X.mg X.base CX0 k f fd ps (lSp X.K sp)) (hr : Room (k + 1) X.A) (hm : X.mg x = some (.ref C)) (hb : Binds X.K fd ps ds) (hd : Vals dvs ds) (hdd : ∀ s H, DatL X.K s H dvs dds)
    (hg : Gl X x := by rfl) (hdb : (x == ("__debug__" : Str)) = false := by decide) :
    PD A X (.Call (.Name x p) [] [] pos) (dMake C sp dds dNil) := peImp (pe_make0 M F hr hg hm hb hd pass0 hdb) fun σ H Q h => by
  obtain ⟨δ, s, Q', S, t, k⟩ := h
  intro y dy hy hdy ne
  obtain ⟨st2, rep2⟩ := made_ok (C := C) S.rep hy hdy ne
  refine lSp_of rep2 (.cons (.ref y) (hdd _ _)) (t y (S.rep.fresh hy)) fun v3 H3 d3 s3 st3 rep3 dv3 q3 => ?_
  obtain ⟨rfl, q3⟩ := q3
  exact ⟨dv3.nonInv, k _ H3 _ s3 (st2.trans st3) rep3 (.ref y) q3⟩
/-- keywords -/
abbrev PKd (A : Anc) (X : Cx) (kws : List Keyword) (t : TAd) : Prop := PK X kws (lA X.K A t)
theorem pkImp {t t' : TA} (h : PK X kws t) (w : ∀ σ H Q, t' σ H Q → t σ H Q) : PK X kws t' := ⟨fun pos pins s σ H Q I q => h.run pos pins s σ H Q I (w _ _ _ q)⟩
theorem dkn : PKd A X [] dNil := pkImp pk_nil fun σ H Q h => by
  obtain ⟨δ, s, Q', S, t, k⟩ := h
  exact k [] H [] s (Stp.refl s H) S.rep .nil t
theorem dkc {nm : Option Str} (ha : PD A X e te) (hr : PKd A X kws tk) : PKd A X (⟨nm, e, kpos⟩ :: kws) (dCons te tk) := pkImp (pk_cons ha hr) fun σ H Q h => by
  obtain ⟨δ, s, Q', S, t, k⟩ := h
  refine ⟨δ, s, _, S, t, fun v H1 d s1 st1 rep1 dv q1 => ?_⟩
  refine ⟨δ, s1, _, S.go st1 rep1, q1, fun vs H2 ds s2 st2 rep2 dvs q2 => ?_⟩
  exact k (v :: vs) H2 (d :: ds) s2 (st1.trans st2) rep2 (.cons (dv.step st2 rep1) dvs) q2
variable {n : Nat} {g : List Value → List Value → List Value} {gV : List V → List V → List V} {gD : List DV → List DV → List DV}
theorem dcallK (F : FnOk X.prog X.w X.K X.mg X.base CX0 k f fd ps (lSp X.K sp)) (hr : Room k X.A) (hm : X.mg x = some (.ref f)) (hk : PySem.W.keepIn X.K (.ref f) = true) (hb : KBn X.K fd ps n ks g gV) (hgD : ∀ s H vs es zs us, DatL X.K s H vs es → DatL X.K s H zs us → DatL X.K s H (gV vs zs) (gD es us))
    (ha : PAd A X (e :: es) t) (hkw : PKd A X kws tk) (hg : Gl X x := by rfl) (hall : (backToKw pos (keywordEach kws X.env)).all (·.1.isSome) = true := by rfl) (hks : (backToKw pos (keywordEach kws X.env)).filterMap (·.1) = ks := by rfl)
    (hdb : (x == ("__debug__" : Str)) = false := by decide) (he : starEach (e :: es) X.env = (false, eval e X.env) :: starEach es X.env := by rfl)
    (hpl : ((backTo pos (starEach (e :: es) X.env)).any (·.1) || (backToKw pos (keywordEach kws X.env)).any (·.1.isNone)) = false := by rfl) :
    PD A X (.Call (.Name x p) (e :: es) kws pos) (dCallK sp n ks.length gD t tk) := peImp (pe_callN F hr hg hm hk hb pass0 ha hkw hall hks hdb he hpl) fun σ H Q h => by
  obtain ⟨δ, s, Q', S, t, k⟩ := h
  refine ⟨δ, s, _, S, t, fun vs H1 es s1 st1 rep1 dv q => ?_⟩
  refine ⟨δ, s1, _, S.go st1 rep1, q, fun zs H2 us s2 st2 rep2 dvz q2 => ⟨by rw [dv.length]; exact q2.1.1, by rw [dvz.length]; exact q2.1.2, ?_⟩⟩
  exact lSp_of rep2 (hgD _ _ _ _ _ _ (dv.step st2 rep1) dvz) q2.2 fun v3 H3 d3 s3 st3 => k v3 H3 d3 s3 ((st1.trans st2).trans st3)
theorem dmakeK (M : Mk X.K C f) (F : FnOk X.prog X.w X.K X.mg X.base CX0 k f fd ps (lSp X.K sp)) (hr : Room (k + 1) X.A) (hm : X.mg x = some (.ref C)) (hb : KBn X.K fd ps (n + 1) ks g gV) (hgD : ∀ s H vs es zs us, DatL X.K s H vs es → DatL X.K s H zs us → DatL X.K s H (gV vs zs) (gD es us))
    (ha : PAd A X (e :: es) t) (hkw : PKd A X kws tk) (hg : Gl X x := by rfl) (hall : (backToKw pos (keywordEach kws X.env)).all (·.1.isSome) = true := by rfl) (hks : (backToKw pos (keywordEach kws X.env)).filterMap (·.1) = ks := by rfl) (hdb : (x == ("__debug__" : Str)) = false := by decide)
    (he : starEach (e :: es) X.env = (false, eval e X.env) :: starEach es X.env := by rfl) (hpl : ((backTo pos (starEach (e :: es) X.env)).any (·.1) || (backToKw pos (keywordEach kws X.env)).any (·.1.isNone)) = false := by rfl) :
    PD A X (.Call (.Name x p) (e :: es) kws pos) (dMakeK C sp n ks.length gD t tk) := peImp (pe_makeK M F hr hg hm hb pass0 ha hkw hall hks hdb he hpl) fun σ H Q h => by
  obtain ⟨δ, s, Q', S, t, k⟩ := h
  refine ⟨δ, s, _, S, t, fun vs H1 es s1 st1 rep1 dv q => ?_⟩
  refine ⟨δ, s1, _, S.go st1 rep1, q, fun zs H2 us s2 st2 rep2 dvz q2 => ⟨by rw [dv.length]; exact q2.1.1, by rw [dvz.length]; exact q2.1.2, fun y dy hy hdy ne => ?_⟩⟩
  obtain ⟨st3, rep3⟩ := made_ok (C := C) rep2 hy hdy ne
  refine lSp_of rep3 (hgD _ _ _ _ _ _ (.cons (.ref y) ((dv.step st2 rep1).step st3 rep2)) (dvz.step st3 rep2)) (q2.2 y (rep2.fresh hy)) fun v4 H4 d4 s4 st4 rep4 dv4 q4 => ?_
  obtain ⟨rfl, q4⟩ := q4
  exact ⟨dv4.nonInv, k _ H4 _ s4 (((st1.trans st2).trans st3).trans st4) rep4 (.ref y) q4⟩
theorem dmakeK0 (M : Mk X.K C f) (F : FnOk X.prog X.w X.K X.mg X.base CX0 k f fd ps (lSp X.K sp)) (hr : Room (k + 1) X.A) (hm : X.mg x = some (.ref C)) (hb : KBn X.K fd ps 1 ks g gV) (hgD : ∀ s H vs es zs us, DatL X.K s H vs es → DatL X.K s H zs us → DatL X.K s H (gV vs zs) (gD es us))
    (hkw : PKd A X kws tk) (hg : Gl X x := by rfl) (hall : (backToKw pos (keywordEach kws X.env)).all (·.1.isSome) = true := by rfl) (hks : (backToKw pos (keywordEach kws X.env)).filterMap (·.1) = ks := by rfl) (hdb : (x == ("__debug__" : Str)) = false := by decide)
    (hpl : ((backTo pos (starEach [] X.env)).any (·.1) || (backToKw pos (keywordEach kws X.env)).any (·.1.isNone)) = false := by rfl) :
    PD A X (.Call (.Name x p) [] kws pos) (dMakeK C sp 0 ks.length gD dNil tk) := peImp (pe_makeK0 M F hr hg hm hb pass0 hkw hall hks hdb hpl) fun σ H Q h => by
  obtain ⟨δ, s, Q', S, t, k⟩ := h
  refine ⟨δ, s, _, S, t, fun zs H2 us s2 st2 rep2 dvz q2 => ⟨rfl, by rw [dvz.length]; exact q2.1.2, fun y dy hy hdy ne => ?_⟩⟩
  obtain ⟨st3, rep3⟩ := made_ok (C := C) rep2 hy hdy ne
  refine lSp_of rep3 (hgD _ _ _ _ _ _ (.cons (.ref y) .nil) (dvz.step st3 rep2)) (q2.2 y (rep2.fresh hy)) fun v4 H4 d4 s4 st4 rep4 dv4 q4 => ?_
  obtain ⟨rfl, q4⟩ := q4
  exact ⟨dv4.nonInv, k _ H4 _ s4 ((st2.trans st3).trans st4) rep4 (.ref y) q4⟩
variable {fl : Str}
theorem dfld (T : Cls X.K C) (nf : NoAttr X.K C fl) (he : PD A X e te) (hb : attributeBase e fl X.env (eval e X.env) = eval e X.env := by rfl) : PD A X (.Attribute e fl pos) (dFld C fl te) := peImp (pe_fld he hb) fun σ H Q h => by
  obtain ⟨δ, s, Q', S, t, k⟩ := h
  refine ⟨δ, s, _, S, t, fun v H1 d s1 st1 rep1 dv q => ?_⟩
  unfold kFld at q
  split at q
  · rename_i a
    cases dv
    split at q
    · rename_i C' fs e
      obtain ⟨rfl, q⟩ := q
      split at q
      · rename_i d el
        obtain ⟨dx, gs, h1, hp⟩ := rep1 a _ e
        obtain ⟨v2, h2, dv2⟩ := (lookP fl hp).2 d el
        exact ⟨a, _, dx, gs, v2, rfl, h1, T, nf, h2, k v2 H1 d s1 st1 rep1 dv2 q⟩
      · exact False.elim q
    · exact False.elim q
  · exact False.elim q
theorem ins_put {K : PySem.W.Frag} {s : Sto} {H : Hp} {a dx : Addr} {fs : List (Str × DV)} {gs : List (Str × V)} {v : V} {d : DV} (rep : Rep K s H) (e : s a = some (.ins C fs)) (h1 : H a = some (.ins C dx gs)) (hp : DatP K s H gs fs) (dv : Dat K s H v d) :
    Stp s H (up s a (.ins C (putFD fl d fs))) (upd H a (.ins C dx (putF fl v gs))) ∧ Rep K (up s a (.ins C (putFD fl d fs))) (upd H a (.ins C dx (putF fl v gs))) := by
  have st : Stp s H (up s a (.ins C (putFD fl d fs))) (upd H a (.ins C dx (putF fl v gs))) := Stp.wr (by rw [e]; trivial)
  exact ⟨st, rep.put st ⟨dx, _, upd_same, (putF_ok dv hp).step st rep⟩⟩
theorem dssetfld {pos' : Pos} (T : Cls X.K C) (nf : NoAttr X.K C fl) (ha : PD A X o to) (hv : PD A X e tv) (hs : swapsWith e (some (.Attribute o fl pos')) pos.line X.env = pure false := by rfl) : PSd A X (.Assign [.Attribute o fl pos'] e pos) (dSetFld C fl to tv) := psImp (ps_fld ha hv hs) fun D σ H h => by
  obtain ⟨δ, s, D', S, t, L⟩ := h
  refine ⟨δ, s, _, S, t, fun v H1 d s1 st1 rep1 dv q => ?_⟩
  have S1 := S.go st1 rep1
  refine ⟨δ, s1, _, S1, q, fun v2 H2 d2 s2 st2 rep2 dv2 q => ?_⟩
  unfold kSetFld2 at q
  split at q
  · rename_i a
    cases dv2
    split at q
    · rename_i C' fs e
      obtain ⟨rfl, hl, q⟩ := q
      obtain ⟨dx, gs, h1, hp⟩ := rep2 a _ e
      obtain ⟨st3, rep3⟩ := ins_put (fl := fl) rep2 e h1 hp (dv.step st2 rep1)
      exact ⟨a, _, dx, gs, rfl, h1, T, nf, by rw [Paired.length' hp]; exact hl, L.nx σ _ δ _ ((S1.go st2 rep2).go st3 rep3) q⟩
    · exact False.elim q
  · exact False.elim q
theorem dsaugfld {tpos : Pos} {op : Operator} {gI : Int → Int → Int} {j : Int} (T : Cls X.K C) (nf : NoAttr X.K C fl) (hop : InOp X op (fun x y H Q => ∃ i j, x = .int i ∧ y = .int j ∧ Q (.int (gI i j)) H)) (ha : PD A X o to) (hv : PE X e (tC (.int j))) :
    PSd A X (.AugAssign (.Attribute o fl tpos) op e pos) (dAugFld C fl (fun i => gI i j) to) := psImp (ps_fldaug ha hv hop) fun D σ H h => by
  obtain ⟨δ, s, D', S, t, L⟩ := h
  refine ⟨δ, s, _, S, t, fun v H1 d s1 st1 rep1 dv q => ?_⟩
  have S1 := S.go st1 rep1
  unfold kAugFld at q
  split at q
  · rename_i a
    cases dv
    split at q
    · rename_i C' fs e
      obtain ⟨rfl, q⟩ := q
      split at q
      · rename_i i el
        obtain ⟨hl, q⟩ := q
        obtain ⟨dx, gs, h1, hp⟩ := rep1 a _ e
        obtain ⟨v2, h2, dv2⟩ := (lookP fl hp).2 _ el
        cases dv2
        obtain ⟨st4, rep4⟩ := ins_put (fl := fl) (v := V.int (gI i j)) (d := DV.int (gI i j)) rep1 e h1 hp (.int _)
        exact ⟨a, _, dx, gs, _, rfl, h1, T, nf, h2, i, j, rfl, rfl, dx, gs, h1, by rw [Paired.length' hp]; exact hl, L.nx σ _ δ _ (S1.go st4 rep4) q⟩
      · exact False.elim q
    · exact False.elim q
  · exact False.elim q
end

/-! ### x += e at a name; a written dict -/
def kAugN2 (i : Nat) (D : EndsD) (δ : Ed) (z : DV) (s2 : Sto) : Prop := D.nx (δ.set i (some z)) s2
def kAugN1 (i : Nat) (r : R2d) (x : DV) (D : EndsD) (δ : Ed) (y : DV) (s1 : Sto) : Prop := r x y s1 (kAugN2 i D δ)
def dAugN (i : Nat) (r : R2d) (te : TEd) (D : EndsD) (δ : Ed) (s : Sto) : Prop := match δ.getD i none with
  | some x => te δ s (kAugN1 i r x D δ)
  | none => False
def dIpAdd (x y : DV) (s : Sto) (Q : KD) : Prop := match x, y with
  | .int i, .int j => Q (.int (i + j)) s
  | _, _ => False
section
variable {X : Cx} {A : Anc} {e : Expr} {te : TEd} {r : R2d} {pos pos' : Pos}
theorem ipd_add : PIp X .Add (lR X.K dIpAdd) := fun pins s σ H x y v u Q I rx ry q => ip_add pins s σ H x y v u Q I rx ry (by
  obtain ⟨dx, dy, s, Q', rep, hx, hy, r, k⟩ := q
  unfold dIpAdd at r
  split at r
  · cases hx; cases hy
    exact ⟨_, _, rfl, rfl, k _ H _ s (Stp.refl s H) rep (.int _) r⟩
  · exact r.elim)
theorem dsaug {i : Nat} {x : Str} {op : Operator} (hN : X.N.Nodup) (hi : X.N[i]? = some x) (hx : Loc X.env.scope x) (he : PD A X e te) (ho : PIp X op (lR X.K r)) (hf : X.fn x = true ∨ X.env.scope.names.lookup x = some .local := by first | exact .inl rfl | exact .inr rfl | assumption) :
    PSd A X (.AugAssign (.Name x pos') op e pos) (dAugN i r te) := psImp (ps_aug hN hi hx he ho hf) fun D σ H h => by
  obtain ⟨δ, s, D', S, t, L⟩ := h
  unfold dAugN at t
  split at t
  · rename_i d ed
    have e2 : δ[i]? = some (some d) := by
      rw [List.getD_eq_getElem?_getD] at ed
      cases q : δ[i]? with
      | none => rw [q] at ed; cases ed
      | some o => rw [q] at ed; exact congrArg some ed
    obtain ⟨v, h1, h2⟩ := S.env.at_ i d e2
    refine ⟨v, h1, δ, s, _, S, t, fun v2 H2 d2 s2 st2 rep2 dv2 q => ?_⟩
    refine ⟨d, d2, s2, _, rep2, h2.step st2 S.rep, dv2, q, fun v3 H3 d3 s3 st3 rep3 dv3 q3 => ?_⟩
    have S3 := (S.go st2 rep2).go st3 rep3
    exact L.nx _ H3 _ s3 ⟨S3.stp, S3.rep, S3.env.set dv3 i⟩ q3
  · exact False.elim t
end
/-- a written dict: the pairs' values, in order, the dict hidden meanwhile -/
def kPair3 (Q : List (DV × DV) → Sto → Prop) (x y : DV) (ps : List (DV × DV)) (s3 : Sto) : Prop := Q ((x, y) :: ps) s3
def kPair2 (rest : Ed → Sto → (List (DV × DV) → Sto → Prop) → Prop) (δ : Ed) (Q : List (DV × DV) → Sto → Prop) (x y : DV) (s2 : Sto) : Prop := rest δ s2 (kPair3 Q x y)
def kPair1 (tv : TEd) (rest : Ed → Sto → (List (DV × DV) → Sto → Prop) → Prop) (δ : Ed) (Q : List (DV × DV) → Sto → Prop) (x : DV) (s1 : Sto) : Prop := tv δ s1 (kPair2 rest δ Q x)
def dPairs : List (TEd × TEd) → Ed → Sto → (List (DV × DV) → Sto → Prop) → Prop
  | [], _, s, Q => Q [] s
  | (tk, tv) :: r, δ, s, Q => tk δ s (kPair1 tv (dPairs r) δ Q)
def keysD : List (DV × DV) → Option (List (Key × DV))
  | [] => some []
  | (x, y) :: r => match keyD x, keysD r with
    | some k, some ks => some ((k, y) :: ks)
    | _, _ => none
def mergeP (ks more : List (Key × DV)) : List (Key × DV) := more.foldl (fun acc kv => putP acc kv.1 kv.2) ks
def kDisp (p : Addr) (Q : KD) (ps : List (DV × DV)) (s2 : Sto) : Prop := match keysD ps with
  | some ks => ks.length ≤ 15 ∧ Q (.ref p) (up s2 p (.dK (mergeP [] ks)))
  | none => False
def dDisp (trs : List (TEd × TEd)) (δ : Ed) (s : Sto) (Q : KD) : Prop := ∀ p, s p = none → dPairs trs δ (up s p .hid) (kDisp p Q)
end DL

set_option Elab.async false
set_option linter.all false
set_option maxRecDepth 100000
set_option maxHeartbeats 4000000
namespace DL
open PySem PySem.Spec PyProof.Rows L2

/-! ### what is never reached -/
def dDead (_ : EndsD) (_ : Ed) (_ : Sto) : Prop := False
theorem dsdead {A : Anc} {X : Cx} {st : Stmt} : PSd A X st dDead := ⟨fun pins s σ H D I h => by
  obtain ⟨δ, s, D', S, t, L⟩ := h
  exact False.elim t⟩
theorem dssdead {A : Anc} {X : Cx} {st : List Stmt} : PSsd A X st dDead := ⟨fun pins s σ H D I h => by
  obtain ⟨δ, s, D', S, t, L⟩ := h
  exact False.elim t⟩
def dDeadE (_ : Ed) (_ : Sto) (_ : KD) : Prop := False
theorem ddeadE {A : Anc} {X : Cx} {e : Expr} : PD A X e dDeadE := ⟨fun pins s σ H Q I h => by
  obtain ⟨δ, s, Q', S, t, L⟩ := h
  exact False.elim t⟩

/-! ### and, or, not as values (truths) -/
def kAndE (tb : TEd) (δ : Ed) (Q : KD) (d : DV) (s1 : Sto) : Prop := match d with
  | .bl true => tb δ s1 Q
  | .bl false => Q (.bl false) s1
  | _ => False
def dAndE (ta tb : TEd) (δ : Ed) (s : Sto) (Q : KD) : Prop := ta δ s (kAndE tb δ Q)
def kOrE (tb : TEd) (δ : Ed) (Q : KD) (d : DV) (s1 : Sto) : Prop := match d with
  | .bl false => tb δ s1 Q
  | .bl true => Q (.bl true) s1
  | _ => False
def dOrE (ta tb : TEd) (δ : Ed) (s : Sto) (Q : KD) : Prop := ta δ s (kOrE tb δ Q)
def kNotE (Q : KD) (d : DV) (s1 : Sto) : Prop := match d with
  | .bl b => Q (.bl (!b)) s1
  | _ => False
def dNotE (ta : TEd) (δ : Ed) (s : Sto) (Q : KD) : Prop := ta δ s (kNotE Q)
section
variable {A : Anc} {X : Cx} {a b : Expr} {rest : List Expr} {ta tb : TEd} {pos : Pos}
theorem deand1 {op : BoolOp} (ha : PD A X a ta) : PD A X (.BoolOp op [a] pos) ta := pe_one ha
theorem deand (ha : PD A X a ta) (hb : PD A X (.BoolOp .And (b :: rest) pos) tb) : PD A X (.BoolOp .And (a :: b :: rest) pos) (dAndE ta tb) := peImp (pe_and ha hb) fun σ H Q h => by
  obtain ⟨δ, s, Q', S, t, k⟩ := h
  refine ⟨δ, s, _, S, t, fun v H1 d s1 st1 rep1 dv q => ?_⟩
  cases d with
  | bl c =>
    refine ⟨c, dv.blInv, ?_⟩
    cases c with
    | true => exact iteT ⟨δ, s1, _, S.go st1 rep1, q, fun v2 H2 d2 s2 st2 => k v2 H2 d2 s2 (st1.trans st2)⟩
    | false => exact iteF (k _ H1 _ s1 st1 rep1 (.bl false) q)
  | _ => exact False.elim q
theorem deor (ha : PD A X a ta) (hb : PD A X (.BoolOp .Or (b :: rest) pos) tb) : PD A X (.BoolOp .Or (a :: b :: rest) pos) (dOrE ta tb) := peImp (pe_or ha hb) fun σ H Q h => by
  obtain ⟨δ, s, Q', S, t, k⟩ := h
  refine ⟨δ, s, _, S, t, fun v H1 d s1 st1 rep1 dv q => ?_⟩
  cases d with
  | bl c =>
    refine ⟨c, dv.blInv, ?_⟩
    cases c with
    | true => exact iteT (k _ H1 _ s1 st1 rep1 (.bl true) q)
    | false => exact iteF ⟨δ, s1, _, S.go st1 rep1, q, fun v2 H2 d2 s2 st2 => k v2 H2 d2 s2 (st1.trans st2)⟩
  | _ => exact False.elim q
theorem denot (ha : PD A X a ta) : PD A X (.UnaryOp .Not a pos) (dNotE ta) := peImp (pe_not ha) fun σ H Q h => by
  obtain ⟨δ, s, Q', S, t, k⟩ := h
  refine ⟨δ, s, _, S, t, fun v H1 d s1 st1 rep1 dv q => ?_⟩
  cases d with
  | bl c => exact ⟨c, dv.blInv, k _ H1 _ s1 st1 rep1 (.bl _) q⟩
  | _ => exact False.elim q
end

/-! ### y = [..] where the store swaps -/
section
variable {X : Cx} {A : Anc} {tg iter elt : Expr} {ifs : List Expr} {scope : Scope} {own : List (Str × Nat)} {it : TId} {g : TG} {g' : TGd} {tt : TTd} {te : TEd} {sl : List Nat} {pos spos py : Pos} {i : Nat} {y : Str}
theorem dssetLc (hc : X.calm = true) (hN : X.N.Nodup) (hy : X.N[i]? = some y) (hyl : X.env.scope.names.lookup y = some .local) (hsw : swapsWith (.ListComp elt [⟨tg, iter, ifs, 0⟩] scope pos) (some (.Name y py)) spos.line X.env = pure true)
    (hi : PId A X tg iter it) (ok : BlkOk X.N X.env.scope scope own) (mg : GMono g) (hp : PatOk X.K g g' sl) (hsl : ∀ i ∈ sl, i ∈ own.map (·.2))
    (hg : ∀ (s : Shared) (H : Hp) (C : Addr) (cl : List (Str × Addr)) (fp : List Addr), PG (X.blk s H scope (compEnvC scope cl C X.env) fp) tg g)
    (ht : ∀ (s : Shared) (H : Hp) (C : Addr) (cl : List (Str × Addr)) (fp : List Addr), PTsd A (X.blk s H scope (compEnvC scope cl C X.env) fp) ifs tt)
    (he : ∀ (s : Shared) (H : Hp) (C : Addr) (cl : List (Str × Addr)) (fp : List Addr), PD A (X.blk s H scope (compEnvC scope cl C X.env) fp) elt te) (hs : ∀ x, foldedSetIterable iter X.env x = pure x := by intro _; rfl) :
    PSd A X (.Assign [.Name y py] (.ListComp elt [⟨tg, iter, ifs, 0⟩] scope pos) spos) (dAsg (dLc it g' tt te (own.map (·.2))) (gNameD i)) := psImp (ps_setLc hc hN hy hyl hsw hi ok hg ht he hs) fun D σ H h => by
  obtain ⟨δ, s, D', S, t, L⟩ := h
  refine lc_run mg hp hsl S t fun Dd acc s1 H1 s2 H2 st1 hD st2 Le q => ?_
  obtain ⟨a, b, c⟩ := Le.lst st2 hD
  exact L.nx _ H2 _ _ ⟨S.stp.trans (st1.trans a), b, (S.env.step (st1.trans a) S.rep).set c i⟩ q
theorem dssetLcM (hc : X.calm = true) (hN : X.N.Nodup) (hy : X.N[i]? = some y) (hyl : X.env.scope.names.lookup y = some .local) (hsw : swapsWith (.ListComp elt [⟨tg, iter, ifs, 0⟩] scope pos) (some (.Name y py)) spos.line X.env = pure true)
    (hi : PId A X tg iter it) (ok : BlkOk X.N X.env.scope scope own) (mg : GMono g) (hp : PatOk X.K g g' sl) (hsl : ∀ i ∈ sl, i ∈ own.map (·.2))
    (hg : ∀ (s : Shared) (H : Hp) (C : Addr) (cl : List (Str × Addr)) (fp : List Addr), PG (X.blk s H scope (compEnvC scope cl C X.env) fp) tg g)
    (ht : ∀ (s : Shared) (H : Hp) (C : Addr) (cl : List (Str × Addr)) (fp : List Addr), PTsd A (X.blk s H scope (compEnvC scope cl C X.env) fp) ifs tt)
    (he : ∀ (s : Shared) (H : Hp) (C : Addr) (cl : List (Str × Addr)) (fp : List Addr), PD A (X.blk s H scope (compEnvC scope cl C X.env) fp) elt te) (hs : ∀ x, foldedSetIterable iter X.env x = pure x := by intro _; rfl) :
    PSd A X (.Assign [.Name y py] (.ListComp elt [⟨tg, iter, ifs, 0⟩] scope pos) spos) (dAsg (dLcM it g' tt te (own.map (·.2))) (gNameD i)) := psImp (ps_setLc hc hN hy hyl hsw hi ok hg ht he hs) fun D σ H h => by
  obtain ⟨δ, s, D', S, t, L⟩ := h
  refine lc_run mg hp hsl S t fun Dd acc s1 H1 s2 H2 st1 hD st2 Le q => ?_
  obtain ⟨a, b⟩ := Le.mut st2 hD
  exact L.nx _ H2 _ _ ⟨S.stp.trans (st1.trans a), b, (S.env.step (st1.trans a) S.rep).set (.ref Dd) i⟩ q
end

/-! ### a written dict -/
section
variable {X : Cx} {A : Anc}
inductive TrsD (K : PySem.W.Frag) (A : Anc) : List (TE × TE) → List (TEd × TEd) → Prop
  | nil : TrsD K A [] []
  | cons {tk tv : TEd} {trs : List (TE × TE)} {tds : List (TEd × TEd)} : TrsD K A trs tds → TrsD K A ((lE K A tk, lE K A tv) :: trs) ((tk, tv) :: tds)
def DatPP (K : PySem.W.Frag) (s : Sto) (H : Hp) : List (V × V) → List (DV × DV) → Prop := Paired fun p q => Dat K s H p.1 q.1 ∧ Dat K s H p.2 q.2
theorem pairs_run {K : PySem.W.Frag} {σ : L2.St} {δ : Ed} : ∀ {trs : List (TE × TE)} {tds : List (TEd × TEd)} {H : Hp} {s : Sto} {Q' : List (DV × DV) → Sto → Prop} {Q : List (V × V) → Hp → Prop}, TrsD K A trs tds → Sd K A σ H δ s → dPairs tds δ s Q' →
    (∀ vs H2 ds s2, Stp s H s2 H2 → Rep K s2 H2 → DatPP K s2 H2 vs ds → Q' ds s2 → Q vs H2) → tPairs trs σ H Q
  | _, _, H, s, Q', Q, .nil, S, t, k => k [] H [] s (Stp.refl s H) S.rep .nil t
  | _, _, H, s, Q', Q, .cons r, S, t, k => by
    refine ⟨δ, s, _, S, t, fun v H1 d s1 st1 rep1 dv q1 => ?_⟩
    refine ⟨δ, s1, _, S.go st1 rep1, q1, fun v2 H2 d2 s2 st2 rep2 dv2 q2 => ?_⟩
    refine pairs_run r ((S.go st1 rep1).go st2 rep2) q2 fun vs H3 ds s3 st3 rep3 dvs q3 => ?_
    exact k _ H3 _ s3 ((st1.trans st2).trans st3) rep3 (.cons ⟨(dv.step st2 rep1).step st3 rep2, dv2.step st3 rep2⟩ dvs) q3
theorem keys_ok {K : PySem.W.Frag} {s : Sto} {H : Hp} : ∀ {vs : List (V × V)} {ds : List (DV × DV)} {ks : List (Key × DV)}, DatPP K s H vs ds → keysD ds = some ks → ∃ kvs : List (Key × V), vs = kvs.map (fun kv => (kV kv.1, kv.2)) ∧ DatP K s H kvs ks
  | _, _, _, .nil, e => by cases e; exact ⟨[], rfl, .nil⟩
  | _, _, _, .cons (a := p) (b := q) (l₂ := rest) h t, e => by
    obtain ⟨q1, q2⟩ := q
    obtain ⟨p1, p2⟩ := p
    cases e1 : keyD q1 with
    | none => simp only [keysD, e1] at e; cases e
    | some k =>
      cases e2 : keysD rest with
      | none => simp only [keysD, e1, e2] at e; cases e
      | some ks =>
        simp only [keysD, e1, e2] at e
        cases e
        obtain ⟨kvs, h1, h2⟩ := keys_ok t e2
        exact ⟨(k, p2) :: kvs, by rw [h1]; show (p1, p2) :: _ = (kV k, p2) :: _; rw [show p1 = kV k from keyD_ok h.1 e1], .cons ⟨rfl, h.2⟩ h2⟩
theorem mergeP_ok {K : PySem.W.Frag} {s : Sto} {H : Hp} : ∀ {more : List (Key × V)} {mks : List (Key × DV)} {kvs : List (Key × V)} {ks : List (Key × DV)}, DatP K s H kvs ks → DatP K s H more mks → DatP K s H (mergeK kvs more) (mergeP ks mks)
  | _, _, _, _, h, .nil => h
  | _, _, kvs, ks, h, .cons (a := p) (b := q) h1 t => by
    show DatP K s H (mergeK (putK kvs p.1 p.2) _) (mergeP (putP ks q.1 q.2) _)
    refine mergeP_ok ?_ t
    rw [h1.1]
    exact putP_ok q.1 h1.2 h
theorem ddisp {pos : Pos} {keys : List (Option Expr)} {values : List Expr} {trs : List (TE × TE)} {tds : List (TEd × TEd)} (h : PPs X pos keys values trs) (r : TrsD X.K A trs tds) (hall : keys.all (·.isSome) = true := by rfl) (hl : keys.length = values.length := by rfl) (h0 : keys ≠ [] := by exact fun z => nomatch z)
    (h15 : keys.length ≤ 15 := by decide) : PD A X (.Dict keys values pos) (dDisp tds) := peImp (pe_disp h hall hl h0 h15) fun σ H Q h => by
  obtain ⟨δ, s, Q', S, t, k⟩ := h
  intro p hp
  have st1 : Stp s H (up s p .hid) (upd H p (.dK [])) := Stp.new hp
  have rep1 : Rep X.K (up s p .hid) (upd H p (.dK [])) := S.rep.put st1 ⟨_, upd_same⟩
  refine pairs_run r (S.go st1 rep1) (t p (S.rep.fresh hp)) fun vs H2 ds s2 st2 rep2 dvs q => ?_
  have hh := st2 p _ upd_same (.inr up_same)
  refine ⟨hh.1, ?_⟩
  unfold kDisp at q
  split at q
  · rename_i ks ek
    obtain ⟨kvs, h1, h2⟩ := keys_ok dvs ek
    have hlen : kvs.length = ks.length := Paired.length' h2
    refine ⟨kvs, h1, by rw [hlen]; exact q.1, ?_⟩
    have hs2 : s2 p = some .hid := hh.2.trans up_same
    have sub : ∀ a, s2 a = none → up s2 p (.dK (mergeP [] ks)) a = none := fun a e => by
      have ne : a ≠ p := fun z => by rw [z, hs2] at e; cases e
      rw [up_ne ne]; exact e
    have hidD : ∀ {v : V} {d : DV}, Dat X.K s2 H2 v d → Dat X.K (up s2 p (.dK (mergeP [] ks))) (upd H2 p (.dK (mergeK [] kvs))) v d := by
      -- nothing that is known leans on the hidden dict
      have tupP : ∀ {a : Addr} {xs : List V}, SqT X.K H2 a xs → SqT X.K (upd H2 p (.dK (mergeK [] kvs))) a xs := fun {a xs} h => by
        rcases h with (h | ⟨u, h⟩) | h
        · exact .inl (.inl (by rw [upd_ne (ne_of h hh.1 (fun z => nomatch z))]; exact h))
        · exact .inl (.inr ⟨u, by rw [upd_ne (ne_of h hh.1 (fun z => nomatch z))]; exact h⟩)
        · exact .inr h
      intro v d hd
      refine Dat.rec (motive_1 := fun v d _ => Dat X.K (up s2 p (.dK (mergeP [] ks))) (upd H2 p (.dK (mergeK [] kvs))) v d) (motive_2 := fun vs ds _ => DatL X.K (up s2 p (.dK (mergeP [] ks))) (upd H2 p (.dK (mergeK [] kvs))) vs ds)
        .non .bl .int .str .ty .ref (fun h _ l => .tup (tupP h) l) (fun {a xs ds} h n _ l => .lst (by rw [upd_ne (fun z => by rw [z, hs2] at n; cases n)]; exact h) (sub a n) l)
        (fun {a xs ds} h _ l => .scr (by
          rcases h with ⟨u, h⟩ | h
          · exact .inl ⟨u, by rw [upd_ne (ne_of h hh.1 (fun z => nomatch z))]; exact h⟩
          · exact .inr h) l) .nil (fun _ _ h t => .cons h t) hd
    have hidP : ∀ {κ : Type} {a : List (κ × V)} {b : List (κ × DV)}, DatP X.K s2 H2 a b → DatP X.K (up s2 p (.dK (mergeP [] ks))) (upd H2 p (.dK (mergeK [] kvs))) a b := fun {κ a b} h => by
      induction h with
      | nil => exact .nil
      | cons h t ih => exact .cons ⟨h.1, hidD h.2⟩ ih
    have hidL : ∀ {a : List V} {b : List DV}, DatL X.K s2 H2 a b → DatL X.K (up s2 p (.dK (mergeP [] ks))) (upd H2 p (.dK (mergeK [] kvs))) a b := fun {a} => by
      induction a with
      | nil => intro b h; cases h; exact .nil
      | cons x a ih => intro b h; cases h with | cons h t => exact .cons (hidD h) (ih t)
    refine k (.ref p) _ (.ref p) (up s2 p (.dK (mergeP [] ks))) ?_ ?_ (.ref p) q.2
    · intro a o ha hn
      have ne : a ≠ p := ne_of_none ha hp
      rw [upd_ne ne, up_ne ne]
      exact (st1.trans st2) a o ha hn
    · intro a m e
      by_cases z : a = p
      · subst z
        rw [up_same] at e; cases e
        exact ⟨_, upd_same, hidP (mergeP_ok .nil h2)⟩
      · rw [up_ne z] at e
        have ro := rep2 a m e
        cases m with
        | hid => obtain ⟨u, ro⟩ := ro; exact ⟨u, by rw [upd_ne z]; exact ro⟩
        | lst ds => obtain ⟨ys, ro, l⟩ := ro; exact ⟨ys, by rw [upd_ne z]; exact ro, hidL l⟩
        | dK ks => obtain ⟨ys, ro, l⟩ := ro; exact ⟨ys, by rw [upd_ne z]; exact ro, hidP l⟩
        | ins C fs => obtain ⟨dx, ys, ro, l⟩ := ro; exact ⟨dx, ys, by rw [upd_ne z]; exact ro, hidP l⟩
        | exc C fs =>
          obtain ⟨dx, ys, ro, l, hx, n⟩ := ro
          have nd : dx ≠ p := fun e => by rw [e, hs2] at n; cases n
          exact ⟨dx, ys, by rw [upd_ne z]; exact ro, hidP l, by rw [upd_ne nd]; exact hx, by rw [up_ne nd]; exact n⟩
  · exact False.elim q
theorem dppn {pos : Pos} : PPs X pos [] [] [] := pps_nil
theorem dppc {pos : Pos} {k v : Expr} {ks : List (Option Expr)} {vs : List Expr} {tk tv : TEd} {trs : List (TE × TE)} (hk : PD A X k tk) (hv : PD A X v tv) (hr : PPs X pos ks vs trs) : PPs X pos (some k :: ks) (v :: vs) ((lE X.K A tk, lE X.K A tv) :: trs) := pps_cons hk hv hr
end

/-! ### defs and classes as they stand -/
structure DefAt (K : PySem.W.Frag) (mg : Str → Option Value) (x : Str) (st : Stmt) (ps : List Str) : Prop where
  ex : ∃ f fd, Fun K x x st f fd ∧ mg x = some (.ref f) ∧ PySem.W.keepIn K (.ref f) = true ∧ Binds K fd ps []
/-- a def that keeps a promise -/
structure Fn (P : Program) (w : World) (K : PySem.W.Frag) (mg : Str → Option Value) (base : Heap) (x : Str) (k : Nat) (ps : List Str) (sp : Spd) : Prop where
  ex : ∃ f fd, FnOk P w K mg base CX0 k f fd ps (lSp K sp) ∧ mg x = some (.ref f) ∧ PySem.W.keepIn K (.ref f) = true ∧ Binds K fd ps []
/-- a method that keeps a promise -/
structure Mt (P : Program) (w : World) (K : PySem.W.Frag) (mg : Str → Option Value) (base : Heap) (C : Addr) (m : Str) (k : Nat) (ps : List Str) (sp : Spd) : Prop where
  ex : ∃ f fd, FnOk P w K mg base CX0 k f fd ps (lSp K sp) ∧ Meth K C m f ∧ Binds K fd ps []
structure MethAt (K : PySem.W.Frag) (C : Addr) (m qual : Str) (st : Stmt) (ps : List Str) : Prop where
  ex : ∃ f fd, Fun K m qual st f fd ∧ Meth K C m f ∧ Binds K fd ps []
section
variable {P : Program} {w : World} {K : PySem.W.Frag} {mg : Str → Option Value} {base : Heap}
theorem fnOk {x : Str} {st : Stmt} {N ps : List Str} {k : Nat} {sp : Spd} {t : TSd} (D : DefAt K mg x st ps) (S : FnScope N ps (defScope st)) (len : ∀ ds s Q E, sp ds s Q E → ds.length = ps.length)
    (hbody : ∀ (A : Anc) (f : Addr) (cdv : Value) (Ar : Around) (outer : List Env) (s : Shared) (H : Hp) (E : XK), Room k (Ar.deeper (envOfC x (defScope st) s.heap.objs.size f cdv)) →
      PSsd A (cxOf CX0 P w K mg base N x (defScope st) f cdv Ar outer s H E).nox (defBody st) t)
    (hread : ∀ ds s Q E, sp ds s Q E → t { nx := fun _ s => Q .non s, rt := Q } (startD N.length ds) s) : Fn P w K mg base x (k + 1) ps sp := by
  obtain ⟨f, fd, F, g, kp, b⟩ := D.ex
  exact ⟨f, fd, defOk F S len (fun A cdv Ar outer s H E hr => hbody A f cdv Ar outer s H E hr) hread, g, kp, b⟩
theorem mtOk {C : Addr} {m qual : Str} {st : Stmt} {N ps : List Str} {k : Nat} {sp : Spd} {t : TSd} (D : MethAt K C m qual st ps) (S : FnScope N ps (defScope st)) (len : ∀ ds s Q E, sp ds s Q E → ds.length = ps.length)
    (hbody : ∀ (A : Anc) (f : Addr) (cdv : Value) (Ar : Around) (outer : List Env) (s : Shared) (H : Hp) (E : XK), Room k (Ar.deeper (envOfC qual (defScope st) s.heap.objs.size f cdv)) →
      PSsd A (cxOf CX0 P w K mg base N qual (defScope st) f cdv Ar outer s H E).nox (defBody st) t)
    (hread : ∀ ds s Q E, sp ds s Q E → t { nx := fun _ s => Q .non s, rt := Q } (startD N.length ds) s) : Mt P w K mg base C m (k + 1) ps sp := by
  obtain ⟨f, fd, F, g, b⟩ := D.ex
  exact ⟨f, fd, defOk F S len (fun A cdv Ar outer s H E hr => hbody A f cdv Ar outer s H E hr) hread, g, b⟩
end
section
variable {X : Cx} {A : Anc} {k : Nat} {C : Addr} {ps : List Str} {sp : Spd} {x m : Str} {p pos apos : Pos} {e o : Expr} {es : List Expr} {te to : TEd} {t : TAd}
theorem dF (G : Fn X.prog X.w X.K X.mg X.base x k ps sp) (hr : Room k X.A) (ha : PAd A X (e :: es) t) (hg : Gl X x := by rfl) (hdb : (x == ("__debug__" : Str)) = false := by decide) (he : starEach (e :: es) X.env = (false, eval e X.env) :: starEach es X.env := by rfl)
    (hpl : (backTo pos (starEach es X.env)).any (·.1) = false := by rfl) : PD A X (.Call (.Name x p) (e :: es) [] pos) (dCall sp [] t) := by
  obtain ⟨f, fd, F, hm, hk, hb⟩ := G.ex
  exact dcall F hr hm hk hb .nil (fun _ _ => .nil) ha hg hdb he hpl
theorem dF0 (G : Fn X.prog X.w X.K X.mg X.base x k ps sp) (hr : Room k X.A) (hg : Gl X x := by rfl) (hdb : (x == ("__debug__" : Str)) = false := by decide) : PD A X (.Call (.Name x p) [] [] pos) (dCall sp [] dNil) := by
  obtain ⟨f, fd, F, hm, hk, hb⟩ := G.ex
  exact dcall0 F hr hm hk hb .nil (fun _ _ => .nil) hg hdb
theorem dM {pl : Sem Bool} (c : Cls X.K C) (G : Mt X.prog X.w X.K X.mg X.base C m k ps sp) (hr : Room k X.A) (ho : PD A X o to) (ha : PAd A X (e :: es) t)
    (hst : starEach (e :: es) X.env = (false, eval e X.env) :: starEach es X.env := by rfl) (hpl : (backTo pos (starEach es X.env)).any (·.1) = false := by rfl)
    (ht : eval (.Call (.Attribute o m apos) (e :: es) [] pos) X.env = (do
      let ov ← eval o X.env
      standAt apos.atName
      let (f, first) ← holding [ov] (getMethod ov m pl)
      callWith pos f first (backTo pos (starEach (e :: es) X.env)) (backToKw pos (keywordEach [] X.env))) := by rfl) : PD A X (.Call (.Attribute o m apos) (e :: es) [] pos) (dMeth C m sp [] to t) := by
  obtain ⟨f, fd, F, hm, hb⟩ := G.ex
  exact dmeth ho c hm F hr hb .nil (fun _ _ => .nil) ha hst hpl ht
theorem dM0 {pl : Sem Bool} (c : Cls X.K C) (G : Mt X.prog X.w X.K X.mg X.base C m k ps sp) (hr : Room k X.A) (ho : PD A X o to)
    (ht : eval (.Call (.Attribute o m apos) [] [] pos) X.env = (do
      let ov ← eval o X.env
      standAt apos.atName
      let (f, first) ← holding [ov] (getMethod ov m pl)
      callWith pos f first (backTo pos (starEach [] X.env)) (backToKw pos (keywordEach [] X.env))) := by rfl) : PD A X (.Call (.Attribute o m apos) [] [] pos) (dMeth C m sp [] to dNil) := by
  obtain ⟨f, fd, F, hm, hb⟩ := G.ex
  exact dmeth0 ho c hm F hr hb .nil (fun _ _ => .nil) ht
end
end DL

set_option Elab.async false
set_option linter.all false
set_option maxRecDepth 100000
set_option maxHeartbeats 4000000
namespace DL
open PySem PySem.Spec PyProof.Rows L2

/-- kept from the simplifier -/
structure Kp (p : Prop) : Prop where
  out : p
/-! ### for the simplifier -/
def refL : Option MO → Option (List DV)
  | some (.lst ds) => some ds
  | _ => none
theorem refL_lst {ds : List DV} : refL (some (.lst ds)) = some ds := rfl
theorem refL_dK {ds : List (Key × DV)} : refL (some (.dK ds)) = none := rfl
theorem refL_ins {C : Addr} {fs : List (Str × DV)} : refL (some (.ins C fs)) = none := rfl
theorem lstD_lst {s : Sto} {ds : List DV} : lstD s (.lst ds) = some ds := rfl
theorem lstD_scr {s : Sto} {ds : List DV} : lstD s (.scr ds) = some ds := rfl
theorem lstD_tup {s : Sto} {ds : List DV} : lstD s (.tup ds) = none := rfl
theorem lstD_str {s : Sto} {z : Str} : lstD s (.str z) = none := rfl
theorem lstD_int {s : Sto} {z : Int} : lstD s (.int z) = none := rfl
theorem lstD_re {s : Sto} {a : Addr} : lstD s (.ref a) = refL (s a) := by
  show (match s a with | some (.lst ds) => some ds | _ => none) = refL (s a)
  unfold refL
  rfl
theorem lstW_lst {s : Sto} {ds : List DV} : lstW s (.lst ds) = some ds := rfl
theorem lstW_tup {s : Sto} {ds : List DV} : lstW s (.tup ds) = none := rfl
theorem lstW_str {s : Sto} {z : Str} : lstW s (.str z) = none := rfl
theorem lstW_int {s : Sto} {z : Int} : lstW s (.int z) = none := rfl
theorem lstW_re {s : Sto} {a : Addr} : lstW s (.ref a) = refL (s a) := lstD_re
theorem seqD_tup {s : Sto} {ds : List DV} : seqD s (.tup ds) = some ds := rfl
theorem seqD_lst {s : Sto} {ds : List DV} : seqD s (.lst ds) = some ds := rfl
theorem seqD_scr {s : Sto} {ds : List DV} : seqD s (.scr ds) = some ds := rfl
theorem seqD_str {s : Sto} {z : Str} : seqD s (.str z) = none := rfl
theorem seqD_int {s : Sto} {z : Int} : seqD s (.int z) = none := rfl
theorem seqD_re {s : Sto} {a : Addr} : seqD s (.ref a) = refL (s a) := lstD_re
def frzR (s : Sto) (a : Addr) : Option MO → DV × Sto
  | some (.lst ds) => (.lst ds, er s a)
  | _ => (.ref a, s)
theorem frzR_lst {s : Sto} {a : Addr} {ds : List DV} : frzR s a (some (.lst ds)) = (.lst ds, er s a) := rfl
theorem frzR_dK {s : Sto} {a : Addr} {ds : List (Key × DV)} : frzR s a (some (.dK ds)) = (.ref a, s) := rfl
theorem frzR_ins {s : Sto} {a C : Addr} {ds : List (Str × DV)} : frzR s a (some (.ins C ds)) = (.ref a, s) := rfl
theorem frz_int {s : Sto} {i : Int} : frzD s (.int i) = (.int i, s) := rfl
theorem frz_str {s : Sto} {i : Str} : frzD s (.str i) = (.str i, s) := rfl
theorem frz_bl {s : Sto} {i : Bool} : frzD s (.bl i) = (.bl i, s) := rfl
theorem frz_non {s : Sto} : frzD s .non = (.non, s) := rfl
theorem frz_tup {s : Sto} {i : List DV} : frzD s (.tup i) = (.tup i, s) := rfl
theorem frz_lst {s : Sto} {i : List DV} : frzD s (.lst i) = (.lst i, s) := rfl
theorem frz_scr {s : Sto} {i : List DV} : frzD s (.scr i) = (.scr i, s) := rfl
theorem frz_re {s : Sto} {a : Addr} : frzD s (.ref a) = frzR s a (s a) := by
  show (match s a with | some (.lst ds) => (DV.lst ds, er s a) | _ => (.ref a, s)) = frzR s a (s a)
  unfold frzR
  rfl
/-! ### facts about data -/
theorem pdL_ints : ∀ ns : List Int, pdL (ns.map DV.int) = some (ns.map PyData.int)
  | [] => rfl
  | n :: ns => by rw [List.map_cons, pdL, pdL_ints ns]; rfl
theorem pdL_strs : ∀ ns : List Str, pdL (ns.map DV.str) = some (ns.map PyData.str)
  | [] => rfl
  | n :: ns => by rw [List.map_cons, pdL, pdL_strs ns]; rfl
theorem depth_ints : ∀ ns : List Int, PyData.depthAll (ns.map PyData.int) = 0
  | [] => by simp [PyData.depthAll]
  | n :: ns => by rw [List.map_cons, PyData.depthAll, depth_ints ns]; simp [PyData.depth]
theorem lay_ints : ∀ ns : List Int, PyData.canLayAll0 (ns.map PyData.int) = true
  | [] => by simp [PyData.canLayAll0]
  | n :: ns => by rw [List.map_cons, PyData.canLayAll0, lay_ints ns]; simp [PyData.canLay0]
theorem shaped_ints (ns : List Int) : SeqAt.shaped (.list (ns.map PyData.int)) = true := by
  unfold SeqAt.shaped
  rw [PyData.canLay0, lay_ints, PyData.depth, depth_ints]
  rfl
theorem shaped_nil : SeqAt.shaped (.list []) = true := shaped_ints []
theorem depth_strs : ∀ ns : List Str, PyData.depthAll (ns.map PyData.str) = 0
  | [] => by simp [PyData.depthAll]
  | n :: ns => by rw [List.map_cons, PyData.depthAll, depth_strs ns]; simp [PyData.depth]
/-- a text of signs that are signs -/
abbrev okS (z : Str) : Prop := PySem.PyData.strOk z = true
theorem eqv_nil (xs : List PyData) : PyData.eqv (.list xs) (.list []) = xs.isEmpty := by
  cases xs with
  | nil => simp [PyData.eqv, PyData.eqvAll]
  | cons x xs => simp [PyData.eqv, PyData.eqvAll]
mutual
theorem eqv_refl : ∀ d : PyData, PyData.canLay0 d = true → PyData.eqv d d = true
  | .none, _ => by simp [PyData.eqv]
  | .bool b, _ => by simp [PyData.eqv]
  | .int i, _ => by simp [PyData.eqv]
  | .str x, _ => by simp [PyData.eqv]
  | .list xs, h => by rw [PyData.eqv]; exact eqvAll_refl xs (by simpa [PyData.canLay0] using h)
  | .tuple xs, h => by rw [PyData.eqv]; exact eqvAll_refl xs (by simpa [PyData.canLay0] using h)
  | .dict _, h => by simp [PyData.canLay0] at h
theorem eqvAll_refl : ∀ ds : List PyData, PyData.canLayAll0 ds = true → PyData.eqvAll ds ds = true
  | [], _ => by simp [PyData.eqvAll]
  | d :: ds, h => by
    rw [PyData.canLayAll0, Bool.and_eq_true] at h
    rw [PyData.eqvAll, eqv_refl d h.1, eqvAll_refl ds h.2]
    rfl
end
theorem size_lt {n : Nat} (h : n ≤ 1000000) : n < sizeLine := Nat.lt_of_le_of_lt h (by decide)
theorem size_le {n : Nat} (h : n ≤ 1000000) : n ≤ sizeLine := Nat.le_of_lt (size_lt h)
theorem atI_pos {α : Type} {xs : List α} {i : Int} (h0 : 0 ≤ i) (h1 : i < xs.length) : ∃ x, atI xs i = some x ∧ xs[i.toNat]? = some x := by
  have hl : i.toNat < xs.length := by omega
  refine ⟨xs[i.toNat], ?_, List.getElem?_eq_getElem hl⟩
  unfold atI ixN
  rw [if_pos h0, if_pos h1]
  exact List.getElem?_eq_getElem hl
theorem atI_zero {α : Type} {x : α} {xs : List α} : atI (x :: xs) 0 = some x := by
  unfold atI ixN
  rw [if_pos (by decide), if_pos (by first | (simp; done) | (simp; omega))]
  rfl
theorem atI_one {α : Type} {x y : α} {xs : List α} : atI (x :: y :: xs) 1 = some y := by
  unfold atI ixN
  rw [if_pos (by decide), if_pos (by first | (simp; done) | (simp; omega))]
  rfl
theorem ixN_zero {n : Nat} : ixN (n + 1) 0 = some 0 := by
  unfold ixN
  rw [if_pos (by decide), if_pos (by omega)]
  rfl
theorem ixN_one {n : Nat} : ixN (n + 2) 1 = some 1 := by
  unfold ixN
  rw [if_pos (by decide), if_pos (by omega)]
  rfl
theorem atI_nat {α : Type} {xs : List α} {i : Nat} {x : α} (h : xs[i]? = some x) : atI xs (i : Int) = some x := by
  have hl : i < xs.length := (List.getElem?_eq_some_iff.mp h).1
  unfold atI ixN
  rw [if_pos (by omega), if_pos (by omega)]
  simpa using h
theorem int_of_get {ns : List Int} {i : Nat} {d : DV} (h : (ns.map DV.int)[i]? = some d) : ∃ z, d = .int z := by
  rw [List.getElem?_map] at h
  cases e : ns[i]? with
  | none => rw [e] at h; cases h
  | some z => rw [e] at h; exact ⟨z, (Option.some.inj h).symm⟩
theorem ltI_t {i j : Int} (h : ltI i j = true) : i < j := of_decide_eq_true h
theorem ltI_f {i j : Int} (h : ltI i j = false) : j ≤ i := by have := of_decide_eq_false h; omega
theorem leI_t {i j : Int} (h : leI i j = true) : i ≤ j := of_decide_eq_true h
theorem leI_f {i j : Int} (h : leI i j = false) : j < i := by have := of_decide_eq_false h; omega
theorem mulS {i j : Int} (h0 : -(2 ^ 64) < i) (h1 : i < 2 ^ 64) : CMul i j ∨ CMulW i j := .inl (.inl ⟨h0, h1⟩)
theorem mulS' {i j : Int} (h0 : -(2 ^ 64) < j) (h1 : j < 2 ^ 64) : CMul i j ∨ CMulW i j := .inl (.inr ⟨h0, h1⟩)
theorem cdiv {i m : Int} (h1 : 1 ≤ m) (h2 : m ≤ 2 ^ 40) : CDivW i m := wide_div (b := 41) (by omega) (by omega) (by decide) (by decide)
/-- two ways meet again -/
theorem gif_join {b : Bool} {t u : TSd} {R : Ed → Sto → Prop} {rt : KD} {bk ct : Ed → Sto → Prop} {δ : Ed} {s : Sto} (M : Ed → Sto → Prop) (h1 : b = true → ∀ R', (∀ δ s, M δ s → R' δ s) → t ⟨R', rt, bk, ct⟩ δ s)
    (h2 : b = false → ∀ R', (∀ δ s, M δ s → R' δ s) → u ⟨R', rt, bk, ct⟩ δ s) (hk : ∀ δ s, M δ s → R δ s) : dGif b (t ⟨R, rt, bk, ct⟩ δ) (u ⟨R, rt, bk, ct⟩ δ) s := by
  cases b with
  | true => exact h1 rfl R hk
  | false => exact h2 rfl R hk
theorem ifS {c : TTd} {t u : TSd} {D : EndsD} {δ : Ed} {s : Sto} (h : c δ s (kIfS t u D δ)) : dIfS c t u D δ s := h
/-- an if whose ways meet again -/
theorem ifJ {c : TTd} {t u : TSd} {R : Ed → Sto → Prop} {rt : KD} {bk ct : Ed → Sto → Prop} {δ : Ed} {s : Sto} (M : Ed → Sto → Prop)
    (h : ∀ R', (∀ δ s, M δ s → R' δ s) → c δ s (kIfS t u ⟨R', rt, bk, ct⟩ δ)) (hk : ∀ δ s, M δ s → R δ s) : dIfS c t u ⟨R, rt, bk, ct⟩ δ s := h R hk
theorem gifT {t u : Sto → Prop} {s : Sto} : dGif true t u s = t s := rfl
theorem gifF {t u : Sto → Prop} {s : Sto} : dGif false t u s = u s := rfl
/-- a for over a range -/
theorem for_rng {lo : Int} {n : Nat} {g : TGd} {tb : TSd} {D : EndsD} {δ : Ed} {s : Sto} (W : Nat → Ed → Sto → Prop) (h0 : W 0 δ s) (hs : ∀ (i : Nat) δ s, i < n → W i δ s → g (.int (lo + i)) δ s (tb ⟨W (i + 1), D.rt, D.nx, W (i + 1)⟩))
    (hd : ∀ δ s, W n δ s → D.nx δ s) : dForW g tb D δ (rngD lo n) gTrue s := by
  refine ⟨W, h0, fun i d δ s hd' w => ?_, fun δ s w => ⟨trivial, hd δ s (by rw [rngD_length] at w; exact w)⟩⟩
  obtain ⟨hi, rfl⟩ := rngD_get hd'
  exact ⟨trivial, hs i δ s hi w⟩
/-- a for over items that stay -/
theorem for_its {ds : List DV} {G : Sto → Prop} {g : TGd} {tb : TSd} {D : EndsD} {δ : Ed} {s : Sto} (W : Nat → Ed → Sto → Prop) (h0 : W 0 δ s) (hG : ∀ i δ s, W i δ s → G s) (hs : ∀ (i : Nat) d δ s, ds[i]? = some d → W i δ s → g d δ s (tb ⟨W (i + 1), D.rt, D.nx, W (i + 1)⟩))
    (hd : ∀ δ s, W ds.length δ s → D.nx δ s) : dForW g tb D δ ds G s :=
  ⟨W, h0, fun i d δ s hd' w => ⟨hG i δ s w, hs i d δ s hd' w⟩, fun δ s w => ⟨hG _ δ s w, hd δ s w⟩⟩
/-- a list by a comprehension -/
theorem lc_its {ds : List DV} {G : Sto → Prop} {g : TGd} {tt : TTd} {te : TEd} {vs : List Nat} {δ : Ed} {fin : Addr → List DV → Sto → Prop} {s : Sto} (W : Addr → Nat → List DV → Sto → Prop) (h0 : ∀ D, s D = none → W D 0 [] (up s D .hid)) (hG : ∀ D i acc s', s D = none → W D i acc s' → G s')
    (hs : ∀ D (i : Nat) d acc s', s D = none → ds[i]? = some d → W D i acc s' → g d (wipeD δ vs) s' (kLc1 tt te (W D) i acc))
    (hd : ∀ D acc s', s D = none → W D ds.length acc s' → fin D acc s') : dLcW g tt te vs δ fin ds G s := fun D hD =>
  ⟨W D, h0 D hD, fun i d acc s' hd' w => ⟨hG D i acc s' hD w, hs D i d acc s' hD hd' w⟩, fun acc s' w => ⟨hG D _ acc s' hD w, hd D acc s' hD w⟩⟩
theorem lc_rng {lo : Int} {n : Nat} {g : TGd} {tt : TTd} {te : TEd} {vs : List Nat} {δ : Ed} {fin : Addr → List DV → Sto → Prop} {s : Sto} (W : Addr → Nat → List DV → Sto → Prop) (h0 : ∀ D, s D = none → W D 0 [] (up s D .hid))
    (hs : ∀ D (i : Nat) acc s', s D = none → i < n → W D i acc s' → g (.int (lo + i)) (wipeD δ vs) s' (kLc1 tt te (W D) i acc))
    (hd : ∀ D acc s', s D = none → W D n acc s' → fin D acc s') : dLcW g tt te vs δ fin (rngD lo n) gTrue s := by
  refine lc_its W h0 (fun _ _ _ _ _ _ => trivial) (fun D i d acc s' hD hd' w => ?_) (fun D acc s' hD w => hd D acc s' hD (by rw [rngD_length] at w; exact w))
  obtain ⟨hi, rfl⟩ := rngD_get hd'
  exact hs D i acc s' hD hi w
end DL

set_option Elab.async false
set_option linter.all false
set_option maxRecDepth 100000
set_option maxHeartbeats 4000000
namespace DL
open PySem PySem.Spec PyProof.Rows L2

/-! ### texts by their signs -/
abbrev tl (x : Str) : List Nat := x.cps.toList
theorem len_tl (x : Str) : x.length = (tl x).length := by simp [Str.length]
theorem okS_iff (x : Str) : okS x ↔ ∀ c ∈ tl x, c < 1114112 := by
  unfold okS PyData.strOk
  rw [← Array.all_toList, List.all_eq_true]
  simp
theorem ext_tl {a b : Str} (h : tl a = tl b) : a = b := TL.ext_tl h
theorem tl_app (a b : Str) : tl (a ++ b) = tl a ++ tl b := TL.tl_append a b
theorem joinL_nil : ∀ xs : List (List Nat), TL.joinL [] xs = xs.flatten
  | [] => rfl
  | [x] => by simp [TL.joinL]
  | x :: y :: r => by
    show x ++ ([] ++ TL.joinL [] (y :: r)) = _
    rw [joinL_nil (y :: r)]
    simp
theorem tl_join0 (ys : List Str) : tl (Txt.join (Str.ofString "") ys) = (ys.map tl).flatten := by
  have e := TL.tl_join (Str.ofString "") ys
  rw [← TL.join_eq] at e
  have e2 : TL.tl (Str.ofString "") = [] := by decide +kernel
  rw [e2, joinL_nil] at e
  exact e
theorem okS_app {a b : Str} (h : okS a) (h' : okS b) : okS (a ++ b) := by
  rw [okS_iff] at *
  intro c hc
  rw [tl_app] at hc
  rcases List.mem_append.mp hc with q | q
  · exact h c q
  · exact h' c q
theorem okS_join0 {ys : List Str} (h : ∀ y ∈ ys, okS y) : okS (Txt.join (Str.ofString "") ys) := by
  rw [okS_iff]
  intro c hc
  rw [tl_join0] at hc
  obtain ⟨l, hl, hc⟩ := List.mem_flatten.mp hc
  obtain ⟨y, hy, rfl⟩ := List.mem_map.mp hl
  exact (okS_iff y).mp (h y hy) c hc
theorem len_join0 (ys : List Str) : (Txt.join (Str.ofString "") ys).length = (ys.map (·.length)).sum := by
  rw [len_tl, tl_join0, List.length_flatten, List.map_map]
  exact congrArg List.sum (List.map_congr_left fun y _ => (len_tl y).symm)
theorem sum_ones {ys : List Str} {m : Nat} (h : ∀ y ∈ ys, y.length ≤ m) : (ys.map (·.length)).sum ≤ m * ys.length := by
  induction ys with
  | nil => simp
  | cons y ys ih =>
    have h1 := h y List.mem_cons_self
    have h2 := ih fun z hz => h z (List.mem_cons_of_mem _ hz)
    rw [List.map_cons, List.sum_cons, List.length_cons, Nat.mul_succ]
    omega
theorem one_len (c : Nat) : (⟨#[c]⟩ : Str).length = 1 := rfl
theorem okS_one {c : Nat} (h : c < 1114112) : okS ⟨#[c]⟩ := by
  rw [okS_iff]
  intro d hd
  have e : d = c := by simpa using hd
  rw [e]; exact h
theorem lay_strs : ∀ {ns : List Str}, (∀ z ∈ ns, okS z) → PyData.canLayAll0 (ns.map PyData.str) = true
  | [], _ => by simp [PyData.canLayAll0]
  | n :: ns, h => by
    rw [List.map_cons, PyData.canLayAll0, lay_strs fun z hz => h z (List.mem_cons_of_mem _ hz), Bool.and_true, PyData.canLay0]
    exact h n List.mem_cons_self
theorem shaped_strs {ns : List Str} (h : ∀ z ∈ ns, okS z) : SeqAt.shaped (.list (ns.map PyData.str)) = true := by
  unfold SeqAt.shaped
  rw [PyData.canLay0, lay_strs h, PyData.depth, depth_strs]
  rfl
theorem eqv_strs {ns : List Str} (h : ∀ z ∈ ns, okS z) : PyData.eqv (.list (ns.map PyData.str)) (.list (ns.map PyData.str)) = true := eqv_refl _ (by rw [PyData.canLay0]; exact lay_strs h)
theorem strs_get {ns : List Str} {i : Nat} {d : DV} (h : (ns.map DV.str)[i]? = some d) : ∃ z, d = .str z ∧ ns[i]? = some z := by
  rw [List.getElem?_map] at h
  cases e : ns[i]? with
  | none => rw [e] at h; cases h
  | some z => rw [e] at h; exact ⟨z, (Option.some.inj h).symm, rfl⟩
theorem map_snoc {α β : Type} (f : α → β) (xs : List α) (x : α) : xs.map f ++ [f x] = (xs ++ [x]).map f := by simp
theorem er_fresh {s : Sto} {D : Addr} {m : MO} (h : s D = none) : er (up s D m) D = s := by rw [er_up, er_none h]
theorem ne_up {s : Sto} {a D : Addr} {m : MO} (h : s a = some m) (hD : s D = none) : a ≠ D := fun e => by rw [e, hD] at h; cases h
end DL
namespace DL
open PySem PySem.Spec PyProof.Rows L2
section
variable {P : Program} {w : World} {K : PySem.W.Frag} {mg : Str → Option Value} {base : Heap}
/-- THE RULE for a def with defaults from which nothing is raised -/
theorem defOkD {x qual : Str} {st : Stmt} {dvs : List V} {kws : List (Str × V)} {f : Addr} {fd : FuncData} {N ps : List Str} {k : Nat} {sp : Spd} {t : TSd} (F : FunD K x qual (defArgs st) (defBody st) (defScope st) dvs kws f fd) (S : FnScope N ps (defScope st)) (len : ∀ ds s Q E, sp ds s Q E → ds.length = ps.length)
    (hbody : ∀ (A : Anc) (cdv : Value) (Ar : Around) (outer : List Env) (s : Shared) (H : Hp) (E : XK), Room k (Ar.deeper (envOfC qual (defScope st) s.heap.objs.size f cdv)) →
      PSsd A (cxOf CX0 P w K mg base N qual (defScope st) f cdv Ar outer s H E).nox (defBody st) t)
    (hread : ∀ ds s Q E, sp ds s Q E → t { nx := fun _ s => Q .non s, rt := Q } (startD N.length ds) s) : FnOk P w K mg base CX0 (k + 1) f fd ps (lSp K sp) := by
  refine F.ok S (fun vs H Q E h => ?_) (fun cdv Ar outer s H vs Q E hr h => ?_)
  · obtain ⟨ds, s, Q', E', rep, dv, q, _⟩ := h
    rw [dv.length]
    exact len ds s Q' E' q
  · obtain ⟨ds, s0, Q', E', rep, dv, q, kq, ke⟩ := h
    refine ⟨_, (hbody ⟨s0, H⟩ cdv Ar outer s H E hr).nox, startD N.length ds, s0, _, ⟨Stp.refl s0 H, rep, env_start N dv⟩, hread ds s0 Q' E' q, ?_⟩
    exact ⟨fun σ H2 δ s2 S2 q2 => kq .non H2 .non s2 S2.stp S2.rep .non q2, fun _ _ _ _ _ z => z.elim, fun _ _ _ _ _ z => z.elim, fun v H2 d s2 st rep2 dv2 q2 => kq v H2 d s2 st rep2 dv2 q2⟩
end
def kNeg (Q : KD) (d : DV) (s1 : Sto) : Prop := match d with
  | .int i => Q (.int (-i)) s1
  | _ => False
def dNeg (te : TEd) (δ : Ed) (s : Sto) (Q : KD) : Prop := te δ s (kNeg Q)
theorem dneg {A : Anc} {X : Cx} {a : Expr} {ta : TEd} {pos : Pos} (ha : PD A X a ta) : PD A X (.UnaryOp .USub a pos) (dNeg ta) := peImp (pe_un un_neg ha) fun σ H Q h => by
  obtain ⟨δ, s, Q', S, t, k⟩ := h
  refine ⟨δ, s, _, S, t, fun v H1 d s1 st1 rep1 dv q => ?_⟩
  cases d with
  | int i => exact ⟨i, dv.intInv, k _ H1 _ s1 st1 rep1 (.int _) q⟩
  | _ => exact False.elim q
theorem er_up2 {s : Sto} {p D : Addr} {m x : MO} (ne : p ≠ D) (h : s D = none) : er (up (up s D m) p x) D = up s p x := by
  rw [up_comm ne.symm, er_up, er_none]
  rw [up_ne ne.symm]
  exact h
theorem up_up2 {s : Sto} {p D : Addr} {m n x : MO} (ne : p ≠ D) : up (up (up s D m) p x) D n = up (up s p x) D n := by
  rw [up_comm ne.symm, up_up]
theorem sub_up {s : Sto} {q : Addr} {m : MO} (h : s q = none) (hm : m ≠ .hid) : Sub s (up s q m) := ⟨fun a n e => by
  rw [up_ne (ne_up e h)]; exact e, fun a e => by
  by_cases z : a = q
  · subst z; rw [up_same] at e; exact absurd (Option.some.inj e) hm
  · rw [up_ne z] at e; exact e⟩
theorem cut_last (xs : List DV) : DL.cutD xs none (some (-1)) = xs.dropLast := by
  cases xs with
  | nil => rfl
  | cons x xs =>
    have h2 : HT.sIx (x :: xs).length (x :: xs).length (some (-1)) = xs.length := by
      show (if (-1 : Int) < 0 then ((-1 : Int) + ((xs.length + 1 : Nat) : Int)).toNat else min (-1 : Int).toNat (xs.length + 1)) = xs.length
      rw [if_pos (by decide)]
      omega
    unfold DL.cutD
    rw [h2, HT.sIx_none, List.dropLast_eq_take]
    simp
end DL

set_option Elab.async false
set_option linter.all false
set_option maxRecDepth 100000
set_option maxHeartbeats 4000000
/-! The head: what the top leaves, by names; from there to the texts of this layer. -/
namespace DL
open PySem PySem.Spec PyProof.Rows L2
section
variable {P : Program} {w : World} {K : PySem.W.Frag} {mg : Str → Option Value} {h : Heap}
theorem fun_of {x qual : Str} {st : Stmt} {f : Addr} {fd : FuncData} (F : FunD K x qual (defArgs st) (defBody st) (defScope st) [] [] f fd) : Fun K x qual st f fd := by
  have kp := F.kp
  obtain ⟨oc, od, dV, kV, doc, pm, an, cdv, ct, osl, rfl, lk, hcd, hd, _⟩ := F.ex
  rcases hd with ⟨_, rfl⟩ | ⟨h, _⟩
  · exact fun_mk lk hcd kp
  · exact absurd rfl h
abbrev BArgs (x qual : Str) (st : Stmt) (ps : List Str) : Prop := ∀ (kV doc pm : Value) (an : Option Addr) (cdv ct : Value) (us : List Value), us.length = ps.length → bindArgs (PySem.W.fnOf x qual (defArgs st) (defBody st) (defScope st) .none kV doc pm an cdv ct) ⟨us, []⟩ = pure (ps.zip us)
theorem defAt_of {x : Str} {st : Stmt} {ps : List Str} (X : K.In h) (G : h.Ns mainGlobals mg) (F : ∃ fd, FunD K x x (defArgs st) (defBody st) (defScope st) [] [] (He.fAd K (x, none)) fd) (g : (He.Fa.glo x).ok K = true) (b : BArgs x x st ps) : DefAt K mg x st ps := by
  obtain ⟨fd, F⟩ := F
  exact ⟨He.ga K x, fd, fun_of F, He.glo_ok X G g, F.kp, F.bindsN b⟩
theorem methAt_of {C m qual : Str} {st : Stmt} {ps : List Str} (F : ∃ fd, FunD K m qual (defArgs st) (defBody st) (defScope st) [] [] (He.fAd K (C, some m)) fd) (g : (He.Fa.meth C m).ok K = true) (b : BArgs m qual st ps) : MethAt K (He.ga K C) m qual st ps := by
  obtain ⟨fd, F⟩ := F
  exact ⟨He.ma K (He.ga K C) m, fd, fun_of F, He.meth_ok g, F.bindsN b⟩
/-- the object at an address is a tuple of these -/
def tupA (K : PySem.W.Frag) (a : Addr) (vs : List He.Dv) : Bool := match K.lookup a with
  | some ⟨.type c, _, .seq its _, _⟩ => decide (c = "tuple") && (decide (its.size ≤ sizeLine) && He.relAll (vs.map (He.Dv.v K)) its.toList)
  | _ => false
theorem tupA_ok {a : Addr} {vs : List He.Dv} (h : tupA K a vs = true) (H : Hp) : SqT K H a (vs.map (He.Dv.v K)) := by
  unfold tupA at h
  cases q : K.lookup a with
  | none =>
    rw [q] at h
    cases h
  | some o =>
    obtain ⟨oc, od, dt, osl⟩ := o
    rw [q] at h
    cases oc with
    | type c =>
      cases dt with
      | seq its n =>
        obtain ⟨h1, h2⟩ := He.ba (show (decide (c = "tuple") && (decide (its.size ≤ sizeLine) && He.relAll (vs.map (He.Dv.v K)) its.toList)) = true from h)
        obtain ⟨h3, h4⟩ := He.ba h2
        exact .inr ⟨_, its, n, q, congrArg Value.type (of_decide_eq_true h1), rfl, of_decide_eq_true h3, He.relAll_ok h4⟩
      | _ => cases h
    | _ => cases dt <;> cases h
/-! ### the Hook -/
def obB (n : Nat) (fa : List He.Fa) (fn : List He.DefD) (ex : PySem.W.Frag → Bool) (g : Addr → Option Obj) : He.AlD × Bool := (He.obsDG n fa fn g, ex (He.frG g (He.asD g n)))
def SaysB (fa : List He.Fa) (fn : List He.DefD) (ex : PySem.W.Frag → Bool) (K : PySem.W.Frag) : Prop := He.SaysD fa fn K ∧ ex K = true
def hookB (n : Nat) (fa : List He.Fa) (fn : List He.DefD) (ex : PySem.W.Frag → Bool) : PySem.W.Hook where
  α := He.AlD × Bool
  obs := fun s => obB n fa fn ex s.heap.get?
  val := fun _ => (He.valD fn, true)
  says := fun _ h => ∃ K : PySem.W.Frag, K.In h ∧ SaysB fa fn ex K
  of := fun _ _ e => ⟨_, He.frG_in, congrArg Prod.fst e, congrArg Prod.snd e⟩
  keeps := fun _ _ _ ⟨K, hK, c⟩ k => ⟨K, PySem.W.Frag.In.keeps hK k, c⟩
theorem obB_eq {n : Nat} {fa : List He.Fa} {fn : List He.DefD} {ex : PySem.W.Frag → Bool} {g : Addr → Option Obj} {s : Shared} (h : ∀ a, g a = s.heap.get? a) : obB n fa fn ex g = (hookB n fa fn ex).obs s := by
  have e : g = s.heap.get? := funext h
  rw [e] <;> rfl
/-- the script as data -/
theorem scr_of {H : Hp} {a : Addr} {ns : List Int} (hO : Only H) (hS : SqL K H a (ns.map V.int)) : DatL K (fun _ => none) H [.ref a] [.scr (ns.map DV.int)] := by
  have hin : ∀ l : List Int, DatL K (fun _ => none) H (l.map V.int) (l.map DV.int) := fun l => by
    induction l with
    | nil => exact .nil
    | cons x r ih => exact .cons (.int x) ih
  refine .cons (.scr ?_ (hin ns)) .nil
  rcases hS with (h | ⟨o, h⟩) | h
  · rcases hO a with e | ⟨o, xs, e⟩
    · rw [e] at h
      cases h
    · rw [e] at h
      cases h
  · exact .inl ⟨o, h⟩
  · exact .inr h
theorem law_of {sp : Spd} {H : Hp} {a : Addr} {ns : List Int} {E : XK} (hO : Only H) (hS : SqL K H a (ns.map V.int)) (q : sp [.scr (ns.map DV.int)] (fun _ => none) (fun d _ => d = .bl true) noX) : lSp K sp [.ref a] H (fun v _ => v = .bl true) E := by
  refine ⟨_, _, _, _, ?_, scr_of hO hS, q, ?_, ExL.no⟩
  · intro b m e
    cases e
  · intro v H2 d s2 _ _ dv e
    subst e
    cases dv
    rfl
end
end DL

set_option Elab.async false
set_option linter.all false
set_option maxRecDepth 100000
set_option maxHeartbeats 4000000
/-! More readings: isinstance, all, zip, xs[::-1], upper, a text times an int; promises made weaker. -/
namespace DL
open PySem PySem.Spec PyProof.Rows L2
/-! ### types -/
inductive Ty where
  | non | bl | int | str | tup | lst | dct
deriving DecidableEq
def Ty.nm : Ty → String
  | .non => "NoneType"
  | .bl => "bool"
  | .int => "int"
  | .str => "str"
  | .tup => "tuple"
  | .lst => "list"
  | .dct => "dict"
def tyOfO : Option MO → Option Ty
  | some (.lst _) => some .lst
  | some (.dK _) => some .dct
  | _ => none
def tyOfD (s : Sto) (d : DV) : Option Ty := match d with
  | .non => some .non
  | .bl _ => some .bl
  | .int _ => some .int
  | .str _ => some .str
  | .tup _ => some .tup
  | .lst _ => some .lst
  | .scr _ => some .lst
  | .ref a => tyOfO (s a)
  | .ty _ => none
def isT (t c : Ty) : Bool := match t, c with
  | .bl, .bl => true
  | .bl, .int => true
  | .int, .int => true
  | .str, .str => true
  | .tup, .tup => true
  | .lst, .lst => true
  | .dct, .dct => true
  | .non, .non => true
  | _, _ => false
theorem kitB_ok (t c : Ty) (h : c ≠ .non) : kitB t.nm c.nm = some (isT t c) := by
  cases c <;> first | exact absurd rfl h | (cases t <;> decide +kernel)
section
variable {K : PySem.W.Frag} {s : Sto} {H : Hp}
theorem tyX_ok (rep : Rep K s H) {v : V} {d : DV} {t : Ty} (dv : Dat K s H v d) (e : tyOfD s d = some t) : TyX K H v (.type t.nm) := by
  cases d with
  | non => cases e; cases dv; exact .base .non
  | bl b => cases e; cases dv; exact .base (.bl b)
  | int b => cases e; cases dv; exact .base (.int b)
  | str b => cases e; cases dv; exact .base (.str b)
  | tup ds =>
    cases e
    obtain ⟨a, xs, rfl, h1, l⟩ := dv.tupInv
    rcases h1 with (h | ⟨o, h⟩) | ⟨o, its, n, lk, hc, _⟩
    · exact .base (.tup h)
    · exact .fTuple h
    · exact .kTuple lk hc
  | lst ds =>
    cases e
    obtain ⟨a, xs, rfl, h1, _, l⟩ := dv.lstInv
    exact .base (.lst h1)
  | scr ds =>
    cases e
    obtain ⟨a, xs, rfl, h1, l⟩ := dv.scrInv
    rcases h1 with ⟨o, h⟩ | ⟨o, its, n, lk, hc, _⟩
    · exact .base (.frz h)
    · exact .kList lk hc
  | ref a =>
    cases dv
    have e : tyOfO (s a) = some t := e
    cases q : s a with
    | none => rw [q] at e; cases e
    | some m =>
      rw [q] at e
      cases m with
      | lst ds =>
        cases e
        obtain ⟨xs, h1, _⟩ := rep a _ q
        exact .base (.lst h1)
      | dK ks =>
        cases e
        obtain ⟨xs, h1, _⟩ := rep a _ q
        exact .base (.dK h1)
      | hid => cases e
      | ins C fs => cases e
      | exc C fs => cases e
  | ty n => cases e
end
def tyN (n : String) : Option Ty := if n = "bool" then some .bl else if n = "int" then some .int else if n = "str" then some .str else if n = "tuple" then some .tup else if n = "list" then some .lst else if n = "dict" then some .dct else none
theorem tyN_bool : tyN "bool" = some .bl := rfl
theorem tyN_int : tyN "int" = some .int := rfl
theorem tyN_str : tyN "str" = some .str := rfl
theorem tyN_tuple : tyN "tuple" = some .tup := rfl
theorem tyN_list : tyN "list" = some .lst := rfl
theorem tyN_ok {n : String} {c : Ty} (e : tyN n = some c) : n = c.nm ∧ c ≠ .non := by
  unfold tyN at e
  repeat (split at e; · cases e; exact ⟨by assumption, fun z => nomatch z⟩)
  cases e
def kIsi (t c : Option Ty) (s : Sto) (Q : KD) : Prop := match t, c with
  | some t, some c => Q (.bl (isT t c)) s
  | _, _ => False
def dIsi (ds : List DV) (s : Sto) (Q : KD) : Prop := match ds with
  | [d, .ty n] => kIsi (tyOfD s d) (tyN n) s Q
  | _ => False
section
variable {X : Cx} {A : Anc}
theorem cd_isi : CallR X (.builtin "isinstance") (lC X.K dIsi) := callImp call_isi fun xs H Q h => by
  obtain ⟨ds, s, Q', rep, hx, r, k⟩ := h
  unfold dIsi at r
  split at r
  · rename_i d n
    cases hx with
    | cons h t =>
      cases t with
      | cons h2 t2 =>
        cases t2
        cases h2
        cases e : tyOfD s d with
        | none => rw [e] at r; exact r.elim
        | some t =>
          cases e2 : tyN n with
          | none => rw [e, e2] at r; exact r.elim
          | some c =>
            rw [e, e2] at r
            obtain ⟨rfl, hc⟩ := tyN_ok e2
            exact ⟨_, _, _, _, _, rfl, .ty _, tyX_ok rep h e, kit_ty (kitB_ok t c hc), k _ H _ s (Stp.refl s H) rep (.bl _) r⟩
  · exact r.elim
/-! ### isinstance(x, (A, B)) -/
def tTys : List Ty → TA
  | [] => tNil
  | c :: r => tCons (tC (.ty c.nm)) (tTys r)
theorem tTys_run {σ : L2.St} {H : Hp} : ∀ {cs : List Ty} {R : List V → Hp → Prop}, R (cs.map fun c => .ty c.nm) H → tTys cs σ H R
  | [], _, r => r
  | _ :: cs, _, r => tTys_run (cs := cs) r
theorem kitAny_ok {K : PySem.W.Frag} (t : Ty) : ∀ (cs : List Ty), (∀ c ∈ cs, c ≠ .non) → PySem.W.kitAny K (.type t.nm) (cs.map fun c => .type c.nm) = some (cs.any (isT t))
  | [], _ => rfl
  | c :: cs, h => by
    refine kitAny_cons (kit_ty (kitB_ok t c (h c (List.mem_cons_self ..)))) (fun e => ?_) fun e => ?_
    · rw [List.any_cons, e, Bool.false_or]
      exact kitAny_ok t cs fun c hc => h c (List.mem_cons_of_mem _ hc)
    · rw [List.any_cons, e, Bool.true_or]
theorem clsV_ok : ∀ cs : List Ty, Paired ClsV (cs.map fun c => V.ty c.nm) (cs.map fun c => Value.type c.nm)
  | [] => .nil
  | c :: cs => .cons (.ty _) (clsV_ok cs)
def kIsiT (cs : List Ty) (Q : KD) (d : DV) (s1 : Sto) : Prop := match tyOfD s1 d with
  | some t => Q (.bl (cs.any (isT t))) s1
  | none => False
def dIsiT (te : TEd) (cs : List Ty) (δ : Ed) (s : Sto) (Q : KD) : Prop := te δ s (kIsiT cs Q)
theorem disiT {e : Expr} {te : TEd} {es : List Expr} {cs : List Ty} {p p2 pos : Pos} {x1} (he : PD A X e te) (hm : X.mg "isinstance" = none) (ht : PA X es (tTys cs)) (hc : ∀ c ∈ cs, c ≠ .non) (hl : cs.length ≤ 1000)
    (hg : Gl X "isinstance" := by rfl) (hs : starEach [e, .Tuple es x1 p2] X.env = (false, eval e X.env) :: starEach [.Tuple es x1 p2] X.env := by rfl) (hs2 : starEach [.Tuple es x1 p2] X.env = (false, eval (.Tuple es x1 p2) X.env) :: starEach [] X.env := by rfl)
    (hpl : (backTo pos (starEach [.Tuple es x1 p2] X.env)).any (·.1) = false := by rfl) : PD A X (.Call (.Name "isinstance" p) [e, .Tuple es x1 p2] [] pos) (dIsiT te cs) := by
  refine peImp (pe_callB call_isiT hg hm (by decide +kernel) (pa_cons he (pa_cons (pe_tup ht) pa_nil hs2) hs) (by decide) (by decide) hs hpl) fun σ H Q h => ?_
  obtain ⟨δ, s, Q', S, t, k⟩ := h
  refine ⟨δ, s, _, S, t, fun v H1 d s1 st1 rep1 dv q => ?_⟩
  refine tTys_run ⟨by rw [List.length_map, sizeLine_eq]; omega, fun p hp => ?_⟩
  unfold kIsiT at q
  cases e : tyOfD s1 d with
  | none => rw [e] at q; exact q.elim
  | some t =>
    rw [e] at q
    exact ⟨v, p, _, _, _, _, rfl, upd_same, clsV_ok cs, tyX_ok (rep1.newF hp) (dv.step (Stp.newF hp) rep1) e, kitAny_ok t cs hc, k _ _ _ s1 (st1.trans (Stp.newF hp)) (rep1.newF hp) (.bl _) q⟩
/-! ### a < b < c as a test -/
theorem dtchain {a b c : Expr} {ta tb tc : TEd} {r r' : R2d} {op op' : CmpOp} {pos : Pos} (ho : OpD X (compareOp op) r) (ho' : OpD X (compareOp op') r') (ha : PD A X a ta) (hb : PD A X b tb) (hc : PD A X c tc)
    (hm : lastMarks [op, op'] [b, c] = false := by with_unfolding_all rfl) : PTd A X (.Compare a [op, op'] [b, c] pos) (dTest (dChain r r' ta tb tc)) :=
  ptImp (pt_chain ho ho' ha hb hc hm) fun σ H Q h => by
    have h2 := lT_test h
    exact by
      obtain ⟨δ, s, Q', S, t, k⟩ := h2
      exact lE_chain ⟨δ, s, Q', S, t, k⟩
/-! ### all -/
def boolsD : List DV → Option (List Bool)
  | [] => some []
  | .bl b :: r => (boolsD r).map (b :: ·)
  | _ :: _ => none
theorem boolsD_ok : ∀ {ds : List DV} {bs : List Bool}, boolsD ds = some bs → ds = bs.map DV.bl
  | [], _, e => by cases e; rfl
  | d :: r, bs, e => by
    cases d with
    | bl b =>
      unfold boolsD at e
      cases q : boolsD r with
      | none => rw [q] at e; cases e
      | some cs => rw [q] at e; cases e; rw [boolsD_ok q]; rfl
    | _ => cases e
theorem boolsD_map : ∀ bs : List Bool, boolsD (bs.map DV.bl) = some bs
  | [] => rfl
  | b :: r => by show (boolsD (r.map DV.bl)).map (b :: ·) = _; rw [boolsD_map r]; rfl
theorem DatL.bools {K : PySem.W.Frag} {s : Sto} {H : Hp} : ∀ {bs : List Bool} {vs : List V}, DatL K s H vs (bs.map DV.bl) → vs = bs.map V.bl
  | [], _, .nil => rfl
  | b :: bs, _, .cons h t => by cases h; rw [DatL.bools t]; rfl
def dAll (ds : List DV) (s : Sto) (Q : KD) : Prop := match ds with
  | [.lst es] => (match boolsD es with
    | some bs => Q (.bl (bs.all id)) s
    | none => False)
  | _ => False
theorem cd_all (hc : X.calm = true) : CallR X (.builtin "all") (lC X.K dAll) := callImp (cr_all hc) fun xs H Q h => by
  obtain ⟨ds, s, Q', rep, hx, r, k⟩ := h
  unfold dAll at r
  split at r
  · cases hx with
    | cons h t =>
      cases t
      split at r
      · rename_i bs e
        rw [boolsD_ok e] at h
        obtain ⟨a, ys, rfl, h1, _, l⟩ := h.lstInv
        rw [DatL.bools l] at h1
        exact ⟨a, bs, rfl, SqL.of h1, k _ H _ s (Stp.refl s H) rep (.bl _) r⟩
      · exact r.elim
  · exact r.elim
/-! ### zip -/
def zipD (xs ys : List DV) : List DV := List.zipWith (fun x y => .tup [x, y]) xs ys
def kZip (R : List DV → (Sto → Prop) → Sto → Prop) (ds : List DV) (s1 : Sto) : Prop := match ds with
  | [.tup xs, .tup ys] => R (zipD xs ys) gTrue s1
  | [.lst xs, .lst ys] => R (zipD xs ys) gTrue s1
  | _ => False
def dZip (t : TAd) (δ : Ed) (s : Sto) (R : List DV → (Sto → Prop) → Sto → Prop) : Prop := t δ s (kZip R)
theorem zip_get {xs ys : List DV} {i : Nat} (hi : i < (zipD xs ys).length) : ∃ x y, xs[i]? = some x ∧ ys[i]? = some y ∧ (zipD xs ys)[i]? = some (.tup [x, y]) := by
  unfold zipD at hi ⊢
  rw [List.length_zipWith] at hi
  obtain ⟨x, hx⟩ := get_lt (xs := xs) (i := i) (by omega)
  obtain ⟨y, hy⟩ := get_lt (xs := ys) (i := i) (by omega)
  refine ⟨x, y, hx, hy, ?_⟩
  rw [List.getElem?_zipWith, hx, hy]
theorem itd_zipT {K : PySem.W.Frag} {s0 : Sto} {H0 : Hp} {a b : Addr} {ds es : List DV} (w : ∀ s H, Stp s0 H0 s H → Rep K s H → ∃ xs, SqT K H a xs ∧ DatL K s H xs ds) (u : ∀ s H, Stp s0 H0 s H → Rep K s H → ∃ xs, SqT K H b xs ∧ DatL K s H xs es) : ItD K s0 H0 (zipD ds es) gTrue (RZ.ItzT K a b) := ⟨
  fun i s H st rep g hi => by
    obtain ⟨d, e, hd, he, _⟩ := zip_get hi
    obtain ⟨xs, h1, l1⟩ := w s H st rep
    obtain ⟨ys, h2, l2⟩ := u s H st rep
    obtain ⟨x, hx, _⟩ := l1.get' hd
    obtain ⟨y, hy, _⟩ := l2.get' he
    exact ⟨xs, ys, x, y, h1, h2, hx, hy⟩,
  fun i s H v H' st rep g hi y => by
    obtain ⟨d, e, hd, he, hz⟩ := zip_get hi
    obtain ⟨xs, h1, l1⟩ := w s H st rep
    obtain ⟨ys, h2, l2⟩ := u s H st rep
    obtain ⟨T, x, y, rfl, hT, rfl, gx, gy⟩ := y
    obtain ⟨x', hx, dx⟩ := l1.get' hd
    obtain ⟨y', hy, dy⟩ := l2.get' he
    have ex : x' = x := by have := gx xs h1; rw [hx] at this; exact Option.some.inj this
    have ey : y' = y := by have := gy ys h2; rw [hy] at this; exact Option.some.inj this
    subst ex ey
    refine ⟨Stp.newF hT, rep.newF hT, _, hz, .tup (SqT.of upd_same) (.cons (dx.step (Stp.newF hT) rep) (.cons (dy.step (Stp.newF hT) rep) .nil))⟩,
  fun s H st rep g => by
    obtain ⟨xs, h1, l1⟩ := w s H st rep
    obtain ⟨ys, h2, l2⟩ := u s H st rep
    refine ⟨xs, ys, h1, h2, ?_⟩
    unfold zipD
    rw [List.length_zipWith, l1.length, l2.length]
    omega⟩
theorem itd_zipL {K : PySem.W.Frag} {s0 : Sto} {H0 : Hp} {a b : Addr} {ds es : List DV} (w : ∀ s H, Stp s0 H0 s H → Rep K s H → ∃ xs, SqL K H a xs ∧ DatL K s H xs ds) (u : ∀ s H, Stp s0 H0 s H → Rep K s H → ∃ xs, SqL K H b xs ∧ DatL K s H xs es) : ItD K s0 H0 (zipD ds es) gTrue (Itz K a b) := ⟨
  fun i s H st rep g hi => by
    obtain ⟨d, e, hd, he, _⟩ := zip_get hi
    obtain ⟨xs, h1, l1⟩ := w s H st rep
    obtain ⟨ys, h2, l2⟩ := u s H st rep
    obtain ⟨x, hx, _⟩ := l1.get' hd
    obtain ⟨y, hy, _⟩ := l2.get' he
    exact ⟨xs, ys, x, y, h1, h2, hx, hy⟩,
  fun i s H v H' st rep g hi y => by
    obtain ⟨d, e, hd, he, hz⟩ := zip_get hi
    obtain ⟨xs, h1, l1⟩ := w s H st rep
    obtain ⟨ys, h2, l2⟩ := u s H st rep
    obtain ⟨T, x, y, rfl, hT, rfl, gx, gy⟩ := y
    obtain ⟨x', hx, dx⟩ := l1.get' hd
    obtain ⟨y', hy, dy⟩ := l2.get' he
    have ex : x' = x := by have := gx xs h1; rw [hx] at this; exact Option.some.inj this
    have ey : y' = y := by have := gy ys h2; rw [hy] at this; exact Option.some.inj this
    subst ex ey
    refine ⟨Stp.newF hT, rep.newF hT, _, hz, .tup (SqT.of upd_same) (.cons (dx.step (Stp.newF hT) rep) (.cons (dy.step (Stp.newF hT) rep) .nil))⟩,
  fun s H st rep g => by
    obtain ⟨xs, h1, l1⟩ := w s H st rep
    obtain ⟨ys, h2, l2⟩ := u s H st rep
    refine ⟨xs, ys, h1, h2, ?_⟩
    unfold zipD
    rw [List.length_zipWith, l1.length, l2.length]
    omega⟩
theorem dzip {e e2 : Expr} {t : TAd} {p pos tpos : Pos} {elts : List Expr} {kk : Nat} (hm : X.mg "zip" = none) (ha : PAd A X [e, e2] t) (hg : Gl X "zip" := by rfl)
    (hs : starEach [e, e2] X.env = (false, eval e X.env) :: starEach [e2] X.env := by rfl) (hpl : (backTo pos (starEach [e2] X.env)).any (·.1) = false := by rfl) : PId A X (.Tuple elts kk tpos) (.Call (.Name "zip" p) [e, e2] [] pos) (dZip t) :=
  piImp (RZ.pi_zipA hg hm ha hs hpl) fun σ H R h => by
  obtain ⟨δ, s, R', S, t, k⟩ := h
  refine ⟨δ, s, _, S, t, fun vs H1 ds s1 st1 rep1 dv q => ?_⟩
  unfold kZip at q
  split at q
  · cases dv with
    | cons h1 t =>
      cases t with
      | cons h2 t2 =>
        cases t2
        obtain ⟨a, xs, rfl, g1, l1⟩ := h1.tupInv
        obtain ⟨b, ys, rfl, g2, l2⟩ := h2.tupInv
        refine ⟨a, b, xs, ys, rfl, .inr ⟨g1, g2, k _ gTrue s1 H1 _ st1 rep1 (itd_zipT (fun s2 H2 st2 rep2 => ?_) fun s2 H2 st2 rep2 => ?_) q⟩⟩
        · exact ⟨xs, sqT_step st2 rep1 g1, l1.step st2 rep1⟩
        · exact ⟨ys, sqT_step st2 rep1 g2, l2.step st2 rep1⟩
  · cases dv with
    | cons h1 t =>
      cases t with
      | cons h2 t2 =>
        cases t2
        obtain ⟨a, xs, rfl, g1, n1, l1⟩ := h1.lstInv
        obtain ⟨b, ys, rfl, g2, n2, l2⟩ := h2.lstInv
        refine ⟨a, b, xs, ys, rfl, .inl ⟨SqL.of g1, SqL.of g2, k _ gTrue s1 H1 _ st1 rep1 (itd_zipL (fun s2 H2 st2 rep2 => ?_) fun s2 H2 st2 rep2 => ?_) q⟩⟩
        · exact ⟨xs, SqL.of (st2 a _ g1 (.inl n1)).1, l1.step st2 rep1⟩
        · exact ⟨ys, SqL.of (st2 b _ g2 (.inl n2)).1, l2.step st2 rep1⟩
  · exact q.elim
/-! ### upper -/
def dUpper (x : DV) (xs : List DV) (s : Sto) (Q : KD) : Prop := match x, xs with
  | .str z, [] => z.length ≤ 5592405 ∧ Q (.str (Txt.upper z)) s
  | _, _ => False
theorem md_upper : MtR X "str.upper" (lM X.K dUpper) := mtImp mt_upper fun x xs H Q h => by
  obtain ⟨d, ds, s, Q', rep, hx, hxs, r, k⟩ := h
  unfold dUpper at r
  split at r
  · cases hx; cases hxs
    exact ⟨_, rfl, rfl, r.1, k _ H _ s (Stp.refl s H) rep (.str _) r.2⟩
  · exact r.elim
/-! ### a text times an int -/
def repS (z : Str) (k : Int) : Str := ⟨(List.replicate k.toNat z.cps).foldl (· ++ ·) #[]⟩
theorem repS_list (z : Str) (k : Int) : (repS z k).cps.toList = (List.replicate k.toNat z.cps.toList).flatten := by
  unfold repS
  generalize k.toNat = n
  have h : ∀ (m : Nat) (a : Array Nat), ((List.replicate m z.cps).foldl (· ++ ·) a).toList = a.toList ++ (List.replicate m z.cps.toList).flatten := fun m => by
    induction m with
    | zero => intro a; simp
    | succ m ih => intro a; rw [List.replicate_succ, List.foldl_cons, ih, List.replicate_succ, List.flatten_cons, Array.toList_append, List.append_assoc]
  rw [h n #[]]
  rfl
theorem repS_length (z : Str) (k : Int) : (repS z k).length = k.toNat * z.length := by
  have h := congrArg List.length (repS_list z k)
  rw [List.length_flatten, List.map_replicate, List.sum_replicate_nat] at h
  exact h
def dMulS (x y : DV) (s : Sto) (Q : KD) : Prop := match x, y with
  | .str z, .int k => (2 ≤ k ∧ k ≤ 100000 ∧ 1 ≤ z.length ∧ z.length ≤ 100) ∧ Q (.str (repS z k)) s
  | _, _ => False
theorem op_mulS : OpR X (binaryOp .Mult) (fun x y H Q => ∃ z k, x = .str z ∧ y = .int k ∧ (2 ≤ k ∧ k ≤ 100000 ∧ 1 ≤ z.length ∧ z.length ≤ 100) ∧ Q (.str (repS z k)) H) := by
  intro pins s σ H x y v u Q I rx ry h
  obtain ⟨z, k, rfl, rfl, ⟨h1, h2, h3, h4⟩, q⟩ := h
  obtain ⟨t, rfl⟩ := rx
  obtain ⟨t', rfl⟩ := ry
  have hk : k.toNat ≤ 100000 := by omega
  have hm : z.length * k.toNat ≤ 100 * 100000 := Nat.mul_le_mul h4 hk
  have n1 : ¬ k < 1 := by omega
  have n2 : (k == 1 || z.length == 0) = false := by
    rw [Bool.or_eq_false_iff]
    exact ⟨by simpa using (show k ≠ 1 by omega), by simpa using (show z.length ≠ 0 by omega)⟩
  refine PySem.P.mul_str ?_ (fun _ _ => ?_) (fun _ _ => ?_) ?_
  · rw [decide_eq_false (by omega), decide_eq_false (by omega)]; rfl
  · have h5 : (100 : Int) ≤ (2 ^ 63 - 1) / k := by
      rw [Int.le_ediv_iff_mul_le (by omega)]
      omega
    omega
  · show decide (z.length * k.toNat > sizeLine) = false
    rw [decide_eq_false]
    rw [sizeLine_eq]
    omega
  · rw [if_neg n1, if_neg (by rw [n2]; exact Bool.false_ne_true)]
    refine ⟨?_, .str _, H, I.tok _, ⟨_, rfl⟩, q⟩
    show (repS z k).length ≤ sizeLine
    rw [repS_length, Nat.mul_comm, sizeLine_eq]
    omega
theorem od_mulS : OpD X (binaryOp .Mult) dMulS := opImp op_mulS fun x y H Q h => by
  obtain ⟨dx, dy, s, Q', rep, hx, hy, r, k⟩ := h
  unfold dMulS at r
  split at r
  · cases hx; cases hy
    exact ⟨_, _, rfl, rfl, r.1, k _ H _ s (Stp.refl s H) rep (.str _) r.2⟩
  · exact r.elim
/-! ### weaker promises -/
variable {P : Program} {w : World} {K : PySem.W.Frag} {mg : Str → Option Value} {base : Heap}
theorem FnOk.weak {CX : CXT} {k : Nat} {f : Addr} {fd : FuncData} {ps : List Str} {sp sp' : Sp} (F : FnOk P w K mg base CX k f fd ps sp) (h : ∀ vs H Q E, sp' vs H Q E → sp vs H Q E) : FnOk P w K mg base CX k f fd ps sp' :=
  ⟨fun vs H Q E q => F.len vs H Q E (h _ _ _ _ q), fun A outer s H args us vs Q E r e b v q => F.run A outer s H args us vs Q E r e b v (h _ _ _ _ q)⟩
theorem lSp_weak {sp sp' : Spd} (h : ∀ ds s Q E, sp' ds s Q E → sp ds s Q E) (vs : List V) (H : Hp) (Q : VK) (E : XK) (q : lSp K sp' vs H Q E) : lSp K sp vs H Q E := by
  obtain ⟨ds, s, Q', E', rep, dv, q, k, x⟩ := q
  exact ⟨ds, s, Q', E', rep, dv, h _ _ _ _ q, k, x⟩
theorem Fn.weak {x : Str} {k : Nat} {ps : List Str} {sp sp' : Spd} (F : Fn P w K mg base x k ps sp) (h : ∀ ds s Q E, sp' ds s Q E → sp ds s Q E) : Fn P w K mg base x k ps sp' := by
  obtain ⟨f, fd, F, r⟩ := F.ex
  exact ⟨f, fd, FnOk.weak F (lSp_weak h), r⟩
end
end DL

set_option Elab.async false
set_option linter.all false
set_option maxRecDepth 100000
set_option maxHeartbeats 4000000
/-! xs[::-1] of texts, tuples, lists. -/
namespace DL
open PySem PySem.Spec PyProof.Rows L2
section
variable {prog : Program} {w : World} {A : Around} {E : Value → Shared → Prop} {s : Shared}
theorem revPlaces (n : Nat) : Builtin.Slice.slicePlaces ((n : Int) - 1) (-1) (-1) = n := by
  unfold Builtin.Slice.slicePlaces
  rw [if_neg (by decide)]
  by_cases h : (n : Int) - 1 > -1
  · rw [if_pos h]
    have e : ((n : Int) - 1 - -1 - 1) / (- -1) + 1 = (n : Int) := by
      rw [show (- -1 : Int) = 1 by decide, Int.ediv_one]
      omega
    rw [e, Int.toNat_natCast]
  · rw [if_neg h]
    omega
theorem revApplied {sl : Addr} {vl vu vs : Value} {n : Nat} {Q : Int × Int × Nat → Shared → Prop} (hs : s.heap.IsSliceOf sl vl vu vs) (pl : IsPart vl none) (pu : IsPart vu none) (ps : IsPart vs (some (-1)))
    (h : Q ((n : Int) - 1, -1, n) s) : wpAny (model prog w) A (Builtin.Slice.sliceApplied (.ref sl) (pure (n : Int))) Q E s := by
  obtain ⟨os, hos, hcs, hds⟩ := id hs
  unfold Builtin.Slice.sliceApplied Builtin.Slice.sliceFields
  refine wpAny_bind (wpAny_bind (wpAny_field hos hds (x := vl) rfl (wpAny_bind (wpAny_field hos hds (x := vu) rfl (wpAny_bind (wpAny_field hos hds (x := vs) rfl (wpAny_pure ?_)))))))
  refine wpAny_bind (HT.slicePart_ ps ?_)
  show wpAny _ _ (if ((-1 : Int) == 0) = true then _ else _) _ _ s
  rw [if_neg (by decide)]
  refine wpAny_bind (HT.slicePart_ pl (wpAny_bind (HT.slicePart_ pu (wpAny_bind (wpAny_pure ?_)))))
  show wpAny _ _ (pure ((n : Int) - 1, (-1 : Int), Builtin.Slice.slicePlaces ((n : Int) - 1) (-1) (-1))) _ _ s
  rw [revPlaces]
  exact wpAny_pure h
theorem fm_congr {α β : Type} {f g : α → Option β} : ∀ {l : List α}, (∀ x ∈ l, f x = g x) → l.filterMap f = l.filterMap g
  | [], _ => rfl
  | x :: l, h => by rw [List.filterMap_cons, List.filterMap_cons, h x (List.mem_cons_self ..), fm_congr fun y hy => h y (List.mem_cons_of_mem _ hy)]
theorem revPick (xs : Array Value) : ((List.range xs.size).filterMap fun (m : Nat) => xs[(((xs.size : Int) - 1) + (m : Int) * (-1)).toNat]?).toArray = xs.toList.reverse.toArray := by
  have e : (List.range xs.size).filterMap (fun (m : Nat) => xs[(((xs.size : Int) - 1) + (m : Int) * (-1)).toNat]?) = ((List.range xs.size).map fun k => xs.size - 1 - k).filterMap (xs[·]?) := by
    rw [List.filterMap_map]
    refine fm_congr fun m hm => ?_
    have := List.mem_range.mp hm
    show xs[(((xs.size : Int) - 1) + (m : Int) * (-1)).toNat]? = xs[xs.size - 1 - m]?
    congr 1
    omega
  rw [e, PySem.W.krv_range, List.filterMap_reverse, PySem.W.krv_all]
theorem getItem_tuple_rev {t sl : Addr} {items : Array Value} {vl vu vs : Value} {Q : Value → Shared → Prop} (ht : IsTup s.heap t items) (hs : s.heap.IsSliceOf sl vl vu vs) (pl : IsPart vl none) (pu : IsPart vu none) (ps : IsPart vs (some (-1)))
    (h : Q (.ref s.heap.objs.size) { s with heap := s.heap.push { cls := .type "tuple", data := .seq items.toList.reverse.toArray } }) (hsz : items.size ≤ sizeLine) : wpAny (model prog w) A (getItem (.ref t) (.ref sl)) Q E s := by
  have hfit : sizeOk (.seq items.toList.reverse.toArray) := by
    show items.toList.reverse.toArray.size ≤ sizeLine
    rw [List.size_toArray, List.length_reverse, Array.length_toList]
    exact hsz
  obtain ⟨os, hos, hcs, hds⟩ := id hs
  have hTs : s.TypeIs (.ref sl) "slice" := ⟨os, hos, hcs⟩
  unfold getItem
  try with_reducible refine wpAny_holding ?_
  first | refine wpAny_bind (wpAny_pure ?_) | skip
  refine wpAny_bind (wpAny_sequenceKey ht.typeIs (by decide) ?_)
  refine wpAny_bind (wpAny_callSpecial?_slot (name := Str.ofString "__getitem__") ht.typeIs PyProof.Rows.slot_tuple_getitem
    (wpAny_call_entry PyProof.Rows.slot_tuple_getitem ht.typeIs entry_tuple_getitem ?_ (args_tuple_getitem _ _)))
  show wpAny _ _ (Builtin.Tuple.tupleItemsOf (.ref t) >>= _) _ _ s
  refine wpAny_bind (tupleItemsOf_ ht ?_)
  refine wpAny_bind (wpAny_typeOf hTs ?_)
  rw [if_pos (by decide)]
  refine wpAny_bind (revApplied hs pl pu ps ?_)
  have hno : ¬ (((items.size : Int) - 1 == 0 && (-1 : Int) == 1 && items.size == items.size) = true) := by
    rw [show ((-1 : Int) == 1) = false by decide, Bool.and_false, Bool.false_and]
    exact Bool.false_ne_true
  show wpAny _ _ (if ((items.size : Int) - 1 == 0 && (-1 : Int) == 1 && items.size == items.size) = true then _ else _) _ _ s
  rw [if_neg hno, revPick]
  first
    | exact wpAny_bind (m := Builtin.Tuple.tupleExact _) (wpAny_newObj_type (wpAny_pure ⟨_, rfl, wpAny_pure h⟩) hfit)
    | exact wpAny_bind (m := Builtin.Tuple.tupleExact _) (wpAny_newObj_type (wpAny_bind (wpAny_pure (wpAny_pure ⟨_, rfl, wpAny_pure h⟩))) hfit)
    | exact wpAny_bind (wpAny_bind (m := Builtin.Tuple.tupleExact _) (wpAny_newObj_type (wpAny_pure (wpAny_pure ⟨_, rfl, wpAny_pure h⟩)) hfit))
    | exact wpAny_bind (wpAny_bind (m := Builtin.Tuple.tupleExact _) (wpAny_newObj_type (wpAny_pure ⟨_, rfl, wpAny_pure h⟩) hfit))
end
def revS (z : Str) : Str := ⟨z.cps.toList.reverse.toArray⟩
theorem revIdx (z : Str) : (Builtin.Str.strSliceIndices none none (-1) z.length).filterMap (z.cps[·]?) = z.cps.toList.reverse := by
  have e : Builtin.Str.strSliceIndices none none (-1) z.length = sliceRange ((z.length : Int) - 1) (-1) (-1) := rfl
  rw [e, PySem.W.krv_sliceRange, PySem.W.krv_range, List.filterMap_reverse]
  show ((List.range z.cps.size).filterMap (z.cps[·]?)).reverse = _
  rw [PySem.W.krv_all]
def tRevA (K : PySem.W.Frag) (te : TE) : TE := fun σ H Q => te σ H fun x H1 => (∃ z, x = .str z ∧ z.length ≤ sizeLine ∧ Q (.str (revS z)) H1) ∨ (∃ a xs, x = .ref a ∧ SqT K H1 a xs ∧ ∀ p, H1 p = none → Q (.ref p) (upd H1 p (.tup xs.reverse)))
  ∨ (∃ a xs, x = .ref a ∧ SqL K H1 a xs ∧ ∀ p, H1 p = none → Q (.ref p) (upd H1 p (.lst xs.reverse)))
section
variable {X : Cx}
theorem pe_revA {e : Expr} {te : TE} {k : Nat} {p1 p2 p3 pos : Pos} (he : PE X e te) : PE X (.Subscript e (.Slice none none (some (.UnaryOp .USub (.Constant (.int 1) k p1) p2)) p3) pos) (tRevA X.K te) := by
  refine ⟨fun pins s σ H Q I h => ?_⟩
  refine Subscript_ (thn (he.run pins s σ H _ I h) fun v s1 ⟨x, H1, I1, r1, q1⟩ => ?_)
  have hst : PO X (some (.UnaryOp .USub (.Constant (.int 1) k p1) p2)) (tPart (tUn (rU fun i => .int (-i)) (tC (.int 1)))) := po_some (pe_un un_neg pe_int)
  refine wpAny_Slice (thn (po_none.run pins s1 σ H1 (fun o H2 => o = none ∧ H2 = H1) I1 ⟨rfl, rfl⟩) fun vl s2 ⟨l, H2, I2, pl, el, e2⟩ => ?_)
  subst el e2
  refine thn (po_none.run pins s2 σ H2 (fun o H3 => o = none ∧ H3 = H2) I2 ⟨rfl, rfl⟩) fun vu s3 ⟨u, H3, I3, pu, eu, e3⟩ => ?_
  subst eu e3
  refine thn (hst.run pins s3 σ H3 (fun o H4 => o = some (-1) ∧ H4 = H3) I3 ⟨1, rfl, -1, rfl, rfl, rfl⟩) fun vs s4 ⟨o, H4, I4, ps, eo, e4⟩ => ?_
  subst eo e4
  have I5 : Inv X pins σ H4 { s4 with heap := s4.heap.push { cls := .type "slice", data := .fields #[vl, vu, vs] } } := I4.kept (t' := s4.toks) fun b ob q => Heap.get?_push_of_some _ q
  show wpAny (model X.prog X.w) X.A (subscriptTail e (.Slice none none (some (.UnaryOp .USub (.Constant (.int 1) k p1) p2)) p3) v (.ref s4.heap.objs.size)) (EP X pins σ Q) X.xe { s4 with heap := s4.heap.push { cls := .type "slice", data := .fields #[vl, vu, vs] } }
  rcases q1 with ⟨z, ex, hz, q⟩ | ⟨a, xs, ex, hx, q⟩ | ⟨a, xs, ex, hx, q⟩
  · subst ex
    obtain ⟨t, rfl⟩ := r1
    refine tail_any (ops := [.ref s4.heap.objs.size, .str z t]) (typeIs_str _ _ _) (F.slot_str_getitem.lookup) ?_ (by with_unfolding_all rfl)
    obtain ⟨os, hos, hcs, hds⟩ := Heap.IsSliceOf.new s4.heap vl vu vs
    obtain ⟨l, rfl, hl⟩ := IsPart.raw pl
    obtain ⟨u, rfl, hu⟩ := IsPart.raw pu
    obtain ⟨st, rfl, hst⟩ := IsPart.raw ps
    have h1 : (st.map (·.1)).getD 1 = -1 := by rw [hst]; rfl
    refine wpAny_getItem_str_slice (l := l) (u := u) (st := st) ⟨os, hos, hcs, hds⟩ (by rw [h1]; rfl) ?_
    unfold sliceMade slicePicked
    rw [h1, hl, hu, if_neg (by rw [show ((-1 : Int) == 1) = false by decide, Bool.false_and]; exact Bool.false_ne_true), revIdx]
    refine ⟨?_, .str _, H4, I5.tok _, ⟨_, rfl⟩, q⟩
    show z.cps.toList.reverse.toArray.size ≤ sizeLine
    rw [List.size_toArray, List.length_reverse]
    exact hz
  · subst ex
    cases r1
    obtain ⟨its, r, ht, hz⟩ := I5.tuple hx
    refine tail_any (ops := [.ref a, .ref s4.heap.objs.size]) ht.typeIs (PyProof.Rows.slot_tuple_getitem.lookup) ?_ (by with_unfolding_all rfl)
    have hlen := r.length
    refine getItem_tuple_rev ht (Heap.IsSliceOf.new _ vl vu vs) pl pu ps ?_ (by rw [List.size_toArray]; omega)
    refine ⟨.ref _, _, I5.laid (t' := s4.toks) (o := .tup xs.reverse) (fun b ob q => Heap.get?_push_of_some _ q) (Nat.le_refl _) ?_, rfl, q _ (I5.hok.fresh (Nat.le_refl _))⟩
    exact ⟨by rw [List.length_reverse]; exact hz, _, r.reverse, IsTup.new _ _⟩
  · subst ex
    cases r1
    obtain ⟨its, r, ht, hz⟩ := I5.list hx
    have hlen := r.length
    refine tail_any (ops := [.ref a, .ref s4.heap.objs.size]) ht.isList.typeIs (PySem.slot_list_getitem.lookup) ?_ (by with_unfolding_all rfl)
    refine wpAny_getItem_list_slice ht.isList (Heap.IsSliceOf.new _ vl vu vs) pl pu ps (by decide) ?_ (by rw [List.size_toArray]; omega)
    rw [PySem.W.krv_pick]
    refine ⟨.ref _, _, I5.laid (t' := s4.toks) (o := .lst xs.reverse) (fun b ob q => Heap.get?_push_of_some _ q) (Nat.le_refl _) ?_, rfl, q _ (I5.hok.fresh (Nat.le_refl _))⟩
    exact ⟨by rw [List.length_reverse]; exact hz, _, 0, r.reverse, Heap.get?_push_size _ rfl⟩
end
def kRev (Q : KD) (d : DV) (s1 : Sto) : Prop := match d with
  | .str z => z.length ≤ sizeLine ∧ Q (.str (revS z)) s1
  | .tup ds => Q (.tup ds.reverse) s1
  | .lst ds => Q (.lst ds.reverse) s1
  | _ => False
def dRev (te : TEd) (δ : Ed) (s : Sto) (Q : KD) : Prop := te δ s (kRev Q)
theorem DatL.rev {K : PySem.W.Frag} {s : Sto} {H : Hp} : ∀ {vs : List V} {ds : List DV}, DatL K s H vs ds → DatL K s H vs.reverse ds.reverse
  | _, _, .nil => .nil
  | _, _, .cons h t => by rw [List.reverse_cons, List.reverse_cons]; exact (DatL.rev t).append (.cons h .nil)
theorem drev {X : Cx} {A : Anc} {e : Expr} {te : TEd} {k : Nat} {p1 p2 p3 pos : Pos} (he : PD A X e te) : PD A X (.Subscript e (.Slice none none (some (.UnaryOp .USub (.Constant (.int 1) k p1) p2)) p3) pos) (dRev te) := peImp (pe_revA he) fun σ H Q h => by
  obtain ⟨δ, s, Q', S, t, k⟩ := h
  refine ⟨δ, s, _, S, t, fun v H1 d s1 st1 rep1 dv q => ?_⟩
  cases d with
  | str z => cases dv; exact .inl ⟨z, rfl, q.1, k _ _ _ s1 st1 rep1 (.str _) q.2⟩
  | tup ds =>
    obtain ⟨a, xs, rfl, h1, l⟩ := dv.tupInv
    exact .inr (.inl ⟨a, xs, rfl, h1, fun p hp => k _ _ _ s1 (st1.trans (Stp.newF hp)) (rep1.newF hp) (.tup (SqT.of upd_same) ((DatL.rev l).step (Stp.newF hp) rep1)) q⟩)
  | lst ds =>
    obtain ⟨a, xs, rfl, h1, n1, l⟩ := dv.lstInv
    exact .inr (.inr ⟨a, xs, rfl, SqL.of h1, fun p hp => k _ _ _ s1 (st1.trans (Stp.newF hp)) (rep1.newF hp) (.lst upd_same (rep1.fresh hp) ((DatL.rev l).step (Stp.newF hp) rep1)) q⟩)
  | _ => exact q.elim
end DL
namespace DL
open PySem PySem.Spec PyProof.Rows L2
/-! ### what the module's names are -/
section
variable {X : Cx} {A : Anc} {x : Str} {pos : Pos}
theorem dgint {i : Int} (h : ∃ t, X.mg x = some (.int i t)) (hg : Gl X x := by rfl) (hb : (x == ("__debug__" : Str)) = false := by decide) : PD A X (.Name x pos) (dC (.int i)) := by
  obtain ⟨t, h⟩ := h
  exact dglob (v := .int i) h ⟨t, rfl⟩ (fun _ _ _ => .int i) hg hb
theorem dgstr {z : Str} (h : ∃ t, X.mg x = some (.str z t)) (hg : Gl X x := by rfl) (hb : (x == ("__debug__" : Str)) = false := by decide) : PD A X (.Name x pos) (dC (.str z)) := by
  obtain ⟨t, h⟩ := h
  exact dglob (v := .str z) h ⟨t, rfl⟩ (fun _ _ _ => .str z) hg hb
/-- a global that is a written tuple -/
def GTup (K : PySem.W.Frag) (mg : Str → Option Value) (x : Str) (ds : List DV) : Prop := ∃ a, mg x = some (.ref a) ∧ ∀ s H, Dat K s H (.ref a) (.tup ds)
theorem dgtup {ds : List DV} (h : GTup X.K X.mg x ds) (hg : Gl X x := by rfl) (hb : (x == ("__debug__" : Str)) = false := by decide) : PD A X (.Name x pos) (dC (.tup ds)) := by
  obtain ⟨a, h, hd⟩ := h
  exact peImp (pe_glob (v := .ref a) hg h rfl hb) fun σ H Q q => by
    obtain ⟨δ, s, Q', S, t, k⟩ := q
    exact k _ H _ s (Stp.refl s H) S.rep (hd s H) t
end
/-! ### a place in a list -/
theorem atI_all {α : Type} {P : α → Prop} {ds : List α} {r : Int} (h : ∀ d ∈ ds, P d) (h0 : 0 ≤ r) (h1 : r < ds.length) : ∃ d, atI ds r = some d ∧ P d := by
  obtain ⟨x, e, g⟩ := atI_pos h0 h1
  exact ⟨x, e, h x (List.mem_of_getElem? g)⟩
theorem subS_one (c : Nat) (z : Str) : subS ⟨#[c]⟩ z = decide (c ∈ z.cps.toList) := StrLaws.found_one z c
theorem str_int_len {i : Int} (h : i.natAbs.log2 < 1920) : Str.length (toString i) ≤ sizeLine := int_text_fits h
end DL
namespace DL
open PySem PySem.Spec PyProof.Rows L2
def dDisp0 (δ : Ed) (s : Sto) (Q : KD) : Prop := ∀ p, s p = none → Q (.ref p) (up s p (.dK []))
theorem ddisp0 {A : Anc} {X : Cx} {pos : Pos} : PD A X (.Dict [] [] pos) dDisp0 := peImp pe_dnewK fun σ H Q h => by
  obtain ⟨δ, s, Q', S, t, k⟩ := h
  intro p hp
  have st : Stp s H (up s p (.dK [])) (upd H p (.dK [])) := Stp.new hp
  have rep : Rep X.K (up s p (.dK [])) (upd H p (.dK [])) := S.rep.put st ⟨[], upd_same, .nil⟩
  exact k _ _ _ _ st rep (.ref p) (t p (S.rep.fresh hp))
end DL
namespace DL
open PySem PySem.Spec PyProof.Rows L2
/-! ### a, b = x, y -/
def kPar2 (i j : Nat) (D : EndsD) (δ : Ed) (ds : List DV) (s1 : Sto) : Prop := match ds with
  | [a, b] => D.nx ((δ.set i (some a)).set j (some b)) s1
  | _ => False
def dPar2 (i j : Nat) (t : TAd) (D : EndsD) (δ : Ed) (s : Sto) : Prop := t δ s (kPar2 i j D δ)
def kPar3 (i j l : Nat) (D : EndsD) (δ : Ed) (ds : List DV) (s1 : Sto) : Prop := match ds with
  | [a, b, c] => D.nx (((δ.set i (some a)).set j (some b)).set l (some c)) s1
  | _ => False
def dPar3 (i j l : Nat) (t : TAd) (D : EndsD) (δ : Ed) (s : Sto) : Prop := t δ s (kPar3 i j l D δ)
section
variable {A : Anc} {X : Cx}
theorem dspar2 {i j : Nat} {x y : Str} {a b : Expr} {ta : TAd} {px py pt pos : Pos} {kt k2 pt2} (hc : X.calm = true) (hN : X.N.Nodup) (hi : X.N[i]? = some x) (hj : X.N[j]? = some y) (hij : i ≠ j)
    (hx : X.env.scope.names.lookup x = some .local) (hy : X.env.scope.names.lookup y = some .local) (ha : PAd A X [a, b] ta)
    (hw : swappedStores [.Tuple [.Name x px, .Name y py] kt pt] (.Tuple [a, b] k2 pt2) X.env = pure (some [x, y]))
    (hs : swapsWithSole [.Tuple [.Name x px, .Name y py] kt pt] (.Tuple [a, b] k2 pt2) pos.line X.env = pure false := by rfl) :
    PSd A X (.Assign [.Tuple [.Name x px, .Name y py] kt pt] (.Tuple [a, b] k2 pt2) pos) (dPar2 i j ta) := psImp (ps_par hc hN hi hj hij hx hy ha hw hs) fun D σ H h => by
  obtain ⟨δ, s, D', S, t, L⟩ := h
  refine ⟨δ, s, _, S, t, fun vs H2 ds s2 st rep dvs q => ?_⟩
  unfold kPar2 at q
  split at q
  · cases dvs with
    | cons h1 t => cases t with
      | cons h2 t => cases t; exact ⟨_, _, rfl, L.nx _ H2 _ s2 ⟨S.stp.trans st, rep, ((S.env.step st S.rep).set h1 i).set h2 j⟩ q⟩
  · exact q.elim
theorem dspar3 {i j l : Nat} {x y z : Str} {a b c : Expr} {ta : TAd} {px py pz pt pos : Pos} {kt k2 pt2} (hc : X.calm = true) (hN : X.N.Nodup) (hi : X.N[i]? = some x) (hj : X.N[j]? = some y) (hl : X.N[l]? = some z) (hij : i ≠ j) (hil : i ≠ l) (hjl : j ≠ l)
    (hx : X.env.scope.names.lookup x = some .local) (hy : X.env.scope.names.lookup y = some .local) (hz : X.env.scope.names.lookup z = some .local) (ha : PAd A X [a, b, c] ta)
    (hw : swappedStores [.Tuple [.Name x px, .Name y py, .Name z pz] kt pt] (.Tuple [a, b, c] k2 pt2) X.env = pure (some [x, y, z]))
    (hs : swapsWithSole [.Tuple [.Name x px, .Name y py, .Name z pz] kt pt] (.Tuple [a, b, c] k2 pt2) pos.line X.env = pure false := by rfl) :
    PSd A X (.Assign [.Tuple [.Name x px, .Name y py, .Name z pz] kt pt] (.Tuple [a, b, c] k2 pt2) pos) (dPar3 i j l ta) := psImp (ps_par3 hc hN hi hj hl hij hil hjl hx hy hz ha hw hs) fun D σ H h => by
  obtain ⟨δ, s, D', S, t, L⟩ := h
  refine ⟨δ, s, _, S, t, fun vs H2 ds s2 st rep dvs q => ?_⟩
  unfold kPar3 at q
  split at q
  · cases dvs with
    | cons h1 t => cases t with
      | cons h2 t => cases t with
        | cons h3 t => cases t; exact ⟨_, _, _, rfl, L.nx _ H2 _ s2 ⟨S.stp.trans st, rep, (((S.env.step st S.rep).set h1 i).set h2 j).set h3 l⟩ q⟩
  · exact q.elim
end
end DL

set_option Elab.async false
set_option linter.all false
set_option maxRecDepth 100000
set_option maxHeartbeats 4000000
/-! The same readings with what is looked at as an argument: the simplifier then never walks a branch that is not taken. -/
namespace DL
open PySem PySem.Spec PyProof.Rows L2
def kVar (s : Sto) (Q : KD) : Option DV → Prop
  | some d => Q d s
  | none => False
theorem dVar_k {i : Nat} {δ : Ed} {s : Sto} {Q : KD} : dVar i δ s Q = kVar s Q (δ.getD i none) := by
  unfold dVar kVar
  cases δ.getD i none <;> rfl
def kTruO (s : Sto) (Q : Bool → Sto → Prop) : Option Bool → Prop
  | some b => Q b s
  | none => False
theorem kTru_k {Q : Bool → Sto → Prop} {d : DV} {s : Sto} : kTru Q d s = kTruO s Q (truD s d) := by
  unfold kTru kTruO
  cases truD s d <;> rfl
def kEqS (s : Sto) (n : Bool) (Q : KD) : Option PyData → Option PyData → Prop
  | some d, some e => SeqAt.shaped d = true ∧ SeqAt.shaped e = true ∧ Q (.bl (if n then !PyData.eqv d e else PyData.eqv d e)) s
  | _, _ => False
def kEqO (s : Sto) (x y : DV) (n : Bool) (Q : KD) : Option Bool → Prop
  | some b => Q (.bl (if n then !b else b)) s
  | none => kEqS s n Q (pdS s x) (pdS s y)
theorem dEq_k {x y : DV} {s : Sto} {Q : KD} : dEq x y s Q = kEqO s x y false Q (scalEq x y) := by
  unfold dEq kEqO
  cases scalEq x y with
  | some b => rfl
  | none =>
    show eqData s x y _ = kEqS s false Q (pdS s x) (pdS s y)
    unfold eqData kEqS
    cases pdS s x <;> cases pdS s y <;> rfl
theorem dNe_k {x y : DV} {s : Sto} {Q : KD} : dNe x y s Q = kEqO s x y true Q (scalEq x y) := by
  unfold dNe kEqO
  cases scalEq x y with
  | some b => rfl
  | none =>
    show eqData s x y _ = kEqS s true Q (pdS s x) (pdS s y)
    unfold eqData kEqS
    cases pdS s x <;> cases pdS s y <;> rfl
def kLenO (s : Sto) (Q : KD) : Option Nat → Prop
  | some n => Q (.int n) s
  | none => False
theorem dLen_k {d : DV} {s : Sto} {Q : KD} : dLen [d] s Q = kLenO s Q (lenD s d) := by
  show (match lenD s d with | some n => Q (.int n) s | none => False) = _
  cases lenD s d <;> rfl
def kChr (s : Sto) (Q : KD) : Option Nat → Prop
  | some c => Q (.str ⟨#[c]⟩) s
  | none => False
theorem dIx_str {z : Str} {i : Int} {s : Sto} {Q : KD} : dIx (.str z) (.int i) s Q = (z.length ≤ sizeLine ∧ kChr s Q (atI z.cps.toList i)) := by
  show (z.length ≤ sizeLine ∧ match atI z.cps.toList i with | some c => Q (.str ⟨#[c]⟩) s | none => False) = _
  cases atI z.cps.toList i <;> rfl
theorem dIx_lst {ds : List DV} {i : Int} {s : Sto} {Q : KD} : dIx (.lst ds) (.int i) s Q = ixD (atI ds i) s Q := rfl
theorem dIx_tup {ds : List DV} {i : Int} {s : Sto} {Q : KD} : dIx (.tup ds) (.int i) s Q = ixD (atI ds i) s Q := rfl
theorem dIx_scr {ds : List DV} {i : Int} {s : Sto} {Q : KD} : dIx (.scr ds) (.int i) s Q = ixD (atI ds i) s Q := rfl
def kSeqF (s : Sto) (t : Bool) (Q : KD) : Option (List DV) → Prop
  | some es => Q (if t then .tup es else .lst es) s
  | none => False
theorem dListF_k {d : DV} {s : Sto} {Q : KD} : dListF [d] s Q = kSeqF s false Q (seqD s d) := by
  show (match seqD s d with | some es => Q (.lst es) s | none => False) = _
  cases seqD s d <;> rfl
theorem dTupF_k {d : DV} {s : Sto} {Q : KD} : dTupF [d] s Q = kSeqF s true Q (seqD s d) := by
  show (match seqD s d with | some es => Q (.tup es) s | none => False) = _
  cases seqD s d <;> rfl
theorem dIn_tup {n : Bool} {x : DV} {ds : List DV} {s : Sto} {Q : KD} : dIn n x (.tup ds) s Q = (flatD x = true ∧ ds.all flatD = true ∧ Q (.bl (if n then !inF x ds else inF x ds)) s) := rfl
theorem dIn_lst {n : Bool} {x : DV} {ds : List DV} {s : Sto} {Q : KD} : dIn n x (.lst ds) s Q = (flatD x = true ∧ ds.all flatD = true ∧ Q (.bl (if n then !inF x ds else inF x ds)) s) := rfl
theorem dIn_str {n : Bool} {a b : Str} {s : Sto} {Q : KD} : dIn n (.str a) (.str b) s Q = Q (.bl (if n then !subS a b else subS a b)) s := rfl
theorem dAdd_lst {a b : List DV} {s : Sto} {Q : KD} : dAdd (.lst a) (.lst b) s Q = (a.length + b.length ≤ sizeLine ∧ Q (.lst (a ++ b)) s) := rfl
theorem dAdd_int {a b : Int} {s : Sto} {Q : KD} : dAdd (.int a) (.int b) s Q = Q (.int (a + b)) s := rfl
theorem dAdd_str {a b : Str} {s : Sto} {Q : KD} : dAdd (.str a) (.str b) s Q = (a.length + b.length ≤ sizeLine ∧ Q (.str (a ++ b)) s) := rfl
theorem dAdd_tup {a b : List DV} {s : Sto} {Q : KD} : dAdd (.tup a) (.tup b) s Q = (a.length + b.length ≤ sizeLine ∧ Q (.tup (a ++ b)) s) := rfl
theorem dMul_int {a b : Int} {s : Sto} {Q : KD} : dMul (.int a) (.int b) s Q = ((CMul a b ∨ CMulW a b) ∧ Q (.int (a * b)) s) := rfl
theorem dSlR_str {z : Str} {lo hi : Option Int} {s : Sto} {Q : KD} : dSlR (.str z) lo hi s Q = (z.length ≤ sizeLine ∧ Q (.str (cutS z lo hi)) s) := rfl
theorem dSlR_tup {z : List DV} {lo hi : Option Int} {s : Sto} {Q : KD} : dSlR (.tup z) lo hi s Q = Q (.tup (cutD z lo hi)) s := rfl
theorem dSlR_lst {z : List DV} {lo hi : Option Int} {s : Sto} {Q : KD} : dSlR (.lst z) lo hi s Q = Q (.lst (cutD z lo hi)) s := rfl
end DL

set_option Elab.async false
set_option linter.all false
set_option maxRecDepth 100000
namespace DL
open PySem PySem.Spec PyProof.Rows L2
theorem dC_e {d : DV} {δ : Ed} {s : Sto} {Q : KD} : dC d δ s Q = (Q d s) := propext Iff.rfl
theorem kOp2_e {r : R2d} {Q : KD} {x y : DV} {s2 : Sto} : kOp2 r Q x y s2 = (r x y s2 Q) := propext Iff.rfl
theorem kOp1_e {r : R2d} {tb : TEd} {δ : Ed} {Q : KD} {x : DV} {s1 : Sto} : kOp1 r tb δ Q x s1 = (tb δ s1 (kOp2 r Q x)) := propext Iff.rfl
theorem dOp_e {r : R2d} {ta tb : TEd} {δ : Ed} {s : Sto} {Q : KD} : dOp r ta tb δ s Q = (ta δ s (kOp1 r tb δ Q)) := propext Iff.rfl
theorem dTest_e {t : TEd} {δ : Ed} {s : Sto} {Q : Bool → Sto → Prop} : dTest t δ s Q = (t δ s (kTest Q)) := propext Iff.rfl
theorem kChain2_e {r r' : R2d} {tc : TEd} {δ : Ed} {Q : KD} {x y : DV} {s2 : Sto} : kChain2 r r' tc δ Q x y s2 = (r x y s2 (kChain3 r' tc δ Q y)) := propext Iff.rfl
theorem kChain1_e {r r' : R2d} {tb tc : TEd} {δ : Ed} {Q : KD} {x : DV} {s1 : Sto} : kChain1 r r' tb tc δ Q x s1 = (tb δ s1 (kChain2 r r' tc δ Q x)) := propext Iff.rfl
theorem dChain_e {r r' : R2d} {ta tb tc : TEd} {δ : Ed} {s : Sto} {Q : KD} : dChain r r' ta tb tc δ s Q = (ta δ s (kChain1 r r' tb tc δ Q)) := propext Iff.rfl
theorem dAnd_e {t u : TTd} {δ : Ed} {s : Sto} {Q : Bool → Sto → Prop} : dAnd t u δ s Q = (t δ s (kAnd u δ Q)) := propext Iff.rfl
theorem dOr_e {t u : TTd} {δ : Ed} {s : Sto} {Q : Bool → Sto → Prop} : dOr t u δ s Q = (t δ s (kOr u δ Q)) := propext Iff.rfl
theorem kNot_e {Q : Bool → Sto → Prop} {b : Bool} {s1 : Sto} : kNot Q b s1 = (Q (!b) s1) := propext Iff.rfl
theorem dNot_e {t : TTd} {δ : Ed} {s : Sto} {Q : Bool → Sto → Prop} : dNot t δ s Q = (t δ s (kNot Q)) := propext Iff.rfl
theorem dIf_e {t : TTd} {ta tb : TEd} {δ : Ed} {s : Sto} {Q : KD} : dIf t ta tb δ s Q = (t δ s (kIf ta tb δ Q)) := propext Iff.rfl
theorem dTru_e {t : TEd} {δ : Ed} {s : Sto} {Q : Bool → Sto → Prop} : dTru t δ s Q = (t δ s (kTru Q)) := propext Iff.rfl
theorem dNil_e {δ : Ed} {s : Sto} {Q : List DV → Sto → Prop} : dNil δ s Q = (Q [] s) := propext Iff.rfl
theorem kCons2_e {Q : List DV → Sto → Prop} {x : DV} {xs : List DV} {s2 : Sto} : kCons2 Q x xs s2 = (Q (x :: xs) s2) := propext Iff.rfl
theorem kCons1_e {tr : TAd} {δ : Ed} {Q : List DV → Sto → Prop} {x : DV} {s1 : Sto} : kCons1 tr δ Q x s1 = (tr δ s1 (kCons2 Q x)) := propext Iff.rfl
theorem dCons_e {ta : TEd} {tr : TAd} {δ : Ed} {s : Sto} {Q : List DV → Sto → Prop} : dCons ta tr δ s Q = (ta δ s (kCons1 tr δ Q)) := propext Iff.rfl
theorem kTup_e {Q : KD} {ds : List DV} {s1 : Sto} : kTup Q ds s1 = (ds.length ≤ sizeLine ∧ Q (.tup ds) s1) := propext Iff.rfl
theorem dTup_e {t : TAd} {δ : Ed} {s : Sto} {Q : KD} : dTup t δ s Q = (t δ s (kTup Q)) := propext Iff.rfl
theorem kLst_e {Q : KD} {ds : List DV} {s1 : Sto} : kLst Q ds s1 = (ds.length ≤ sizeLine ∧ Q (.lst ds) s1) := propext Iff.rfl
theorem dLst_e {t : TAd} {δ : Ed} {s : Sto} {Q : KD} : dLst t δ s Q = (t δ s (kLst Q)) := propext Iff.rfl
theorem kLstM_e {Q : KD} {ds : List DV} {s1 : Sto} : kLstM Q ds s1 = (ds.length ≤ sizeLine ∧ ∀ p, s1 p = none → Q (.ref p) (up s1 p (.lst ds))) := propext Iff.rfl
theorem dLstM_e {t : TAd} {δ : Ed} {s : Sto} {Q : KD} : dLstM t δ s Q = (t δ s (kLstM Q)) := propext Iff.rfl
theorem kFrz_e {Q : KD} {d : DV} {s1 : Sto} : kFrz Q d s1 = (Q (frzD s1 d).1 (frzD s1 d).2) := propext Iff.rfl
theorem dFrz_e {t : TEd} {δ : Ed} {s : Sto} {Q : KD} : dFrz t δ s Q = (t δ s (kFrz Q)) := propext Iff.rfl
theorem dNext_e {D : EndsD} {δ : Ed} {s : Sto} : dNext D δ s = (D.nx δ s) := propext Iff.rfl
theorem dSeq_e {t u : TSd} {D : EndsD} {δ : Ed} {s : Sto} : dSeq t u D δ s = (t { D with nx := u D } δ s) := propext Iff.rfl
theorem dBreak_e {D : EndsD} {δ : Ed} {s : Sto} : dBreak D δ s = (D.bk δ s) := propext Iff.rfl
theorem dCont_e {D : EndsD} {δ : Ed} {s : Sto} : dCont D δ s = (D.ct δ s) := propext Iff.rfl
theorem dDrop_e {te : TEd} {D : EndsD} {δ : Ed} {s : Sto} : dDrop te D δ s = (te δ s (kDrop D δ)) := propext Iff.rfl
theorem dRet_e {te : TEd} {D : EndsD} {δ : Ed} {s : Sto} : dRet te D δ s = (te δ s D.rt) := propext Iff.rfl
theorem kRetS_e {D : EndsD} {d : DV} {s1 : Sto} : kRetS D d s1 = (∃ s2, Sub s2 s1 ∧ D.rt d s2) := propext Iff.rfl
theorem dRetS_e {te : TEd} {D : EndsD} {δ : Ed} {s : Sto} : dRetS te D δ s = (te δ s (kRetS D)) := propext Iff.rfl
theorem dRetN_e {D : EndsD} {δ : Ed} {s : Sto} : dRetN D δ s = (D.rt .non s) := propext Iff.rfl
theorem kIfS_e {t u : TSd} {D : EndsD} {δ : Ed} {b : Bool} {s1 : Sto} : kIfS t u D δ b s1 = (dGif b (t D δ) (u D δ) s1) := propext Iff.rfl
theorem gNameD_e {i : Nat} {d : DV} {δ : Ed} {s : Sto} {Q : Ed → Sto → Prop} : gNameD i d δ s Q = (Q (δ.set i (some d)) s) := propext Iff.rfl
theorem kAsg_e {g : TGd} {D : EndsD} {δ : Ed} {x : DV} {s1 : Sto} : kAsg g D δ x s1 = (g x δ s1 D.nx) := propext Iff.rfl
theorem dAsg_e {te : TEd} {g : TGd} {D : EndsD} {δ : Ed} {s : Sto} : dAsg te g D δ s = (te δ s (kAsg g D δ)) := propext Iff.rfl
theorem gNilD_e {ds : List DV} {δ : Ed} {s : Sto} {Q : Ed → Sto → Prop} : gNilD ds δ s Q = (ds = [] ∧ Q δ s) := propext Iff.rfl
theorem kGCons_e {u : TGsd} {Q : Ed → Sto → Prop} {r : List DV} {δ' : Ed} {s' : Sto} : kGCons u Q r δ' s' = (u r δ' s' Q) := propext Iff.rfl
theorem dPart_e {t : TEd} {δ : Ed} {s : Sto} {Q : Option Int → Sto → Prop} : dPart t δ s Q = (t δ s (kPart Q)) := propext Iff.rfl
theorem dNoPart_e {δ : Ed} {s : Sto} {Q : Option Int → Sto → Prop} : dNoPart δ s Q = (Q none s) := propext Iff.rfl
theorem kSl3_e {r : RSd} {Q : KD} {x : DV} {l u : Option Int} {s3 : Sto} : kSl3 r Q x l u s3 = (r x l u s3 Q) := propext Iff.rfl
theorem kSl2_e {r : RSd} {th : TOd} {δ : Ed} {Q : KD} {x : DV} {l : Option Int} {s2 : Sto} : kSl2 r th δ Q x l s2 = (th δ s2 (kSl3 r Q x l)) := propext Iff.rfl
theorem kSl1_e {r : RSd} {tl th : TOd} {δ : Ed} {Q : KD} {x : DV} {s1 : Sto} : kSl1 r tl th δ Q x s1 = (tl δ s1 (kSl2 r th δ Q x)) := propext Iff.rfl
theorem dSl_e {r : RSd} {te : TEd} {tl th : TOd} {δ : Ed} {s : Sto} {Q : KD} : dSl r te tl th δ s Q = (te δ s (kSl1 r tl th δ Q)) := propext Iff.rfl
theorem kSub2_e {d : DV} {δ : Ed} {Q : Ed → Sto → Prop} {o i : DV} {s2 : Sto} : kSub2 d δ Q o i s2 = (dSetR o i d s2 (Q δ)) := propext Iff.rfl
theorem kSub1_e {ti : TEd} {d : DV} {δ : Ed} {Q : Ed → Sto → Prop} {o : DV} {s1 : Sto} : kSub1 ti d δ Q o s1 = (ti δ s1 (kSub2 d δ Q o)) := propext Iff.rfl
theorem gSubD_e {to ti : TEd} {d : DV} {δ : Ed} {s : Sto} {Q : Ed → Sto → Prop} : gSubD to ti d δ s Q = (to δ s (kSub1 ti d δ Q)) := propext Iff.rfl
theorem kCB_e {r : RCd} {Q : KD} {ds : List DV} {s1 : Sto} : kCB r Q ds s1 = (r ds s1 Q) := propext Iff.rfl
theorem dCB_e {r : RCd} {t : TAd} {δ : Ed} {s : Sto} {Q : KD} : dCB r t δ s Q = (t δ s (kCB r Q)) := propext Iff.rfl
theorem kBM2_e {r : RMd} {Q : KD} {x : DV} {xs : List DV} {s2 : Sto} : kBM2 r Q x xs s2 = (r x xs s2 Q) := propext Iff.rfl
theorem kBM1_e {T : String} {r : RMd} {t : TAd} {δ : Ed} {Q : KD} {x : DV} {s1 : Sto} : kBM1 T r t δ Q x s1 = (tyD T s1 x = true ∧ t δ s1 (kBM2 r Q x)) := propext Iff.rfl
theorem dBM_e {T : String} {r : RMd} {to : TEd} {t : TAd} {δ : Ed} {s : Sto} {Q : KD} : dBM T r to t δ s Q = (to δ s (kBM1 T r t δ Q)) := propext Iff.rfl
theorem dIt_e {te : TEd} {δ : Ed} {s : Sto} {R : List DV → (Sto → Prop) → Sto → Prop} : dIt te δ s R = (te δ s (kIt R)) := propext Iff.rfl
theorem dRng1_e {ta : TAd} {δ : Ed} {s : Sto} {R : List DV → (Sto → Prop) → Sto → Prop} : dRng1 ta δ s R = (ta δ s (kRng1 R)) := propext Iff.rfl
theorem dRng2_e {ta : TAd} {δ : Ed} {s : Sto} {R : List DV → (Sto → Prop) → Sto → Prop} : dRng2 ta δ s R = (ta δ s (kRng2 R)) := propext Iff.rfl
theorem dFor_e {it : TId} {g : TGd} {tb : TSd} {D : EndsD} {δ : Ed} {s : Sto} : dFor it g tb D δ s = (it δ s (dForW g tb D δ)) := propext Iff.rfl
theorem kWhile_e {tb : TSd} {D : EndsD} {W : Nat → Ed → Sto → Prop} {m : Nat} {δ : Ed} {b : Bool} {s1 : Sto} : kWhile tb D W m δ b s1 = (dGif b (tb { D with nx := lessW W m, ct := lessW W m, bk := D.nx } δ) (D.nx δ) s1) := propext Iff.rfl
theorem kLc3_e {W : Nat → List DV → Sto → Prop} {i : Nat} {acc : List DV} {y : DV} {s3 : Sto} : kLc3 W i acc y s3 = (acc.length < sizeLine ∧ W (i + 1) (acc ++ [y]) s3) := propext Iff.rfl
theorem kLc2_e {te : TEd} {W : Nat → List DV → Sto → Prop} {i : Nat} {acc : List DV} {δ' : Ed} {b : Bool} {s2 : Sto} : kLc2 te W i acc δ' b s2 = (dGif b (kLc2' te W i acc δ') (W (i + 1) acc) s2) := propext Iff.rfl
theorem kLc1_e {tt : TTd} {te : TEd} {W : Nat → List DV → Sto → Prop} {i : Nat} {acc : List DV} {δ' : Ed} {s' : Sto} : kLc1 tt te W i acc δ' s' = (tt δ' s' (kLc2 te W i acc δ')) := propext Iff.rfl
theorem finF_e {Q : KD} {D : Addr} {acc : List DV} {s : Sto} : finF Q D acc s = (Q (.lst acc) (er s D)) := propext Iff.rfl
theorem finM_e {Q : KD} {D : Addr} {acc : List DV} {s : Sto} : finM Q D acc s = (Q (.ref D) (up s D (.lst acc))) := propext Iff.rfl
theorem dLc_e {it : TId} {g : TGd} {tt : TTd} {te : TEd} {vs : List Nat} {δ : Ed} {s : Sto} {Q : KD} : dLc it g tt te vs δ s Q = (it δ s (dLcW g tt te vs δ (finF Q))) := propext Iff.rfl
theorem dLcM_e {it : TId} {g : TGd} {tt : TTd} {te : TEd} {vs : List Nat} {δ : Ed} {s : Sto} {Q : KD} : dLcM it g tt te vs δ s Q = (it δ s (dLcW g tt te vs δ (finM Q))) := propext Iff.rfl
theorem kCall_e {sp : Spd} {dvs : List DV} {Q : KD} {ds : List DV} {s1 : Sto} : kCall sp dvs Q ds s1 = (cSp sp (ds ++ dvs) s1 Q noX) := propext Iff.rfl
theorem dCall_e {sp : Spd} {dvs : List DV} {t : TAd} {δ : Ed} {s : Sto} {Q : KD} : dCall sp dvs t δ s Q = (t δ s (kCall sp dvs Q)) := propext Iff.rfl
theorem kCallK2_e {sp : Spd} {n m : Nat} {g : List DV → List DV → List DV} {Q : KD} {ds es : List DV} {s2 : Sto} : kCallK2 sp n m g Q ds es s2 = ((ds.length = n ∧ es.length = m) ∧ cSp sp (g ds es) s2 Q noX) := propext Iff.rfl
theorem kCallK_e {sp : Spd} {n m : Nat} {g : List DV → List DV → List DV} {tk : TAd} {δ : Ed} {Q : KD} {ds : List DV} {s1 : Sto} : kCallK sp n m g tk δ Q ds s1 = (tk δ s1 (kCallK2 sp n m g Q ds)) := propext Iff.rfl
theorem dCallK_e {sp : Spd} {n m : Nat} {g : List DV → List DV → List DV} {t tk : TAd} {δ : Ed} {s : Sto} {Q : KD} : dCallK sp n m g t tk δ s Q = (t δ s (kCallK sp n m g tk δ Q)) := propext Iff.rfl
theorem kMeth2_e {sp : Spd} {dvs : List DV} {Q : KD} {a : Addr} {ds : List DV} {s2 : Sto} : kMeth2 sp dvs Q a ds s2 = (cSp sp (.ref a :: (ds ++ dvs)) s2 Q noX) := propext Iff.rfl
theorem dMeth_e {C : Addr} {m : Str} {sp : Spd} {dvs : List DV} {to : TEd} {t : TAd} {δ : Ed} {s : Sto} {Q : KD} : dMeth C m sp dvs to t δ s Q = (to δ s (kMeth C m sp dvs t δ Q)) := propext Iff.rfl
theorem kMade_e {Q : KD} {x : Addr} {d : DV} {s2 : Sto} : kMade Q x d s2 = (d = .non ∧ Q (.ref x) s2) := propext Iff.rfl
theorem kMake_e {C : Addr} {sp : Spd} {dvs : List DV} {Q : KD} {ds : List DV} {s1 : Sto} : kMake C sp dvs Q ds s1 = (∀ x, s1 x = none → cSp sp (.ref x :: (ds ++ dvs)) (up s1 x (.ins C [])) (kMade Q x) noX) := propext Iff.rfl
theorem dMake_e {C : Addr} {sp : Spd} {dvs : List DV} {t : TAd} {δ : Ed} {s : Sto} {Q : KD} : dMake C sp dvs t δ s Q = (t δ s (kMake C sp dvs Q)) := propext Iff.rfl
theorem kMakeK2_e {C : Addr} {sp : Spd} {n m : Nat} {g : List DV → List DV → List DV} {Q : KD} {ds es : List DV} {s2 : Sto} : kMakeK2 C sp n m g Q ds es s2 = ((ds.length = n ∧ es.length = m) ∧ ∀ x, s2 x = none → cSp sp (g (.ref x :: ds) es) (up s2 x (.ins C [])) (kMade Q x) noX) := propext Iff.rfl
theorem kMakeK_e {C : Addr} {sp : Spd} {n m : Nat} {g : List DV → List DV → List DV} {tk : TAd} {δ : Ed} {Q : KD} {ds : List DV} {s1 : Sto} : kMakeK C sp n m g tk δ Q ds s1 = (tk δ s1 (kMakeK2 C sp n m g Q ds)) := propext Iff.rfl
theorem dMakeK_e {C : Addr} {sp : Spd} {n m : Nat} {g : List DV → List DV → List DV} {t tk : TAd} {δ : Ed} {s : Sto} {Q : KD} : dMakeK C sp n m g t tk δ s Q = (t δ s (kMakeK C sp n m g tk δ Q)) := propext Iff.rfl
theorem dFld_e {C : Addr} {f : Str} {t : TEd} {δ : Ed} {s : Sto} {Q : KD} : dFld C f t δ s Q = (t δ s (kFld C f Q)) := propext Iff.rfl
theorem kSetFld_e {C : Addr} {f : Str} {to : TEd} {D : EndsD} {δ : Ed} {v : DV} {s1 : Sto} : kSetFld C f to D δ v s1 = (to δ s1 (kSetFld2 C f D δ v)) := propext Iff.rfl
theorem dSetFld_e {C : Addr} {f : Str} {to tv : TEd} {D : EndsD} {δ : Ed} {s : Sto} : dSetFld C f to tv D δ s = (tv δ s (kSetFld C f to D δ)) := propext Iff.rfl
theorem dAugFld_e {C : Addr} {f : Str} {g : Int → Int} {to : TEd} {D : EndsD} {δ : Ed} {s : Sto} : dAugFld C f g to D δ s = (to δ s (kAugFld C f g D δ)) := propext Iff.rfl
theorem kAugN2_e {i : Nat} {D : EndsD} {δ : Ed} {z : DV} {s2 : Sto} : kAugN2 i D δ z s2 = (D.nx (δ.set i (some z)) s2) := propext Iff.rfl
theorem kAugN1_e {i : Nat} {r : R2d} {x : DV} {D : EndsD} {δ : Ed} {y : DV} {s1 : Sto} : kAugN1 i r x D δ y s1 = (r x y s1 (kAugN2 i D δ)) := propext Iff.rfl
theorem kPair3_e {Q : List (DV × DV) → Sto → Prop} {x y : DV} {ps : List (DV × DV)} {s3 : Sto} : kPair3 Q x y ps s3 = (Q ((x, y) :: ps) s3) := propext Iff.rfl
theorem dDisp_e {trs : List (TEd × TEd)} {δ : Ed} {s : Sto} {Q : KD} : dDisp trs δ s Q = (∀ p, s p = none → dPairs trs δ (up s p .hid) (kDisp p Q)) := propext Iff.rfl
theorem dAndE_e {ta tb : TEd} {δ : Ed} {s : Sto} {Q : KD} : dAndE ta tb δ s Q = (ta δ s (kAndE tb δ Q)) := propext Iff.rfl
theorem dOrE_e {ta tb : TEd} {δ : Ed} {s : Sto} {Q : KD} : dOrE ta tb δ s Q = (ta δ s (kOrE tb δ Q)) := propext Iff.rfl
theorem dNotE_e {ta : TEd} {δ : Ed} {s : Sto} {Q : KD} : dNotE ta δ s Q = (ta δ s (kNotE Q)) := propext Iff.rfl
theorem dNeg_e {te : TEd} {δ : Ed} {s : Sto} {Q : KD} : dNeg te δ s Q = (te δ s (kNeg Q)) := propext Iff.rfl
end DL

set_option Elab.async false
set_option linter.all false
set_option maxRecDepth 100000
namespace DL
open PySem PySem.Spec PyProof.Rows L2
theorem nrfl {α : Sort _} {a b : α} (h : a = b) : a = b := by
  cases h
  exact Eq.refl _
theorem kTest_q1 : ∀ (Q : Bool → DL.Sto → Prop) (s1 : DL.Sto) (b : Bool), DL.kTest Q (DL.DV.bl b) s1 = Q b s1 := by intros; exact propext Iff.rfl
theorem kChain3_q1 : ∀ (r' : DL.R2d) (tc : DL.TEd) (δ : DL.Ed) (Q : DL.KD) (y : DL.DV) (s3 : DL.Sto),
    DL.kChain3 r' tc δ Q y (DL.DV.bl Bool.true) s3 = tc δ s3 (DL.kOp2 r' Q y) := by intros; exact propext Iff.rfl
theorem kChain3_q2 : ∀ (r' : DL.R2d) (tc : DL.TEd) (δ : DL.Ed) (Q : DL.KD) (y : DL.DV) (s3 : DL.Sto),
    DL.kChain3 r' tc δ Q y (DL.DV.bl Bool.false) s3 = Q (DL.DV.bl Bool.false) s3 := by intros; exact propext Iff.rfl
theorem kAnd_q1 : ∀ (u : DL.TTd) (δ : DL.Ed) (Q : Bool → DL.Sto → Prop) (s1 : DL.Sto),
    DL.kAnd u δ Q Bool.true s1 = u δ s1 Q := by intros; exact propext Iff.rfl
theorem kAnd_q2 : ∀ (u : DL.TTd) (δ : DL.Ed) (Q : Bool → DL.Sto → Prop) (s1 : DL.Sto),
    DL.kAnd u δ Q Bool.false s1 = Q Bool.false s1 := by intros; exact propext Iff.rfl
theorem kOr_q1 : ∀ (u : DL.TTd) (δ : DL.Ed) (Q : Bool → DL.Sto → Prop) (s1 : DL.Sto),
    DL.kOr u δ Q Bool.true s1 = Q Bool.true s1 := by intros; exact propext Iff.rfl
theorem kOr_q2 : ∀ (u : DL.TTd) (δ : DL.Ed) (Q : Bool → DL.Sto → Prop) (s1 : DL.Sto), DL.kOr u δ Q Bool.false s1 = u δ s1 Q := by intros; exact propext Iff.rfl
theorem kIf_q1 : ∀ (ta tb : DL.TEd) (δ : DL.Ed) (Q : DL.KD) (s1 : DL.Sto), DL.kIf ta tb δ Q Bool.true s1 = ta δ s1 Q := by intros; exact propext Iff.rfl
theorem kIf_q2 : ∀ (ta tb : DL.TEd) (δ : DL.Ed) (Q : DL.KD) (s1 : DL.Sto), DL.kIf ta tb δ Q Bool.false s1 = tb δ s1 Q := by intros; exact propext Iff.rfl
theorem kTruO_q1 : ∀ (s : DL.Sto) (Q : Bool → DL.Sto → Prop) (b : Bool), DL.kTruO s Q (Option.some b) = Q b s := by intros; exact propext Iff.rfl
theorem kTruO_q2 : ∀ (s : DL.Sto) (Q : Bool → DL.Sto → Prop), DL.kTruO s Q Option.none = False := by intros; exact propext Iff.rfl
theorem kDrop_q1 : ∀ (D : DL.EndsD) (δ : DL.Ed) (x : DL.DV) (s1 : DL.Sto), DL.kDrop D δ x s1 = D.nx δ s1 := by intros; exact propext Iff.rfl
theorem kPart_q1 : ∀ (Q : Option Int → DL.Sto → Prop) (s1 : DL.Sto) (i : Int),
    DL.kPart Q (DL.DV.int i) s1 = Q (Option.some i) s1 := by intros; exact propext Iff.rfl
theorem kRng1_q1 : ∀ (R : List DL.DV → (DL.Sto → Prop) → DL.Sto → Prop) (s1 : DL.Sto) (j : Int),
    DL.kRng1 R [DL.DV.int j] s1 = ((-2 ^ 62 ≤ j ∧ j < 2 ^ 62) ∧ R (DL.rngD 0 j.toNat) DL.gTrue s1) := by intros; exact propext Iff.rfl
theorem kRng2_q1 : ∀ (R : List DL.DV → (DL.Sto → Prop) → DL.Sto → Prop) (s1 : DL.Sto) (i j : Int),
    DL.kRng2 R [DL.DV.int i, DL.DV.int j] s1 =
      ((-2 ^ 62 ≤ i ∧ i < 2 ^ 62 ∧ -2 ^ 62 ≤ j ∧ j < 2 ^ 62) ∧ R (DL.rngD i (j - i).toNat) DL.gTrue s1) := by intros; exact propext Iff.rfl
theorem kAndE_q1 : ∀ (tb : DL.TEd) (δ : DL.Ed) (Q : DL.KD) (s1 : DL.Sto),
    DL.kAndE tb δ Q (DL.DV.bl Bool.true) s1 = tb δ s1 Q := by intros; exact propext Iff.rfl
theorem kAndE_q2 : ∀ (tb : DL.TEd) (δ : DL.Ed) (Q : DL.KD) (s1 : DL.Sto),
    DL.kAndE tb δ Q (DL.DV.bl Bool.false) s1 = Q (DL.DV.bl Bool.false) s1 := by intros; exact propext Iff.rfl
theorem kOrE_q1 : ∀ (tb : DL.TEd) (δ : DL.Ed) (Q : DL.KD) (s1 : DL.Sto),
    DL.kOrE tb δ Q (DL.DV.bl Bool.false) s1 = tb δ s1 Q := by intros; exact propext Iff.rfl
theorem kOrE_q2 : ∀ (tb : DL.TEd) (δ : DL.Ed) (Q : DL.KD) (s1 : DL.Sto),
    DL.kOrE tb δ Q (DL.DV.bl Bool.true) s1 = Q (DL.DV.bl Bool.true) s1 := by intros; exact propext Iff.rfl
theorem kNotE_q1 : ∀ (Q : DL.KD) (s1 : DL.Sto) (b : Bool), DL.kNotE Q (DL.DV.bl b) s1 = Q (DL.DV.bl !b) s1 := by intros; exact propext Iff.rfl
theorem kNeg_q1 : ∀ (Q : DL.KD) (s1 : DL.Sto) (i : Int), DL.kNeg Q (DL.DV.int i) s1 = Q (DL.DV.int (-i)) s1 := by intros; exact propext Iff.rfl
theorem kPair1_q1 : ∀ (tv : DL.TEd) (rest : DL.Ed → DL.Sto → (List (DL.DV × DL.DV) → DL.Sto → Prop) → Prop) (δ : DL.Ed)
    (Q : List (DL.DV × DL.DV) → DL.Sto → Prop) (x : DL.DV) (s1 : DL.Sto),
    DL.kPair1 tv rest δ Q x s1 = tv δ s1 (DL.kPair2 rest δ Q x) := by intros; exact propext Iff.rfl
theorem kPair2_q1 : ∀ (rest : DL.Ed → DL.Sto → (List (DL.DV × DL.DV) → DL.Sto → Prop) → Prop) (δ : DL.Ed)
    (Q : List (DL.DV × DL.DV) → DL.Sto → Prop) (x y : DL.DV) (s2 : DL.Sto),
    DL.kPair2 rest δ Q x y s2 = rest δ s2 (DL.kPair3 Q x y) := by intros; exact propext Iff.rfl
theorem kVar_q1 : ∀ (s : DL.Sto) (Q : DL.KD) (d : DL.DV), DL.kVar s Q (Option.some d) = Q d s := by intros; exact propext Iff.rfl
theorem kVar_q2 : ∀ (s : DL.Sto) (Q : DL.KD), DL.kVar s Q Option.none = False := by intros; exact propext Iff.rfl
theorem gConsD_q1 : ∀ (t : DL.TGd) (u : DL.TGsd) (δ : DL.Ed) (s : DL.Sto) (Q : DL.Ed → DL.Sto → Prop) (d : DL.DV)
    (r : List DL.DV), DL.gConsD t u (d :: r) δ s Q = t d δ s (DL.kGCons u Q r) := by intros; exact propext Iff.rfl
theorem gConsD_q2 : ∀ (t : DL.TGd) (u : DL.TGsd) (δ : DL.Ed) (s : DL.Sto) (Q : DL.Ed → DL.Sto → Prop),
    DL.gConsD t u [] δ s Q = False := by intros; exact propext Iff.rfl
theorem gTupD_q1 : ∀ (n : Nat) (t : DL.TGsd) (δ : DL.Ed) (s : DL.Sto) (Q : DL.Ed → DL.Sto → Prop) (ds : List DL.DV),
    DL.gTupD n t (DL.DV.tup ds) δ s Q = (ds.length = n ∧ t ds δ s Q) := by intros; exact propext Iff.rfl
theorem truD_q1 : ∀ (s : DL.Sto), DL.truD s DL.DV.non = Option.some Bool.false := by intros; exact nrfl rfl
theorem truD_q2 : ∀ (s : DL.Sto) (b : Bool), DL.truD s (DL.DV.bl b) = Option.some b := by intros; exact nrfl rfl
theorem truD_q3 : ∀ (s : DL.Sto) (i : Int), DL.truD s (DL.DV.int i) = Option.some (i != 0) := by intros; exact nrfl rfl
theorem truD_q5 : ∀ (s : DL.Sto) (ds : List DL.DV), DL.truD s (DL.DV.tup ds) = Option.some !ds.isEmpty := by intros; exact nrfl rfl
theorem truD_q6 : ∀ (s : DL.Sto) (ds : List DL.DV), DL.truD s (DL.DV.lst ds) = Option.some !ds.isEmpty := by intros; exact nrfl rfl
theorem truD_q7 : ∀ (s : DL.Sto) (ds : List DL.DV), DL.truD s (DL.DV.scr ds) = Option.some !ds.isEmpty := by intros; exact nrfl rfl
theorem kChr_q1 : ∀ (s : DL.Sto) (Q : DL.KD) (n : Nat), DL.kChr s Q (Option.some n) = Q (DL.DV.str { cps := #[n] }) s := by intros; exact propext Iff.rfl
theorem kChr_q2 : ∀ (s : DL.Sto) (Q : DL.KD), DL.kChr s Q Option.none = False := by intros; exact propext Iff.rfl
theorem ixD_q1 : ∀ (s : DL.Sto) (Q : DL.KD) (d : DL.DV), DL.ixD (Option.some d) s Q = Q d s := by intros; exact propext Iff.rfl
theorem ixD_q2 : ∀ (s : DL.Sto) (Q : DL.KD), DL.ixD Option.none s Q = False := by intros; exact propext Iff.rfl
theorem dSlR_q1 : ∀ (lo hi : Option Int) (s : DL.Sto) (Q : DL.KD) (z : PySem.Str),
    DL.dSlR (DL.DV.str z) lo hi s Q = (z.length ≤ PySem.sizeLine ∧ Q (DL.DV.str (L2.cutS z lo hi)) s) := by intros; exact propext Iff.rfl
theorem dSlR_q2 : ∀ (lo hi : Option Int) (s : DL.Sto) (Q : DL.KD) (ds : List DL.DV),
    DL.dSlR (DL.DV.tup ds) lo hi s Q = Q (DL.DV.tup (DL.cutD ds lo hi)) s := by intros; exact propext Iff.rfl
theorem dI_q1 : ∀ (C : Int → Int → Prop) (g : Int → Int → DL.DV) (s : DL.Sto) (Q : DL.KD) (i j : Int),
    DL.dI C g (DL.DV.int i) (DL.DV.int j) s Q = (C i j ∧ Q (g i j) s) := by intros; exact propext Iff.rfl
theorem dI0_q1 : ∀ (g : Int → Int → DL.DV) (s : DL.Sto) (Q : DL.KD) (i j : Int),
    DL.dI0 g (DL.DV.int i) (DL.DV.int j) s Q = Q (g i j) s := by intros; exact propext Iff.rfl
theorem dAdd_q1 : ∀ (s : DL.Sto) (Q : DL.KD) (i j : Int), DL.dAdd (DL.DV.int i) (DL.DV.int j) s Q = Q (DL.DV.int (i + j)) s := by intros; exact propext Iff.rfl
theorem dAdd_q2 : ∀ (s : DL.Sto) (Q : DL.KD) (a b : PySem.Str),
    DL.dAdd (DL.DV.str a) (DL.DV.str b) s Q = (a.length + b.length ≤ PySem.sizeLine ∧ Q (DL.DV.str (a ++ b)) s) := by intros; exact propext Iff.rfl
theorem dAdd_q3 : ∀ (s : DL.Sto) (Q : DL.KD) (a b : List DL.DV),
    DL.dAdd (DL.DV.tup a) (DL.DV.tup b) s Q = (a.length + b.length ≤ PySem.sizeLine ∧ Q (DL.DV.tup (a ++ b)) s) := by intros; exact propext Iff.rfl
theorem dMul_q1 : ∀ (s : DL.Sto) (Q : DL.KD) (i j : Int),
    DL.dMul (DL.DV.int i) (DL.DV.int j) s Q = ((L2.CMul i j ∨ L2.CMulW i j) ∧ Q (DL.DV.int (i * j)) s) := by intros; exact propext Iff.rfl
theorem dMul_q2 : ∀ (s : DL.Sto) (Q : DL.KD) (ds : List DL.DV) (k : Int),
    DL.dMul (DL.DV.tup ds) (DL.DV.int k) s Q =
      ((ds ≠ [] ∧ 2 ≤ k ∧ k ≤ 1000 ∧ ds.length ≤ 1000) ∧ Q (DL.DV.tup (List.replicate k.toNat ds).flatten) s) := by intros; exact propext Iff.rfl
theorem dLtB_q1 : ∀ (fI : Int → Int → Bool) (fS : PySem.Str → PySem.Str → Bool) (s : DL.Sto) (Q : DL.KD) (i j : Int),
    DL.dLtB fI fS (DL.DV.int i) (DL.DV.int j) s Q = Q (DL.DV.bl (fI i j)) s := by intros; exact propext Iff.rfl
theorem dLtB_q2 : ∀ (fI : Int → Int → Bool) (fS : PySem.Str → PySem.Str → Bool) (s : DL.Sto) (Q : DL.KD) (a b : PySem.Str),
    DL.dLtB fI fS (DL.DV.str a) (DL.DV.str b) s Q = Q (DL.DV.bl (fS a b)) s := by intros; exact propext Iff.rfl
theorem kEqO_q1 : ∀ (s : DL.Sto) (x y : DL.DV) (n : Bool) (Q : DL.KD) (b : Bool),
    DL.kEqO s x y n Q (Option.some b) = Q (DL.DV.bl (if n = Bool.true then !b else b)) s := by intros; exact propext Iff.rfl
theorem kEqO_q2 : ∀ (s : DL.Sto) (x y : DL.DV) (n : Bool) (Q : DL.KD),
    DL.kEqO s x y n Q Option.none = DL.kEqS s n Q (DL.pdS s x) (DL.pdS s y) := by intros; exact propext Iff.rfl
theorem kEqS_q1 : ∀ (s : DL.Sto) (n : Bool) (Q : DL.KD) (d e : PySem.PyData),
    DL.kEqS s n Q (Option.some d) (Option.some e) =
      (PySem.SeqAt.shaped d = Bool.true ∧
        PySem.SeqAt.shaped e = Bool.true ∧ Q (DL.DV.bl (if n = Bool.true then !d.eqv e else d.eqv e)) s) := by intros; exact propext Iff.rfl
theorem dIs_q1 : ∀ (neg : Bool) (x : DL.DV) (s : DL.Sto) (Q : DL.KD),
    DL.dIs neg x DL.DV.non s Q = Q (DL.DV.bl (if neg = Bool.true then !DL.isNonD x else DL.isNonD x)) s := by intros; exact propext Iff.rfl
theorem dIs_q2 : ∀ (neg : Bool) (s : DL.Sto) (Q : DL.KD) (b a : Bool),
    DL.dIs neg (DL.DV.bl a) (DL.DV.bl b) s Q =
      Q (DL.DV.bl (if neg = Bool.true then !Decidable.decide (a = b) else Decidable.decide (a = b))) s := by intros; exact propext Iff.rfl
theorem isNonD_q1 : DL.isNonD DL.DV.non = Bool.true := by intros; exact nrfl rfl
theorem dIn_q1 : ∀ (neg : Bool) (s : DL.Sto) (Q : DL.KD) (a a_1 : PySem.Str),
    DL.dIn neg (DL.DV.str a_1) (DL.DV.str a) s Q =
      Q (DL.DV.bl (if neg = Bool.true then !DL.subS a_1 a else DL.subS a_1 a)) s := by intros; exact propext Iff.rfl
theorem scalEq_q1 : ∀ (i j : Int), DL.scalEq (DL.DV.int i) (DL.DV.int j) = Option.some (Decidable.decide (i = j)) := by intros; exact nrfl rfl
theorem scalEq_q2 : ∀ (i j : PySem.Str), DL.scalEq (DL.DV.str i) (DL.DV.str j) = Option.some (Decidable.decide (i = j)) := by intros; exact nrfl rfl
theorem scalEq_q3 : ∀ (i j : Bool), DL.scalEq (DL.DV.bl i) (DL.DV.bl j) = Option.some (Decidable.decide (i = j)) := by intros; exact nrfl rfl
theorem scalEq_q4 : DL.scalEq DL.DV.non DL.DV.non = Option.some Bool.true := by intros; exact nrfl rfl
theorem scalEq_q5 : ∀ (i : Int), DL.scalEq DL.DV.non (DL.DV.int i) = Option.some Bool.false := by intros; exact nrfl rfl
theorem scalEq_q6 : ∀ (i : Int), DL.scalEq (DL.DV.int i) DL.DV.non = Option.some Bool.false := by intros; exact nrfl rfl
theorem scalEq_q7 : ∀ (x_2 : PySem.Str), DL.scalEq DL.DV.non (DL.DV.str x_2) = Option.some Bool.false := by intros; exact nrfl rfl
theorem scalEq_q8 : ∀ (x_2 : PySem.Str), DL.scalEq (DL.DV.str x_2) DL.DV.non = Option.some Bool.false := by intros; exact nrfl rfl
theorem pd_q1 : DL.pd DL.DV.non = Option.some PySem.PyData.none := by intros; exact nrfl rfl
theorem pd_q2 : ∀ (b : Bool), DL.pd (DL.DV.bl b) = Option.some (PySem.PyData.bool b) := by intros; exact nrfl rfl
theorem pd_q3 : ∀ (i : Int), DL.pd (DL.DV.int i) = Option.some (PySem.PyData.int i) := by intros; exact nrfl rfl
theorem pd_q4 : ∀ (x_1 : PySem.Str), DL.pd (DL.DV.str x_1) = Option.some (PySem.PyData.str x_1) := by intros; exact nrfl rfl
theorem pd_q5 : ∀ (ds : List DL.DV), DL.pd (DL.DV.tup ds) = Option.map PySem.PyData.tuple (DL.pdL ds) := by intros; exact nrfl rfl
theorem pd_q6 : ∀ (ds : List DL.DV), DL.pd (DL.DV.lst ds) = Option.map PySem.PyData.list (DL.pdL ds) := by intros; exact nrfl rfl
theorem pd_q7 : ∀ (ds : List DL.DV), DL.pd (DL.DV.scr ds) = Option.map PySem.PyData.list (DL.pdL ds) := by intros; exact nrfl rfl
theorem pd_q8 : ∀ (a : PySem.Addr), DL.pd (DL.DV.ref a) = Option.none := by intros; exact nrfl rfl
theorem pdL_q1 : DL.pdL [] = Option.some [] := by intros; exact nrfl rfl
theorem keyD_q1 : ∀ (i : Int), DL.keyD (DL.DV.int i) = Option.some (Sum.inl i) := by intros; exact nrfl rfl
theorem keyD_q2 : ∀ (x_1 : PySem.Str), DL.keyD (DL.DV.str x_1) = Option.some (Sum.inr x_1) := by intros; exact nrfl rfl
theorem kLenO_q1 : ∀ (s : DL.Sto) (Q : DL.KD) (n : Nat), DL.kLenO s Q (Option.some n) = Q (DL.DV.int ↑n) s := by intros; exact propext Iff.rfl
theorem kLenO_q2 : ∀ (s : DL.Sto) (Q : DL.KD), DL.kLenO s Q Option.none = False := by intros; exact propext Iff.rfl
theorem lenD_q1 : ∀ (s : DL.Sto) (z : PySem.Str),
    DL.lenD s (DL.DV.str z) = if z.length ≤ PySem.sizeLine then Option.some z.length else Option.none := by intros; exact nrfl rfl
theorem dAbs_q1 : ∀ (s : DL.Sto) (Q : DL.KD) (i : Int),
    DL.dAbs [DL.DV.int i] s Q = Q (DL.DV.int (if i < 0 then -i else i)) s := by intros; exact propext Iff.rfl
theorem dMin2_q1 : ∀ (s : DL.Sto) (Q : DL.KD) (i j : Int),
    DL.dMin2 [DL.DV.int i, DL.DV.int j] s Q = Q (DL.DV.int (if j < i then j else i)) s := by intros; exact propext Iff.rfl
theorem dMax2_q1 : ∀ (s : DL.Sto) (Q : DL.KD) (i j : Int),
    DL.dMax2 [DL.DV.int i, DL.DV.int j] s Q = Q (DL.DV.int (if j > i then j else i)) s := by intros; exact propext Iff.rfl
theorem kSeqF_q1 : ∀ (s : DL.Sto) (t : Bool) (Q : DL.KD) (es : List DL.DV),
    DL.kSeqF s t Q (Option.some es) = Q (if t = Bool.true then DL.DV.tup es else DL.DV.lst es) s := by intros; exact propext Iff.rfl
theorem kSeqF_q2 : ∀ (s : DL.Sto) (t : Bool) (Q : DL.KD), DL.kSeqF s t Q Option.none = False := by intros; exact propext Iff.rfl
theorem dOrd_q1 : ∀ (s : DL.Sto) (Q : DL.KD) (z : PySem.Str),
    DL.dOrd [DL.DV.str z] s Q = (z.length = 1 ∧ Q (DL.DV.int ↑(z.cps.getD 0 0)) s) := by intros; exact propext Iff.rfl
theorem dStr_q1 : ∀ (s : DL.Sto) (Q : DL.KD) (i : Int),
    DL.dStr [DL.DV.int i] s Q = (i.natAbs.log2 < 1920 ∧ Q (DL.DV.str (PySem.Str.ofString (ToString.toString i))) s) := by intros; exact propext Iff.rfl
theorem dIpAdd_q1 : ∀ (s : DL.Sto) (Q : DL.KD) (i j : Int),
    DL.dIpAdd (DL.DV.int i) (DL.DV.int j) s Q = Q (DL.DV.int (i + j)) s := by intros; exact propext Iff.rfl
theorem tyD_q1 : ∀ (T : String) (s : DL.Sto) (x : PySem.Str), DL.tyD T s (DL.DV.str x) = (T == "str") := by intros; exact nrfl rfl
theorem tyD_q2 : ∀ (T : String) (s : DL.Sto) (i : Int), DL.tyD T s (DL.DV.int i) = (T == "int") := by intros; exact nrfl rfl
theorem tyD_q4 : ∀ (T : String) (s : DL.Sto) (ds : List DL.DV), DL.tyD T s (DL.DV.lst ds) = (T == "list") := by intros; exact nrfl rfl
theorem tyD_q5 : ∀ (T : String) (s : DL.Sto) (ds : List DL.DV), DL.tyD T s (DL.DV.scr ds) = (T == "list") := by intros; exact nrfl rfl
theorem keysD_q1 : DL.keysD [] = Option.some [] := by intros; exact nrfl rfl
theorem wipeD_q1 : ∀ (δ : DL.Ed), DL.wipeD δ [] = δ := by intros; exact nrfl rfl
theorem wipeD_q2 : ∀ (δ : DL.Ed) (v : Nat) (vs : List Nat), DL.wipeD δ (v :: vs) = List.set (DL.wipeD δ vs) v Option.none := by intros; exact nrfl rfl
theorem dYes_q1 : ∀ (x : DL.Ed) (s : DL.Sto) (Q : Bool → DL.Sto → Prop), DL.dYes x s Q = Q Bool.true s := by intros; exact propext Iff.rfl
theorem itemsD_q1 : ∀ (s : DL.Sto) (ds : List DL.DV), DL.itemsD s (DL.DV.lst ds) = Option.some (ds, DL.gTrue) := by intros; exact nrfl rfl
theorem itemsD_q2 : ∀ (s : DL.Sto) (ds : List DL.DV), DL.itemsD s (DL.DV.scr ds) = Option.some (ds, DL.gTrue) := by intros; exact nrfl rfl
theorem itemsD_q3 : ∀ (s : DL.Sto) (ds : List DL.DV), DL.itemsD s (DL.DV.tup ds) = Option.some (ds, DL.gTrue) := by intros; exact nrfl rfl
theorem itemsD_q4 : ∀ (s : DL.Sto) (z : PySem.Str),
    DL.itemsD s (DL.DV.str z) = Option.some (List.map (fun (c : Nat) => DL.DV.str { cps := #[c] }) z.cps.toList, DL.gTrue) := by intros; exact nrfl rfl
theorem startD_q1 : ∀ (n : Nat) (ds : List DL.DV),
    DL.startD n ds = List.map Option.some ds ++ List.replicate (n - ds.length) Option.none := by intros; exact nrfl rfl
theorem dPar2_q1 : ∀ (i j : Nat) (t : DL.TAd) (D : DL.EndsD) (δ : DL.Ed) (s : DL.Sto),
    DL.dPar2 i j t D δ s = t δ s (DL.kPar2 i j D δ) := by intros; exact propext Iff.rfl
theorem kPar2_q1 : ∀ (i j : Nat) (D : DL.EndsD) (δ : DL.Ed) (s1 : DL.Sto) (a b : DL.DV),
    DL.kPar2 i j D δ [a, b] s1 = D.nx ((List.set δ i (Option.some a)).set j (Option.some b)) s1 := by intros; exact propext Iff.rfl
theorem dPar3_q1 : ∀ (i j l : Nat) (t : DL.TAd) (D : DL.EndsD) (δ : DL.Ed) (s : DL.Sto),
    DL.dPar3 i j l t D δ s = t δ s (DL.kPar3 i j l D δ) := by intros; exact propext Iff.rfl
theorem kPar3_q1 : ∀ (i j l : Nat) (D : DL.EndsD) (δ : DL.Ed) (s1 : DL.Sto) (a b c : DL.DV),
    DL.kPar3 i j l D δ [a, b, c] s1 =
      D.nx (((List.set δ i (Option.some a)).set j (Option.some b)).set l (Option.some c)) s1 := by intros; exact propext Iff.rfl
theorem dDisp0_q1 : ∀ (δ : DL.Ed) (s : DL.Sto) (Q : DL.KD),
    DL.dDisp0 δ s Q = ∀ (p : PySem.Addr), s p = Option.none → Q (DL.DV.ref p) (DL.up s p (DL.MO.dK [])) := by intros; exact propext Iff.rfl
theorem dIsi_q1 : ∀ (s : DL.Sto) (Q : DL.KD) (d : DL.DV) (n : String),
    DL.dIsi [d, DL.DV.ty n] s Q = DL.kIsi (DL.tyOfD s d) (DL.tyN n) s Q := by intros; exact propext Iff.rfl
theorem kIsi_q1 : ∀ (s : DL.Sto) (Q : DL.KD) (t_2 c_2 : DL.Ty),
    DL.kIsi (Option.some t_2) (Option.some c_2) s Q = Q (DL.DV.bl (DL.isT t_2 c_2)) s := by intros; exact propext Iff.rfl
theorem tyOfD_q1 : ∀ (s : DL.Sto), DL.tyOfD s DL.DV.non = Option.some DL.Ty.non := by intros; exact nrfl rfl
theorem tyOfD_q2 : ∀ (s : DL.Sto) (b : Bool), DL.tyOfD s (DL.DV.bl b) = Option.some DL.Ty.bl := by intros; exact nrfl rfl
theorem tyOfD_q3 : ∀ (s : DL.Sto) (i : Int), DL.tyOfD s (DL.DV.int i) = Option.some DL.Ty.int := by intros; exact nrfl rfl
theorem tyOfD_q4 : ∀ (s : DL.Sto) (x : PySem.Str), DL.tyOfD s (DL.DV.str x) = Option.some DL.Ty.str := by intros; exact nrfl rfl
theorem tyOfD_q5 : ∀ (s : DL.Sto) (ds : List DL.DV), DL.tyOfD s (DL.DV.tup ds) = Option.some DL.Ty.tup := by intros; exact nrfl rfl
theorem tyOfD_q6 : ∀ (s : DL.Sto) (ds : List DL.DV), DL.tyOfD s (DL.DV.lst ds) = Option.some DL.Ty.lst := by intros; exact nrfl rfl
theorem tyOfD_q7 : ∀ (s : DL.Sto) (ds : List DL.DV), DL.tyOfD s (DL.DV.scr ds) = Option.some DL.Ty.lst := by intros; exact nrfl rfl
theorem tyOfD_q8 : ∀ (s : DL.Sto) (a : PySem.Addr), DL.tyOfD s (DL.DV.ref a) = DL.tyOfO (s a) := by intros; exact nrfl rfl
theorem tyOfO_q1 : ∀ (ds : List DL.DV), DL.tyOfO (Option.some (DL.MO.lst ds)) = Option.some DL.Ty.lst := by intros; exact nrfl rfl
theorem tyOfO_q2 : ∀ (ks : List (L2.Key × DL.DV)), DL.tyOfO (Option.some (DL.MO.dK ks)) = Option.some DL.Ty.dct := by intros; exact nrfl rfl
theorem isT_q1 : DL.isT DL.Ty.bl DL.Ty.bl = Bool.true := by intros; exact nrfl rfl
theorem isT_q2 : DL.isT DL.Ty.bl DL.Ty.int = Bool.true := by intros; exact nrfl rfl
theorem isT_q3 : DL.isT DL.Ty.int DL.Ty.int = Bool.true := by intros; exact nrfl rfl
theorem isT_q4 : DL.isT DL.Ty.str DL.Ty.str = Bool.true := by intros; exact nrfl rfl
theorem isT_q5 : DL.isT DL.Ty.tup DL.Ty.tup = Bool.true := by intros; exact nrfl rfl
theorem isT_q6 : DL.isT DL.Ty.lst DL.Ty.lst = Bool.true := by intros; exact nrfl rfl
theorem isT_q7 : DL.isT DL.Ty.dct DL.Ty.dct = Bool.true := by intros; exact nrfl rfl
theorem isT_q8 : DL.isT DL.Ty.non DL.Ty.non = Bool.true := by intros; exact nrfl rfl
theorem dIsiT_q1 : ∀ (te : DL.TEd) (cs : List DL.Ty) (δ : DL.Ed) (s : DL.Sto) (Q : DL.KD),
    DL.dIsiT te cs δ s Q = te δ s (DL.kIsiT cs Q) := by intros; exact propext Iff.rfl
theorem dZip_q1 : ∀ (t : DL.TAd) (δ : DL.Ed) (s : DL.Sto) (R : List DL.DV → (DL.Sto → Prop) → DL.Sto → Prop),
    DL.dZip t δ s R = t δ s (DL.kZip R) := by intros; exact propext Iff.rfl
theorem kZip_q1 : ∀ (R : List DL.DV → (DL.Sto → Prop) → DL.Sto → Prop) (s1 : DL.Sto) (xs ys : List DL.DV),
    DL.kZip R [DL.DV.tup xs, DL.DV.tup ys] s1 = R (DL.zipD xs ys) DL.gTrue s1 := by intros; exact propext Iff.rfl
theorem kZip_q2 : ∀ (R : List DL.DV → (DL.Sto → Prop) → DL.Sto → Prop) (s1 : DL.Sto) (xs ys : List DL.DV),
    DL.kZip R [DL.DV.lst xs, DL.DV.lst ys] s1 = R (DL.zipD xs ys) DL.gTrue s1 := by intros; exact propext Iff.rfl
theorem dRev_q1 : ∀ (te : DL.TEd) (δ : DL.Ed) (s : DL.Sto) (Q : DL.KD), DL.dRev te δ s Q = te δ s (DL.kRev Q) := by intros; exact propext Iff.rfl
theorem kRev_q1 : ∀ (Q : DL.KD) (s1 : DL.Sto) (z : PySem.Str),
    DL.kRev Q (DL.DV.str z) s1 = (z.length ≤ PySem.sizeLine ∧ Q (DL.DV.str (DL.revS z)) s1) := by intros; exact propext Iff.rfl
theorem kRev_q2 : ∀ (Q : DL.KD) (s1 : DL.Sto) (ds : List DL.DV), DL.kRev Q (DL.DV.tup ds) s1 = Q (DL.DV.tup ds.reverse) s1 := by intros; exact propext Iff.rfl
theorem kRev_q3 : ∀ (Q : DL.KD) (s1 : DL.Sto) (ds : List DL.DV), DL.kRev Q (DL.DV.lst ds) s1 = Q (DL.DV.lst ds.reverse) s1 := by intros; exact propext Iff.rfl
theorem dUpper_q1 : ∀ (s : DL.Sto) (Q : DL.KD) (z : PySem.Str),
    DL.dUpper (DL.DV.str z) [] s Q = (z.length ≤ 5592405 ∧ Q (DL.DV.str (PySem.Txt.upper z)) s) := by intros; exact propext Iff.rfl
theorem dMulS_q1 : ∀ (s : DL.Sto) (Q : DL.KD) (z : PySem.Str) (k : Int),
    DL.dMulS (DL.DV.str z) (DL.DV.int k) s Q =
      ((2 ≤ k ∧ k ≤ 100000 ∧ 1 ≤ z.length ∧ z.length ≤ 100) ∧ Q (DL.DV.str (DL.repS z k)) s) := by intros; exact propext Iff.rfl
theorem refL_lst_q : ∀ {ds : List DL.DV}, DL.refL (Option.some (DL.MO.lst ds)) = Option.some ds := by intros; exact nrfl rfl
theorem refL_dK_q : ∀ {ds : List (L2.Key × DL.DV)}, DL.refL (Option.some (DL.MO.dK ds)) = Option.none := by intros; exact nrfl rfl
theorem refL_ins_q : ∀ {C : PySem.Addr} {fs : List (PySem.Str × DL.DV)}, DL.refL (Option.some (DL.MO.ins C fs)) = Option.none := by intros; exact nrfl rfl
theorem lstD_lst_q : ∀ {s : DL.Sto} {ds : List DL.DV}, DL.lstD s (DL.DV.lst ds) = Option.some ds := by intros; exact nrfl rfl
theorem lstD_scr_q : ∀ {s : DL.Sto} {ds : List DL.DV}, DL.lstD s (DL.DV.scr ds) = Option.some ds := by intros; exact nrfl rfl
theorem lstD_tup_q : ∀ {s : DL.Sto} {ds : List DL.DV}, DL.lstD s (DL.DV.tup ds) = Option.none := by intros; exact nrfl rfl
theorem lstD_str_q : ∀ {s : DL.Sto} {z : PySem.Str}, DL.lstD s (DL.DV.str z) = Option.none := by intros; exact nrfl rfl
theorem lstD_int_q : ∀ {s : DL.Sto} {z : Int}, DL.lstD s (DL.DV.int z) = Option.none := by intros; exact nrfl rfl
theorem lstW_lst_q : ∀ {s : DL.Sto} {ds : List DL.DV}, DL.lstW s (DL.DV.lst ds) = Option.some ds := by intros; exact nrfl rfl
theorem lstW_tup_q : ∀ {s : DL.Sto} {ds : List DL.DV}, DL.lstW s (DL.DV.tup ds) = Option.none := by intros; exact nrfl rfl
theorem lstW_str_q : ∀ {s : DL.Sto} {z : PySem.Str}, DL.lstW s (DL.DV.str z) = Option.none := by intros; exact nrfl rfl
theorem lstW_int_q : ∀ {s : DL.Sto} {z : Int}, DL.lstW s (DL.DV.int z) = Option.none := by intros; exact nrfl rfl
theorem seqD_tup_q : ∀ {s : DL.Sto} {ds : List DL.DV}, DL.seqD s (DL.DV.tup ds) = Option.some ds := by intros; exact nrfl rfl
theorem seqD_lst_q : ∀ {s : DL.Sto} {ds : List DL.DV}, DL.seqD s (DL.DV.lst ds) = Option.some ds := by intros; exact nrfl rfl
theorem seqD_scr_q : ∀ {s : DL.Sto} {ds : List DL.DV}, DL.seqD s (DL.DV.scr ds) = Option.some ds := by intros; exact nrfl rfl
theorem seqD_str_q : ∀ {s : DL.Sto} {z : PySem.Str}, DL.seqD s (DL.DV.str z) = Option.none := by intros; exact nrfl rfl
theorem seqD_int_q : ∀ {s : DL.Sto} {z : Int}, DL.seqD s (DL.DV.int z) = Option.none := by intros; exact nrfl rfl
theorem frzR_lst_q : ∀ {s : DL.Sto} {a : PySem.Addr} {ds : List DL.DV},
    DL.frzR s a (Option.some (DL.MO.lst ds)) = (DL.DV.lst ds, DL.er s a) := by intros; exact nrfl rfl
theorem frzR_dK_q : ∀ {s : DL.Sto} {a : PySem.Addr} {ds : List (L2.Key × DL.DV)},
    DL.frzR s a (Option.some (DL.MO.dK ds)) = (DL.DV.ref a, s) := by intros; exact nrfl rfl
theorem frzR_ins_q : ∀ {s : DL.Sto} {a C : PySem.Addr} {ds : List (PySem.Str × DL.DV)},
    DL.frzR s a (Option.some (DL.MO.ins C ds)) = (DL.DV.ref a, s) := by intros; exact nrfl rfl
theorem frz_int_q : ∀ {s : DL.Sto} {i : Int}, DL.frzD s (DL.DV.int i) = (DL.DV.int i, s) := by intros; exact nrfl rfl
theorem frz_str_q : ∀ {s : DL.Sto} {i : PySem.Str}, DL.frzD s (DL.DV.str i) = (DL.DV.str i, s) := by intros; exact nrfl rfl
theorem frz_bl_q : ∀ {s : DL.Sto} {i : Bool}, DL.frzD s (DL.DV.bl i) = (DL.DV.bl i, s) := by intros; exact nrfl rfl
theorem frz_non_q : ∀ {s : DL.Sto}, DL.frzD s DL.DV.non = (DL.DV.non, s) := by intros; exact nrfl rfl
theorem frz_tup_q : ∀ {s : DL.Sto} {i : List DL.DV}, DL.frzD s (DL.DV.tup i) = (DL.DV.tup i, s) := by intros; exact nrfl rfl
theorem frz_lst_q : ∀ {s : DL.Sto} {i : List DL.DV}, DL.frzD s (DL.DV.lst i) = (DL.DV.lst i, s) := by intros; exact nrfl rfl
theorem frz_scr_q : ∀ {s : DL.Sto} {i : List DL.DV}, DL.frzD s (DL.DV.scr i) = (DL.DV.scr i, s) := by intros; exact nrfl rfl
theorem gifT_q : ∀ {t u : DL.Sto → Prop} {s : DL.Sto}, DL.dGif Bool.true t u s = t s := by intros; exact propext Iff.rfl
theorem gifF_q : ∀ {t u : DL.Sto → Prop} {s : DL.Sto}, DL.dGif Bool.false t u s = u s := by intros; exact propext Iff.rfl
theorem dIx_lst_q : ∀ {ds : List DL.DV} {i : Int} {s : DL.Sto} {Q : DL.KD},
    DL.dIx (DL.DV.lst ds) (DL.DV.int i) s Q = DL.ixD (L2.atI ds i) s Q := by intros; exact propext Iff.rfl
theorem dIx_tup_q : ∀ {ds : List DL.DV} {i : Int} {s : DL.Sto} {Q : DL.KD},
    DL.dIx (DL.DV.tup ds) (DL.DV.int i) s Q = DL.ixD (L2.atI ds i) s Q := by intros; exact propext Iff.rfl
theorem dIx_scr_q : ∀ {ds : List DL.DV} {i : Int} {s : DL.Sto} {Q : DL.KD},
    DL.dIx (DL.DV.scr ds) (DL.DV.int i) s Q = DL.ixD (L2.atI ds i) s Q := by intros; exact propext Iff.rfl
theorem dIn_tup_q : ∀ {n : Bool} {x : DL.DV} {ds : List DL.DV} {s : DL.Sto} {Q : DL.KD},
    DL.dIn n x (DL.DV.tup ds) s Q =
      (DL.flatD x = Bool.true ∧
        ds.all DL.flatD = Bool.true ∧ Q (DL.DV.bl (if n = Bool.true then !DL.inF x ds else DL.inF x ds)) s) := by intros; exact propext Iff.rfl
theorem dIn_lst_q : ∀ {n : Bool} {x : DL.DV} {ds : List DL.DV} {s : DL.Sto} {Q : DL.KD},
    DL.dIn n x (DL.DV.lst ds) s Q =
      (DL.flatD x = Bool.true ∧
        ds.all DL.flatD = Bool.true ∧ Q (DL.DV.bl (if n = Bool.true then !DL.inF x ds else DL.inF x ds)) s) := by intros; exact propext Iff.rfl
theorem dIn_str_q : ∀ {n : Bool} {a b : PySem.Str} {s : DL.Sto} {Q : DL.KD},
    DL.dIn n (DL.DV.str a) (DL.DV.str b) s Q = Q (DL.DV.bl (if n = Bool.true then !DL.subS a b else DL.subS a b)) s := by intros; exact propext Iff.rfl
theorem dAdd_lst_q : ∀ {a b : List DL.DV} {s : DL.Sto} {Q : DL.KD},
    DL.dAdd (DL.DV.lst a) (DL.DV.lst b) s Q = (a.length + b.length ≤ PySem.sizeLine ∧ Q (DL.DV.lst (a ++ b)) s) := by intros; exact propext Iff.rfl
theorem dAdd_int_q : ∀ {a b : Int} {s : DL.Sto} {Q : DL.KD}, DL.dAdd (DL.DV.int a) (DL.DV.int b) s Q = Q (DL.DV.int (a + b)) s := by intros; exact propext Iff.rfl
theorem dAdd_str_q : ∀ {a b : PySem.Str} {s : DL.Sto} {Q : DL.KD},
    DL.dAdd (DL.DV.str a) (DL.DV.str b) s Q = (a.length + b.length ≤ PySem.sizeLine ∧ Q (DL.DV.str (a ++ b)) s) := by intros; exact propext Iff.rfl
theorem dAdd_tup_q : ∀ {a b : List DL.DV} {s : DL.Sto} {Q : DL.KD},
    DL.dAdd (DL.DV.tup a) (DL.DV.tup b) s Q = (a.length + b.length ≤ PySem.sizeLine ∧ Q (DL.DV.tup (a ++ b)) s) := by intros; exact propext Iff.rfl
theorem dMul_int_q : ∀ {a b : Int} {s : DL.Sto} {Q : DL.KD},
    DL.dMul (DL.DV.int a) (DL.DV.int b) s Q = ((L2.CMul a b ∨ L2.CMulW a b) ∧ Q (DL.DV.int (a * b)) s) := by intros; exact propext Iff.rfl
theorem dSlR_str_q : ∀ {z : PySem.Str} {lo hi : Option Int} {s : DL.Sto} {Q : DL.KD},
    DL.dSlR (DL.DV.str z) lo hi s Q = (z.length ≤ PySem.sizeLine ∧ Q (DL.DV.str (L2.cutS z lo hi)) s) := by intros; exact propext Iff.rfl
theorem dSlR_tup_q : ∀ {z : List DL.DV} {lo hi : Option Int} {s : DL.Sto} {Q : DL.KD},
    DL.dSlR (DL.DV.tup z) lo hi s Q = Q (DL.DV.tup (DL.cutD z lo hi)) s := by intros; exact propext Iff.rfl
theorem dSlR_lst_q : ∀ {z : List DL.DV} {lo hi : Option Int} {s : DL.Sto} {Q : DL.KD},
    DL.dSlR (DL.DV.lst z) lo hi s Q = Q (DL.DV.lst (DL.cutD z lo hi)) s := by intros; exact propext Iff.rfl
theorem lenD_tup {s : Sto} {ds : List DV} : lenD s (.tup ds) = some ds.length := nrfl rfl
theorem lenD_lst {s : Sto} {ds : List DV} : lenD s (.lst ds) = some ds.length := nrfl rfl
theorem lenD_scr {s : Sto} {ds : List DV} : lenD s (.scr ds) = some ds.length := nrfl rfl
def lenO : Option (List DV) → Option Nat
  | some ds => some ds.length
  | none => none
theorem lenO_q {ds : List DV} : lenO (some ds) = some ds.length := nrfl rfl
theorem lenD_re {s : Sto} {a : Addr} : lenD s (.ref a) = lenO (refL (s a)) := by
  show (lstD s (.ref a)).map (·.length) = _
  rw [lstD_re]
  cases refL (s a) <;> rfl
theorem set_q0 {α : Type _} {a b : α} {l : List α} : (a :: l).set 0 b = b :: l := nrfl rfl
theorem set_qs {α : Type _} {a b : α} {l : List α} {n : Nat} : (a :: l).set (n + 1) b = a :: l.set n b := nrfl rfl
theorem getD_q0 {α : Type _} {a d : α} {l : List α} : (a :: l).getD 0 d = a := nrfl rfl
theorem getD_qs {α : Type _} {a d : α} {l : List α} {n : Nat} : (a :: l).getD (n + 1) d = l.getD n d := nrfl rfl
theorem dSlR_scr {ds : List DV} {lo hi : Option Int} {s : Sto} {Q : KD} : dSlR (.scr ds) lo hi s Q = Q (.lst (cutD ds lo hi)) s := propext Iff.rfl
theorem truD_qs {s : Sto} {z : Str} : truD s (.str z) = if z.length ≤ sizeLine then some ((z.length : Int) != 0) else none := nrfl rfl
def kItO (R : List DV → (Sto → Prop) → Sto → Prop) (s : Sto) : Option (List DV × (Sto → Prop)) → Prop
  | some p => R p.1 p.2 s
  | none => False
theorem kIt_q {R : List DV → (Sto → Prop) → Sto → Prop} {d : DV} {s : Sto} : kIt R d s = kItO R s (itemsD s d) := by
  unfold kIt kItO
  cases itemsD s d <;> rfl
theorem kItO_q {R : List DV → (Sto → Prop) → Sto → Prop} {s : Sto} {ds : List DV} {G : Sto → Prop} : kItO R s (some (ds, G)) = R ds G s := propext Iff.rfl
end DL

set_option Elab.async false
set_option linter.all false
set_option maxRecDepth 100000
set_option maxHeartbeats 4000000
namespace DL
open PySem PySem.Spec PyProof.Rows L2
/-! ### enumerate(text, start=k) -/
/-- the signs of z, each in a new pair with its number, from k on -/
def Iten (z : Str) (k : Int) : It :=
  ⟨fun i _ => i < z.cps.size, fun i H v H' => ∃ (T : Addr) (c : Nat), v = .ref T ∧ H T = none ∧ z.cps[i]? = some c ∧ H' = upd H T (.tup [.int (k + (i : Nat)), .str ⟨#[c]⟩]), fun i _ => i = z.cps.size⟩
theorem enumS_turn {P : Program} {w : World} {K : PySem.W.Frag} {es : List Expr} {kk : Nat} {pt : Pos} (e it : Addr) (z : Str) (t : Tok) (k : Int) :
    Turn P w K (.Tuple es kk pt) (Iten z k) [e, it] e (fun i h => (∃ old, IsEnum h e it (k + ((i : Nat) : Int)) old) ∧ h.IsStrIter it (strIterType z) z t i ∧ e ≠ it) where
  mem := List.mem_cons_self ..
  obj := fun i h st b hb => by
    obtain ⟨⟨old, h1⟩, ⟨o, h2, hc, hd⟩, _⟩ := st
    rcases List.mem_cons.mp hb with q | q
    · subst q; exact ⟨_, h1, fun v y => nomatch y⟩
    · rw [List.mem_singleton.mp q]; exact ⟨o, h2, fun v y => by rw [hd] at y; cases y⟩
  keep := fun i h h' st kp => by
    obtain ⟨⟨old, h1⟩, ⟨o, h2, h3⟩, h4⟩ := st
    exact ⟨⟨old, kp e (List.mem_cons_self ..) _ h1⟩, ⟨o, kp it (List.mem_cons_of_mem _ (List.mem_cons_self ..)) o h2, h3⟩, h4⟩
  item := by
    intro X hP hw hK hc i pins s σ H E I hf st hg
    subst hP hw hK
    obtain ⟨⟨old, h1⟩, h2, hne⟩ := st
    have hh := I.ok.hd hc
    have D := Draws.text (prog := X.prog) (w := X.w) (A := X.A.in1) (by simp [hh]) it z t
    have l1 : e < s.heap.objs.size := Heap.lt_size h1
    have l2 : it < s.heap.objs.size := by obtain ⟨_, q, _⟩ := h2; exact Heap.lt_size q
    refine wpAny_pyNext_enum_itemC D h1 h2 hg hne (fun m => hne (List.mem_singleton.mp m)) fun x h' tk hP ho hst hT hz hk => ?_
    obtain ⟨c, u, hcz, rfl⟩ := hP
    refine ⟨_, rfl, wpAny_letOwnedTupleGo_enum (s := { s with heap := h', toks := tk + 1 }) ho fun h2' he' sb => ?_⟩
    have hT2 : h2'.get? s.heap.objs.size = some { cls := .type "tuple", data := .seq #[.int (k + (i : Nat)) tk, .str ⟨#[c]⟩ u] } := (sb.2 _ (Nat.ne_of_gt l1)).trans hT
    have new : ObjOk X.prog X.w (upd H s.heap.objs.size (.tup [.int (k + (i : Nat)), .str ⟨#[c]⟩])) h2' s.heap.objs.size (.tup [.int (k + (i : Nat)), .str ⟨#[c]⟩]) := by
      refine ⟨by show 2 ≤ sizeLine; decide, [.int (k + (i : Nat)) tk, .str ⟨#[c]⟩ u], ?_, ⟨_, hT2, rfl, _, rfl⟩⟩
      exact .cons ⟨tk, rfl⟩ (.cons ⟨u, rfl⟩ .nil)
    have I1 : Inv X pins σ (upd H s.heap.objs.size (.tup [.int (k + (i : Nat)), .str ⟨#[c]⟩])) { s with heap := h2', toks := tk + 1 } := by
      refine I.turnedNew (ch := [e, it]) (fun b ob hb q => ?_) hf (Nat.le_refl _) new
      have nb : b ≠ e := fun y => hb (by rw [y]; exact List.mem_cons_self ..)
      have nb2 : b ≠ it := fun y => hb (by rw [y]; exact List.mem_cons_of_mem _ (List.mem_cons_self ..))
      exact (sb.2 b nb).trans (hk b ob nb nb2 q)
    refine ⟨.ref s.heap.objs.size, _, I1, rfl, ⟨_, c, rfl, I.hok.fresh (Nat.le_refl _), hcz, rfl⟩, ⟨⟨.str ⟨#[c]⟩ u, ?_⟩, ?_, hne⟩, fun b hb => ?_⟩
    · have e1 : k + ((i + 1 : Nat) : Int) = k + (i : Nat) + 1 := by omega
      rw [e1]; exact he'
    · obtain ⟨o, q1, q2⟩ := hst
      exact ⟨o, (sb.2 it (Ne.symm hne)).trans q1, q2⟩
    · have lb : b < s.heap.objs.size := by
        rcases List.mem_cons.mp hb with q | q
        · rw [q]; exact l1
        · rw [List.mem_singleton.mp q]; exact l2
      rw [upd_ne (Nat.ne_of_lt lb)]
      exact (hf b hb).1
  done := by
    intro X hP hw hK hc i pins s σ H E I hf st hg
    subst hP hw hK
    obtain ⟨⟨old, h1⟩, h2, hne⟩ := st
    have hh := I.ok.hd hc
    have hm : it ∈ [e, it] := List.mem_cons_of_mem _ (List.mem_cons_self ..)
    obtain ⟨f0, f1, f2, f3, f4, f5⟩ := hf it hm
    have D := Draws.text (prog := X.prog) (w := X.w) (A := X.A.in1) (by simp [hh]) it z t
    have hi : i = z.cps.size := hg
    subst hi
    exact wpAny_pyNext_enum_endD D h1 h2 fun h' hx => ⟨rfl, I.turned (t' := s.toks) (fun b o hb q => hx b o hb q) f0 f1 f3 f4 f5⟩
  self := fun A i s Q E st h => by
    obtain ⟨⟨old, h1⟩, _⟩ := st
    exact wpAny_pyIter_enum h1 h
theorem typeK_call {M : Model} {A : Around} {E : Value → Shared → Prop} {s : Shared} {pos : Pos} {T : String} {args : List (Bool × Sem Value)} {kws : List (Option Str × Sem Value)} {Q : Value → Shared → Prop} (h1 : args.any (·.1) = false) (h2 : kws.any (·.1.isNone) = false)
    (h : wpAny M A (evalArgs (.type T) true args kws) (fun a s₁ => wpAny M A (call (.type T) a.pos a.kw) Q E s₁) E s) : wpAny M A (callWith pos (.type T) [] args kws) Q E s := by
  unfold callWith
  refine wpAny_bind (wpAny_holding (wpAny_mono h (fun a s₁ k => wpAny_bind (wpAny_standAt ?_)) fun _ _ y => y))
  simp only [h1, h2, Bool.or_false]
  refine wpAny_bind (wpAny_pure (wpAny_bind (wpAny_mono k (fun r s₂ q => ?_) fun _ _ y => y)))
  exact wpAny_bind (wpAny_holding (wpAny_point (wpAny_pure q)))
def iEnS (te tk : TE) : TI := fun σ H R => te σ H fun x H1 => ∃ z : Str, x = .str z ∧ tk σ H1 fun y H2 => ∃ k : Int, y = .int k ∧ -(2 ^ 62) ≤ k ∧ k < 2 ^ 62 ∧ R (Iten z k) H2
variable {X : Cx} {A : Anc}
theorem pi_enS {e ek : Expr} {te tk : TE} {p pos tpos kp : Pos} {es : List Expr} {kk : Nat} (hm : X.mg "enumerate" = none) (he : PE X e te) (hk : PE X ek tk) (hg : Gl X "enumerate" := by rfl)
    (h1 : backTo pos (starEach [e] X.env) = (false, eval e X.env) :: backTo pos (starEach [] X.env) := by rfl) (h2 : (backTo pos (starEach [e] X.env)).any (·.1) = false := by rfl) (h3 : (backToKw pos (keywordEach [⟨some "start", ek, kp⟩] X.env)).all (·.1.isSome) = true := by rfl)
    (h4 : (backToKw pos (keywordEach [⟨some "start", ek, kp⟩] X.env)).any (·.1.isNone) = false := by rfl) (h5 : (backToKw pos (keywordEach [⟨some "start", ek, kp⟩] X.env)).filterMap (·.1) = [Str.ofString "start"] := by rfl) :
    PI X (.Tuple es kk tpos) (.Call (.Name "enumerate" p) [e] [⟨some "start", ek, kp⟩] pos) (iEnS te tk) := by
  refine ⟨fun pins s σ H R I h => ?_⟩
  refine wpAny_Call_Name_kw (ld_blt I hg hm boot_enumerate (typeK_call h2 h4 ?_))
  rw [h1]
  refine evalArgs_kwB h3 ?_
  refine PySem.Calls.spliced_cons (thn (he.run pins s σ H _ I h) fun v s1 ⟨x, H1, I1, r1, z, ex, q1⟩ => args_nil ?_)
  subst ex
  obtain ⟨t, rfl⟩ := r1
  refine kws_cons (thn (hk.run pins s1 σ H1 _ I1 q1) fun u s2 ⟨y, H2, I2, r2, k, ey, k0, k1, q2⟩ => kws_nil ?_)
  subst ey
  obtain ⟨t2, rfl⟩ := r2
  rw [h5]
  show wpAny _ _ (call (.type "enumerate") [.str z t] [(Str.ofString "start", .int k t2)]) _ _ _
  refine enum_begins_start (begins_text z t) trivial (by omega) (by omega) fun h' a1 a2 a3 a4 => wpAny_pyIter_enum a1 ?_
  have I3 : Inv X pins σ H2 { s2 with heap := h' } := I2.kept (t' := s2.toks) a4
  have it0 : h'.IsStrIter s2.heap.objs.size (strIterType z) z t 0 := ⟨_, a2, rfl, rfl⟩
  refine ⟨s2.heap.objs.size + 1, [s2.heap.objs.size + 1, s2.heap.objs.size], _, _, H2, rfl, I3, enumS_turn (s2.heap.objs.size + 1) s2.heap.objs.size z t k, ⟨⟨.none, by rw [show k + ((0 : Nat) : Int) = k by omega]; exact a1⟩, it0, Nat.succ_ne_self _⟩, fun b hb => ?_, q2⟩
  have hle : s2.heap.objs.size ≤ b := by
    rcases List.mem_cons.mp hb with y | y
    · rw [y]; exact Nat.le_succ _
    · rw [List.mem_singleton.mp y]; exact Nat.le_refl _
  exact I2.fpOk hle (I2.hok.fresh hle)
def enD (z : Str) (k : Int) : List DV := (List.range z.length).map fun i : Nat => .tup [.int (k + (i : Nat)), .str ⟨#[z.cps.toList.getD i 0]⟩]
theorem enD_length (z : Str) (k : Int) : (enD z k).length = z.length := by unfold enD; simp
theorem enD_get {z : Str} {k : Int} {i c : Nat} (h : z.cps[i]? = some c) : (enD z k)[i]? = some (.tup [.int (k + (i : Nat)), .str ⟨#[c]⟩]) := by
  have hi : i < z.length := (Array.getElem?_eq_some_iff.mp h).1
  have h2 : z.cps.toList[i]? = some c := by rw [Array.getElem?_toList]; exact h
  have e : z.cps.toList.getD i 0 = c := by rw [List.getD_eq_getElem?_getD, h2]; rfl
  unfold enD
  rw [List.getElem?_map, List.getElem?_range hi]
  show some (DV.tup [.int (k + (i : Nat)), .str ⟨#[z.cps.toList.getD i 0]⟩]) = _
  rw [e]
theorem itd_enS {K : PySem.W.Frag} {s0 : Sto} {H0 : Hp} {z : Str} {k : Int} : ItD K s0 H0 (enD z k) gTrue (Iten z k) := ⟨
  fun i s H st rep g hi => by rw [enD_length] at hi; exact hi,
  fun i s H x H' st rep g hi y => by
    obtain ⟨T, c, rfl, hT, hc, rfl⟩ := y
    exact ⟨Stp.newF hT, rep.newF hT, _, enD_get hc, .tup (SqT.of upd_same) (.cons (.int _) (.cons (.str _) .nil))⟩,
  fun s H st rep g => enD_length z k⟩
def kEnS2 (z : Str) (R : List DV → (Sto → Prop) → Sto → Prop) (d : DV) (s2 : Sto) : Prop := match d with
  | .int k => (-(2 ^ 62) ≤ k ∧ k < 2 ^ 62) ∧ R (enD z k) gTrue s2
  | _ => False
def kEnS1 (tk : TEd) (δ : Ed) (R : List DV → (Sto → Prop) → Sto → Prop) (d : DV) (s1 : Sto) : Prop := match d with
  | .str z => tk δ s1 (kEnS2 z R)
  | _ => False
def dEnS (te tk : TEd) (δ : Ed) (s : Sto) (R : List DV → (Sto → Prop) → Sto → Prop) : Prop := te δ s (kEnS1 tk δ R)
theorem dEnS_q {te tk : TEd} {δ : Ed} {s : Sto} {R : List DV → (Sto → Prop) → Sto → Prop} : dEnS te tk δ s R = te δ s (kEnS1 tk δ R) := propext Iff.rfl
theorem kEnS1_q {tk : TEd} {δ : Ed} {z : Str} {s : Sto} {R : List DV → (Sto → Prop) → Sto → Prop} : kEnS1 tk δ R (.str z) s = tk δ s (kEnS2 z R) := propext Iff.rfl
theorem kEnS2_q {k : Int} {z : Str} {s : Sto} {R : List DV → (Sto → Prop) → Sto → Prop} : kEnS2 z R (.int k) s = ((-(2 ^ 62) ≤ k ∧ k < 2 ^ 62) ∧ R (enD z k) gTrue s) := propext Iff.rfl
theorem denS {e ek : Expr} {te tk : TEd} {p pos tpos kp : Pos} {es : List Expr} {kk : Nat} (hm : X.mg "enumerate" = none) (he : PD A X e te) (hk : PD A X ek tk) (hg : Gl X "enumerate" := by rfl)
    (h1 : backTo pos (starEach [e] X.env) = (false, eval e X.env) :: backTo pos (starEach [] X.env) := by rfl) (h2 : (backTo pos (starEach [e] X.env)).any (·.1) = false := by rfl) (h3 : (backToKw pos (keywordEach [⟨some "start", ek, kp⟩] X.env)).all (·.1.isSome) = true := by rfl)
    (h4 : (backToKw pos (keywordEach [⟨some "start", ek, kp⟩] X.env)).any (·.1.isNone) = false := by rfl) (h5 : (backToKw pos (keywordEach [⟨some "start", ek, kp⟩] X.env)).filterMap (·.1) = [Str.ofString "start"] := by rfl) :
    PId A X (.Tuple es kk tpos) (.Call (.Name "enumerate" p) [e] [⟨some "start", ek, kp⟩] pos) (dEnS te tk) :=
  piImp (pi_enS hm he hk hg h1 h2 h3 h4 h5) fun σ H R h => by
  obtain ⟨δ, s, R', S, t, k⟩ := h
  refine ⟨δ, s, _, S, t, fun v H1 d s1 st1 rep1 dv q => ?_⟩
  cases d with
  | str z =>
    cases dv
    refine ⟨z, rfl, δ, s1, _, S.go st1 rep1, q, fun v2 H2 d2 s2 st2 rep2 dv2 q2 => ?_⟩
    cases d2 with
    | int n =>
      cases dv2
      exact ⟨n, rfl, q2.1.1, q2.1.2, k _ gTrue s2 H2 _ (st1.trans st2) rep2 itd_enS q2.2⟩
    | _ => exact q2.elim
  | _ => exact q.elim
/-! ### *a, b = a list -/
theorem star_items {prog : Program} {w : World} {A : Around} {E : Value → Shared → Prop} {s : Shared} {l : Addr} {items : Array Value} {Q : List Value → Shared → Prop} (hh : A.handled = none) (hl : s.heap.IsList l items) (hz : items.size ≤ sizeLine) (h1 : 1 ≤ items.size)
    (hQ : ∀ s' : Shared, s'.os = s.os → s'.gens = s.gens → (∀ b o, s.heap.get? b = some o → s'.heap.get? b = some o) → Q (.ref s'.heap.objs.size :: items.toList.drop (items.size - 1)) { s' with heap := s'.heap.push { cls := .type "list", data := .seq (items.toList.take (items.size - 1)).toArray } }) :
    wpAny (model prog w) A (unpackItems (.ref l) 2 (some 0)) Q E s := by
  have hlt : l ≠ s.heap.objs.size := by obtain ⟨o, ho, _⟩ := hl; exact Nat.ne_of_lt (Heap.lt_size ho)
  have hh1 : A.in1.handled = none := by simp [hh]
  unfold unpackItems notIterableAtAll
  refine wpAny_bind (wpAny_bind (wpAny_specialOf hl.typeIs slot_list_iter.lookup (wpAny_pure ?_)))
  simp only [Bool.false_eq_true, if_false]
  refine wpAny_bind (wpAny_holding (wpAny_pyIter_list hl ?_))
  refine wpAny_bind (wpAny_holding ?_)
  show wpAny _ _ (pure []) _ _ _
  refine wpAny_pure ?_
  rw [if_neg (by decide)]
  have W := (Walks.list (prog := prog) (w := w) (A := A.in1) hh1 s.heap.objs.size l hlt items).toS
  refine wpAny_bind (wpAny_holding (wpAny_collect_iter (T := "list_iterator") (.inr (.inr (.inl rfl))) W (fun i s' st => ?_) ⟨⟨_, Heap.get?_push_size _ rfl, rfl, rfl⟩, hl.push _⟩ (fun b hb => ?_) (List.mem_cons_self ..) (fun s' acc hm hi => ?_) hz))
  · obtain ⟨⟨o, q1, q2, q3⟩, _⟩ := st
    exact ⟨o, q1, q2⟩
  · rw [Heap.size_push]
    rcases List.mem_cons.mp hb with q | q
    · rw [q]; exact Nat.lt_succ_self _
    · rw [List.mem_singleton.mp q]
      obtain ⟨o, ho, _⟩ := hl
      exact Nat.lt_succ_of_lt (Heap.lt_size ho)
  · have ea : acc = items := by
      refine Array.ext_getElem? fun j => ?_
      cases q : acc[j]? with
      | some v => exact (hi.2 j v q).symm
      | none =>
        have : acc.size ≤ j := by simpa using q
        exact (Array.getElem?_eq_none (by rw [← hi.1]; exact this)).symm
    subst ea
    have hl : acc.toList.length = acc.size := Array.length_toList
    rw [if_neg (by rw [hl]; show ¬ acc.size < 2 - 1 - 0; omega)]
    refine wpAny_bind (wpAny_newObj_type (wpAny_pure ?_) (by show (acc.toList.take (acc.toList.length - (2 - 1 - 0))).toArray.size ≤ sizeLine; rw [List.size_toArray, List.length_take, hl]; omega))
    have e1 : acc.toList.length - (2 - 1 - 0) = acc.size - 1 := by rw [hl]
    rw [e1]
    refine hQ s' hm.os (by have := hm.gens; exact this) fun b o q => hm.heap b o (fun m => ?_) (Heap.get?_push_of_some _ q)
    rw [List.mem_singleton.mp m] at q
    exact absurd (Heap.lt_size q) (Nat.lt_irrefl _)
section
variable {X : Cx} {A : Anc}
def gStar (K : PySem.W.Frag) (t : TGs) : TG := fun v σ H Q => ∃ (a : Addr) (xs : List V) (x : V), v = .ref a ∧ SqL K H a (xs ++ [x]) ∧ ∀ p, H p = none → t [.ref p, x] σ (upd H p (.lst xs)) Q
theorem pg_star2 {ea eb : Expr} {pa pos : Pos} {k : Nat} {t : TGs} (hc : X.calm = true) (h : PGs X [ea, eb] t) (he : assignEach [.Starred ea pa, eb] X.env = [(true, assign ea X.env), (false, assign eb X.env)] := by rfl)
    (h2 : (assignEach [ea, eb] X.env).map (·.2) = [assign ea X.env, assign eb X.env] := by rfl) : PG X (.Tuple [.Starred ea pa, eb] k pos) (gStar X.K t) := by
  refine ⟨fun pins s σ H v u Q I r hw => ?_⟩
  obtain ⟨a, xs, x, e1, hq, hw⟩ := hw
  subst e1
  cases r
  obtain ⟨its, rv, pl, hz⟩ := I.list hq
  have hl' : s.heap.IsList a its.toArray := by
    obtain ⟨o, m, e, c, d, q⟩ := pl
    exact ⟨o, e, c, m, q⟩
  have len : its.length = xs.length + 1 := by rw [← rv.length, List.length_append]; rfl
  rw [PyProof.Rows.assign_Tuple]
  refine wpAny_bind (wpAny_standAt ?_)
  unfold unpack
  rw [he]
  refine wpAny_bind (wpAny_holding (star_items (I.ok.hd hc) hl' (by rw [List.size_toArray, ← rv.length]; exact hz) (by simp [len]) fun s' ho hg kp => ?_))
  have e3 : its.toArray.size - 1 = xs.length := by simp [len]
  rw [e3]
  have I1 : Inv X pins σ H s' := I.call' (ch := []) ho (Un.kept kp) (I.hok.kept kp) (by rw [hg]; exact I.bare) (fun _ z => nomatch z)
  have hn : H s'.heap.objs.size = none := I1.hok.fresh (Nat.le_refl _)
  have r1 : Vals xs (its.take xs.length) := by
    have := rv.take xs.length
    rwa [List.take_left'  rfl] at this
  have r2 : Vals [x] (its.drop xs.length) := by
    have := rv.drop xs.length
    rwa [List.drop_left' rfl] at this
  have I2 : Inv X pins σ (upd H s'.heap.objs.size (.lst xs)) { s' with heap := s'.heap.push { cls := .type "list", data := .seq (its.take xs.length).toArray } } :=
    I1.laid (t' := s'.toks) (fun b o q => Heap.get?_push_of_some _ q) (Nat.le_refl _) ⟨by rw [List.length_append] at hz; exact Nat.le_trans (Nat.le_add_right ..) hz, its.take xs.length, _, r1, Heap.get?_push_size _ rfl⟩
  have := h.run pins _ σ _ [.ref s'.heap.objs.size, x] (.ref s'.heap.objs.size :: its.drop xs.length) Q I2 (.cons rfl r2) (hw _ hn)
  rw [h2] at this
  exact this
theorem DatL.snocInv {K : PySem.W.Frag} {s : Sto} {H : Hp} {y : DV} : ∀ {ys : List DV} {xs : List V}, DatL K s H xs (ys ++ [y]) → ∃ vs v, xs = vs ++ [v] ∧ DatL K s H vs ys ∧ Dat K s H v y
  | [], _, .cons h .nil => ⟨[], _, rfl, .nil, h⟩
  | d :: ys, _, .cons h t => by
    obtain ⟨vs, v, rfl, l, q⟩ := DatL.snocInv (ys := ys) t
    exact ⟨_ :: vs, v, rfl, .cons h l, q⟩
def kStar (t : TGsd) (δ : Ed) (s : Sto) (Q : Ed → Sto → Prop) (o : Option (List DV)) : Prop := ∃ ds d, o = some (ds ++ [d]) ∧ t [.lst ds, d] δ s Q
def gStarD (t : TGsd) (d : DV) (δ : Ed) (s : Sto) (Q : Ed → Sto → Prop) : Prop := kStar t δ s Q (lstD s d)
theorem gStarD_q {t : TGsd} {d : DV} {δ : Ed} {s : Sto} {Q : Ed → Sto → Prop} : gStarD t d δ s Q = kStar t δ s Q (lstD s d) := propext Iff.rfl
theorem dgstar {ea eb : Expr} {pa pos : Pos} {k : Nat} {t : TGsd} (hc : X.calm = true) (h : PGsd A X [ea, eb] t) (he : assignEach [.Starred ea pa, eb] X.env = [(true, assign ea X.env), (false, assign eb X.env)] := by rfl)
    (h2 : (assignEach [ea, eb] X.env).map (·.2) = [assign ea X.env, assign eb X.env] := by rfl) : PGd A X (.Tuple [.Starred ea pa, eb] k pos) (gStarD t) := pgImp (pg_star2 hc h he h2) fun v σ H Q hh => by
  obtain ⟨d, δ, s, Q', S, dv, ⟨ds, x, e, g⟩, kk⟩ := hh
  obtain ⟨a, xs, rfl, hq, l⟩ := lstD_ok S.rep dv e
  obtain ⟨vs, v, rfl, l1, l2⟩ := DatL.snocInv l
  refine ⟨a, vs, v, rfl, hq, fun p hp => ?_⟩
  have st := Stp.newF (s := s) (o := .lst vs) hp
  have rep := S.rep.newF (o := .lst vs) hp
  exact ⟨_, δ, s, Q', S.go st rep, .cons (.lst upd_same (S.rep.fresh hp) (l1.step st S.rep)) (.cons (l2.step st S.rep) .nil), g, kk⟩
/-! ### f-strings -/
def kFmt (Q : KD) (d : DV) (s1 : Sto) : Prop := match d with
  | .str y => y.length ≤ sizeLine ∧ Q (.str y) s1
  | .int i => i.natAbs.log2 < 1920 ∧ Q (.str (toString i)) s1
  | _ => False
def dFmt (te : TEd) (δ : Ed) (s : Sto) (Q : KD) : Prop := te δ s (kFmt Q)
theorem dFmt_q {te : TEd} {δ : Ed} {s : Sto} {Q : KD} : dFmt te δ s Q = te δ s (kFmt Q) := propext Iff.rfl
theorem kFmt_q1 {y : Str} {s : Sto} {Q : KD} : kFmt Q (.str y) s = (y.length ≤ sizeLine ∧ Q (.str y) s) := propext Iff.rfl
theorem kFmt_q2 {i : Int} {s : Sto} {Q : KD} : kFmt Q (.int i) s = (i.natAbs.log2 < 1920 ∧ Q (.str (toString i)) s) := propext Iff.rfl
theorem dfmt {e : Expr} {te : TEd} {pos : Pos} (he : PD A X e te) : PD A X (.FormattedValue e (-1) none pos) (dFmt te) := peImp (pe_fmt he) fun σ H Q h => by
  obtain ⟨δ, s, Q', S, t, k⟩ := h
  refine ⟨δ, s, _, S, t, fun v H1 d s1 st1 rep1 dv q => ?_⟩
  cases d with
  | str y => cases dv; exact .inl ⟨y, rfl, q.1, k _ H1 _ s1 st1 rep1 (.str _) q.2⟩
  | int i => cases dv; exact .inr ⟨i, rfl, q.1, k _ H1 _ s1 st1 rep1 (.str _) q.2⟩
  | _ => exact q.elim
def kJs (r : Str → Ed → Sto → KD → Prop) (acc : Str) (δ : Ed) (Q : KD) (d : DV) (s1 : Sto) : Prop := match d with
  | .str y => (acc ++ y).length ≤ sizeLine ∧ r (acc ++ y) δ s1 Q
  | _ => False
def dJs : List TEd → Str → Ed → Sto → KD → Prop
  | [], acc, _, s, Q => Q (.str acc) s
  | t :: ts, acc, δ, s, Q => t δ s (kJs (dJs ts) acc δ Q)
def dJst (ts : List TEd) (δ : Ed) (s : Sto) (Q : KD) : Prop := dJs ts Str.empty δ s Q
theorem dJst_q {ts : List TEd} {δ : Ed} {s : Sto} {Q : KD} : dJst ts δ s Q = dJs ts Str.empty δ s Q := propext Iff.rfl
theorem dJs_q1 {acc : Str} {δ : Ed} {s : Sto} {Q : KD} : dJs [] acc δ s Q = Q (.str acc) s := propext Iff.rfl
theorem dJs_q2 {t : TEd} {ts : List TEd} {acc : Str} {δ : Ed} {s : Sto} {Q : KD} : dJs (t :: ts) acc δ s Q = t δ s (kJs (dJs ts) acc δ Q) := propext Iff.rfl
theorem kJs_q {r : Str → Ed → Sto → KD → Prop} {acc y : Str} {δ : Ed} {s : Sto} {Q : KD} : kJs r acc δ Q (.str y) s = ((acc ++ y).length ≤ sizeLine ∧ r (acc ++ y) δ s Q) := propext Iff.rfl
inductive PJd (A : Anc) (X : Cx) : List Expr → List TEd → Prop where
  | nil : PJd A X [] []
  | cons {e : Expr} {t : TEd} {es : List Expr} {ts : List TEd} (h : PD A X e t) (r : PJd A X es ts) : PJd A X (e :: es) (t :: ts)
theorem PJd.pj {es : List Expr} {ts : List TEd} (h : PJd A X es ts) : PJ X es (ts.map (lE X.K A)) := by
  induction h with
  | nil => exact .nil
  | cons h r ih => exact .cons h ih
theorem js_run {K : PySem.W.Frag} {σ : L2.St} {δ : Ed} : ∀ {ts : List TEd} {acc : Str} {s : Sto} {H : Hp} {Q' : KD} {R : Str → Hp → Prop}, Sd K A σ H δ s → dJs ts acc δ s Q' →
    (∀ out H2 s2, Stp s H s2 H2 → Rep K s2 H2 → Q' (.str out) s2 → R out H2) → tJs (ts.map (lE K A)) acc σ H R
  | [], acc, s, H, Q', R, S, t, k => k acc H s (Stp.refl s H) S.rep t
  | t :: ts, acc, s, H, Q', R, S, h, k => by
    refine ⟨δ, s, _, S, h, fun v H1 d s1 st1 rep1 dv q => ?_⟩
    cases d with
    | str y =>
      cases dv
      exact ⟨y, rfl, q.1, js_run (S.go st1 rep1) q.2 fun out H2 s2 st2 rep2 q2 => k out H2 s2 (st1.trans st2) rep2 q2⟩
    | _ => exact q.elim
theorem djoined {v1 v2 : Expr} {rest : List Expr} {ts : List TEd} {pos : Pos} (h : PJd A X (v1 :: v2 :: rest) ts) : PD A X (.JoinedStr (v1 :: v2 :: rest) pos) (dJst ts) := peImp (pe_joined h.pj) fun σ H Q hh => by
  obtain ⟨δ, s, Q', S, t, k⟩ := hh
  exact js_run S t fun out H2 s2 st2 rep2 q => k _ H2 _ s2 st2 rep2 (.str out) q
/-! ### methods of texts -/
def dSplitK (x : DV) (xs : List DV) (s : Sto) (Q : KD) : Prop := match x, xs with
  | .str a, [.str b, .int k] => ((b.length == 0) = false ∧ -(2 ^ 63) ≤ k ∧ k < 2 ^ 63 ∧ a.length + 2 ≤ sizeLine) ∧ Q (.lst ((Txt.splitMax a b k).map DV.str)) s
  | _, _ => False
theorem dSplitK_q {a b : Str} {k : Int} {s : Sto} {Q : KD} : dSplitK (.str a) [.str b, .int k] s Q = (((b.length == 0) = false ∧ -(2 ^ 63) ≤ k ∧ k < 2 ^ 63 ∧ a.length + 2 ≤ sizeLine) ∧ Q (.lst ((Txt.splitMax a b k).map DV.str)) s) := propext Iff.rfl
theorem DatL.ofStrs {K : PySem.W.Frag} {s : Sto} {H : Hp} : ∀ ys : List Str, DatL K s H (ys.map V.str) (ys.map DV.str)
  | [] => .nil
  | y :: ys => .cons (.str y) (DatL.ofStrs ys)
theorem newStrs_ok {K : PySem.W.Frag} {s : Sto} {H : Hp} {ys : List Str} {Q : VK} (rep : Rep K s H) (k : ∀ v H2 d s2, Stp s H s2 H2 → Rep K s2 H2 → Dat K s2 H2 v d → d = .lst (ys.map DV.str) → s2 = s → Q v H2) : rNewStrs ys H Q := fun p hp =>
  k _ _ _ s (Stp.newF hp) (rep.newF hp) (.lst upd_same (rep.fresh hp) (DatL.ofStrs ys)) rfl rfl
theorem md_splitK : MtR X "str.split" (lM X.K dSplitK) := mtImp mt_splitMax fun x xs H Q h => by
  obtain ⟨d, ds, s, Q', rep, hx, hxs, r, k⟩ := h
  unfold dSplitK at r
  split at r
  · cases hx
    cases hxs with
    | cons h1 t =>
      cases t with
      | cons h2 t2 =>
        cases t2; cases h1; cases h2
        refine ⟨_, _, _, rfl, rfl, r.1.1, r.1.2.1, r.1.2.2.1, r.1.2.2.2, newStrs_ok rep fun v H2 d s2 st rep2 dv e1 e2 => ?_⟩
        subst e1 e2
        exact k _ H2 _ _ st rep2 dv r.2
  · exact r.elim
def dFind (x : DV) (xs : List DV) (s : Sto) (Q : KD) : Prop := match x, xs with
  | .str a, [.str b] => Q (.int (Txt.find a b)) s
  | .str a, [.str b, .int i] => Q (.int (Txt.find3 a b i)) s
  | _, _ => False
theorem dFind_q1 {a b : Str} {s : Sto} {Q : KD} : dFind (.str a) [.str b] s Q = Q (.int (Txt.find a b)) s := propext Iff.rfl
theorem dFind_q2 {a b : Str} {i : Int} {s : Sto} {Q : KD} : dFind (.str a) [.str b, .int i] s Q = Q (.int (Txt.find3 a b i)) s := propext Iff.rfl
theorem md_find : MtR X "str.find" (lM X.K dFind) := mtImp (MtR.or mt_find mt_find3) fun x xs H Q h => by
  obtain ⟨d, ds, s, Q', rep, hx, hxs, r, k⟩ := h
  unfold dFind at r
  split at r
  · cases hx
    cases hxs with
    | cons h1 t => cases t; cases h1; exact .inl ⟨_, _, rfl, rfl, k _ H _ s (Stp.refl s H) rep (.int _) r⟩
  · cases hx
    cases hxs with
    | cons h1 t =>
      cases t with
      | cons h2 t2 => cases t2; cases h1; cases h2; exact .inr ⟨_, _, _, rfl, rfl, k _ H _ s (Stp.refl s H) rep (.int _) r⟩
  · exact r.elim
end
end DL

set_option Elab.async false
set_option linter.all false
set_option maxRecDepth 100000
set_option maxHeartbeats 4000000
/-! The plain law of rows: codes alone, no program. -/
namespace RW
open PySem PySem.Spec PyProof.Rows L2 DL TL
/-! ### figures -/
theorem numL_mono : ∀ (n m : Nat), m ≤ n → (numL m).length ≤ (numL n).length := by
  intro n
  induction n using Nat.strongRecOn with
  | _ n ih =>
    intro m hm
    by_cases h : n < 10
    · rw [numL_lt h, numL_lt (Nat.lt_of_le_of_lt hm h)]
      exact Nat.le_refl _
    · rw [numL_step (by omega : 10 ≤ n), List.length_append]
      by_cases h2 : m < 10
      · rw [numL_lt h2]
        show 1 ≤ _ + 1
        omega
      · rw [numL_step (by omega : 10 ≤ m), List.length_append]
        exact Nat.add_le_add_right (ih (n / 10) (by omega) (m / 10) (Nat.div_le_div_right hm)) 1
/-! ### the sum -/
def wsum : Nat → List Nat → Nat
  | _, [] => 0
  | i, c :: r => c * i + wsum (i + 1) r
theorem wsum_app : ∀ (i : Nat) (a b : List Nat), wsum i (a ++ b) = wsum i a + wsum (i + a.length) b
  | i, [], b => by simp [wsum]
  | i, c :: a, b => by
    rw [List.cons_append, wsum, wsum, wsum_app (i + 1) a b, List.length_cons, Nat.add_assoc i 1, show i + (1 + a.length) = i + (a.length + 1) by omega, Nat.add_assoc]
def sumL (b : List Nat) : Nat := wsum 1 b % 1000003
def rowL (b : List Nat) : List Nat := numL b.length ++ 32 :: (numL (sumL b) ++ 32 :: b)
def IsRow (x : List Nat) : Prop := ∃ b, x = rowL b
/-! ### cut at the first blank -/
theorem cut1 : ∀ {a a' y y' : List Nat}, 32 ∉ a → 32 ∉ a' → a ++ 32 :: y = a' ++ 32 :: y' → a = a' ∧ y = y'
  | [], [], _, _, _, _, h => ⟨rfl, (List.cons.inj h).2⟩
  | [], c :: a', _, _, _, h2, h => by
    have := (List.cons.inj h).1
    exact absurd (by rw [← this]; exact List.mem_cons_self ..) h2
  | c :: a, [], _, _, h1, _, h => by
    have := (List.cons.inj h).1
    exact absurd (by rw [this]; exact List.mem_cons_self ..) h1
  | c :: a, d :: a', y, y', h1, h2, h => by
    obtain ⟨e1, e2⟩ := List.cons.inj h
    obtain ⟨e3, e4⟩ := cut1 (fun m => h1 (List.mem_cons_of_mem _ m)) (fun m => h2 (List.mem_cons_of_mem _ m)) e2
    exact ⟨by rw [e1, e3], e4⟩
theorem num32 (n : Nat) : 32 ∉ numL n := numL_free (.inl (by decide))
theorem cutN {n : Nat} {a y y' : List Nat} (h : 32 ∉ a) (e : a ++ 32 :: y = numL n ++ 32 :: y') : a = numL n ∧ y = y' := cut1 h (num32 n) e
theorem not_in_app {a b : List Nat} (h : 32 ∉ a) (h' : 32 ∉ b) : 32 ∉ a ++ b := fun m => (List.mem_append.mp m).elim h h'
theorem not_in_cons {c : Nat} {b : List Nat} (h : c ≠ 32) (h' : 32 ∉ b) : 32 ∉ c :: b := fun m => (List.mem_cons.mp m).elim (fun e => h e.symm) h'
theorem rowL_inj {a b : List Nat} (h : rowL a = rowL b) : a = b := by
  obtain ⟨_, h2⟩ := cutN (num32 _) h
  exact (cutN (num32 _) h2).2
/-! ### one sign otherwise -/
theorem sum_ne {a b : Nat} (h : a % 1000003 = b % 1000003) (h1 : a < b + 1000003) (h2 : b < a + 1000003) : a = b := by omega
theorem sum_set {b1 b2 : List Nat} {u v : Nat} (hu : u < 128) (hv : v < 128) (hl : b1.length + b2.length + 1 ≤ 5000) (h : sumL (b1 ++ u :: b2) = sumL (b1 ++ v :: b2)) : u = v := by
  unfold sumL at h
  rw [wsum_app, wsum_app, wsum, wsum] at h
  generalize wsum 1 b1 = A at h
  generalize wsum (1 + b1.length + 1) b2 = B at h
  have hk : 1 ≤ 1 + b1.length ∧ 1 + b1.length ≤ 5001 := by omega
  generalize 1 + b1.length = k at h hk
  have m1 : u * k ≤ 127 * 5001 := Nat.mul_le_mul (by omega) hk.2
  have m2 : v * k ≤ 127 * 5001 := Nat.mul_le_mul (by omega) hk.2
  have e := sum_ne h (by omega) (by omega)
  have e2 : u * k = v * k := by omega
  exact Nat.eq_of_mul_eq_mul_right hk.1 e2
theorem sum_swap {b1 b2 : List Nat} {u v : Nat} (hu : u < 128) (hv : v < 128) (h : sumL (b1 ++ u :: v :: b2) = sumL (b1 ++ v :: u :: b2)) : u = v := by
  unfold sumL at h
  rw [wsum_app, wsum_app, wsum, wsum, wsum, wsum] at h
  generalize wsum 1 b1 = A at h
  generalize wsum (1 + b1.length + 1 + 1) b2 = B at h
  generalize 1 + b1.length = k at h
  rw [Nat.mul_add, Nat.mul_add, Nat.mul_one, Nat.mul_one] at h
  have e := sum_ne h (by omega) (by omega)
  omega
/-- a place of a row: in the length, the first blank, in the sum, the second blank, in the body -/
theorem split_at {A y l r : List Nat} {u : Nat} (h : A ++ 32 :: y = l ++ u :: r) : (∃ A2, A = l ++ u :: A2 ∧ r = A2 ++ 32 :: y) ∨ (l = A ∧ u = 32 ∧ r = y) ∨ ∃ y1, l = A ++ 32 :: y1 ∧ y = y1 ++ u :: r := by
  rw [List.append_eq_append_iff] at h
  rcases h with ⟨a', e1, e2⟩ | ⟨c', e1, e2⟩
  · cases a' with
    | nil =>
      rw [List.append_nil] at e1
      rw [List.nil_append] at e2
      obtain ⟨q1, q2⟩ := List.cons.inj e2
      exact .inr (.inl ⟨e1, q1.symm, q2.symm⟩)
    | cons d a' =>
      rw [List.cons_append] at e2
      obtain ⟨q1, q2⟩ := List.cons.inj e2
      subst q1
      exact .inr (.inr ⟨a', e1, q2⟩)
  · cases c' with
    | nil =>
      rw [List.append_nil] at e1
      rw [List.nil_append] at e2
      obtain ⟨q1, q2⟩ := List.cons.inj e2
      exact .inr (.inl ⟨e1.symm, q1, q2⟩)
    | cons d c' =>
      rw [List.cons_append] at e2
      obtain ⟨q1, q2⟩ := List.cons.inj e2
      subst q1
      exact .inl ⟨c', e1, q2⟩
theorem notin_l {A l r : List Nat} {u : Nat} (e : A = l ++ u :: r) (h : 32 ∉ A) : 32 ∉ l ∧ u ≠ 32 ∧ 32 ∉ r := by
  subst e
  refine ⟨fun m => h (List.mem_append_left _ m), fun m => h (by rw [m]; exact List.mem_append_right _ (List.mem_cons_self ..)), fun m => h (List.mem_append_right _ (List.mem_cons_of_mem _ m))⟩
theorem sub_row {b l r : List Nat} {u v : Nat} (hb : ∀ c ∈ b, c < 128) (hl : b.length ≤ 4990) (h : rowL b = l ++ u :: r) (hv : v < 128) (ne : v ≠ u) : ¬ IsRow (l ++ v :: r) := by
  rintro ⟨b', e⟩
  have hA := num32 b.length
  have hB := num32 (sumL b)
  unfold rowL at h e
  rcases split_at h with ⟨A2, e1, e2⟩ | ⟨e1, e2, e3⟩ | ⟨y1, e1, e2⟩
  · -- in the length
    obtain ⟨n1, n2, n3⟩ := notin_l e1 hA
    subst e2
    by_cases c : v = 32
    · subst c
      obtain ⟨q1, q2⟩ := cutN n1 e
      obtain ⟨q3, q4⟩ := cutN n3 q2
      have := congrArg List.length q4
      have hlen : (numL b.length).length ≤ (numL b'.length).length := numL_mono _ _ (by rw [← this]; simp; omega)
      rw [e1, ← q1] at hlen
      simp at hlen
      omega
    · rw [show l ++ v :: (A2 ++ 32 :: (numL (sumL b) ++ 32 :: b)) = (l ++ v :: A2) ++ 32 :: (numL (sumL b) ++ 32 :: b) by simp] at e
      obtain ⟨q1, q2⟩ := cutN (not_in_app n1 (not_in_cons c n3)) e
      obtain ⟨q3, q4⟩ := cutN hB q2
      subst q4
      rw [e1] at q1
      have := List.append_cancel_left q1
      exact ne (List.cons.inj this).1
  · -- the first blank
    subst e1 e2 e3
    rw [show numL b.length ++ v :: (numL (sumL b) ++ 32 :: b) = (numL b.length ++ v :: numL (sumL b)) ++ 32 :: b by simp] at e
    obtain ⟨q1, q2⟩ := cutN (not_in_app hA (not_in_cons ne hB)) e
    have hlen : (numL b'.length).length ≤ (numL b.length).length := numL_mono _ _ (by rw [q2]; simp; omega)
    rw [← q1] at hlen
    simp at hlen
    omega
  · -- behind it
    subst e1
    rw [show numL b.length ++ 32 :: y1 ++ v :: r = numL b.length ++ 32 :: (y1 ++ v :: r) by simp] at e
    obtain ⟨q1, q2⟩ := cutN hA e
    have en := numL_inj q1
    rcases split_at e2 with ⟨B2, e3, e4⟩ | ⟨e3, e4, e5⟩ | ⟨b1, e3, e4⟩
    · -- in the sum
      obtain ⟨n1, n2, n3⟩ := notin_l e3 hB
      subst e4
      by_cases c : v = 32
      · subst c
        obtain ⟨q3, q4⟩ := cutN n1 q2
        have := congrArg List.length q4
        rw [← en] at this
        simp at this
        omega
      · rw [show y1 ++ v :: (B2 ++ 32 :: b) = (y1 ++ v :: B2) ++ 32 :: b by simp] at q2
        obtain ⟨q3, q4⟩ := cutN (not_in_app n1 (not_in_cons c n3)) q2
        subst q4
        rw [e3] at q3
        exact ne (List.cons.inj (List.append_cancel_left q3)).1
    · -- the second blank
      subst e3 e4 e5
      rw [show numL (sumL r) ++ v :: r = (numL (sumL r) ++ [v]) ++ r by simp] at q2
      have hS : 32 ∉ numL (sumL r) ++ [v] := not_in_app hB (not_in_cons ne (List.not_mem_nil))
      rcases List.append_eq_append_iff.mp q2 with ⟨a', e1, e2⟩ | ⟨c', e1, e2⟩
      · have := congrArg List.length e2
        simp at this
        omega
      · cases c' with
        | nil =>
          have := congrArg List.length e2
          simp at this
          omega
        | cons d c' =>
          have := (List.cons.inj e2).1
          exact hS (by rw [e1, ← this]; exact List.mem_append_right _ (List.mem_cons_self ..))
    · -- in the body
      subst e3
      rw [show numL (sumL b) ++ 32 :: b1 ++ v :: r = numL (sumL b) ++ 32 :: (b1 ++ v :: r) by simp] at q2
      obtain ⟨q3, q4⟩ := cutN hB q2
      have es := numL_inj q3
      rw [e4, ← q4] at es
      have hu : u < 128 := hb u (by rw [e4]; exact List.mem_append_right _ (List.mem_cons_self ..))
      have hl2 : b1.length + r.length + 1 ≤ 5000 := by
        have := congrArg List.length e4
        simp at this
        omega
      exact ne (sum_set hu hv hl2 es).symm
/-! ### two neighbours exchanged -/
theorem swap_row {b l r : List Nat} {u v : Nat} (hb : ∀ c ∈ b, c < 128) (h : rowL b = l ++ u :: v :: r) (ne : u ≠ v) : ¬ IsRow (l ++ v :: u :: r) := by
  rintro ⟨b', e⟩
  have hA := num32 b.length
  have hB := num32 (sumL b)
  unfold rowL at h e
  rcases split_at h with ⟨A2, e1, e2⟩ | ⟨e1, e2, e3⟩ | ⟨y1, e1, e2⟩
  · cases A2 with
    | nil =>
      -- the length's last figure and the first blank
      obtain ⟨q1, q2⟩ := List.cons.inj e2
      obtain ⟨n1, n2, n3⟩ := notin_l e1 hA
      subst q1 q2
      obtain ⟨q1, q2⟩ := cutN n1 e
      rw [show u :: (numL (sumL b) ++ 32 :: b) = (u :: numL (sumL b)) ++ 32 :: b by simp] at q2
      obtain ⟨q3, q4⟩ := cutN (not_in_cons n2 hB) q2
      subst q4
      rw [q1] at e1
      have := congrArg List.length e1
      simp at this
    | cons d A2 =>
      rw [List.cons_append] at e2
      obtain ⟨q1, q2⟩ := List.cons.inj e2
      subst q1 q2
      obtain ⟨n1, n2, n3⟩ := notin_l e1 hA
      rw [show l ++ v :: u :: (A2 ++ 32 :: (numL (sumL b) ++ 32 :: b)) = (l ++ v :: u :: A2) ++ 32 :: (numL (sumL b) ++ 32 :: b) by simp] at e
      obtain ⟨q1, q2⟩ := cutN (not_in_app n1 (not_in_cons (fun z => n3 (by rw [z]; exact List.mem_cons_self ..)) (not_in_cons n2 fun m => n3 (List.mem_cons_of_mem _ m)))) e
      obtain ⟨q3, q4⟩ := cutN hB q2
      subst q4
      rw [e1] at q1
      exact ne (List.cons.inj (List.append_cancel_left q1)).1.symm
  · -- the first blank and the sum's first figure
    subst e1 e2
    cases hs : numL (sumL b) with
    | nil => exact numL_ne _ hs
    | cons d t =>
      rw [hs] at e3 hB
      rw [List.cons_append] at e3
      obtain ⟨q1, q2⟩ := List.cons.inj e3
      subst q1 q2
      obtain ⟨n1, n2⟩ : v ≠ 32 ∧ 32 ∉ t := ⟨fun z => hB (by rw [z]; exact List.mem_cons_self ..), fun m => hB (List.mem_cons_of_mem _ m)⟩
      rw [show numL b.length ++ v :: 32 :: (t ++ 32 :: b) = (numL b.length ++ [v]) ++ 32 :: (t ++ 32 :: b) by simp] at e
      obtain ⟨q1, q2⟩ := cutN (not_in_app hA (not_in_cons n1 List.not_mem_nil)) e
      obtain ⟨q3, q4⟩ := cutN n2 q2
      subst q4
      have := congrArg List.length q1
      simp at this
  · subst e1
    rw [show numL b.length ++ 32 :: y1 ++ v :: u :: r = numL b.length ++ 32 :: (y1 ++ v :: u :: r) by simp] at e
    obtain ⟨q1, q2⟩ := cutN hA e
    have en := numL_inj q1
    rcases split_at e2 with ⟨B2, e3, e4⟩ | ⟨e3, e4, e5⟩ | ⟨b1, e3, e4⟩
    · obtain ⟨n1, n2, n3⟩ := notin_l e3 hB
      cases B2 with
      | nil =>
        obtain ⟨q3, q4⟩ := List.cons.inj e4
        subst q3 q4
        obtain ⟨q3, q4⟩ := cutN n1 q2
        have := congrArg List.length q4
        rw [← en] at this
        simp at this
      | cons d B2 =>
        rw [List.cons_append] at e4
        obtain ⟨q3, q4⟩ := List.cons.inj e4
        subst q3 q4
        rw [show y1 ++ v :: u :: (B2 ++ 32 :: b) = (y1 ++ v :: u :: B2) ++ 32 :: b by simp] at q2
        obtain ⟨q3, q4⟩ := cutN (not_in_app n1 (not_in_cons (fun z => n3 (by rw [z]; exact List.mem_cons_self ..)) (not_in_cons n2 fun m => n3 (List.mem_cons_of_mem _ m)))) q2
        subst q4
        rw [e3] at q3
        exact ne (List.cons.inj (List.append_cancel_left q3)).1.symm
    · -- the second blank and the body's first sign
      subst e3 e4
      rw [show numL (sumL b) ++ v :: 32 :: r = (numL (sumL b) ++ [v]) ++ 32 :: r by simp] at q2
      obtain ⟨q3, q4⟩ := cutN (not_in_app hB (not_in_cons (Ne.symm ne) List.not_mem_nil)) q2
      have := congrArg List.length e5
      have h2 := congrArg List.length q4
      simp at this
      omega
    · subst e3
      rw [show numL (sumL b) ++ 32 :: b1 ++ v :: u :: r = numL (sumL b) ++ 32 :: (b1 ++ v :: u :: r) by simp] at q2
      obtain ⟨q3, q4⟩ := cutN hB q2
      have es := numL_inj q3
      rw [e4, ← q4] at es
      have hu : u < 128 := hb u (by rw [e4]; exact List.mem_append_right _ (List.mem_cons_self ..))
      have hv : v < 128 := hb v (by rw [e4]; exact List.mem_append_right _ (List.mem_cons_of_mem _ (List.mem_cons_self ..)))
      exact ne (sum_swap hu hv es)
/-! ### an early end -/
theorem end_row {b l : List Nat} {u : Nat} {r : List Nat} (h : rowL b = l ++ u :: r) : ¬ IsRow l := by
  rintro ⟨b', e⟩
  have hA := num32 b.length
  have hB := num32 (sumL b)
  unfold rowL at h e
  subst e
  rw [show numL b'.length ++ 32 :: (numL (sumL b') ++ 32 :: b') ++ u :: r = numL b'.length ++ 32 :: (numL (sumL b') ++ 32 :: (b' ++ u :: r)) by simp] at h
  obtain ⟨q1, q2⟩ := cutN hA h
  obtain ⟨q3, q4⟩ := cutN hB q2
  have en := numL_inj q1
  have := congrArg List.length q4
  simp at this
  omega
/-! ### where a sign stands -/
def occL (c : Nat) : Nat → Nat → List Nat → List Nat
  | _, _, [] => []
  | 0, _, _ :: _ => []
  | m + 1, i, d :: r => if d = c then i :: occL c m (i + 1) r else occL c (m + 1) (i + 1) r
theorem occL_zero (c i : Nat) (l : List Nat) : occL c 0 i l = [] := by cases l <;> rfl
theorem sub_one (x : Str) (c i : Nat) : PySem.Builtin.Str.subAt x ⟨#[c]⟩ i = decide ((DL.tl x)[i]? = some c) := by
  rw [StrLaws.subAt_eq]
  show (((DL.tl x).drop i).take 1 == [c]) = _
  cases h : (DL.tl x)[i]? with
  | none =>
    rw [List.drop_eq_nil_of_le (by simpa using h)]
    rfl
  | some d =>
    obtain ⟨hi, e⟩ := List.getElem?_eq_some_iff.mp h
    rw [List.drop_eq_getElem_cons hi, e]
    show ([d] == [c]) = decide (some d = some c)
    by_cases q : d = c
    · subst q; simp
    · simp [q]
theorem occ_run (x : Str) (c m : Nat) : ∀ (n a : Nat) (st : Array Nat × Nat), a + n = x.length → st.1.size ≤ m → st.2 ≤ a →
    (forIn (List.range' a (n + 1)) st (StrLaws.occBody x ⟨#[c]⟩ x.length m)).run.1.toList = st.1.toList ++ occL c (m - st.1.size) a ((DL.tl x).drop a)
  | 0, a, st, h, h1, h2 => by
    have e : (DL.tl x).drop a = [] := List.drop_eq_nil_of_le (by rw [← DL.len_tl]; omega)
    rw [show List.range' a (0 + 1) = [a] from rfl, List.forIn_cons]
    unfold StrLaws.occBody
    rw [if_neg (fun q => by have := q.1.2; rw [DL.one_len] at this; omega), e]
    show st.1.toList = st.1.toList ++ occL c (m - st.1.size) a []
    unfold occL
    simp
  | n + 1, a, st, h, h1, h2 => by
    have hlt : a < (DL.tl x).length := by rw [← DL.len_tl]; omega
    have e : (DL.tl x).drop a = (DL.tl x)[a] :: (DL.tl x).drop (a + 1) := List.drop_eq_getElem_cons hlt
    rw [show List.range' a (n + 1 + 1) = a :: List.range' (a + 1) (n + 1) from rfl, List.forIn_cons, e]
    unfold StrLaws.occBody
    by_cases q : st.1.size < m ∧ (DL.tl x)[a] = c
    · have hs : PySem.Builtin.Str.subAt x ⟨#[c]⟩ a = true := by rw [sub_one, List.getElem?_eq_getElem hlt, q.2]; simp
      rw [if_pos ⟨⟨⟨q.1, h2⟩, by rw [DL.one_len]; omega⟩, hs⟩]
      have ih := occ_run x c m n (a + 1) (st.1.push a, a + 1) (by omega) (by rw [Array.size_push]; omega) (Nat.le_refl _)
      rw [Array.size_push] at ih
      have em : m - st.1.size = (m - (st.1.size + 1)) + 1 := by omega
      rw [em]
      show _ = st.1.toList ++ occL c ((m - (st.1.size + 1)) + 1) a ((DL.tl x)[a] :: (DL.tl x).drop (a + 1))
      rw [occL, if_pos q.2]
      refine ih.trans ?_
      simp
    · have hn : ¬ (((st.1.size < m ∧ st.2 ≤ a) ∧ a + Str.length ⟨#[c]⟩ ≤ x.length) ∧ PySem.Builtin.Str.subAt x ⟨#[c]⟩ a = true) := fun z => q ⟨z.1.1.1, by
        have := z.2
        rw [sub_one, List.getElem?_eq_getElem hlt] at this
        exact Option.some.inj (of_decide_eq_true this)⟩
      rw [if_neg hn]
      have ih := occ_run x c m n (a + 1) (st.1, st.2) (by omega) h1 (by show st.2 ≤ a + 1; omega)
      refine ih.trans ?_
      congr 1
      cases hm : m - st.1.size with
      | zero => rw [occL_zero, occL_zero]
      | succ k => rw [occL, if_neg fun z => q ⟨by omega, z⟩]
theorem occ_list (x : Str) (c m : Nat) : PySem.Builtin.Str.occurrences x ⟨#[c]⟩ 0 x.length m = occL c m 0 (DL.tl x) := by
  rw [StrLaws.occ_eq]
  have := occ_run x c m x.length 0 (#[], 0) (by omega) (Nat.zero_le _) (Nat.le_refl _)
  simpa using this
/-- the first two blanks of a row -/
theorem occL_skip {c : Nat} {m : Nat} : ∀ {a : List Nat} {i : Nat} {r : List Nat}, c ∉ a → occL c (m + 1) i (a ++ c :: r) = (i + a.length) :: occL c m (i + a.length + 1) r
  | [], i, r, _ => by rw [List.nil_append, occL, if_pos rfl]; rfl
  | d :: a, i, r, h => by
    rw [List.cons_append, occL, if_neg fun e => h (by rw [e]; exact List.mem_cons_self ..), occL_skip fun z => h (List.mem_cons_of_mem _ z), List.length_cons]
    rw [show i + 1 + a.length = i + (a.length + 1) by omega]
/-- the text of a row -/
def rowS (b : Str) : Str := ⟨(rowL (DL.tl b)).toArray⟩
theorem tl_rowS (b : Str) : DL.tl (rowS b) = rowL (DL.tl b) := rfl
theorem sep_kind (x : Str) : ¬ PySem.Builtin.Str.strKind x < PySem.Builtin.Str.strKind ⟨#[32]⟩ := TL.kind_ok (by simp)
theorem max_row (b : Str) : Txt.splitMax (rowS b) ⟨#[32]⟩ 2 = [⟨(numL (DL.tl b).length).toArray⟩, ⟨(numL (sumL (DL.tl b))).toArray⟩, b] := by
  have ho : PySem.Builtin.Str.occurrences (rowS b) ⟨#[32]⟩ 0 (rowS b).length (limitOf (rowS b) 2) = [(numL (DL.tl b).length).length, (numL (DL.tl b).length).length + 1 + (numL (sumL (DL.tl b))).length] := by
    rw [occ_list, show limitOf (rowS b) 2 = 2 from rfl, tl_rowS]
    unfold rowL
    rw [occL_skip (num32 _), occL_skip (num32 _), occL_zero]
    simp
  have hlen : (rowS b).length = (numL (DL.tl b).length).length + 1 + (numL (sumL (DL.tl b))).length + 1 + (DL.tl b).length := by
    rw [DL.len_tl, tl_rowS]
    unfold rowL
    simp
    omega
  unfold Txt.splitMax
  have n1 : ¬ (decide ((rowS b).length < (⟨#[32]⟩ : Str).length) || decide (PySem.Builtin.Str.strKind (rowS b) < PySem.Builtin.Str.strKind ⟨#[32]⟩)) = true := by
    rw [Bool.or_eq_true]
    rintro (h | h)
    · have := of_decide_eq_true h
      rw [hlen, DL.one_len] at this
      omega
    · exact sep_kind _ (of_decide_eq_true h)
  rw [ho, if_neg n1, if_neg (by simp)]
  generalize hd : numL (DL.tl b).length = d at hlen ⊢
  generalize hs : numL (sumL (DL.tl b)) = e at hlen ⊢
  have hrow : DL.tl (rowS b) = d ++ 32 :: (e ++ 32 :: DL.tl b) := by rw [tl_rowS]; unfold rowL; rw [hd, hs]
  have key : ∀ (l m r : List Nat) (k : Nat), DL.tl (rowS b) = l ++ m ++ r → k = l.length + m.length → PySem.Builtin.Str.strSub (rowS b) l.length k = ⟨m.toArray⟩ := fun l m r k h1 h2 => by
    refine DL.ext_tl ?_
    rw [show DL.tl (PySem.Builtin.Str.strSub (rowS b) l.length k) = ((DL.tl (rowS b)).drop l.length).take (k - l.length) from TL.tl_strSub .., h1, h2, List.append_assoc, List.drop_left' rfl, Nat.add_sub_cancel_left, List.take_left' rfl]
  have k1 := key [] d (32 :: (e ++ 32 :: DL.tl b)) d.length (by rw [hrow]; rfl) (by simp)
  have k2 := key (d ++ [32]) e (32 :: DL.tl b) (d.length + 1 + e.length) (by rw [hrow]; simp) (by simp)
  have k3 := key (d ++ [32] ++ e ++ [32]) (DL.tl b) [] (rowS b).length (by rw [hrow]; simp) (by rw [hlen]; simp; omega)
  have l2 : (d ++ [32]).length = d.length + 1 := by simp
  have l3 : (d ++ [32] ++ e ++ [32]).length = d.length + 1 + e.length + 1 := by simp; omega
  rw [l2] at k2
  rw [l3] at k3
  show [PySem.Builtin.Str.strSub (rowS b) 0 d.length, PySem.Builtin.Str.strSub (rowS b) (d.length + 1) (d.length + 1 + e.length), PySem.Builtin.Str.strSub (rowS b) (d.length + 1 + e.length + 1) (rowS b).length] = _
  rw [show (0 : Nat) = ([] : List Nat).length from rfl, k1, k2, k3]
/-- what body_of tells -/
def bodyD (x : Str) : DV := match (Txt.splitMax x ⟨#[32]⟩ 2).reverse with
  | b :: r => if r.length = 2 ∧ rowS b = x then .str b else .non
  | [] => .non
theorem bodyD_row (b : Str) : bodyD (rowS b) = .str b := by
  unfold bodyD
  rw [max_row]
  show (if (2 : Nat) = 2 ∧ rowS b = rowS b then DV.str b else .non) = _
  rw [if_pos ⟨rfl, rfl⟩]
theorem bodyD_not {x : Str} (h : ¬ IsRow (DL.tl x)) : bodyD x = .non := by
  unfold bodyD
  split
  · rename_i b r e
    rw [if_neg]
    rintro ⟨_, q⟩
    exact h ⟨DL.tl b, by rw [← q]; rfl⟩
  · rfl
/-- by the parts -/
theorem bodyD_parts {x b : Str} {r : List Str} (e : Txt.splitMax x ⟨#[32]⟩ 2 = r ++ [b]) : bodyD x = if r.length = 2 ∧ rowS b = x then .str b else .non := by
  unfold bodyD
  rw [e, List.reverse_append]
  show (if r.reverse.length = 2 ∧ rowS b = x then DV.str b else .non) = _
  rw [List.length_reverse]
theorem parts_ne (x : Str) : ∃ r b, Txt.splitMax x ⟨#[32]⟩ 2 = r ++ [b] := by
  have h : Txt.splitMax x ⟨#[32]⟩ 2 ≠ [] := by
    unfold Txt.splitMax
    split
    · exact fun z => nomatch z
    · split
      · exact fun z => nomatch z
      · intro z
        have := congrArg List.length z
        simp [PySem.Builtin.Str.partsBetween] at this
  exact ⟨_, _, (List.dropLast_concat_getLast h).symm⟩
theorem part_len {x b : Str} {r : List Str} (e : Txt.splitMax x ⟨#[32]⟩ 2 = r ++ [b]) : b.length ≤ x.length := partMax_short (k := 2) (y := ⟨#[32]⟩) (by rw [e]; exact List.mem_append_right _ (List.mem_singleton.mpr rfl))
end RW

set_option Elab.async false
set_option linter.all false
set_option maxRecDepth 100000
set_option maxHeartbeats 4000000
namespace DL
open PySem PySem.Spec PyProof.Rows L2
variable {X : Cx} {A : Anc}
/-! ### int(truth), int(number) -/
def dIntF (ds : List DV) (s : Sto) (Q : KD) : Prop := match ds with
  | [.int i] => Q (.int i) s
  | [.bl b] => Q (.int (if b then 1 else 0)) s
  | _ => False
theorem dIntF_q1 {i : Int} {s : Sto} {Q : KD} : dIntF [.int i] s Q = Q (.int i) s := propext Iff.rfl
theorem dIntF_q2 {b : Bool} {s : Sto} {Q : KD} : dIntF [.bl b] s Q = Q (.int (if b then 1 else 0)) s := propext Iff.rfl
theorem cd_int : CallR X (.type "int") (lC X.K dIntF) := callImp call_int1 fun xs H Q h => by
  obtain ⟨ds, s, Q', rep, dv, r, k⟩ := h
  unfold dIntF at r
  split at r
  · cases dv with
    | cons h t => cases t; cases h; exact .inl ⟨_, rfl, k _ H _ s (Stp.refl s H) rep (.int _) r⟩
  · cases dv with
    | cons h t => cases t; cases h; exact .inr ⟨_, rfl, k _ H _ s (Stp.refl s H) rep (.int _) r⟩
  · exact r.elim
/-! ### a text times a number -/
def dMulT (x y : DV) (s : Sto) (Q : KD) : Prop := match x, y with
  | .str z, .int k => (1 ≤ k ∧ k ≤ 10000 ∧ 1 ≤ z.length ∧ z.length ≤ 1000) ∧ Q (.str (repS z k)) s
  | _, _ => False
theorem dMulT_q {z : Str} {k : Int} {s : Sto} {Q : KD} : dMulT (.str z) (.int k) s Q = ((1 ≤ k ∧ k ≤ 10000 ∧ 1 ≤ z.length ∧ z.length ≤ 1000) ∧ Q (.str (repS z k)) s) := propext Iff.rfl
theorem op_mulT : OpR X (binaryOp .Mult) (fun x y H Q => ∃ z k, x = .str z ∧ y = .int k ∧ (1 ≤ k ∧ k ≤ 10000 ∧ 1 ≤ z.length ∧ z.length ≤ 1000) ∧ Q (.str (repS z k)) H) := by
  intro pins s σ H x y v u Q I rx ry h
  obtain ⟨z, k, rfl, rfl, ⟨h1, h2, h3, h4⟩, q⟩ := h
  obtain ⟨t, rfl⟩ := rx
  obtain ⟨t', rfl⟩ := ry
  have hm : z.length * k.toNat ≤ 1000 * 10000 := Nat.mul_le_mul h4 (by omega)
  have n1 : ¬ k < 1 := by omega
  refine PySem.P.mul_str ?_ (fun _ _ => ?_) (fun _ _ => ?_) ?_
  · rw [decide_eq_false (by omega), decide_eq_false (by omega)]; rfl
  · have h5 : (1000 : Int) ≤ (2 ^ 63 - 1) / k := by
      rw [Int.le_ediv_iff_mul_le (by omega)]
      omega
    omega
  · show decide (z.length * k.toNat > sizeLine) = false
    rw [decide_eq_false]
    rw [sizeLine_eq]
    omega
  · rw [if_neg n1]
    by_cases hk : k = 1
    · subst hk
      rw [if_pos (by simp)]
      refine ⟨.str _, H, I, ⟨_, rfl⟩, ?_⟩
      have e : repS z 1 = z := ext_tl (by show tl (repS z 1) = tl z; rw [show tl (repS z 1) = _ from repS_list z 1]; simp)
      rw [← e]
      exact q
    · have n2 : (k == 1 || z.length == 0) = false := by
        rw [Bool.or_eq_false_iff]
        exact ⟨by simpa using hk, by simpa using (show z.length ≠ 0 by omega)⟩
      rw [if_neg (by rw [n2]; exact Bool.false_ne_true)]
      refine ⟨?_, .str _, H, I.tok _, ⟨_, rfl⟩, q⟩
      show (repS z k).length ≤ sizeLine
      rw [repS_length, Nat.mul_comm, sizeLine_eq]
      omega
theorem od_mulT : OpD X (binaryOp .Mult) dMulT := opImp op_mulT fun x y H Q h => by
  obtain ⟨dx, dy, s, Q', rep, hx, hy, r, k⟩ := h
  unfold dMulT at r
  split at r
  · cases hx; cases hy
    exact ⟨_, _, rfl, rfl, r.1, k _ H _ s (Stp.refl s H) rep (.str _) r.2⟩
  · exact r.elim
/-! ### *a, b = a list, a and b names -/
def kStarN (i j : Nat) (δ : Ed) (s : Sto) (Q : Ed → Sto → Prop) (o : Option (List DV)) : Prop := ∃ ds d, o = some (ds ++ [d]) ∧ Q ((δ.set i (some (.lst ds))).set j (some d)) s
def gStarN (i j : Nat) (d : DV) (δ : Ed) (s : Sto) (Q : Ed → Sto → Prop) : Prop := kStarN i j δ s Q (lstD s d)
theorem gStarN_q {i j : Nat} {d : DV} {δ : Ed} {s : Sto} {Q : Ed → Sto → Prop} : gStarN i j d δ s Q = kStarN i j δ s Q (lstD s d) := propext Iff.rfl
theorem dgstarN {i j k : Nat} {x y : Str} {px py pa pos : Pos} (hc : X.calm = true) (hN : X.N.Nodup) (hi : X.N[i]? = some x) (hj : X.N[j]? = some y) (hx : Loc X.env.scope x) (hy : Loc X.env.scope y)
    (hfx : X.fn x = true ∨ X.env.scope.names.lookup x = some .local := by first | exact .inl rfl | exact .inr rfl | assumption) (hfy : X.fn y = true ∨ X.env.scope.names.lookup y = some .local := by first | exact .inl rfl | exact .inr rfl | assumption)
    (he : assignEach [.Starred (.Name x px) pa, .Name y py] X.env = [(true, assign (.Name x px) X.env), (false, assign (.Name y py) X.env)] := by rfl)
    (h2 : (assignEach [.Name x px, .Name y py] X.env).map (·.2) = [assign (.Name x px) X.env, assign (.Name y py) X.env] := by rfl)
    (h3 : (assignEach [.Name y py] X.env).map (·.2) = [assign (.Name y py) X.env] := by rfl) : PGd A X (.Tuple [.Starred (.Name x px) pa, .Name y py] k pos) (gStarN i j) :=
  pgImp (pg_star2 hc (pgs_cons (pg_name hN hi hx hfx) (pgs_cons (pg_name hN hj hy hfy) pgs_nil h3) (by rw [h2, h3])) he h2) fun v σ H Q hh => by
  obtain ⟨d, δ, s, Q', S, dv, ⟨ds, z, e, g⟩, kk⟩ := hh
  obtain ⟨a, xs, rfl, hq, l⟩ := lstD_ok S.rep dv e
  obtain ⟨vs, v, rfl, l1, l2⟩ := DatL.snocInv l
  refine ⟨a, vs, v, rfl, hq, fun p hp => ?_⟩
  have st := Stp.newF (s := s) (o := .lst vs) hp
  have rep := S.rep.newF (o := .lst vs) hp
  have S1 := S.go st rep
  have d1 : Dat X.K s (upd H p (.lst vs)) (.ref p) (.lst ds) := .lst upd_same (S.rep.fresh hp) (l1.step st S.rep)
  have d2 := l2.step st S.rep
  refine ⟨_, _, rfl, ⟨_, _, rfl, rfl, kk _ _ _ s ⟨S1.stp, S1.rep, (S1.env.set d1 i).set d2 j⟩ g⟩⟩
/-! ### small ones -/
theorem ifS_true {c : TTd} {a b : TSd} {D : EndsD} {δ : Ed} {s : Sto} (hc : ∀ Q : Bool → Sto → Prop, Q true s → c δ s Q) (h : a D δ s) : dIfS c a b D δ s := hc _ h
theorem ifS_false {c : TTd} {a b : TSd} {D : EndsD} {δ : Ed} {s : Sto} (hc : ∀ Q : Bool → Sto → Prop, Q false s → c δ s Q) (h : b D δ s) : dIfS c a b D δ s := hc _ h
theorem ixD_all {P : DV → Prop} {ds : List DV} {r : Int} {s : Sto} {Q : KD} (h : ∀ d ∈ ds, P d) (h0 : 0 ≤ r) (h1 : r < ds.length) (k : ∀ d, P d → Q d s) : ixD (atI ds r) s Q := by
  obtain ⟨d, e, hd⟩ := atI_all h h0 h1
  rw [e]
  exact k d hd
theorem chr_all {P : Nat → Prop} {ds : List Nat} {r : Int} {s : Sto} {Q : KD} (h : ∀ d ∈ ds, P d) (h0 : 0 ≤ r) (h1 : r < ds.length) (k : ∀ c, P c → Q (.str ⟨#[c]⟩) s) : kChr s Q (atI ds r) := by
  obtain ⟨d, e, hd⟩ := atI_all h h0 h1
  rw [e]
  exact k d hd
/-! ### an item of an object of the store -/
def kIxK (s : Sto) (Q : KD) (ks : List (Key × DV)) : Option Key → Prop
  | some k => ixD (getP ks k) s Q
  | none => False
theorem kIxK_q {s : Sto} {Q : KD} {ks : List (Key × DV)} {k : Key} : kIxK s Q ks (some k) = ixD (getP ks k) s Q := propext Iff.rfl
def kIxR (s : Sto) (Q : KD) (y : DV) : Option MO → Prop
  | some (.lst ds) => match y with
    | .int i => ixD (atI ds i) s Q
    | _ => False
  | some (.dK ks) => kIxK s Q ks (keyD y)
  | _ => False
theorem kIxR_q1 {s : Sto} {Q : KD} {ds : List DV} {i : Int} : kIxR s Q (.int i) (some (.lst ds)) = ixD (atI ds i) s Q := propext Iff.rfl
theorem kIxR_q2 {s : Sto} {Q : KD} {ks : List (Key × DV)} {y : DV} : kIxR s Q y (some (.dK ks)) = kIxK s Q ks (keyD y) := propext Iff.rfl
theorem dIx_re {s : Sto} {Q : KD} {a : Addr} {y : DV} : dIx (.ref a) y s Q = kIxR s Q y (s a) := by
  unfold dIx
  simp only [seqD_re]
  cases e : s a with
  | none => simp only [refL, kIxR, dictD, e]
  | some m =>
    cases m with
    | lst ds => cases y <;> simp only [refL, kIxR]
    | dK ks => simp only [refL, kIxR, dictD, e]; cases keyD y <;> simp only [kIxK]
    | _ => simp only [refL, kIxR, dictD, e]
end DL

set_option Elab.async false
set_option linter.all false
set_option maxRecDepth 100000
set_option maxHeartbeats 4000000
namespace DL
open PySem PySem.Spec PyProof.Rows L2
variable {X : Cx} {A : Anc}
/-! ### items behind one that wants a token: text.replace(.., ..) -/
abbrev PATd (A : Anc) (X : Cx) (es : List Expr) (t : TAd) : Prop := PAT X es (lA X.K A t)
abbrev PETd (A : Anc) (X : Cx) (e : Expr) (t : TEd) : Prop := PET X e (lE X.K A t)
theorem pat_cons' {e : Expr} {es : List Expr} {te : TE} {t : TA} (ha : PET X e te) (hr : PAT X es t) (hs : starEach (e :: es) X.env = (false, eval e X.env) :: starEach es X.env := by rfl) : PAT X (e :: es) (tCons te t) := by
  intro pos pins s σ H Q h0 I h
  rw [hs]
  show wpAny _ _ (spliced ((false, eval e X.env) :: backTo pos (starEach es X.env))) _ _ s
  refine PySem.Calls.spliced_cons (wpAny_mono (PySem.wpAny_toks (ha pins s σ H _ h0 I h)) (fun u s1 q => ?_) fun _ _ y => y.2)
  obtain ⟨hk, x, H1, I1, r1, q1⟩ := q
  exact thn (hr pos pins s1 σ H1 _ (Nat.le_trans h0 hk) I1 q1) fun us s2 ⟨xs, H2, I2, r2, q2⟩ => ⟨x :: xs, H2, I2, .cons r1 r2, q2⟩
theorem lA_cons {K : PySem.W.Frag} {te : TEd} {t : TAd} {σ : L2.St} {H : Hp} {Q : List V → Hp → Prop} (h : lA K A (dCons te t) σ H Q) : tCons (lE K A te) (lA K A t) σ H Q := by
  obtain ⟨δ, s, Q', S, t, k⟩ := h
  refine ⟨δ, s, _, S, t, fun v H1 d s1 st1 rep1 dv q1 => ?_⟩
  refine ⟨δ, s1, _, S.go st1 rep1, q1, fun vs H2 ds s2 st2 rep2 dvs q2 => ?_⟩
  exact k (v :: vs) H2 (d :: ds) s2 (st1.trans st2) rep2 (.cons (dv.step st2 rep1) dvs) q2
theorem datn : PATd A X [] dNil := fun pos pins s σ H Q _ I h => dan.run pos pins s σ H Q I h
theorem datc {e : Expr} {es : List Expr} {te : TEd} {t : TAd} (ha : PETd A X e te) (hr : PATd A X es t) (hs : starEach (e :: es) X.env = (false, eval e X.env) :: starEach es X.env := by rfl) : PATd A X (e :: es) (dCons te t) :=
  fun pos pins s σ H Q h0 I h => pat_cons' ha hr hs pos pins s σ H Q h0 I (lA_cons h)
theorem det {e : Expr} {te : TEd} (h : PD A X e te) : PETd A X e te := fun pins s σ H Q _ I q => h.run pins s σ H Q I q
/-- the first item begins with a written text -/
theorem dacUp {z : Str} {j : Nat} {c0 p : Pos} {op : Operator} {b : Expr} {es : List Expr} {r : R2d} {tb : TEd} {t : TAd} (ho : OpD X (binaryOp op) r) (hb : PD A X b tb) (hr : PATd A X es t)
    (hs : starEach (.BinOp (.Constant (.str z) j c0) op b p :: es) X.env = (false, eval (.BinOp (.Constant (.str z) j c0) op b p) X.env) :: starEach es X.env := by rfl) :
    PAd A X (.BinOp (.Constant (.str z) j c0) op b p :: es) (dCons (dOp r (dC (.str z)) tb) t) := by
  refine ⟨fun pos pins s σ H Q I h => ?_⟩
  have h1 := lA_cons h
  rw [hs]
  show wpAny _ _ (spliced ((false, eval (.BinOp (.Constant (.str z) j c0) op b p) X.env) :: backTo pos (starEach es X.env))) _ _ s
  refine PySem.Calls.spliced_cons (wpAny_BinOp (PySem.Calls.Constant_str ?_))
  obtain ⟨δ, s0, Q', S, t1, k⟩ := h1
  have hb1 := hb.run pins { s with toks := s.toks + 1 } σ H (fun y H2 => ∃ dy s2, Stp s0 H s2 H2 ∧ Rep X.K s2 H2 ∧ Dat X.K s2 H2 y dy ∧ kOp2 r Q' (.str z) dy s2) (I.tok _) ⟨δ, s0, _, S, t1, fun y H2 dy s2 st2 rep2 dv q2 => ⟨dy, s2, st2, rep2, dv, q2⟩⟩
  refine wpAny_mono (PySem.wpAny_toks hb1) (fun u s1 q => ?_) fun _ _ y => y.2
  obtain ⟨hk, y, H2, I2, ry, dy, s2, st2, rep2, dv, q2⟩ := q
  have ho1 := ho pins s1 σ H2 (.str z) y (.str z s.toks) u (fun v H3 => ∃ d s3, Stp s2 H2 s3 H3 ∧ Rep X.K s3 H3 ∧ Dat X.K s3 H3 v d ∧ Q' d s3) I2 ⟨_, rfl⟩ ry ⟨.str z, dy, s2, Q', rep2, .str z, dv, q2, fun v H3 d s3 st3 rep3 dv3 q3 => ⟨d, s3, st3, rep3, dv3, q3⟩⟩
  refine wpAny_mono (PySem.wpAny_toks ho1) (fun v s3 q => ?_) fun _ _ y => y.2
  obtain ⟨hk2, x, H3, I3, rx, d, s4, st3, rep3, dv3, q3⟩ := q
  have hq := k x H3 d s4 (st2.trans st3) rep3 dv3 q3
  have h0 : 1 ≤ s3.toks := by
    have : s.toks + 1 ≤ s1.toks := hk
    omega
  exact thn (hr pos pins s3 σ H3 _ h0 I3 hq) fun us s5 ⟨xs, H5, I5, r5, q5⟩ => ⟨x :: xs, H5, I5, .cons rx r5, q5⟩
def kRepl (y z : Str) (Q : KD) (d : DV) (s1 : Sto) : Prop := match d with
  | .str x => x.length + (x.length + 1) * z.length ≤ 16777216 ∧ Q (.str (Txt.replace x y z)) s1
  | _ => False
def dRepl (te : TEd) (y z : Str) (δ : Ed) (s : Sto) (Q : KD) : Prop := te δ s (kRepl y z Q)
theorem dRepl_q {te : TEd} {y z : Str} {δ : Ed} {s : Sto} {Q : KD} : dRepl te y z δ s Q = te δ s (kRepl y z Q) := propext Iff.rfl
theorem kRepl_q {x y z : Str} {s : Sto} {Q : KD} : kRepl y z Q (.str x) s = (x.length + (x.length + 1) * z.length ≤ 16777216 ∧ Q (.str (Txt.replace x y z)) s) := propext Iff.rfl
theorem drepl {o : Expr} {te : TEd} {y z : Str} {j k : Nat} {c0 c1 apos pos : Pos} (ho : PD A X o te) (hyz : (y == z) = false := by decide)
    (hst : starEach [.Constant (.str y) j c0, .Constant (.str z) k c1] X.env = [(false, eval (.Constant (.str y) j c0) X.env), (false, eval (.Constant (.str z) k c1) X.env)] := by rfl)
    (hbase : attributeBase o "replace" X.env (eval o X.env) = eval o X.env := by rfl) (hline : (apos.endLine == pos.line) = true := by rfl) :
    PETd A X (.Call (.Attribute o "replace" apos) [.Constant (.str y) j c0, .Constant (.str z) k c1] [] pos) (dRepl te y z) := fun pins s σ H Q h0 I h => by
  refine CwR.pet_replC ho hyz hst hbase hline pins s σ H Q h0 I ?_
  obtain ⟨δ, s0, Q', S, t, kk⟩ := h
  refine ⟨δ, s0, _, S, t, fun v H1 d s1 st1 rep1 dv q => ?_⟩
  cases d with
  | str x => cases dv; exact ⟨x, rfl, q.1, kk _ H1 _ s1 st1 rep1 (.str _) q.2⟩
  | _ => exact q.elim
/-! ### text.split(sep) -/
def dSplit1 (x : DV) (xs : List DV) (s : Sto) (Q : KD) : Prop := match x, xs with
  | .str a, [.str b] => ((b.length == 0) = false ∧ a.length + 2 ≤ sizeLine) ∧ Q (.lst ((Txt.split a b).map DV.str)) s
  | _, _ => False
theorem dSplit1_q {a b : Str} {s : Sto} {Q : KD} : dSplit1 (.str a) [.str b] s Q = (((b.length == 0) = false ∧ a.length + 2 ≤ sizeLine) ∧ Q (.lst ((Txt.split a b).map DV.str)) s) := propext Iff.rfl
theorem md_split1 : MtR X "str.split" (lM X.K dSplit1) := mtImp mt_split fun x xs H Q h => by
  obtain ⟨d, ds, s, Q', rep, hx, hxs, r, k⟩ := h
  unfold dSplit1 at r
  split at r
  · cases hx
    cases hxs with
    | cons h1 t =>
      cases t; cases h1
      refine ⟨_, _, rfl, rfl, r.1.1, r.1.2, newStrs_ok rep fun v H2 d s2 st rep2 dv e1 e2 => ?_⟩
      subst e1 e2
      exact k _ H2 _ _ st rep2 dv r.2
  · exact r.elim
def kJoinS (s : Sto) (a : Str) (Q : KD) : Option (List Str) → Prop
  | some ys => (ys.map (·.length)).sum + ys.length * a.length ≤ 16777216 ∧ Q (.str (Txt.join a ys)) s
  | none => False
theorem dJoin_lst {a : Str} {ds : List DV} {s : Sto} {Q : KD} : dJoin (.str a) [.lst ds] s Q = kJoinS s a Q (strsD ds) := by
  unfold dJoin kJoinS
  simp only [seqD_lst]
  all_goals (cases strsD ds <;> rfl)
theorem kJoinS_q {a : Str} {ys : List Str} {s : Sto} {Q : KD} : kJoinS s a Q (some ys) = ((ys.map (·.length)).sum + ys.length * a.length ≤ 16777216 ∧ Q (.str (Txt.join a ys)) s) := propext Iff.rfl
end DL

set_option Elab.async false
set_option linter.all false
set_option maxRecDepth 100000
set_option maxHeartbeats 4000000
namespace DL
open PySem PySem.Spec PyProof.Rows L2
/-! ### what is let out, over data: the class, the fields, the names and the store -/
abbrev XEd := Value → List (Str × DV) → Ed → Sto → Prop
def noXE : XEd := fun _ _ _ _ => False
def outX (E : XDd) : XEd := fun c fs _ s => E c fs s
def atX (Ex : XEd) (δ : Ed) : XDd := fun c fs s => Ex c fs δ s
def wX (K : PySem.W.Frag) (A : Anc) (Ex : XEd) : WX := fun cls dd σ H => ∃ fs δ s, Sd K A σ H δ s ∧ XdR K s H dd fs ∧ Ex cls fs δ s
section
variable {P : Program} {w : World} {K : PySem.W.Frag} {mg : Str → Option Value} {base : Heap}
/-- THE RULE for a def that may raise -/
theorem defOkX {x qual : Str} {st : Stmt} {f : Addr} {fd : FuncData} {N ps : List Str} {k : Nat} {sp : Spd} {t : XEd → TSd} (F : Fun K x qual st f fd) (S : FnScope N ps (defScope st)) (len : ∀ ds s Q E, sp ds s Q E → ds.length = ps.length)
    (hbody : ∀ (A : Anc) (cdv : Value) (Ar : Around) (outer : List Env) (s : Shared) (H : Hp) (E : XK) (Ex : XEd), Room k (Ar.deeper (envOfC qual (defScope st) s.heap.objs.size f cdv)) →
      Takes (cxOf (L2.CX P w) P w K mg base N qual (defScope st) f cdv Ar outer s H E) (wX K A Ex) → PSsd A (cxOf (L2.CX P w) P w K mg base N qual (defScope st) f cdv Ar outer s H E) (defBody st) (t Ex))
    (hread : ∀ ds s Q E, sp ds s Q E → t (outX E) { nx := fun _ s => Q .non s, rt := Q } (startD N.length ds) s) : FnOk P w K mg base (L2.CX P w) (k + 1) f fd ps (lSp K sp) := by
  refine F.okX S (fun vs H Q E h => ?_) (fun cdv Ar outer s H vs Q E hr h => ?_)
  · obtain ⟨ds, s, Q', E', rep, dv, q, _⟩ := h
    rw [dv.length]
    exact len ds s Q' E' q
  · obtain ⟨ds, s0, Q', E', rep, dv, q, kq, ke⟩ := h
    refine ⟨_, hbody ⟨s0, H⟩ cdv Ar outer s H E (outX E') hr ?_, startD N.length ds, s0, _, ⟨Stp.refl s0 H, rep, env_start N dv⟩, hread ds s0 Q' E' q, ?_⟩
    · exact (takes_of (E := E) rfl rfl rfl rfl).imp fun c d σ H2 ⟨fs, δ, s2, S2, xr, e⟩ => ke c d fs s2 H2 S2.stp S2.rep xr e
    · exact ⟨fun σ H2 δ s2 S2 q2 => kq .non H2 .non s2 S2.stp S2.rep .non q2, fun _ _ _ _ _ z => z.elim, fun _ _ _ _ _ z => z.elim, fun v H2 d s2 st rep2 dv2 q2 => kq v H2 d s2 st rep2 dv2 q2⟩
/-- a method that keeps a promise and may raise -/
structure MtX (P : Program) (w : World) (K : PySem.W.Frag) (mg : Str → Option Value) (base : Heap) (C : Addr) (m : Str) (k : Nat) (ps : List Str) (sp : Spd) : Prop where
  ex : ∃ f fd, FnOk P w K mg base (L2.CX P w) k f fd ps (lSp K sp) ∧ Meth K C m f ∧ Binds K fd ps []
theorem mtOkX {C : Addr} {m qual : Str} {st : Stmt} {N ps : List Str} {k : Nat} {sp : Spd} {t : XEd → TSd} (D : MethAt K C m qual st ps) (S : FnScope N ps (defScope st)) (len : ∀ ds s Q E, sp ds s Q E → ds.length = ps.length)
    (hbody : ∀ (A : Anc) (f : Addr) (cdv : Value) (Ar : Around) (outer : List Env) (s : Shared) (H : Hp) (E : XK) (Ex : XEd), Room k (Ar.deeper (envOfC qual (defScope st) s.heap.objs.size f cdv)) →
      Takes (cxOf (L2.CX P w) P w K mg base N qual (defScope st) f cdv Ar outer s H E) (wX K A Ex) → PSsd A (cxOf (L2.CX P w) P w K mg base N qual (defScope st) f cdv Ar outer s H E) (defBody st) (t Ex))
    (hread : ∀ ds s Q E, sp ds s Q E → t (outX E) { nx := fun _ s => Q .non s, rt := Q } (startD N.length ds) s) : MtX P w K mg base C m (k + 1) ps sp := by
  obtain ⟨f, fd, F, g, b⟩ := D.ex
  exact ⟨f, fd, defOkX F S len (fun A cdv Ar outer s H E Ex hr tk => hbody A f cdv Ar outer s H E Ex hr tk) hread, g, b⟩
end
/-! ### a method that may raise, called -/
def tMethS (C : Addr) (m : Str) (sp : Sp) (E : L2.St → XK) (ta : TE) (t : TA) : TE := fun σ H Q => ta σ H fun x H1 => ∃ a dx fs, x = .ref a ∧ H1 a = some (.ins C dx fs) ∧ fs.lookup m = none ∧ t σ H1 fun vs H2 => sp (x :: vs) H2 Q (E σ)
section
variable {X : Cx} {CX : CXT} {k : Nat} {f C : Addr} {fd : FuncData} {ps : List Str} {sp : Sp} {E : L2.St → XK} {m : Str} {pos apos : Pos} {e o : Expr} {es : List Expr} {ta : TE} {t : TA}
theorem pe_methS {pl : Sem Bool} (he : PE X o ta) (c : Cls X.K C) (hm : Meth X.K C m f) (F : FnOk X.prog X.w X.K X.mg X.base CX k f fd ps sp) (hr : Room k X.A) (hb : Binds X.K fd ps []) (hx : ∀ σ, PassesAt CX X σ (E σ)) (ha : PA X (e :: es) t)
    (hst : starEach (e :: es) X.env = (false, eval e X.env) :: starEach es X.env := by rfl) (hpl : (backTo pos (starEach es X.env)).any (·.1) = false := by rfl)
    (ht : eval (.Call (.Attribute o m apos) (e :: es) [] pos) X.env = (do
      let ov ← eval o X.env
      standAt apos.atName
      let (f, first) ← holding [ov] (getMethod ov m pl)
      callWith pos f first (backTo pos (starEach (e :: es) X.env)) (backToKw pos (keywordEach [] X.env))) := by rfl) :
    PE X (.Call (.Attribute o m apos) (e :: es) [] pos) (tMethS C m sp E ta t) := by
  refine ⟨fun pins s σ H Q I h => ?_⟩
  refine PySem.W.methodCall_KW (pl := pl) (thn (he.run pins s σ H _ I h) fun u s1 ⟨x, H1, I1, rx, a, dx, fs, ex, ea, l, q⟩ => ?_) ht
  subst ex
  obtain rfl : u = Value.ref a := rx
  refine getmeth_ok I1 ea c hm l ?_
  refine PySem.W.callWith_K (first := [.ref a]) (h₀ := X.base) I.ok.mod.kin hm.kp (thn (ha.run pos pins s1 σ H1 _ I1 q) fun us s2 ⟨vs, H2, I2, r, q2⟩ => ⟨I2.kIn, ?_⟩) hst hpl
  exact run_fnS (us := .ref a :: us) (vs := .ref a :: vs) F hr hb (hx σ) I2 (.cons rfl r) q2
theorem pe_methS0 {pl : Sem Bool} (he : PE X o ta) (c : Cls X.K C) (hm : Meth X.K C m f) (F : FnOk X.prog X.w X.K X.mg X.base CX k f fd ps sp) (hr : Room k X.A) (hb : Binds X.K fd ps []) (hx : ∀ σ, PassesAt CX X σ (E σ))
    (ht : eval (.Call (.Attribute o m apos) [] [] pos) X.env = (do
      let ov ← eval o X.env
      standAt apos.atName
      let (f, first) ← holding [ov] (getMethod ov m pl)
      callWith pos f first (backTo pos (starEach [] X.env)) (backToKw pos (keywordEach [] X.env))) := by rfl) :
    PE X (.Call (.Attribute o m apos) [] [] pos) (tMethS C m sp E ta tNil) := by
  refine ⟨fun pins s σ H Q I h => ?_⟩
  refine PySem.W.methodCall_KW (pl := pl) (thn (he.run pins s σ H _ I h) fun u s1 ⟨x, H1, I1, rx, a, dx, fs, ex, ea, l, q⟩ => ?_) ht
  subst ex
  obtain rfl : u = Value.ref a := rx
  refine getmeth_ok I1 ea c hm l ?_
  exact PySem.W.callWith_K0 (first := [.ref a]) I1.kIn hm.kp (run_fnS (us := [.ref a]) (vs := [.ref a]) F hr hb (hx σ) I1 (.cons rfl .nil) q)
end
def kMethX2 (sp : Spd) (Ex : XEd) (δ : Ed) (Q : KD) (a : Addr) (ds : List DV) (s2 : Sto) : Prop := cSp sp (.ref a :: ds) s2 Q (atX Ex δ)
def kMethX (C : Addr) (m : Str) (sp : Spd) (Ex : XEd) (t : TAd) (δ : Ed) (Q : KD) (o : DV) (s1 : Sto) : Prop := match o with
  | .ref a => match s1 a with
    | some (.ins C' fs) => C' = C ∧ fs.lookup m = none ∧ t δ s1 (kMethX2 sp Ex δ Q a)
    | _ => False
  | _ => False
def dMethX (C : Addr) (m : Str) (sp : Spd) (Ex : XEd) (to : TEd) (t : TAd) (δ : Ed) (s : Sto) (Q : KD) : Prop := to δ s (kMethX C m sp Ex t δ Q)
theorem kMethX2_q {sp : Spd} {Ex : XEd} {δ : Ed} {Q : KD} {a : Addr} {ds : List DV} {s2 : Sto} : kMethX2 sp Ex δ Q a ds s2 = cSp sp (.ref a :: ds) s2 Q (atX Ex δ) := propext Iff.rfl
theorem dMethX_q {C : Addr} {m : Str} {sp : Spd} {Ex : XEd} {to : TEd} {t : TAd} {δ : Ed} {s : Sto} {Q : KD} : dMethX C m sp Ex to t δ s Q = to δ s (kMethX C m sp Ex t δ Q) := propext Iff.rfl
section
variable {X : Cx} {A : Anc} {k : Nat} {C : Addr} {ps : List Str} {sp : Spd} {m : Str} {pos apos : Pos} {e o : Expr} {es : List Expr} {to : TEd} {t : TAd} {Ex : XEd}
theorem dMX {pl : Sem Bool} (c : Cls X.K C) (G : MtX X.prog X.w X.K X.mg X.base C m k ps sp) (hr : Room k X.A) (tk : Takes X (wX X.K A Ex)) (ho : PD A X o to) (ha : PAd A X (e :: es) t)
    (hst : starEach (e :: es) X.env = (false, eval e X.env) :: starEach es X.env := by rfl) (hpl : (backTo pos (starEach es X.env)).any (·.1) = false := by rfl)
    (ht : eval (.Call (.Attribute o m apos) (e :: es) [] pos) X.env = (do
      let ov ← eval o X.env
      standAt apos.atName
      let (f, first) ← holding [ov] (getMethod ov m pl)
      callWith pos f first (backTo pos (starEach (e :: es) X.env)) (backToKw pos (keywordEach [] X.env))) := by rfl) :
    PD A X (.Call (.Attribute o m apos) (e :: es) [] pos) (dMethX C m sp Ex to t) := by
  obtain ⟨f, fd, F, hm, hb⟩ := G.ex
  refine peImp (pe_methS ho c hm F hr hb (fun σ => passAt tk σ) ha hst hpl ht) fun σ H Q h => ?_
  obtain ⟨δ, s, Q', S, t, k⟩ := h
  refine ⟨δ, s, _, S, t, fun v H1 d s1 st1 rep1 dv q => ?_⟩
  unfold kMethX at q
  split at q
  · rename_i a
    cases dv
    split at q
    · rename_i C' fs e
      obtain ⟨rfl, hl, q⟩ := q
      obtain ⟨dx, gs, h1, hp⟩ := rep1 a _ e
      refine ⟨a, dx, gs, rfl, h1, (lookP m hp).1 hl, δ, s1, _, S.go st1 rep1, q, fun vs H2 es s2 st2 rep2 dvv q2 => ?_⟩
      refine ⟨_, s2, Q', atX Ex δ, rep2, .cons (.ref a) dvv, q2, fun v3 H3 d3 s3 st3 => k v3 H3 d3 s3 ((st1.trans st2).trans st3), fun cls dd fs3 s3 H3 st3 rep3 xr e3 => ?_⟩
      exact ⟨fs3, δ, s3, ((S.go st1 rep1).go st2 rep2).go st3 rep3, xr, e3⟩
    · exact False.elim q
  · exact False.elim q
theorem dMX0 {pl : Sem Bool} (c : Cls X.K C) (G : MtX X.prog X.w X.K X.mg X.base C m k ps sp) (hr : Room k X.A) (tk : Takes X (wX X.K A Ex)) (ho : PD A X o to)
    (ht : eval (.Call (.Attribute o m apos) [] [] pos) X.env = (do
      let ov ← eval o X.env
      standAt apos.atName
      let (f, first) ← holding [ov] (getMethod ov m pl)
      callWith pos f first (backTo pos (starEach [] X.env)) (backToKw pos (keywordEach [] X.env))) := by rfl) :
    PD A X (.Call (.Attribute o m apos) [] [] pos) (dMethX C m sp Ex to dNil) := by
  obtain ⟨f, fd, F, hm, hb⟩ := G.ex
  refine peImp (pe_methS0 ho c hm F hr hb (fun σ => passAt tk σ) ht) fun σ H Q h => ?_
  obtain ⟨δ, s, Q', S, t, k⟩ := h
  refine ⟨δ, s, _, S, t, fun v H1 d s1 st1 rep1 dv q => ?_⟩
  unfold kMethX at q
  split at q
  · rename_i a
    cases dv
    split at q
    · rename_i C' fs e
      obtain ⟨rfl, hl, q⟩ := q
      obtain ⟨dx, gs, h1, hp⟩ := rep1 a _ e
      refine ⟨a, dx, gs, rfl, h1, (lookP m hp).1 hl, ?_⟩
      refine ⟨_, s1, Q', atX Ex δ, rep1, .cons (.ref a) .nil, q, fun v3 H3 d3 s3 st3 => k v3 H3 d3 s3 (st1.trans st3), fun cls dd fs3 s3 H3 st3 rep3 xr e3 => ?_⟩
      exact ⟨fs3, δ, s3, (S.go st1 rep1).go st3 rep3, xr, e3⟩
    · exact False.elim q
  · exact False.elim q
end
end DL

set_option Elab.async false
set_option linter.all false
set_option maxRecDepth 100000
set_option maxHeartbeats 4000000
namespace DL
open PySem PySem.Spec PyProof.Rows L2
open Builtin Builtin.ObjectAttr
/-! ### an own exception class over any base, its __init__(self, v): Base.__init__(self, text); self.f = v -/
structure OxC (K : PySem.W.Frag) (C : Addr) (newId : String) (bmB : List Value) : Prop where
  cls : ∃ nm q N bs bm sn sub ab col dd k0 k1 k2 k3 k5, K.lookup C = some (excClassObj nm q C N bs bm true sn sub ab col dd k0 k1 k2 k3 k5 newId) ∧ PySem.W.excTail bmB bm = true
  sa : PySem.W.findIn K (.ref C) "__setattr__" = some (some (.builtin "object.__setattr__"))
  exC : PySem.W.subIn K (.ref C) (.type "BaseException") = some true
  tyC : PySem.W.typeIn K (.ref C) = some (.type "type")
  kC : PySem.W.keepIn K (.ref C) = true
theorem over_of {K : PySem.W.Frag} {C : Addr} {newId : String} {bmB : List Value} (T : OxC K C newId bmB) : PySem.W.excOver K C bmB = true := by
  obtain ⟨nm, q, N, bs, bm, sn, sub, ab, col, dd, k0, k1, k2, k3, k5, hC, ht⟩ := T.cls
  unfold PySem.W.excOver PySem.W.clsIn
  rw [hC]
  show (_ && _) = true
  simp [ht]
section
variable {X : Cx} {pins : List (Addr × Obj)} {σ : L2.St} {H : Hp} {s : Shared} {a C : Addr} {f : Str} {y : V} {u : Value} {Q : Unit → Shared → Prop} {E : Value → Shared → Prop} {A : Around} {B newId initId : String} {bmB : List Value}
/-- the first field of an exception that is being made -/
theorem oxs_new (SF : StoreFacts B bmB "object.__setattr__" "object") (T : OxC X.K C newId bmB) (I : Inv X pins σ H s) (e : H a = some (exo a C none)) (hno : PySem.W.findIn X.K (.ref C) f = some none) (ry : RelV y u)
    (h : ∀ dx s', H dx = none → dx ≠ a → Inv X pins σ (upd (upd H dx (exd dx [(f, y)])) a (exo a C (some dx))) s' → Q () s') : wpAny (model X.prog X.w) A (setAttr (.ref a) f u) Q E s := by
  obtain ⟨nm, q, N, bs, bm, sn, sub, ab, col, dd, k0, k1, k2, k3, k5, hC, hbm⟩ := T.cls
  have hcl : PySem.W.clsIn X.K C = some { name := nm, bases := bs, mro := .ref C :: bm, ns := N, qualname := q, hasDict := true, slotNames := sn, subclasses := sub, abstract := ab, collection := col, hasDel := false } := by unfold PySem.W.clsIn; rw [hC] <;> rfl
  obtain ⟨t1, ho⟩ := exo_at I.hok e
  have Xin := I.kIn
  obtain ⟨hp, g, d, t, os⟩ := s
  have ht : PySem.W.takerIn X.K C f = some none := by unfold PySem.W.takerIn; rw [hno]; rfl
  have J : PySem.W.InstAt hp a { cls := .ref C, dict := none, data := .fields #[.ref t1, .none, .none, .none, .bool false, .none] } C none := ⟨ho, rfl, rfl, trivial⟩
  have hxs : a ≠ hp.objs.size := Nat.ne_of_lt (Heap.lt_size ho)
  have hcls : PySem.W.Looks (model X.prog X.w) hp (classData C) { name := nm, bases := bs, mro := .ref C :: bm, ns := N, qualname := q, hasDict := true, slotNames := sn, subclasses := sub, abstract := ab, collection := col, hasDel := false } := PySem.W.looks_clsIn Xin hcl
  refine PySem.W.set_plain Xin J T.sa (PySem.W.osa_openX SF Xin J (over_of T) ht fun b => ?_)
  show wpAny _ _ (storeInOwnDict _ _ _ _ _ b) _ _ _
  unfold storeInOwnDict ownDictForStores
  have fin : ∀ (h' : Heap) (tk' : Tok), h'.Ns1 hp.objs.size (fun y => if y = f then some u else none) →
      (∀ b o, b ≠ a → hp.get? b = some o → h'.get? b = some o) → h'.get? a = some { cls := .ref C, dict := some hp.objs.size, data := .fields #[.ref t1, .none, .none, .none, .bool false, .none] } → Q () ⟨h', g, d, tk', os⟩ := fun h' tk' hn k hx => by
    have hnd : H hp.objs.size = none := I.hok.fresh (Nat.le_refl _)
    have nd : ∀ {b : Addr} {o : Obj}, hp.get? b = some o → b ≠ hp.objs.size := fun {b o} q => Nat.ne_of_lt (Heap.lt_size q)
    have na : ∀ {b : Addr}, H b = none → b ≠ a := fun {b} n z => by
      rw [z, e] at n
      cases n
    refine h hp.objs.size _ hnd hxs.symm (I.un (t' := tk') ⟨fun b o q n _ _ => k b o (na n) q, fun b o q n _ _ => ⟨o.slots, k b o (na n) q⟩, fun b o q n _ => by rw [upd_ne (na n), upd_ne (nd q)]; exact n, fun b o q _ => ?_, fun b xs q => ?_, fun b o v q => ?_, fun b ps q => ⟨#[], ?_⟩⟩ fun b o q => ?_)
    · by_cases hb : b = a
      · exact ⟨_, by rw [hb]; exact hx⟩
      · exact ⟨o, k b o hb q⟩
    · rw [upd_ne (at_ne e q exo_tup), upd_ne (ne_of_none q hnd)]; exact q
    · rw [upd_ne (at_ne e q exo_frz), upd_ne (ne_of_none q hnd)]; exact q
    · rw [upd_ne (at_ne e q exo_tbl), upd_ne (ne_of_none q hnd), q]; simp
    · by_cases hb : b = a
      · subst hb
        rw [upd_same] at q
        cases q
        exact exo_ok hx
      · rw [upd_ne hb] at q
        by_cases hd : b = hp.objs.size
        · subst hd
          rw [upd_same] at q
          cases q
          exact exd_ok hn (relO_put (fs := []) ry fun g => True.intro)
        · rw [upd_ne hd] at q
          exact (I.hok b o q).stay (fun c v hc z => k c v (by
              rcases hc with hc | hc
              · rw [hc]; exact hb
              · exact at_ne e hc exo_own) z)
            (fun c hc => by rw [upd_ne (at_ne e hc exo_own), upd_ne (ne_of_none hc hnd)]; exact hc) (fun c xs hc => by rw [upd_ne (at_ne e hc exo_tup), upd_ne (ne_of_none hc hnd)]; exact hc)
  repeat (first | with_reducible refine PySem.HandSPX.store_in_new ?_ ?_ | with_reducible refine wpAny_loadPart_at ho ?_ | with_reducible refine hcls.at ?_ | wp_step)
  · exact ⟨_, #[], _, (Heap.get?_update_ne _ _ _ _ hxs.symm).trans (Heap.get?_push_at rfl rfl), rfl, fun e he => absurd he (by simp), fun _ => rfl⟩
  · intro h' tk' hn' hs
    have hx₁ : (hp.push { cls := .type "dict", data := .dict #[] }).get? a = some { cls := .ref C, data := .fields #[.ref t1, .none, .none, .none, .bool false, .none] } := Heap.get?_push_of_some _ ho
    refine fin h' tk' hn' (fun b o hb ho => ?_) ?_
    · exact (hs.2 b (Nat.ne_of_lt (Heap.lt_size ho))).trans ((Heap.get?_update_ne _ _ _ _ hb).trans (Heap.get?_push_of_some _ ho))
    · exact (hs.2 a hxs).trans (Heap.get?_update_self _ hx₁ rfl)
/-- Base.__init__(self, ..): nothing of it is told -/
theorem oxi_ok {us : List Value} {Q : Value → Shared → Prop} (F : ExcBaseFacts B newId initId bmB) (T : OxC X.K C newId bmB) (I : Inv X pins σ H s) (e : H a = some (exo a C none)) (hl : us.length ≤ sizeLine) (h : ∀ s', Inv X pins σ H s' → Q .none s') :
    wpAny (model X.prog X.w) A (call (.builtin initId) (.ref a :: us)) Q E s := by
  obtain ⟨nm, q, N, bs, bm, sn, sub, ab, col, dd, k0, k1, k2, k3, k5, hC, hbm⟩ := T.cls
  obtain ⟨t1, ho⟩ := exo_at I.hok e
  have Xin := I.kIn
  obtain ⟨hp, g, d, t, os⟩ := s
  refine wpAny_call (PySem.HandSPX.init_base F (fun Y => PySem.W.excTail_contains Y bm hbm) (Xin _ _ hC) ho hl fun h' t2 k hx => ?_)
  have J := I.write (t' := t) (x := a) (e := a) (o := exo a C none) (by rw [e]; exact True.intro) (.inl rfl) k ⟨_, hx⟩ (exo_ok hx)
  have eu : upd H a (exo a C none) = H := by
    funext b
    by_cases hb : b = a
    · rw [hb, upd_same, e]
    · rw [upd_ne hb]
  rw [eu] at J
  exact h _ J
end
/-! ### the __init__ -/
def spInit (K : PySem.W.Frag) (newId : String) (bmB : List Value) (f : Str) : Sp := fun vs H Q E => ∃ (a C : Addr) (y : V), vs = [.ref a, y] ∧ OxC K C newId bmB ∧ PySem.W.findIn K (.ref C) f = some none ∧ H a = some (exo a C none) ∧
  ∀ dx, H dx = none → dx ≠ a → Q .non (upd (upd H dx (exd dx [(f, y)])) a (exo a C (some dx)))
/-- Base.__init__(self, ..) -/
def tXeI (K : PySem.W.Frag) (newId : String) (bmB : List Value) (ta : TA) : TE := fun σ H Q => ta σ H fun vs H1 => ∃ (a C : Addr) (ws : List V), vs = .ref a :: ws ∧ ws.length ≤ 1000 ∧ OxC K C newId bmB ∧ H1 a = some (exo a C none) ∧ Q .non H1
/-- self.f = e -/
def tOxs (K : PySem.W.Frag) (newId : String) (bmB : List Value) (f : Str) (to te : TE) : TS := fun D σ H => te σ H fun y H1 => to σ H1 fun x H2 => ∃ a C : Addr, x = .ref a ∧ OxC K C newId bmB ∧ PySem.W.findIn K (.ref C) f = some none ∧ H2 a = some (exo a C none) ∧
  ∀ dx, H2 dx = none → dx ≠ a → D.nx σ (upd (upd H2 dx (exd dx [(f, y)])) a (exo a C (some dx)))
section
variable {X : Cx} {B newId initId : String} {bmB : List Value} {f x : Str} {C : Addr} {p p' p1 p2 pos pos2 : Pos} {e o : Expr} {es : List Expr} {ta : TA} {te to : TE}
theorem pe_xinit {pl : Sem Bool} (F : ExcBaseFacts B newId initId bmB) (ty : typeOf (.type B) = pure (.type "type")) (st : Manifest.isStub B = false) (hin : PySem.W.handedIn (.builtin initId) = true) (hb : bootBuiltins x = some (.type B)) (hg : Gl X x) (hm : X.mg x = none)
    (vV : PySem.W.findCls X.K (.type B) (.type "type") "__init__" = some (.val (.builtin initId))) (ha : PA X (e :: es) ta) (hn : x ≠ "__name__" := by decide) (hd : (x == ("__debug__" : Str)) = false := by decide)
    (hc : eval (.Call (.Attribute (.Name x p1) "__init__" p2) (e :: es) [] pos) X.env = (do
      let ov ← eval (.Name x p1) X.env
      standAt p2.atName
      let (f, first) ← holding [ov] (getMethod ov "__init__" pl)
      callWith pos f first (backTo pos (starEach (e :: es) X.env)) (backToKw pos (keywordEach [] X.env))) := by rfl)
    (he : starEach (e :: es) X.env = (false, eval e X.env) :: starEach es X.env := by rfl) (hpl : (backTo pos (starEach es X.env)).any (·.1) = false := by rfl) :
    PE X (.Call (.Attribute (.Name x p1) "__init__" p2) (e :: es) [] pos) (tXeI X.K newId bmB ta) := by
  refine ⟨fun pins s σ H Q I h => ?_⟩
  refine PySem.W.methodCall_KW (ld_blt I hg hm hb ?_ hn hd) hc
  obtain ⟨m, fr⟩ := I.fr
  refine PySem.W.method_type fr I.ok.mod.kin ty st vV hin ?_
  show wpAny _ _ (callWith pos (Value.builtin initId) [] (backTo pos (starEach (e :: es) X.env)) []) _ _ _
  refine PyProof.Rows.callWith_method1 (thn (ha.run pos pins _ σ H _ (I.tok _) h) fun us s1 ⟨vs, H1, I1, r1, a, C, ws, ev, hl, T, ea, q⟩ => ?_) he hpl
  subst ev
  cases r1 with
  | @cons _ u0 _ ur ra rw' =>
    obtain rfl : u0 = Value.ref a := ra
    have hlen : ur.length ≤ sizeLine := by
      rw [← Paired.length rw', sizeLine_eq]
      omega
    exact oxi_ok F T I1 ea hlen fun s' J => ⟨.non, H1, J, rfl, q⟩
theorem ps_oxs (SF : StoreFacts B bmB "object.__setattr__" "object") (ho : PE X o to) (he : PE X e te) (hs : swapsWith e (some (.Attribute o f p')) pos.line X.env = pure false := by rfl) : PS X (.Assign [.Attribute o f p'] e pos) (tOxs X.K newId bmB f to te) := by
  refine ⟨fun pins s σ H D I h => ?_⟩
  refine plainObj_wpAny_Assign_Attribute (thn (he.run pins s σ H _ I h) fun v s1 ⟨y, H1, I1, r1, q1⟩ => thn (ho.run pins s1 σ H1 _ I1 q1) fun u s2 ⟨x, H2, I2, r2, a, C, ex, T, hno, ea, q⟩ => ?_) hs
  subst ex
  obtain rfl : u = Value.ref a := r2
  exact oxs_new SF T I2 ea hno r1 fun dx s' n ne J => ⟨σ, _, J, q dx n ne⟩
end
/-- THE RULE for such an __init__ -/
theorem initOk {P : Program} {w : World} {K : PySem.W.Frag} {mg : Str → Option Value} {base : Heap} {qual y fl text : Str} {st : Stmt} {f : Addr} {fd : FuncData} {N : List Str} {k : Nat} {newId : String} {bmB : List Value} (F : Fun K "__init__" qual st f fd) (S : FnScope N ["self", y] (defScope st))
    (hbody : ∀ (cdv : Value) (A : Around) (outer : List Env) (s : Shared) (H : Hp) (E : XK), PSs (cxOf CX0 P w K mg base N qual (defScope st) f cdv A outer s H E).nox (defBody st)
      (tSeq (tDrop (tXeI K newId bmB (tCons (tVar 0) (tCons (tC (.str text)) tNil)))) (tOxs K newId bmB fl (tVar 0) (tVar 1)))) : FnOk P w K mg base CX0 (k + 1) f fd ["self", y] (spInit K newId bmB fl) := by
  refine F.ok S (fun vs H Q E h => ?_) (fun cdv A outer s H vs Q E hr h => ⟨_, hbody cdv A outer s H E, ?_⟩)
  · obtain ⟨a, C, y, rfl, _⟩ := h
    rfl
  · obtain ⟨a, C, y, rfl, T, hno, ea, q⟩ := h
    exact ⟨.ref a, rfl, a, C, [.str text], rfl, by show 1 ≤ 1000; decide, T, ea, y, rfl, .ref a, rfl, a, C, rfl, T, hno, ea, fun dx h1 h2 => q dx h1 h2⟩
/-! ### raise C(e) -/
/-- such a class as it stands -/
structure XcAt (P : Program) (w : World) (K : PySem.W.Frag) (mg : Str → Option Value) (base : Heap) (C : Addr) (fl : Str) (newId : String) (bmB : List Value) : Prop where
  ox : OxC K C newId bmB
  no : PySem.W.findIn K (.ref C) fl = some none
  ex : ∃ fI fd y, FnOk P w K mg base CX0 1 fI fd ["self", y] (spInit K newId bmB fl) ∧ PySem.W.findIn K (.ref C) "__init__" = some (some (.ref fI)) ∧ PySem.W.typeIn K (.ref fI) = some (.type "function") ∧ Binds K fd ["self", y] []
def tMkX (C : Addr) (fl : Str) (te : TE) : L2.St → Hp → XK → Prop := fun σ H Q => te σ H fun y H1 => ∀ dx, H1 dx = none → Q (.ref C) (some dx) (upd H1 dx (.xd [(fl, y)]))
section
variable {X : Cx} {A : Anc} {B newId initId : String} {bmB : List Value} {fl x : Str} {C : Addr} {p pos pos2 : Pos} {e : Expr} {te : TE} {t : TEd} {Ex : XEd}
theorem pmk_x (F : ExcBaseFacts B newId initId bmB) (Z : XcAt X.prog X.w X.K X.mg X.base C fl newId bmB) (hr : Room 2 X.A) (hg : Gl X x) (hm : X.mg x = some (.ref C)) (ha : PE X e te)
    (hdb : (x == ("__debug__" : Str)) = false := by decide) (he : starEach [e] X.env = (false, eval e X.env) :: starEach [] X.env := by rfl) (hpl : (backTo pos (starEach [] X.env)).any (·.1) = false := by rfl) :
    PMk X (.Call (.Name x p) [e] [] pos) (tMkX C fl te) := by
  intro pins s σ H Q I h
  obtain ⟨fI, fd, y0, F1, iC, tI, hb⟩ := Z.ex
  have T := Z.ox
  obtain ⟨nm, q, N, bs, bm, sn, sub, ab, col, dd, k0, k1, k2, k3, k5, hC, hbm⟩ := T.cls
  have h' : tCons te tNil σ H fun vs H1 => ∃ y, vs = [y] ∧ ∀ dx, H1 dx = none → Q (.ref C) (some dx) (upd H1 dx (.xd [(fl, y)])) := by
    refine (show te σ H _ from ?_)
    exact (show te σ H (fun y H1 => ∃ z, [y] = [z] ∧ ∀ dx, H1 dx = none → Q (.ref C) (some dx) (upd H1 dx (.xd [(fl, z)]))) from by
      have e : (fun (y : V) (H1 : Hp) => ∃ z, [y] = [z] ∧ ∀ dx, H1 dx = none → Q (.ref C) (some dx) (upd H1 dx (.xd [(fl, z)]))) = fun y H1 => ∀ dx, H1 dx = none → Q (.ref C) (some dx) (upd H1 dx (.xd [(fl, y)])) := by
        funext y H1
        exact propext ⟨fun ⟨z, e, q⟩ => by cases e; exact q, fun q => ⟨y, rfl, q⟩⟩
      rw [e]
      exact h)
  refine wpAny_Call_Name_kw (ld_glob I hg hm ?_ hdb)
  refine PySem.W.callWith_K (h₀ := X.base) I.ok.mod.kin T.kC (thn ((pa_cons ha pa_nil he).run pos pins s σ H _ I h') fun us s1 ⟨vs, H1, I1, r1, y, ev, q1⟩ => ⟨I1.kIn, ?_⟩) he hpl
  show wpAny _ _ (call (.ref C) us) _ _ _
  subst ev
  have Xin := I1.kIn
  obtain ⟨hp, g, dr, tk, os⟩ := s1
  have hsz : hp.objs.size ≤ hp.objs.size + 1 := Nat.le_succ _
  have hn : H1 (hp.objs.size + 1) = none := I1.hok.fresh hsz
  have hq : spInit X.K newId bmB fl [.ref (hp.objs.size + 1), y] (upd H1 (hp.objs.size + 1) (exo (hp.objs.size + 1) C none)) (fun v H2 => v = .non ∧ ∃ (d : Addr) (fs : List (Str × V)), H2 (hp.objs.size + 1) = some (exo (hp.objs.size + 1) C (some d)) ∧ H2 d = some (exd d fs) ∧ H1 d = none ∧ Q (.ref C) (some d) (upd (del H2 (hp.objs.size + 1)) d (.xd fs))) (fun _ _ _ => False) := by
    refine ⟨_, C, y, rfl, T, Z.no, upd_same, fun dx hn2 hne => ⟨rfl, dx, [(fl, y)], upd_same, by rw [upd_ne hne, upd_same], by rw [upd_ne hne] at hn2; exact hn2, ?_⟩⟩
    rw [upd_ne hne] at hn2
    have eu : upd (del (upd (upd (upd H1 (hp.objs.size + 1) (exo (hp.objs.size + 1) C none)) dx (exd dx [(fl, y)])) (hp.objs.size + 1) (exo (hp.objs.size + 1) C (some dx))) (hp.objs.size + 1)) dx (.xd [(fl, y)]) = upd H1 dx (.xd [(fl, y)]) := by
      funext b
      by_cases h1 : b = dx
      · rw [h1, upd_same, upd_same]
      · rw [upd_ne h1, upd_ne h1]
        by_cases h2 : b = hp.objs.size + 1
        · rw [h2, del_same, hn]
        · rw [del_ne h2, upd_ne h2, upd_ne h1, upd_ne h2]
    rw [eu]
    exact q1 dx hn2
  have kk : ∀ b o, hp.get? b = some o → ((hp.push (PySem.W.kdv_tup us)).push (PySem.HandSPX.excO C hp.objs.size)).get? b = some o := fun b o e => Heap.get?_push_of_some _ (Heap.get?_push_of_some _ e)
  have hget : ((hp.push (PySem.W.kdv_tup us)).push (PySem.HandSPX.excO C hp.objs.size)).get? (hp.objs.size + 1) = some (PySem.HandSPX.excO C hp.objs.size) := by heap_get
  have I2 : Inv X pins σ (upd H1 (hp.objs.size + 1) (exo (hp.objs.size + 1) C none)) ⟨(hp.push (PySem.W.kdv_tup us)).push (PySem.HandSPX.excO C hp.objs.size), g, dr, tk, os⟩ :=
    I1.laid (t' := tk) (a := hp.objs.size + 1) (o := exo (hp.objs.size + 1) C none) (h' := (hp.push (PySem.W.kdv_tup us)).push (PySem.HandSPX.excO C hp.objs.size)) kk hsz (exo_ok hget)
  have r2 : Vals [V.ref (hp.objs.size + 1), y] (Value.ref (hp.objs.size + 1) :: us) := .cons rfl r1
  have hl : us.length = 1 := by have := r1.length; simpa using this.symm
  have hus : us.length ≤ sizeLine := by rw [hl, sizeLine_eq]; omega
  have hb' := hb _ (Value.ref (hp.objs.size + 1) :: us) I2.kIn (by simp [hl])
  rw [List.append_nil] at hb'
  refine wpAny_call (PySem.HandSPX.call_own F (fun Y => PySem.W.excTail_contains Y bm hbm) (Xin _ _ hC) (PySem.W.looks_findIn Xin iC) (fun self => PySem.W.bind_fn Xin self tI) hus
    (codeAny_mono (F1.run _ X.stack _ _ ⟨Value.ref (hp.objs.size + 1) :: us, []⟩ (Value.ref (hp.objs.size + 1) :: us) _ _ (fun _ _ _ => False) (hr.make C us []) (I2.env0.make C us []) hb' r2 hq) fun r s' hq' => ?_))
  cases r with
  | error er => exact False.elim hq'
  | ok fl =>
    cases fl with
    | ret u =>
      obtain ⟨v, H2, os2, bare2, un2, hok2, rv, ev, d, fs, ea, ed, hd1, q2⟩ := hq'
      subst ev
      obtain ⟨h2, g2, d2, t2, os'⟩ := s'
      exact ⟨rv, mk_end (raises_own T.exC T.tyC) I1 hsz kk un2 hok2 os2 bare2 ea ed hd1 q2⟩
    | next => exact False.elim hq'
    | brk => exact False.elim hq'
    | cont => exact False.elim hq'
def kRaise (cls : Value) (fl : Str) (Ex : XEd) (δ : Ed) (y : DV) (s1 : Sto) : Prop := Ex cls [(fl, y)] δ s1
def dRaise (cls : Value) (fl : Str) (Ex : XEd) (t : TEd) (D : EndsD) (δ : Ed) (s : Sto) : Prop := t δ s (kRaise cls fl Ex δ)
theorem kRaise_q {cls : Value} {fl : Str} {Ex : XEd} {δ : Ed} {y : DV} {s1 : Sto} : kRaise cls fl Ex δ y s1 = Ex cls [(fl, y)] δ s1 := propext Iff.rfl
theorem dRaise_q {cls : Value} {fl : Str} {Ex : XEd} {t : TEd} {D : EndsD} {δ : Ed} {s : Sto} : dRaise cls fl Ex t D δ s = t δ s (kRaise cls fl Ex δ) := propext Iff.rfl
theorem dsraise (F : ExcBaseFacts B newId initId bmB) (Z : XcAt X.prog X.w X.K X.mg X.base C fl newId bmB) (hr : Room 2 X.A) (tk : Takes X (wX X.K A Ex)) (hc : X.calm = true) (hm : X.mg x = some (.ref C)) (ha : PD A X e t) (hg : Gl X x := by rfl)
    (hdb : (x == ("__debug__" : Str)) = false := by decide) (he : starEach [e] X.env = (false, eval e X.env) :: starEach [] X.env := by rfl) (hpl : (backTo pos (starEach [] X.env)).any (·.1) = false := by rfl) :
    PSd A X (.Raise (some (.Call (.Name x p) [e] [] pos)) none pos2) (dRaise (.ref C) fl Ex t) := by
  refine psImp (ps_raise hc tk (pmk_x F Z hr hg hm ha hdb he hpl)) fun D σ H h => ?_
  obtain ⟨δ, s, D', S, t, L⟩ := h
  refine ⟨δ, s, _, S, t, fun v H1 d s1 st1 rep1 dv q dx hn => ?_⟩
  have st2 : Stp s1 H1 s1 (upd H1 dx (.xd [(fl, v)])) := Stp.newF hn
  exact ⟨[(fl, d)], δ, s1, (S.go st1 rep1).go st2 (rep1.newF hn), .inr ⟨dx, [(fl, v)], rfl, upd_same, .cons ⟨rfl, dv.step st2 rep1⟩ .nil, rep1.fresh hn⟩, q⟩
end
end DL

set_option Elab.async false
set_option linter.all false
set_option maxRecDepth 100000
set_option maxHeartbeats 4000000
namespace DL
open PySem PySem.Spec PyProof.Rows L2
/-! ### try .. except C as n: suite, where the caught exception is kept behind the suite -/
section
variable {X : Cx} {pins : List (Addr × Obj)} {σ : L2.St} {H : Hp} {s : Shared}
/-- a pinned exception is laid in the abstract heap -/
theorem inv_lay {a C dx : Addr} {oe : Obj} (I : Inv X ((a, oe) :: pins) σ H s) (hc : oe.cls = .ref C) (hd : oe.dict = some dx) (hf : PySem.W.notCls oe = true) (h0 : X.s_0.heap.get? a = none) (hp : ∀ p ∈ X.pn ++ pins, p.1 ≠ a) : Inv X pins σ (upd H a (exk a C dx)) s := by
  obtain ⟨e, n, nL, nF, nc⟩ := I.pin (a, oe) (List.mem_append_right _ List.mem_cons_self)
  refine ⟨I.ok, I.os, I.bare, ⟨I.base.keep, I.base.slot, fun b o q m hx => ?_, I.base.there, fun b xs q => ?_, fun b o u q => ?_, fun b ps q => ?_⟩, I.loc, I.cell, ?_, fun x c hx => ?_, fun p hm => ?_, fun b o q => ?_, I.len⟩
  · rw [upd_ne (fun z => by rw [z, h0] at q; cases q)]
    exact I.base.free b o q m hx
  · have q2 := I.base.tups b xs q
    rw [upd_ne (ne_of_none q2 n)]; exact q2
  · have q2 := I.base.frzs b o u q
    rw [upd_ne (ne_of_none q2 n)]; exact q2
  · obtain ⟨more, q2⟩ := I.base.tbls b ps q
    exact ⟨more, by rw [upd_ne (ne_of_none q2 n)]; exact q2⟩
  · rw [upd_ne (Ne.symm nL)]; exact I.free
  · obtain ⟨v, o, h1, h2⟩ := I.cell x c hx
    have ne : c ≠ a := fun z => by
      rw [z, e] at h1
      cases h1
      exact nc v h2
    rw [upd_ne ne]; exact I.freeC x c hx
  · have hm2 : p ∈ X.pn ++ (a, oe) :: pins := by
      rcases List.mem_append.mp hm with h | h
      · exact List.mem_append_left _ h
      · exact List.mem_append_right _ (List.mem_cons_of_mem _ h)
    obtain ⟨e1, n1, r⟩ := I.pin p hm2
    exact ⟨e1, by rw [upd_ne (hp p hm)]; exact n1, r⟩
  · by_cases hb : b = a
    · subst hb
      rw [upd_same] at q
      cases q
      exact ⟨⟨oe, e, hc, hd, hf⟩, ⟨oe, e⟩, fun h1 h2 ⟨o2, k1, k2, k3, k4⟩ hk => ⟨o2, hk _ k1, k2, k3, k4⟩⟩
    · rw [upd_ne hb] at q
      exact (I.hok b o q).stay (fun _ _ _ z => z) (fun c hc => by rw [upd_ne (ne_of_none hc n)]; exact hc) (fun c xs hc => by rw [upd_ne (ne_of_none hc n)]; exact hc)
theorem inv_unsuite {a : Addr} {q : Addr × Obj} (I : Inv (X.suite a (q :: (X.pn ++ pins))) [] σ H s) (ok : X.Ok) : Inv X (q :: pins) σ H s :=
  ⟨ok, I.os, I.bare, I.base, I.loc, I.cell, I.free, I.freeC, fun p hp => I.pin p (List.mem_append_left _ (by
    rcases List.mem_append.mp hp with h | h
    · exact List.mem_cons_of_mem _ (List.mem_append_left _ h)
    · rcases List.mem_cons.mp h with h | h
      · rw [h]; exact List.mem_cons_self
      · exact List.mem_cons_of_mem _ (List.mem_append_right _ h))), I.hok, I.len⟩
end
/-- the suite's ends: the exception stands at a -/
def kEnds (D : Ends) (i : Nat) (a C dx : Addr) : Ends where
  nx := fun σ H => H a = none → D.nx (σ.set i none) (upd H a (exk a C dx))
  rt := fun v H => H a = none → D.rt v (upd H a (exk a C dx))
  bk := fun σ H => H a = none → D.bk (σ.set i none) (upd H a (exk a C dx))
  ct := fun σ H => H a = none → D.ct (σ.set i none) (upd H a (exk a C dx))
def wKeep (K : PySem.W.Frag) (c : Value) (i : Nat) (ts : Addr → TS) (Wout : WX) (D : Ends) : WX := fun cls d σ H =>
  ∃ b, PySem.W.exmOne K cls c = some b ∧ (b = true → ∃ C dx, cls = .ref C ∧ d = some dx ∧ ∀ a, H a = none → ts a (kEnds D i a C dx) (σ.set i (some (.ref a))) H) ∧ (b = false → Wout cls d σ H)
section
variable {X : Cx} {x n : Str} {c : Value} {i : Nat} {body suite : List Stmt} {b₀ : Stmt} {np pos pos' : Pos} {tb : WX → TS} {ts : Addr → TS} {Wout : WX}
theorem ps_try_keep (hs : X.stack = X.env :: X.outer) (hf : X.env.frame = some X.env.locals) (hex : X.ex = []) (hN : X.N.Nodup) (hi : X.N[i]? = some n) (hln : X.env.kindOf n = some .local) (hc : Names X x c) (tk : Takes X Wout)
    (hb : ∀ (W : WX) (pn : List (Addr × Obj)) (xe : Value → Shared → Prop), Takes (X.tr pn xe) W → PassesOwn (model X.prog X.w) X.A X.env xe → PSs (X.tr pn xe) body (tb W))
    (hsu : ∀ (a : Addr) (oe : Obj) (cls : Value) (d : Option Addr) (pn : List (Addr × Obj)), Zc cls d oe → (∃ vs, oe.data = .fields vs) → PSs (X.suite a ((a, oe) :: pn)) (b₀ :: suite) (ts a)) :
    PS X (.Try body [.ExceptHandler (some (.Name x np)) (some n) (b₀ :: suite) pos'] [] [] pos) (fun D σ H => tb (wKeep X.K c i ts Wout D) D σ H) := by
  refine ⟨fun pins s σ H D I h => ?_⟩
  have ok := I.ok
  have hfr : X.A.frames = some (X.env :: X.outer) := by rw [ok.frames, hs]
  refine wpAny_Try_except (wpAny_mono ((hb (wKeep X.K c i ts Wout D) (X.pn ++ pins) (fun e s₁ => wpAny (model X.prog X.w) X.A (noteFrame e X.env) (fun _ s₂ => wpAny (model X.prog X.w) X.A (setFlight e none) (fun _ s₃ =>
    wpAny (model X.prog X.w) X.A (handleBy e X.env [.ExceptHandler (some (.Name x np)) (some n) (b₀ :: suite) pos']) (SP X pins D) X.xe s₃) X.xe s₂) X.xe s₁) (fun u s' xx => ?_) PassesOwn.looking).run [] s σ H D (I.toTry _) h) (fun f s1 hsp => ?_) (fun e s1 he => he))
  · obtain ⟨a, B, sI, pins', σ', H', cls, d, rfl, J', nb, up, sky, na, os, ag, b, hb1, hyes, hno⟩ := xx
    have J : Inv X pins σ' H' sI := J'.ofTry ok
    have nbs : ∀ b o, sI.heap.get? b = some o → b ∉ frs (X.env :: X.outer) → B.get? b = some o := by rw [← hs]; exact nb
    have sky' : Sky B (X.env :: X.outer) a (Zc cls d) X.env.locals s'.heap := by rw [← hs]; exact sky
    show wpAny (model X.prog X.w) X.A (noteFrame (.ref a) X.env) _ _ _
    refine Sky.land Zc.steady hfr hf sky' fun h3 fl3 up3 => ?_
    have J3 : Inv X pins σ' H' { s' with heap := h3 } := J.landed nb fl3.1 (up.trans up3) os ag
    obtain ⟨oe3, vs3, he3, hz3, hd3⟩ := fl3.there
    have Bn : B.get? a = none := fl3.2.1
    have nfr : a ∉ frs (X.env :: X.outer) := fun hm => by
      obtain ⟨_, o', e', hnf⟩ := fl3.2.2.1.mem hm
      rw [he3] at e'
      cases e'
      exact hnf _ hd3
    have nsI : ∀ o, sI.heap.get? a ≠ some o := fun o q => by
      have := nbs a o q nfr
      rw [Bn] at this
      cases this
    have h0 : X.s_0.heap.get? a = none := by
      cases q : X.s_0.heap.get? a with
      | none => rfl
      | some o =>
        obtain ⟨o', q'⟩ := J.base.there a o q (by rw [hex]; exact fun z => nomatch z)
        exact absurd q' (nsI o')
    have hp : ∀ p ∈ X.pn ++ pins, p.1 ≠ a := fun p hm z => by
      have q := (J.pin p hm).1
      rw [z] at q
      exact nsI _ q
    have nL : a ≠ X.env.locals := fun z => nfr (List.mem_filterMap.mpr ⟨X.env, List.mem_cons_self, by rw [hf, z]⟩)
    have nF : a ∉ X.fs := fun hm => by
      obtain ⟨e, he, q⟩ := List.mem_filterMap.mp hm
      exact nfr (List.mem_filterMap.mpr ⟨e, List.mem_cons_of_mem _ he, q⟩)
    have S3 := J3.suite he3 hd3 na nL nF
    refine wpAny_handleBy_cons (codeAny_handlers_test ?_) (by intro q; cases q)
    have LM := PySem.W.exm_one (M := model X.prog X.w) (J3.kIn) (show PySem.W.Looks (model X.prog X.w) h3 (typeOf (.ref a)) cls from fun A Q E s k q => wpAny_typeOf_ref (k _ _ he3) (by rw [hz3.1]; exact q)) hb1
    have test : ∀ {Q : Value → Shared → Prop} {E : Value → Shared → Prop}, Q c { s' with heap := h3 } → wpAny (model X.prog X.w) (X.A.mark (some (.ref a))) (eval (.Name x np) X.env) Q E { s' with heap := h3 } := fun {Q E} q => by
      obtain ⟨hg, hdbg, hm | ⟨hm, hv, hnn⟩⟩ := hc
      · exact ld_glob (X := X.suite a ((a, oe3) :: (X.pn ++ pins))) S3 hg hm q hdbg
      · exact ld_blt (X := X.suite a ((a, oe3) :: (X.pn ++ pins))) S3 hg hm hv q hnn hdbg
    refine test (LM.here ?_)
    cases b with
    | true =>
      obtain ⟨C, dx, rfl, rfl, hy⟩ := hyes rfl
      refine codeAny_handlers_suite_as ?_
      refine HandSPX.lands_againZ fl3 fun h4 fl4 up4 => ?_
      have J4 : Inv X pins σ' H' { s' with heap := h4 } := J.landed nb fl4.1 ((up.trans up3).trans up4) os ag
      obtain ⟨oe4, vs4, he4, hz4, hd4⟩ := fl4.there
      have hn4 : PySem.W.notCls oe4 = true := by unfold PySem.W.notCls; rw [hd4] <;> rfl
      have S4 := J4.suite he4 hd4 na nL nF
      refine store_ok (X := X.suite a ((a, oe4) :: (X.pn ++ pins))) (v := .ref a) S4 hN hi (.inl hln) rfl (fun s5 S5 => ?_) (.inr hln)
      refine wpAny_mono ((hsu a oe4 (.ref C) (some dx) (X.pn ++ pins) hz4 ⟨_, hd4⟩).run [] s5 _ H' _ S5 (hy a na)) (fun f s6 hsp => ?_) (fun _ _ z => False.elim z)
      have end_ : ∀ {σ6 : L2.St} {H6 : Hp} {Q : Shared → Prop}, Inv (X.suite a ((a, oe4) :: (X.pn ++ pins))) [] σ6 H6 s6 → (H6 a = none → ∀ s7, Inv X pins (σ6.set i none) (upd H6 a (exk a C dx)) s7 → Q s7) →
          wpAny (model X.prog X.w) X.A (do bindName X.env n .none; unbindBehindTheSuite X.env n pos') (fun _ s7 => Q s7) X.xe s6 := fun {σ6 H6 Q} S6 hq => by
        have S7 := inv_unsuite S6 ok
        have n6 := (S7.pin (a, oe4) (List.mem_append_right _ List.mem_cons_self)).2.1
        exact gone_ok S7 hN hi hln fun s7 J7 => hq n6 s7 (inv_lay J7 hz4.1 hz4.2 hn4 h0 hp)
      cases f with
      | next =>
        obtain ⟨σ6, H6, S6, q6⟩ := hsp
        exact end_ S6 fun n6 s7 J7 => ⟨_, _, J7, q6 n6⟩
      | brk =>
        obtain ⟨σ6, H6, S6, q6⟩ := hsp
        exact end_ S6 fun n6 s7 J7 => ⟨_, _, J7, q6 n6⟩
      | cont =>
        obtain ⟨σ6, H6, S6, q6⟩ := hsp
        exact end_ S6 fun n6 s7 J7 => ⟨_, _, J7, q6 n6⟩
      | ret u =>
        obtain ⟨v6, σ6, H6, S6, r6, q6⟩ := hsp
        exact end_ S6 fun n6 s7 J7 => ⟨_, _, _, J7, r6, q6 n6⟩
    | false =>
      show wpAny _ X.A (handleBy (.ref a) X.env []) _ _ _
      refine wpAny_handleBy_nil ?_
      obtain ⟨k1, k2, k3, oe, vs, T, oT, ts', he, hz, hd, h1, hr⟩ := id fl3
      unfold PySem.passOn
      refine wpAny_bind (wpAny_field he hd h1 ?_)
      rw [if_neg (show ¬ ((Value.ref T == Value.none) = true) from by simp)]
      have fin : wpAny (model X.prog X.w) X.A (setFlight (.ref a) X.env.frame) (fun _ s4 => wpAny (model X.prog X.w) X.A (throw (.ref a) : Sem Flow) (SP X pins D) X.xe s4) X.xe { s' with heap := h3 } := by
        rw [hf]
        refine HandSPX.setFlight_upZ fl3 fun h4 hh4 up4 => wpAny_throw (tk _ _ ?_)
        exact ⟨a, B, sI, pins, σ', H', cls, d, rfl, J, nb, (up.trans up3).trans up4, .inr (.inr (by rw [hs]; exact hh4)), na, os, ag, hno rfl⟩
      first
        | exact wpAny_bind (wpAny_pure (wpAny_bind fin))
        | exact wpAny_bind fin
  · cases f with
    | next =>
      obtain ⟨σ', H', J', q⟩ := hsp
      exact wpAny_execs_nil ⟨σ', H', J'.ofTry ok, q⟩
    | brk =>
      obtain ⟨σ', H', J', q⟩ := hsp
      exact ⟨σ', H', J'.ofTry ok, q⟩
    | cont =>
      obtain ⟨σ', H', J', q⟩ := hsp
      exact ⟨σ', H', J'.ofTry ok, q⟩
    | ret u =>
      obtain ⟨v, σ', H', J', r, q⟩ := hsp
      exact ⟨v, σ', H', J'.ofTry ok, r, q⟩
end
end DL

set_option Elab.async false
set_option linter.all false
set_option maxRecDepth 100000
set_option maxHeartbeats 4000000
namespace DL
open PySem PySem.Spec PyProof.Rows L2
/-! ### try .. except C as n, over data -/
def kEndsD (D : EndsD) (i : Nat) (a C : Addr) (fs : List (Str × DV)) : EndsD where
  nx := fun δ s => s a = none → D.nx (δ.set i none) (up s a (.exc C fs))
  rt := fun d s => s a = none → D.rt d (up s a (.exc C fs))
  bk := fun δ s => s a = none → D.bk (δ.set i none) (up s a (.exc C fs))
  ct := fun δ s => s a = none → D.ct (δ.set i none) (up s a (.exc C fs))
theorem kEndsD_nx {D : EndsD} {i : Nat} {a C : Addr} {fs : List (Str × DV)} {δ : Ed} {s : Sto} : (kEndsD D i a C fs).nx δ s = (s a = none → D.nx (δ.set i none) (up s a (.exc C fs))) := propext Iff.rfl
def wKeepD (C : Addr) (i : Nat) (ts : TSd) (D : EndsD) : XEd := fun cls fs δ s => cls = .ref C ∧ fs ≠ [] ∧ ∀ a, s a = none → ts (kEndsD D i a C fs) (δ.set i (some (.ref a))) s
def dTry (C : Addr) (i : Nat) (ts : TSd) (tb : XEd → TSd) (D : EndsD) (δ : Ed) (s : Sto) : Prop := tb (wKeepD C i ts D) D δ s
theorem dTry_q {C : Addr} {i : Nat} {ts : TSd} {tb : XEd → TSd} {D : EndsD} {δ : Ed} {s : Sto} : dTry C i ts tb D δ s = tb (wKeepD C i ts D) D δ s := propext Iff.rfl
theorem exc_put {K : PySem.W.Frag} {s2 s3 : Sto} {H2 H3 : Hp} {a C dx : Addr} {gs : List (Str × V)} {fs : List (Str × DV)} (rep2 : Rep K s2 H2) (hx : H2 dx = some (.xd gs)) (nx : s2 dx = none) (hp : DatP K s2 H2 gs fs) (st : Stp s2 H2 s3 H3) (rep3 : Rep K s3 H3) (na : H3 a = none) :
    Stp s3 H3 (up s3 a (.exc C fs)) (upd H3 a (exk a C dx)) ∧ Rep K (up s3 a (.exc C fs)) (upd H3 a (exk a C dx)) := by
  have st2 : Stp s3 H3 (up s3 a (.exc C fs)) (upd H3 a (exk a C dx)) := Stp.new na
  obtain ⟨h1, e1⟩ := st dx _ hx (.inl nx)
  have ne : dx ≠ a := ne_of_none h1 na
  exact ⟨st2, rep3.put st2 ⟨dx, gs, upd_same, (hp.step st rep2).step st2 rep3, by rw [upd_ne ne]; exact h1, by rw [up_ne ne]; exact e1.trans nx⟩⟩
section
variable {X : Cx} {A : Anc} {x n : Str} {C : Addr} {i : Nat} {body suite : List Stmt} {b₀ : Stmt} {np pos pos' : Pos} {tb : XEd → TSd} {ts : TSd}
theorem dstry (hs : X.stack = X.env :: X.outer) (hf : X.env.frame = some X.env.locals) (hex : X.ex = []) (hN : X.N.Nodup) (hi : X.N[i]? = some n) (hln : X.env.kindOf n = some .local) (hc : Names X x (.ref C)) (hm : PySem.W.exmOne X.K (.ref C) (.ref C) = some true)
    (hb : ∀ (Ex : XEd) (pn : List (Addr × Obj)) (xe : Value → Shared → Prop), Takes (X.tr pn xe) (wX X.K A Ex) → PassesOwn (model X.prog X.w) X.A X.env xe → PSsd A (X.tr pn xe) body (tb Ex))
    (hsu : ∀ (A' : Anc) (a : Addr) (oe : Obj) (pn : List (Addr × Obj)), PSsd A' (X.suite a ((a, oe) :: pn)) (b₀ :: suite) ts) :
    PSd A X (.Try body [.ExceptHandler (some (.Name x np)) (some n) (b₀ :: suite) pos'] [] [] pos) (dTry C i ts tb) := by
  refine psImp (ps_try_keep (c := .ref C) (i := i) (Wout := fun _ _ _ _ => False) (tb := fun W D σ H => ∃ Ex, (∀ cls d σ H, wX X.K A Ex cls d σ H → W cls d σ H) ∧ lS X.K A (tb Ex) D σ H) (ts := fun _ D σ H => ∃ A', lS X.K A' ts D σ H) hs hf hex hN hi hln hc takes0
    (fun W pn xe tk ps => ⟨fun pins s σ H D I ⟨Ex, w, h⟩ => (hb Ex pn xe (tk.imp w) ps).run pins s σ H D I h⟩) (fun a oe cls d pn _ _ => ⟨fun pins s σ H D I ⟨A', h⟩ => (hsu A' a oe pn).run pins s σ H D I h⟩)) fun D σ H h => ?_
  obtain ⟨δ, s, D', S, t, L⟩ := h
  refine ⟨wKeepD C i ts D', ?_, δ, s, D', S, t, L⟩
  rintro cls d σ2 H2 ⟨fs, δ2, s2, S2, xr, rfl, hne, q⟩
  rcases xr with ⟨_, e⟩ | ⟨dx, gs, rfl, hx, hp, nx⟩
  · exact absurd e hne
  · refine ⟨true, hm, fun _ => ⟨C, dx, rfl, rfl, fun a na => ⟨⟨s2, H2⟩, δ2.set i (some (.ref a)), s2, _, ⟨Stp.refl s2 H2, S2.rep, S2.env.set (.ref a) i⟩, q a (S2.rep.fresh na), ?_⟩⟩, fun e => nomatch e⟩
    have go : ∀ {σ3 : L2.St} {H3 : Hp} {δ3 : Ed} {s3 : Sto}, Sd X.K ⟨s2, H2⟩ σ3 H3 δ3 s3 → H3 a = none → Sd X.K A (σ3.set i none) (upd H3 a (exk a C dx)) (δ3.set i none) (up s3 a (.exc C fs)) := fun S3 na3 => by
      obtain ⟨st4, rep4⟩ := exc_put (C := C) (a := a) S2.rep hx nx hp S3.stp S3.rep na3
      exact ⟨(S2.stp.trans S3.stp).trans st4, rep4, (S3.env.unset i none).step st4 S3.rep⟩
    refine ⟨fun σ3 H3 δ3 s3 S3 q3 na3 => L.nx _ _ _ _ (go S3 na3) (q3 (S3.rep.fresh na3)), fun σ3 H3 δ3 s3 S3 q3 na3 => L.bk _ _ _ _ (go S3 na3) (q3 (S3.rep.fresh na3)), fun σ3 H3 δ3 s3 S3 q3 na3 => L.ct _ _ _ _ (go S3 na3) (q3 (S3.rep.fresh na3)), fun v H3 d3 s3 st3 rep3 dv3 q3 na3 => ?_⟩
    obtain ⟨st4, rep4⟩ := exc_put (C := C) (a := a) S2.rep hx nx hp st3 rep3 na3
    exact L.rt _ _ _ _ ((S2.stp.trans st3).trans st4) rep4 (dv3.step st4 rep3) (q3 (rep3.fresh na3))
end
/-! ### the caught exception, read -/
def tXk (C : Addr) (n : Str) (te : TE) : TE := fun σ H Q => te σ H fun x H1 => ∃ (a dx : Addr) (gs : List (Str × V)) (v : V), x = .ref a ∧ H1 a = some (exk a C dx) ∧ H1 dx = some (.xd gs) ∧ gs.lookup n = some v ∧ Q v H1
theorem exk_at {P : Program} {w : World} {H : Hp} {h : Heap} {a C dx : Addr} (hok : HOk P w H h) (e : H a = some (exk a C dx)) : ∃ oe : Obj, h.get? a = some oe ∧ oe.cls = .ref C ∧ oe.dict = some dx ∧ PySem.W.notCls oe = true := by
  have x : ObjOk P w H h a (.ext fun h => ∃ oe : Obj, h.get? a = some oe ∧ oe.cls = .ref C ∧ oe.dict = some dx ∧ PySem.W.notCls oe = true) := hok a _ e
  exact x.1
theorem pe_xk {X : Cx} {C : Addr} {e : Expr} {te : TE} {pos : Pos} {n : Str} (T : XfC X.K C) (hno : PySem.W.findIn X.K (.ref C) n = some none) (he : PE X e te) (hb : attributeBase e n X.env (eval e X.env) = eval e X.env := by rfl) : PE X (.Attribute e n pos) (tXk C n te) := by
  refine ⟨fun pins s σ H Q I h => attr_of hb (thn (he.run pins s σ H _ I h) fun u s1 ⟨x, H1, I1, rx, a, dx, gs, v, ex, ea, ed, l, q⟩ => ?_)⟩
  subst ex
  obtain rfl : u = Value.ref a := rx
  obtain ⟨oe, ha, hc, hd, hn⟩ := exk_at I1.hok ea
  have hx : ObjOk X.prog X.w H1 s1.heap dx (.xd gs) := I1.hok dx _ ed
  obtain ⟨mA, hns, hr⟩ := hx
  obtain ⟨od, ho, hl⟩ := lookIn_ns hns
  obtain ⟨u, hu, ru⟩ := RelO.some_of (v := v) (o := mA n) (by rw [← l]; exact hr n)
  exact HandSPX.exc_get I1.kIn (⟨ha, hc, hn, by rw [hd]; exact ho⟩ : PySem.W.InstAt s1.heap a oe C (some od)) T.ga T.gg T.exC (PySem.W.findObj_own T.hdC hno rfl (by rw [hl, hu])) (handed_of ru) ⟨v, H1, I1.tok _, ru, q⟩
def kFldE (C : Addr) (f : Str) (Q : KD) (d : DV) (s1 : Sto) : Prop := match d with
  | .ref a => match s1 a with
    | some (.exc C' fs) => C' = C ∧ match fs.lookup f with
      | some d => Q d s1
      | none => False
    | _ => False
  | _ => False
def dFldE (C : Addr) (f : Str) (t : TEd) (δ : Ed) (s : Sto) (Q : KD) : Prop := t δ s (kFldE C f Q)
theorem dFldE_q {C : Addr} {f : Str} {t : TEd} {δ : Ed} {s : Sto} {Q : KD} : dFldE C f t δ s Q = t δ s (kFldE C f Q) := propext Iff.rfl
theorem dfldE {X : Cx} {A : Anc} {C : Addr} {e : Expr} {te : TEd} {pos : Pos} {fl : Str} (T : XfC X.K C) (hno : PySem.W.findIn X.K (.ref C) fl = some none) (he : PD A X e te) (hb : attributeBase e fl X.env (eval e X.env) = eval e X.env := by rfl) : PD A X (.Attribute e fl pos) (dFldE C fl te) := peImp (pe_xk T hno he hb) fun σ H Q h => by
  obtain ⟨δ, s, Q', S, t, k⟩ := h
  refine ⟨δ, s, _, S, t, fun v H1 d s1 st1 rep1 dv q => ?_⟩
  unfold kFldE at q
  split at q
  · rename_i a
    cases dv
    split at q
    · rename_i C' fs e
      obtain ⟨rfl, q⟩ := q
      split at q
      · rename_i d el
        obtain ⟨dx, gs, h1, hp, hx, n⟩ := rep1 a _ e
        obtain ⟨v2, h2, dv2⟩ := (lookP fl hp).2 d el
        exact ⟨a, dx, gs, v2, rfl, h1, hx, h2, k v2 H1 d s1 st1 rep1 dv2 q⟩
      · exact False.elim q
    · exact False.elim q
  · exact False.elim q
/-- isinstance(e, T), e a caught exception -/
structure IskC (K : PySem.W.Frag) (C : Addr) : Prop where
  hcl : (PySem.W.clsIn K C).isSome = true
  ha : PySem.W.findIn K (.ref C) "__class__" = some (some (.builtin "object.__class__"))
  hn : PySem.W.specialIn K (.builtin "object.__class__") "__get__" = some (some (.builtin "getset_descriptor.__get__"))
  ht : PySem.W.takesIn K (.builtin "object.__class__") = some true
  hm : PySem.W.mroIn K C (.type "object") = some true
def rIsk (K : PySem.W.Frag) (C : Addr) (T : String) (b : Bool) : List V → Hp → VK → Prop := fun xs H Q => ∃ (a dx : Addr), xs = [.ref a, .ty T] ∧ H a = some (exk a C dx) ∧ (∃ gs, H dx = some (.xd gs)) ∧ Q (.bl b) H
theorem call_isk {X : Cx} {C : Addr} {T : String} {b : Bool} (Z : XfC X.K C) (W : IskC X.K C) (hk : PySem.W.kitOne X.K (.ref C) (.type T) = some b) : CallR X (.builtin "isinstance") (rIsk X.K C T b) := by
  intro pins s σ H xs us Q I r h
  obtain ⟨a, dx, rfl, ea, ⟨gs, ed⟩, q⟩ := h
  cases r with
  | cons rx rr =>
    cases rr with
    | cons rt rr =>
      cases rr
      cases rx
      cases rt
      obtain ⟨oe, ha, hc, hd, hn⟩ := exk_at I.hok ea
      have hx : ObjOk X.prog X.w H s.heap dx (.xd gs) := I.hok dx _ ed
      obtain ⟨mA, hns, hr⟩ := hx
      obtain ⟨od, ho, hl⟩ := lookIn_ns hns
      have J : PySem.W.InstAt s.heap a oe C (some od) := ⟨ha, hc, hn, by rw [hd]; exact ho⟩
      exact PySem.W.kia_one (PySem.W.kitx_exc W.hcl Z.ga Z.gg Z.exC W.ha W.hn W.ht W.hm) I.kIn J hk (fun z => nomatch z) fun tk => ⟨.bl b, H, I.kept (t' := tk) fun _ _ z => z, rfl, q⟩
def dIsk (C : Addr) (T : String) (b : Bool) (ds : List DV) (s : Sto) (Q : KD) : Prop := match ds with
  | [.ref a, .ty n] => match s a with
    | some (.exc C' fs) => C' = C ∧ n = T ∧ Q (.bl b) s
    | _ => False
  | _ => False
theorem cd_isk {X : Cx} {C : Addr} {T : String} {b : Bool} (Z : XfC X.K C) (W : IskC X.K C) (hk : PySem.W.kitOne X.K (.ref C) (.type T) = some b) : CallR X (.builtin "isinstance") (lC X.K (dIsk C T b)) := callImp (call_isk Z W hk) fun xs H Q h => by
  obtain ⟨ds, s, Q', rep, hx, r, k⟩ := h
  unfold dIsk at r
  split at r
  · rename_i a n
    cases hx with
    | cons h t =>
      cases t with
      | cons h2 t2 =>
        cases t2
        cases h2
        cases h
        split at r
        · rename_i C' fs e
          obtain ⟨rfl, rfl, r⟩ := r
          obtain ⟨dx, gs, h1, hp, hx, n⟩ := rep a _ e
          exact ⟨a, dx, rfl, h1, ⟨gs, hx⟩, k _ H _ s (Stp.refl s H) rep (.bl _) r⟩
        · exact r.elim
  · exact r.elim
/-! ### the facts, told by one Bool -/
theorem ox_cls {K : PySem.W.Frag} {C : Addr} {newId : String} {bmB : List Value} (q : PySem.W.excInitIn K C bmB newId = true) (hd : PySem.W.hasDictIn K C = true) :
    ∃ nm q N bs bm sn sub ab col dd k0 k1 k2 k3 k5, K.lookup C = some (excClassObj nm q C N bs bm true sn sub ab col dd k0 k1 k2 k3 k5 newId) ∧ PySem.W.excTail bmB bm = true := by
  unfold PySem.W.excInitIn at q
  split at q
  · rename_i dd cd sl ho
    split at q
    · rename_i C' bm k0 k1 k2 k3 n k5 hm hs
      simp only [Bool.and_eq_true, beq_iff_eq, Bool.not_eq_true'] at q
      obtain ⟨⟨⟨rfl, rfl⟩, hdel⟩, ht⟩ := q
      unfold PySem.W.hasDictIn PySem.W.clsIn at hd
      rw [ho] at hd
      obtain ⟨nm, bs, mro, ns, qn, hd', sn, sub, ab, col, del⟩ := cd
      have hd2 : hd' = true := hd
      dsimp only at hm hdel
      subst hm hdel hd2
      obtain ⟨l⟩ := sl
      simp only at hs
      subst hs
      exact ⟨nm, qn, ns, bs, bm, sn, sub, ab, col, dd, k0, k1, k2, k3, k5, ho, ht⟩
    · cases q
  · cases q
def xcB (K : PySem.W.Frag) (C fI : Addr) (newId base : String) (bmB : List Value) (fl : Str) : Bool :=
  (PySem.W.excInitIn K C bmB newId && (PySem.W.hasDictIn K C && (decide (PySem.W.findIn K (.ref C) "__setattr__" = some (some (.builtin "object.__setattr__"))) && (decide (PySem.W.subIn K (.ref C) (.type "BaseException") = some true) && (decide (PySem.W.typeIn K (.ref C) = some (.type "type")) && (PySem.W.keepIn K (.ref C) && (decide (PySem.W.findIn K (.ref C) fl = some none) && (xfB K C && (decide (PySem.W.findIn K (.ref C) "__class__" = some (some (.builtin "object.__class__"))) && (decide (PySem.W.specialIn K (.builtin "object.__class__") "__get__" = some (some (.builtin "getset_descriptor.__get__"))) && (decide (PySem.W.takesIn K (.builtin "object.__class__") = some true) && (decide (PySem.W.mroIn K C (.type "object") = some true) && (decide (PySem.W.exmOne K (.ref C) (.ref C) = some true) && (decide (PySem.W.kitOne K (.ref C) (.type base) = some true) && (decide (PySem.W.findIn K (.ref C) "__init__" = some (some (.ref fI))) && decide (PySem.W.typeIn K (.ref fI) = some (.type "function")))))))))))))))))
structure XcF (K : PySem.W.Frag) (C fI : Addr) (newId base : String) (bmB : List Value) (fl : Str) : Prop where
  ox : OxC K C newId bmB
  no : PySem.W.findIn K (.ref C) fl = some none
  xf : XfC K C
  isk : IskC K C
  exm : PySem.W.exmOne K (.ref C) (.ref C) = some true
  kit : PySem.W.kitOne K (.ref C) (.type base) = some true
  ini : PySem.W.findIn K (.ref C) "__init__" = some (some (.ref fI))
  tyI : PySem.W.typeIn K (.ref fI) = some (.type "function")
theorem xcB_ok {K : PySem.W.Frag} {C fI : Addr} {newId base : String} {bmB : List Value} {fl : Str} (h : xcB K C fI newId base bmB fl = true) : XcF K C fI newId base bmB fl := by
  unfold xcB at h
  simp only [Bool.and_eq_true, decide_eq_true_eq] at h
  obtain ⟨h1, h2, h3, h4, h5, h6, h7, h8, h9, h10, h11, h12, h13, h14, h15, h16⟩ := h
  have hcl : (PySem.W.clsIn K C).isSome = true := by
    obtain ⟨nm, q, N, bs, bm, sn, sub, ab, col, dd, k0, k1, k2, k3, k5, hC, _⟩ := ox_cls h1 h2
    unfold PySem.W.clsIn
    rw [hC] <;> rfl
  exact ⟨⟨ox_cls h1 h2, h3, h4, h5, h6⟩, h7, xfB_ok h8, ⟨hcl, h9, h10, h11, h12⟩, h13, h14, h15, h16⟩
end DL

set_option Elab.async false
set_option linter.all false
set_option maxRecDepth 100000
set_option maxHeartbeats 4000000
namespace DL
open PySem PySem.Spec PyProof.Rows L2
/-! ### o.m(e, .., k = v, ..) -/
def tMethN (C : Addr) (mn : Str) (n m : Nat) (sp : Sp) (gV : List V → List V → List V) (ta : TE) (t tk : TA) : TE := fun σ H Q => ta σ H fun x H1 => ∃ a dx fs, x = .ref a ∧ H1 a = some (.ins C dx fs) ∧ fs.lookup mn = none ∧
  t σ H1 fun vs H2 => tk σ H2 fun zs H3 => vs.length + 1 = n ∧ zs.length = m ∧ sp (gV (x :: vs) zs) H3 Q (fun _ _ _ => False)
def kMethK3 (sp : Spd) (n m : Nat) (g : List DV → List DV → List DV) (Q : KD) (a : Addr) (ds es : List DV) (s3 : Sto) : Prop := (ds.length + 1 = n ∧ es.length = m) ∧ cSp sp (g (.ref a :: ds) es) s3 Q noX
def kMethK2 (sp : Spd) (n m : Nat) (g : List DV → List DV → List DV) (tk : TAd) (δ : Ed) (Q : KD) (a : Addr) (ds : List DV) (s2 : Sto) : Prop := tk δ s2 (kMethK3 sp n m g Q a ds)
def kMethK (C : Addr) (mn : Str) (sp : Spd) (n m : Nat) (g : List DV → List DV → List DV) (t tk : TAd) (δ : Ed) (Q : KD) (o : DV) (s1 : Sto) : Prop := match o with
  | .ref a => match s1 a with
    | some (.ins C' fs) => C' = C ∧ fs.lookup mn = none ∧ t δ s1 (kMethK2 sp n m g tk δ Q a)
    | _ => False
  | _ => False
def dMethK (C : Addr) (mn : Str) (sp : Spd) (n m : Nat) (g : List DV → List DV → List DV) (to : TEd) (t tk : TAd) (δ : Ed) (s : Sto) (Q : KD) : Prop := to δ s (kMethK C mn sp n m g t tk δ Q)
theorem kMethK3_q {sp : Spd} {n m : Nat} {g : List DV → List DV → List DV} {Q : KD} {a : Addr} {ds es : List DV} {s3 : Sto} : kMethK3 sp n m g Q a ds es s3 = ((ds.length + 1 = n ∧ es.length = m) ∧ cSp sp (g (.ref a :: ds) es) s3 Q noX) := propext Iff.rfl
theorem kMethK2_q {sp : Spd} {n m : Nat} {g : List DV → List DV → List DV} {tk : TAd} {δ : Ed} {Q : KD} {a : Addr} {ds : List DV} {s2 : Sto} : kMethK2 sp n m g tk δ Q a ds s2 = tk δ s2 (kMethK3 sp n m g Q a ds) := propext Iff.rfl
theorem dMethK_q {C : Addr} {mn : Str} {sp : Spd} {n m : Nat} {g : List DV → List DV → List DV} {to : TEd} {t tk : TAd} {δ : Ed} {s : Sto} {Q : KD} : dMethK C mn sp n m g to t tk δ s Q = to δ s (kMethK C mn sp n m g t tk δ Q) := propext Iff.rfl
section
variable {X : Cx} {A : Anc} {k n : Nat} {f C : Addr} {fd : FuncData} {ps ks : List Str} {sp : Spd} {spv : Sp} {mn : Str} {pos apos : Pos} {e o : Expr} {es : List Expr} {kws : List Keyword} {to : TEd} {t tk : TAd} {ta : TE} {tv tkv : TA} {g : List Value → List Value → List Value} {gV : List V → List V → List V} {gD : List DV → List DV → List DV}
theorem pe_methN {pl : Sem Bool} (he : PE X o ta) (c : Cls X.K C) (hm : Meth X.K C mn f) (F : FnOk X.prog X.w X.K X.mg X.base CX0 k f fd ps spv) (hr : Room k X.A) (hb : KBn X.K fd ps n ks g gV) (ha : PA X (e :: es) tv) (hkw : PK X kws tkv)
    (hall : (backToKw pos (keywordEach kws X.env)).all (·.1.isSome) = true := by rfl) (hks : (backToKw pos (keywordEach kws X.env)).filterMap (·.1) = ks := by rfl)
    (hst : starEach (e :: es) X.env = (false, eval e X.env) :: starEach es X.env := by rfl) (hpl : ((backTo pos (starEach (e :: es) X.env)).any (·.1) || (backToKw pos (keywordEach kws X.env)).any (·.1.isNone)) = false := by rfl)
    (ht : eval (.Call (.Attribute o mn apos) (e :: es) kws pos) X.env = (do
      let ov ← eval o X.env
      standAt apos.atName
      let (f, first) ← holding [ov] (getMethod ov mn pl)
      callWith pos f first (backTo pos (starEach (e :: es) X.env)) (backToKw pos (keywordEach kws X.env))) := by rfl) :
    PE X (.Call (.Attribute o mn apos) (e :: es) kws pos) (tMethN C mn n ks.length spv gV ta tv tkv) := by
  refine ⟨fun pins s σ H Q I h => ?_⟩
  refine PySem.W.methodCall_KW (pl := pl) (thn (he.run pins s σ H _ I h) fun u s1 ⟨x, H1, I1, rx, a, dx, fs, ex, ea, l, q⟩ => ?_) ht
  subst ex
  obtain rfl : u = Value.ref a := rx
  refine getmeth_ok I1 ea c hm l ?_
  refine PySem.W.callWith_KW (first := [.ref a]) (h₀ := X.base) I.ok.mod.kin hm.kp hall (thn (ha.run pos pins s1 σ H1 _ I1 q) fun us s2 ⟨vs, H2, I2, r, q2⟩ => ?_) hpl hst
  refine thn (hkw.run pos pins s2 σ H2 _ I2 q2) fun ws s3 ⟨zs, H3, I3, rz, l1, l2, q3⟩ => ⟨I3.kIn, ?_⟩
  rw [hks]
  exact run_fnN (us := .ref a :: us) (vs := .ref a :: vs) F hr hb (fun _ _ _ _ _ _ _ z => z.elim) I3 (.cons rfl r) rz l1 l2 q3
theorem dmethK {pl : Sem Bool} (ho : PD A X o to) (c : Cls X.K C) (hm : Meth X.K C mn f) (F : FnOk X.prog X.w X.K X.mg X.base CX0 k f fd ps (lSp X.K sp)) (hr : Room k X.A) (hb : KBn X.K fd ps n ks g gV) (hgD : ∀ s H vs es zs us, DatL X.K s H vs es → DatL X.K s H zs us → DatL X.K s H (gV vs zs) (gD es us))
    (ha : PAd A X (e :: es) t) (hkw : PKd A X kws tk) (hall : (backToKw pos (keywordEach kws X.env)).all (·.1.isSome) = true := by rfl) (hks : (backToKw pos (keywordEach kws X.env)).filterMap (·.1) = ks := by rfl)
    (hst : starEach (e :: es) X.env = (false, eval e X.env) :: starEach es X.env := by rfl) (hpl : ((backTo pos (starEach (e :: es) X.env)).any (·.1) || (backToKw pos (keywordEach kws X.env)).any (·.1.isNone)) = false := by rfl)
    (ht : eval (.Call (.Attribute o mn apos) (e :: es) kws pos) X.env = (do
      let ov ← eval o X.env
      standAt apos.atName
      let (f, first) ← holding [ov] (getMethod ov mn pl)
      callWith pos f first (backTo pos (starEach (e :: es) X.env)) (backToKw pos (keywordEach kws X.env))) := by rfl) :
    PD A X (.Call (.Attribute o mn apos) (e :: es) kws pos) (dMethK C mn sp n ks.length gD to t tk) := peImp (pe_methN ho c hm F hr hb ha hkw hall hks hst hpl ht) fun σ H Q h => by
  obtain ⟨δ, s, Q', S, t, k⟩ := h
  refine ⟨δ, s, _, S, t, fun v H1 d s1 st1 rep1 dv q => ?_⟩
  unfold kMethK at q
  split at q
  · rename_i a
    cases dv
    split at q
    · rename_i C' fs e
      obtain ⟨rfl, hl, q⟩ := q
      obtain ⟨dx, gs, h1, hp⟩ := rep1 a _ e
      refine ⟨a, dx, gs, rfl, h1, (lookP mn hp).1 hl, δ, s1, _, S.go st1 rep1, q, fun vs H2 es s2 st2 rep2 dvv q2 => ?_⟩
      refine ⟨δ, s2, _, (S.go st1 rep1).go st2 rep2, q2, fun zs H3 us s3 st3 rep3 dvz q3 => ⟨by rw [dvv.length]; exact q3.1.1, by rw [dvz.length]; exact q3.1.2, ?_⟩⟩
      exact lSp_of rep3 (hgD _ _ _ _ _ _ (.cons (.ref a) (dvv.step st3 rep2)) dvz) q3.2 fun v4 H4 d4 s4 st4 => k v4 H4 d4 s4 (((st1.trans st2).trans st3).trans st4)
    · exact False.elim q
  · exact False.elim q
end
end DL

set_option Elab.async false
set_option linter.all false
set_option maxRecDepth 100000
set_option maxHeartbeats 4000000
namespace DL
open PySem PySem.Spec PyProof.Rows L2
/-! ### a def that may raise, called -/
structure FnX (P : Program) (w : World) (K : PySem.W.Frag) (mg : Str → Option Value) (base : Heap) (x : Str) (k : Nat) (ps : List Str) (sp : Spd) : Prop where
  ex : ∃ f fd, FnOk P w K mg base (L2.CX P w) k f fd ps (lSp K sp) ∧ mg x = some (.ref f) ∧ PySem.W.keepIn K (.ref f) = true ∧ Binds K fd ps []
theorem fnOkX {P : Program} {w : World} {K : PySem.W.Frag} {mg : Str → Option Value} {base : Heap} {x : Str} {st : Stmt} {N ps : List Str} {k : Nat} {sp : Spd} {t : XEd → TSd} (D : DefAt K mg x st ps) (S : FnScope N ps (defScope st)) (len : ∀ ds s Q E, sp ds s Q E → ds.length = ps.length)
    (hbody : ∀ (A : Anc) (f : Addr) (cdv : Value) (Ar : Around) (outer : List Env) (s : Shared) (H : Hp) (E : XK) (Ex : XEd), Room k (Ar.deeper (envOfC x (defScope st) s.heap.objs.size f cdv)) →
      Takes (cxOf (L2.CX P w) P w K mg base N x (defScope st) f cdv Ar outer s H E) (wX K A Ex) → PSsd A (cxOf (L2.CX P w) P w K mg base N x (defScope st) f cdv Ar outer s H E) (defBody st) (t Ex))
    (hread : ∀ ds s Q E, sp ds s Q E → t (outX E) { nx := fun _ s => Q .non s, rt := Q } (startD N.length ds) s) : FnX P w K mg base x (k + 1) ps sp := by
  obtain ⟨f, fd, F, g, kp, b⟩ := D.ex
  exact ⟨f, fd, defOkX F S len (fun A cdv Ar outer s H E Ex hr tk => hbody A f cdv Ar outer s H E Ex hr tk) hread, g, kp, b⟩
def kCallX (sp : Spd) (Ex : XEd) (δ : Ed) (Q : KD) (ds : List DV) (s1 : Sto) : Prop := cSp sp ds s1 Q (atX Ex δ)
def dCallX (sp : Spd) (Ex : XEd) (t : TAd) (δ : Ed) (s : Sto) (Q : KD) : Prop := t δ s (kCallX sp Ex δ Q)
theorem kCallX_q {sp : Spd} {Ex : XEd} {δ : Ed} {Q : KD} {ds : List DV} {s1 : Sto} : kCallX sp Ex δ Q ds s1 = cSp sp ds s1 Q (atX Ex δ) := propext Iff.rfl
theorem dCallX_q {sp : Spd} {Ex : XEd} {t : TAd} {δ : Ed} {s : Sto} {Q : KD} : dCallX sp Ex t δ s Q = t δ s (kCallX sp Ex δ Q) := propext Iff.rfl
section
variable {X : Cx} {A : Anc} {k : Nat} {ps : List Str} {sp : Spd} {x : Str} {p pos : Pos} {e : Expr} {es : List Expr} {t : TAd} {Ex : XEd}
theorem dFX (G : FnX X.prog X.w X.K X.mg X.base x k ps sp) (hr : Room k X.A) (tk : Takes X (wX X.K A Ex)) (ha : PAd A X (e :: es) t) (hg : Gl X x := by rfl) (hdb : (x == ("__debug__" : Str)) = false := by decide)
    (he : starEach (e :: es) X.env = (false, eval e X.env) :: starEach es X.env := by rfl) (hpl : (backTo pos (starEach es X.env)).any (·.1) = false := by rfl) : PD A X (.Call (.Name x p) (e :: es) [] pos) (dCallX sp Ex t) := by
  obtain ⟨f, fd, F, hm, hk, hb⟩ := G.ex
  refine peImp (pe_callS F hr hg hm hk hb (fun σ => passAt tk σ) ha hdb he hpl) fun σ H Q h => ?_
  obtain ⟨δ, s, Q', S, t, k⟩ := h
  refine ⟨δ, s, _, S, t, fun vs H1 es s1 st1 rep1 dv q => ?_⟩
  refine ⟨_, s1, Q', atX Ex δ, rep1, dv, q, fun v3 H3 d3 s3 st3 => k v3 H3 d3 s3 (st1.trans st3), fun cls dd fs3 s3 H3 st3 rep3 xr e3 => ?_⟩
  exact ⟨fs3, δ, s3, (S.go st1 rep1).go st3 rep3, xr, e3⟩
/-- what never raises may be called where something is let out -/
theorem FnX.of (G : Fn X.prog X.w X.K X.mg X.base x k ps sp) : ∃ f fd, FnOk X.prog X.w X.K X.mg X.base CX0 k f fd ps (lSp X.K sp) ∧ X.mg x = some (.ref f) := by
  obtain ⟨f, fd, F, hm, _⟩ := G.ex
  exact ⟨f, fd, F, hm⟩
end
end DL

set_option Elab.async false
set_option linter.all false
set_option maxRecDepth 100000
set_option maxHeartbeats 4000000
namespace DL
open PySem PySem.Spec PyProof.Rows L2
/-! ### a def's promise at one caller (there the displays under way are known: repr) -/
structure FnAt (P : Program) (w : World) (K : PySem.W.Frag) (mg : Str → Option Value) (base : Heap) (k : Nat) (A : Around) (f : Addr) (fd : FuncData) (ps : List Str) (sp : Sp) : Prop where
  run : ∀ (outer : List Env) (s : Shared) (H : Hp) (args : Args) (us : List Value) (vs : List V) (Q : VK) (E : XK), Room k A → Env0 P w K mg base A outer s H → BindsTo s fd args (ps.zip us) → Vals vs us → sp vs H Q E →
    codeAny (model P w) A (.call (.ref f) args) (CR CX0 outer P w H s Q E) s
theorem fnAt_of {P : Program} {w : World} {K : PySem.W.Frag} {mg : Str → Option Value} {base : Heap} {k : Nat} {f : Addr} {name qual : Str} {params : Arguments} {body : List Stmt} {scope : Scope} {dV kV doc pm cdv ct oc : Value} {an od : Option Addr}
    {osl : Array (Option Value)} {N ps : List Str} {sp : Sp} (A : Around) (lk : K.lookup f = some ⟨oc, od, .func (PySem.W.fnOf name qual params body scope dV kV doc pm an cdv ct), osl⟩) (hcd : PySem.W.codeIn K cdv qual = true) (S : FnScope N ps scope)
    (len : ∀ vs H Q E, sp vs H Q E → vs.length = ps.length)
    (hbody : ∀ (outer : List Env) (s : Shared) (H : Hp) (vs : List V) (Q : VK) (E : XK), Room k (A.deeper (envOfC qual scope s.heap.objs.size f cdv)) → sp vs H Q E →
      ∃ t, PSs (cxOf CX0 P w K mg base N qual scope f cdv A outer s H E) body t ∧ t { nx := fun _ H' => Q .non H', rt := Q } (start N vs) H) :
    FnAt P w K mg base (k + 1) A f (PySem.W.fnOf name qual params body scope dV kV doc pm an cdv ct) ps sp := by
  refine ⟨fun outer s H args us vs Q E hr e0 hb r hsp => ?_⟩
  have KX : K.In s.heap := e0.mod.kin.keeps fun b o e => (e0.bs b o e).1
  have lim : s.heap.NoLimit := e0.mod.nolimit.keeps fun b o e => (e0.bs b o e).1
  refine codeAny_call_function hr.depth (KX _ _ lk) rfl S.co S.gen rfl (PySem.W.codeRec_of KX hcd) (hb _ _ _ _ (wpAny_newFunctionEnv_cells S.kind (fun ⟨n, v⟩ hy => ?_) fun env he s1 x => ?_))
  · rcases S.par n (List.of_mem_zip hy).1 with q | q
    · exact .inl q
    · exact .inr ⟨q, PySem.W.cellsFrom_some _ _ _ (.inl q)⟩
  · subst he
    refine ⟨lim.keeps x.toInCall.keep, codeAny_func ?_⟩
    obtain ⟨t, ht, hq⟩ := hbody outer s H vs Q E (hr.deeper _) hsp
    refine wpAny_mono (ht.run [] s1 (start N vs) H _ (inv_start S hr.hd e0 (len _ _ _ _ hsp) r x) hq) (fun fl s' hs => ?_) fun e s' hs => hs
    cases fl with
    | ret u =>
      obtain ⟨v, σ', H', J, rv, q⟩ := hs
      exact ⟨v, H', J.os, J.bare, J.base, J.hok, rv, q⟩
    | next =>
      obtain ⟨σ', H', J, q⟩ := hs
      exact ⟨.non, H', J.os, J.bare, J.base, J.hok, rfl, q⟩
    | brk =>
      obtain ⟨_, _, _, q⟩ := hs
      exact False.elim q
    | cont =>
      obtain ⟨_, _, _, q⟩ := hs
      exact False.elim q
/-! ### the head at the law's own caller -/
section
variable {P : Program} {w : World} {K : PySem.W.Frag} {mg mb : Str → Option Value} {s₁ : Shared} {a : Addr} {vs : List Value} {ns : List Int} {H : Hp}
/-- the state behind the top, seen over a ground that hides the script -/
theorem env0_top (KX : K.In s₁.heap) (hns : s₁.heap.Ns mainGlobals mg) (hb : s₁.heap.Ns builtinsNs mb) (hbb : ∀ x : Str, x ≠ "__name__" → mb x = bootBuiltins x) (hlim : s₁.heap.NoLimit) (hg : s₁.gens = #[])
    (ha : s₁.heap.get? a = some { cls := .type "list", data := .seq vs.toArray }) (hok : HOk P w H s₁.heap) (hA : ∀ b, H b ≠ none → b = a) (hK : H a ≠ none → K.lookup a = none) :
    K.In (hidT s₁.heap H) ∧ (hidT s₁.heap H).Ns mainGlobals mg ∧ Env0 P w K mg (hidT s₁.heap H) callerA [] s₁ H := by
  have out : ∀ {b : Addr} {o : Obj}, s₁.heap.get? b = some o → (b = a → H a = none) → (hidT s₁.heap H).get? b = some o := fun {b o} e h => hidT_get e (by
    cases q : H b with
    | none => rfl
    | some u =>
      have e' : b = a := hA b (by rw [q]; exact fun z => nomatch z)
      rw [e', h e'] at q
      cases q)
  have nsK : ∀ {b : Addr} {m : Str → Option Value}, s₁.heap.Ns b m → (hidT s₁.heap H).Ns b m := fun {b m} ⟨o, es, ep, e, d, r⟩ => ⟨o, es, ep, out e (fun z => by
    rw [z, ha] at e
    cases e
    have d' : Data.seq vs.toArray _ = Data.dict es ep := d
    cases d'), d, r⟩
  have inK : K.In (hidT s₁.heap H) := fun b o e => out (KX b o e) (fun z => by
    cases q : H a with
    | none => rfl
    | some u =>
      rw [z, hK (by rw [q]; exact fun z => nomatch z)] at e
      cases e)
  refine ⟨inK, nsK hns, ⟨rfl, ⟨inK, nsK hns, ⟨mb, nsK hb, hbb⟩, let ⟨mc, h1, h2⟩ := hlim; ⟨mc, nsK h1, h2⟩⟩, fun b o e => of_hidT e, Nat.le_of_eq (hidT_size _ _), trivial, fun b hb => absurd (show b ∈ ([] : List Addr) from hb) (by simp), hok, .of_eq hg⟩⟩
theorem law_callG {k : Nat} {fa : Addr} {fd : FuncData} {x : Str} {sp : Sp} (KX : K.In s₁.heap) (hns : s₁.heap.Ns mainGlobals mg) (hb : s₁.heap.Ns builtinsNs mb) (hbb : ∀ x : Str, x ≠ "__name__" → mb x = bootBuiltins x) (hlim : s₁.heap.NoLimit) (hg : s₁.gens = #[])
    (ha : s₁.heap.get? a = some { cls := .type "list", data := .seq vs.toArray }) (hi : IntsAre vs ns) (hl : ns.length ≤ sizeLine) (hr : Room k callerA)
    (F : ∀ base : Heap, K.In base → base.Ns mainGlobals mg → FnAt P w K mg base k callerA fa fd [x] sp) (hbind : ∀ (s : Shared) (u : Value), BindsTo s fd ⟨[u], []⟩ [(x, u)])
    (hsp : ∀ H : Hp, Only H → SqL K H a (ns.map V.int) → sp [.ref a] H (fun v _ => v = .bl true) fun _ _ _ => False) :
    codeAny (model P w) callerA (.call (.ref fa) ⟨[.ref a], []⟩) (fun r s' => r = .ok (.ret (.bool true)) ∧ OldK s₁.heap s'.heap ∧ s'.os = s₁.os ∧ AllBare s'.gens) s₁ := by
  have rv := vals_ints hi
  have run : ∀ H : Hp, Only H → SqL K H a (ns.map V.int) → HOk P w H s₁.heap → (∀ b, H b ≠ none → b = a) → (H a ≠ none → K.lookup a = none) →
      codeAny (model P w) callerA (.call (.ref fa) ⟨[.ref a], []⟩) (fun r s' => r = .ok (.ret (.bool true)) ∧ OldK s₁.heap s'.heap ∧ s'.os = s₁.os ∧ AllBare s'.gens) s₁ := fun H hO hS hok hA hK => by
    obtain ⟨inK, nsK, e0⟩ := env0_top KX hns hb hbb hlim hg ha hok hA hK
    refine codeAny_mono ((F _ inK nsK).run [] s₁ H ⟨[.ref a], []⟩ [.ref a] [.ref a] _ _ hr e0 (hbind s₁ (.ref a)) (.cons rfl .nil) (hsp H hO hS)) fun r s' h => ?_
    cases r with
    | error e => exact False.elim h
    | ok fl =>
      cases fl with
      | next => exact False.elim h
      | brk => exact False.elim h
      | cont => exact False.elim h
      | ret u =>
        obtain ⟨v, H', os, bare, un, hok', r', q⟩ := h
        have q' : v = .bl true := q
        subst q'
        obtain rfl : u = Value.bool true := r'
        refine ⟨rfl, OldK.of_keep fun b o e => ?_, os, bare⟩
        rcases hO b with z | ⟨ob, xs, z⟩
        · exact un.keep b o e z (fun z => nomatch z) (fun z => nomatch z)
        · obtain ⟨e1, _⟩ := hok b _ z
          obtain ⟨e2, _⟩ := hok' b _ (un.frzs b ob _ z)
          rw [e] at e1
          cases e1
          exact e2
  cases hk : K.lookup a with
  | some o =>
    have e := KX a o hk
    rw [ha] at e
    cases e
    exact run (fun _ => none) (fun _ => .inl rfl) (.inr ⟨_, vs.toArray, _, hk, rfl, rfl, rfl, by rw [List.size_toArray, hi.length]; exact hl, by simpa using rv⟩) (fun b u z => nomatch z) (fun b z => absurd rfl z) (fun z => absurd rfl z)
  | none =>
    let o1 : Obj := { cls := .type "list", data := .seq vs.toArray }
    have at1 : ∀ {b : Addr} {u : HO}, upd (fun _ => none) a (.frz o1 (.lst (ns.map V.int))) b = some u → b = a ∧ u = .frz o1 (.lst (ns.map V.int)) := fun {b u} z => by
      by_cases hb : b = a
      · rw [hb, upd_same] at z
        exact ⟨hb, (Option.some.inj z).symm⟩
      · rw [upd_ne hb] at z
        cases z
    refine run (upd (fun _ => none) a (.frz o1 (.lst (ns.map V.int)))) (fun b => ?_) (.inl (.inr ⟨o1, upd_same⟩)) (fun b u z => ?_) (fun b z => ?_) fun _ => hk
    · by_cases hb : b = a
      · exact .inr ⟨_, _, by rw [hb]; exact upd_same⟩
      · exact .inl (by rw [upd_ne hb])
    · obtain ⟨rfl, rfl⟩ := at1 z
      exact ⟨ha, by rw [List.length_map]; exact hl, vs, _, rv, ha⟩
    · by_cases hb : b = a
      · exact hb
      · exact absurd (by rw [upd_ne hb]) z
end
/-- a law whose own body shows data (repr): F gives the written part, the function object, the promise at the law's caller -/
theorem walk_ofG {l : PySem.W.OpenLaw} {n k : Nat} {q : Program} {loose : List Str} {XP : (Str → Option Value) → Heap → Prop} {YP : World → Heap → Prop} {d : DefRec} {x : Str}
    (hn : l.most = some n) (hn2 : n ≤ sizeLine) (hdf : d.params.defaults = []) (hr : Room k callerA)
    (F : ∀ (w : World) (mg : Str → Option Value) (fa : Addr) (h : Heap), YP w h → h.Ns mainGlobals mg → mg d.name = some (.ref fa) →
      ∃ (K : PySem.W.Frag) (fd : FuncData) (sp : Sp), K.In h ∧ (∀ (s : Shared) (u : Value), BindsTo s fd ⟨[u], []⟩ [(x, u)]) ∧
        (∀ (H : Hp) (a : Addr) (ns : List Int), ns.length ≤ n → Only H → SqL K H a (ns.map V.int) → sp [.ref a] H (fun v _ => v = .bl true) fun _ _ _ => False) ∧
        ∀ base : Heap, K.In base → base.Ns mainGlobals mg → FnAt l.prog w K mg base k callerA fa fd [x] sp) :
    PySem.W.WalkO q loose XP YP l.row.toRowW d [] (fun f vs => PySem.call f vs) := by
  refine Att.attach_call hn hdf fun w s₀ s₁ mg mb fa o pm cd doc a vs ns G Y ho hd hcd hmg hobj hints hlen hg => ?_
  obtain ⟨K, fd, sp, KX, hb, hsp, hF⟩ := F w mg fa _ Y G.T.g hmg
  exact law_callG KX G.T.g G.T.b G.T.builtins G.T.nolimit hg hobj hints (Nat.le_trans hlen hn2) hr hF hb fun H hO hS => hsp H a ns hlen hO hS
end DL

set_option Elab.async false
set_option linter.all false
set_option maxRecDepth 100000
set_option maxHeartbeats 4000000
namespace DL
open PySem PySem.Spec PyProof.Rows L2
/-! ### the rule for a law's def at its own caller -/
theorem callerA_guards {env : Env} : (callerA.deeper env).guards = some [] := by first | rfl | simp [callerA, Around.deeper]
theorem defOkG {P : Program} {w : World} {K : PySem.W.Frag} {mg : Str → Option Value} {base : Heap} {x qual : Str} {st : Stmt} {f : Addr} {fd : FuncData} {N ps : List Str} {k : Nat} {sp : Spd} {t : TSd} (F : Fun K x qual st f fd) (S : FnScope N ps (defScope st)) (len : ∀ ds s Q E, sp ds s Q E → ds.length = ps.length)
    (hbody : ∀ (A : Anc) (cdv : Value) (outer : List Env) (s : Shared) (H : Hp) (E : XK), Room k (callerA.deeper (envOfC qual (defScope st) s.heap.objs.size f cdv)) →
      PSsd A (cxOf CX0 P w K mg base N qual (defScope st) f cdv callerA outer s H E).nox (defBody st) t)
    (hread : ∀ ds s Q E, sp ds s Q E → t { nx := fun _ s => Q .non s, rt := Q } (startD N.length ds) s) : FnAt P w K mg base (k + 1) callerA f fd ps (lSp K sp) := by
  obtain ⟨oc, od, kV, doc, pm, an, cdv, ct, osl, rfl, lk, hcd⟩ := F.ex
  refine fnAt_of callerA lk hcd S (fun vs H Q E h => ?_) (fun outer s H vs Q E hr h => ?_)
  · obtain ⟨ds, s, Q', E', rep, dv, q, _⟩ := h
    rw [dv.length]
    exact len ds s Q' E' q
  · obtain ⟨ds, s0, Q', E', rep, dv, q, kq, ke⟩ := h
    refine ⟨_, (hbody ⟨s0, H⟩ cdv outer s H E hr).nox, startD N.length ds, s0, _, ⟨Stp.refl s0 H, rep, env_start N dv⟩, hread ds s0 Q' E' q, ?_⟩
    exact ⟨fun σ H2 δ s2 S2 q2 => kq .non H2 .non s2 S2.stp S2.rep .non q2, fun _ _ _ _ _ z => z.elim, fun _ _ _ _ _ z => z.elim, fun v H2 d s2 st rep2 dv2 q2 => kq v H2 d s2 st rep2 dv2 q2⟩
/-! ### repr(x) -/
def rRepr (K : PySem.W.Frag) : List V → Hp → VK → Prop := fun xs H Q =>
  (∃ (a : Addr) (p : PyData), xs = [.ref a] ∧ Dp K H (.ref a) p ∧ p.showable = true ∧ p.hasDict = false ∧ p.depth ≤ 64 ∧ p.shown.length ≤ sizeLine ∧ Q (.str p.shown) H) ∨
  (∃ i, xs = [.int i] ∧ i.natAbs.log2 < 1920 ∧ Q (.str (toString i)) H) ∨ (∃ z, xs = [.str z] ∧ (reprText z).length ≤ sizeLine ∧ Q (.str (reprText z)) H) ∨ (∃ b, xs = [.bl b] ∧ Q (.str (if b then "True" else "False")) H) ∨ (xs = [.non] ∧ Q (.str "None") H)
theorem call_repr {X : Cx} (hg : X.A.guards = some []) (hu : X.A.units + 65 < cLine) : CallR X (.builtin "repr") (rRepr X.K) := by
  intro pins s σ H xs us Q I r h
  rcases h with ⟨a, p, rfl, hd, hs, hn, hdp, hz, q⟩ | ⟨i, rfl, hl, q⟩ | ⟨z, rfl, hl, q⟩ | ⟨b, rfl, q⟩ | ⟨rfl, q⟩
  · cases r with
    | cons rx rr =>
      cases rr
      obtain ⟨as, hr⟩ := Dp.reads I p _ _ hd rx
      cases rx
      exact repr_of_reads' hr hs (fun e => by rw [hn] at e; cases e) hg (by omega) (fun _ _ e => e) (fun h' u tk hk => ⟨.str _, H, I.kept (t' := tk) hk, ⟨_, rfl⟩, q⟩) hz
  · cases r with
    | cons rx rr =>
      cases rr
      obtain ⟨t, rfl⟩ := rx
      exact PySem.P.repr_of_int hl ⟨.str _, H, I.tok _, ⟨_, rfl⟩, q⟩
  · cases r with
    | cons rx rr =>
      cases rr
      obtain ⟨t, rfl⟩ := rx
      exact PySem.P.repr_of_str ⟨.str _, H, I.tok _, ⟨_, rfl⟩, q⟩ hl
  · cases r with
    | cons rx rr =>
      cases rr
      cases rx
      exact PySem.P.repr_of_bool ⟨.str _, H, I.tok _, ⟨_, rfl⟩, q⟩
  · cases r with
    | cons rx rr =>
      cases rr
      cases rx
      exact PySem.P.repr_of_none ⟨.str _, H, I.tok _, ⟨_, rfl⟩, q⟩
def kReprP (s : Sto) (Q : KD) : Option PyData → Prop
  | some p => p.showable = true ∧ p.hasDict = false ∧ p.depth ≤ 64 ∧ p.shown.length ≤ sizeLine ∧ Q (.str p.shown) s
  | none => False
def dRepr (ds : List DV) (s : Sto) (Q : KD) : Prop := match ds with
  | [.tup es] => kReprP s Q (pd (.tup es))
  | [.int i] => i.natAbs.log2 < 1920 ∧ Q (.str (toString i)) s
  | [.str z] => (reprText z).length ≤ sizeLine ∧ Q (.str (reprText z)) s
  | [.bl b] => Q (.str (if b then "True" else "False")) s
  | [.non] => Q (.str "None") s
  | _ => False
theorem cd_repr {X : Cx} (hg : X.A.guards = some []) (hu : X.A.units + 65 < cLine) : CallR X (.builtin "repr") (lC X.K dRepr) := callImp (call_repr hg hu) fun xs H Q h => by
  obtain ⟨ds, s, Q', rep, hx, r, k⟩ := h
  unfold dRepr at r
  split at r
  · rename_i es
    unfold kReprP at r
    split at r
    · rename_i p e
      cases hx with
      | cons h t =>
        cases t
        have hp := pd_ok rep h e
        obtain ⟨a, ys, rfl, h1, h2⟩ := h.tupInv
        exact .inl ⟨a, p, rfl, hp, r.1, r.2.1, r.2.2.1, r.2.2.2.1, k _ H _ s (Stp.refl s H) rep (.str _) r.2.2.2.2⟩
    · exact r.elim
  · cases hx with
    | cons h t => cases t; cases h; exact .inr (.inl ⟨_, rfl, r.1, k _ H _ s (Stp.refl s H) rep (.str _) r.2⟩)
  · cases hx with
    | cons h t => cases t; cases h; exact .inr (.inr (.inl ⟨_, rfl, r.1, k _ H _ s (Stp.refl s H) rep (.str _) r.2⟩))
  · cases hx with
    | cons h t => cases t; cases h; exact .inr (.inr (.inr (.inl ⟨_, rfl, k _ H _ s (Stp.refl s H) rep (.str _) r⟩)))
  · cases hx with
    | cons h t => cases t; cases h; exact .inr (.inr (.inr (.inr ⟨rfl, k _ H _ s (Stp.refl s H) rep (.str _) r⟩)))
  · exact r.elim
end DL

set_option Elab.async false
set_option linter.all false
set_option maxRecDepth 100000
set_option maxHeartbeats 4000000
namespace DL
open PySem PySem.Spec PyProof.Rows L2
/-! ### a dict that stands at a module's top -/
structure KDt (P : Program) (w : World) (K : PySem.W.Frag) (a : Addr) (kvs : List (Key × V)) : Prop where
  ex : ∃ vs, KV kvs vs ∧ ∀ h : Heap, K.In h → h.DictOf (mixKind P w) a vs
  sys : (a == sysModules) = false
def keysB : List Key → List DictEntry → Bool
  | [], [] => true
  | k :: ks, e :: es => keyIs k e.key && keysB ks es
  | _, _ => false
def kdB (K : PySem.W.Frag) (a : Addr) (kvs : List (Key × He.Dv)) : Bool := match K.lookup a with
  | some ⟨.type c, none, .dict es _, sl⟩ => decide (c = "dict") && (decide (sl.size = 0) && (keysB (kvs.map (·.1)) es.toList && (He.relAll (kvs.map fun p => p.2.v K) (es.toList.map (·.val)) && (decide ((kvs.map (·.1)).Nodup) && !(a == sysModules)))))
  | _ => false
def kdH (K : PySem.W.Frag) (a : Addr) : List Int := match K.lookup a with
  | some ⟨_, _, .dict es _, _⟩ => es.toList.map (·.hash)
  | _ => []
theorem kd_pairs {P : Program} {w : World} : ∀ {ks : List Key} {us : List V} {es : List DictEntry}, keysB ks es = true → Vals us (es.map (·.val)) → es.map (·.hash) = ks.map (keyH w) →
    ∃ vs : List (Key × Value), vs.map (·.1) = ks ∧ KV (ks.zip us) vs ∧ Pairs (mixKind P w) es vs ∧ ∀ e ∈ es, ∃ k, (mixKind P w).is k e.key = true ∧ e.hash = (mixKind P w).hash k
  | [], us, [], _, hv, _ => by
    cases hv
    exact ⟨[], rfl, .nil, .nil, fun e h => nomatch h⟩
  | [], _, _ :: _, h, _, _ => by cases h
  | _ :: _, _, [], h, _, _ => by cases h
  | k :: ks, us, e :: es, h, hv, hh => by
    obtain ⟨h1, h2⟩ := Bool.and_eq_true_iff.mp (show (keyIs k e.key && keysB ks es) = true from h)
    cases hv with
    | @cons u _ us' _ r rs =>
      obtain ⟨e1, e2⟩ := List.cons.inj (show e.hash :: es.map (·.hash) = keyH w k :: ks.map (keyH w) from hh)
      obtain ⟨vs, a1, a2, a3, a4⟩ := kd_pairs (P := P) (w := w) h2 rs e2
      refine ⟨(k, e.val) :: vs, congrArg (k :: ·) a1, .cons ⟨rfl, r⟩ a2, .cons h1 rfl a3, fun f hf => ?_⟩
      rcases List.mem_cons.mp hf with z | hf
      · rw [z]; exact ⟨k, h1, e1⟩
      · exact a4 f hf
theorem zip_fs {α β γ : Type} (f : α → β) (g : α → γ) : ∀ l : List α, (l.map f).zip (l.map g) = l.map fun p => (f p, g p)
  | [] => rfl
  | p :: l => congrArg ((f p, g p) :: ·) (zip_fs f g l)
theorem kd_ok {P : Program} {w : World} {K : PySem.W.Frag} {a : Addr} {kvs : List (Key × He.Dv)} (h : kdB K a kvs = true) (hh : kdH K a = kvs.map fun p => keyH w p.1) : KDt P w K a (kvs.map fun p => (p.1, p.2.v K)) := by
  unfold kdB at h
  split at h
  · rename_i c es ep sl ho
    simp only [Bool.and_eq_true, decide_eq_true_eq, Bool.not_eq_true'] at h
    obtain ⟨rfl, hs, hk, hv, nd, sy⟩ := h
    have h2 : es.toList.map (·.hash) = (kvs.map (·.1)).map (keyH w) := by
      unfold kdH at hh
      rw [ho] at hh
      rw [List.map_map]
      exact hh
    obtain ⟨vs, a1, a2, a3, a4⟩ := kd_pairs (P := P) (w := w) hk (He.relAll_ok hv) h2
    rw [zip_fs] at a2
    exact ⟨⟨vs, a2, fun hp X => ⟨_, es, ep, X _ _ ho, ⟨rfl, rfl, Array.eq_empty_of_size_eq_zero hs⟩, rfl, fun e he => a4 e (Array.mem_toList_iff.mpr he), a3, by rw [a1]; exact nd⟩⟩, sy⟩
  · cases h
/-! ### x in D -/
def dInKD (a : Addr) (D : List (Key × DV)) (neg : Bool) (x y : DV) (s : Sto) (Q : KD) : Prop := match y with
  | .ref b => b = a ∧ match keyD x with
    | some k => Q (.bl (if neg then !(getP D k).isSome else (getP D k).isSome)) s
    | none => False
  | _ => False
theorem getP_some {K : PySem.W.Frag} {s : Sto} {H : Hp} {kvs : List (Key × V)} {D : List (Key × DV)} {k : Key} (h : DatP K s H kvs D) : (valV kvs k).isSome = (getP D k).isSome := by
  cases e : getP D k with
  | none => rw [getP_none h e]; rfl
  | some d =>
    obtain ⟨v, e2, _⟩ := getP_ok h e
    rw [e2]; rfl
section
variable {X : Cx} {a : Addr} {kvs : List (Key × V)} {D : List (Key × DV)}
theorem od_inKD (Z : KDt X.prog X.w X.K a kvs) (hD : ∀ s H, DatP X.K s H kvs D) : OpD X (compareOp .In) (dInKD a D false) := fun pins s σ H x y v u Q I rx ry h => by
  obtain ⟨dx, dy, s0, Q', rep, hx, hy, r, k⟩ := h
  unfold dInKD at r
  split at r
  · obtain ⟨rfl, r⟩ := r
    split at r
    · rename_i key e
      have ex := keyD_ok hx e
      subst ex
      cases hy
      cases ry
      obtain ⟨vs, rel, dd⟩ := Z.ex
      refine wpAny_in_of (kV_is rx) Z.sys (dd _ I.kIn).mapOf ?_
      rw [← (rel.val key).isSome_eq, getP_some (hD s0 H)]
      exact ⟨.bl _, H, I.tok _, rfl, k (.bl _) H (.bl _) s0 (Stp.refl s0 H) rep (.bl _) r⟩
    · exact r.elim
  · exact r.elim
theorem od_notinKD (Z : KDt X.prog X.w X.K a kvs) (hD : ∀ s H, DatP X.K s H kvs D) : OpD X (compareOp .NotIn) (dInKD a D true) := fun pins s σ H x y v u Q I rx ry h => by
  obtain ⟨dx, dy, s0, Q', rep, hx, hy, r, k⟩ := h
  unfold dInKD at r
  split at r
  · obtain ⟨rfl, r⟩ := r
    split at r
    · rename_i key e
      have ex := keyD_ok hx e
      subst ex
      cases hy
      cases ry
      obtain ⟨vs, rel, dd⟩ := Z.ex
      refine wpAny_notIn_of (kV_is rx) Z.sys (dd _ I.kIn).mapOf ?_
      rw [← (rel.val key).isSome_eq, getP_some (hD s0 H)]
      exact ⟨.bl _, H, I.tok _, rfl, k (.bl _) H (.bl _) s0 (Stp.refl s0 H) rep (.bl _) r⟩
    · exact r.elim
  · exact r.elim
/-! ### D[x] -/
def dIxKD (a : Addr) (D : List (Key × DV)) (x y : DV) (s : Sto) (Q : KD) : Prop := match x with
  | .ref b => b = a ∧ match keyD y with
    | some k => ixD (getP D k) s Q
    | none => False
  | _ => False
theorem ix_kd (Z : KDt X.prog X.w X.K a kvs) (hD : ∀ s H, DatP X.K s H kvs D) : IxR X (lR X.K (dIxKD a D)) := by
  intro value slice pins s σ H x y v u Q I rx ry h hs
  obtain ⟨dx, dy, s0, Q', rep, hx, hy, r, k⟩ := h
  unfold dIxKD at r
  split at r
  · obtain ⟨rfl, r⟩ := r
    split at r
    · rename_i key e
      unfold ixD at r
      split at r
      · rename_i d eg
        have ey := keyD_ok hy e
        subst ey
        cases hx
        obtain rfl : v = Value.ref _ := rx
        obtain ⟨vs, rel, dd⟩ := Z.ex
        obtain ⟨z, hz, hdz⟩ := getP_ok (hD s0 H) eg
        obtain ⟨w', hw, rw'⟩ := RelO.some_of (v := z) (o := valueAt vs key) (by rw [← hz]; exact rel.val key)
        have hm := (dd _ I.kIn).mapOf
        exact tail_any hm.typeIs PySem.F.slot_dict_getitem.lookup (wpAny_getItem_of (kV_is ry) hm hw ⟨z, H, I.tok _, rw', k z H d s0 (Stp.refl s0 H) rep hdz r⟩) hs
      · exact r.elim
    · exact r.elim
  · exact r.elim
end
/-! ### the hook: the dicts' hashes are handed out, too -/
def obH (n : Nat) (fa : List He.Fa) (fn : List He.DefD) (ex : PySem.W.Frag → Bool) (ds : List Str) (g : Addr → Option Obj) : (He.AlD × Bool) × List (List Int) := (obB n fa fn ex g, ds.map fun x => kdH (He.frG g (He.asD g n)) (He.ga (He.frG g (He.asD g n)) x))
def SaysH (fa : List He.Fa) (fn : List He.DefD) (ex : PySem.W.Frag → Bool) (ds : List (Str × List Key)) (w : World) (K : PySem.W.Frag) : Prop := SaysB fa fn ex K ∧ ∀ p ∈ ds, kdH K (He.ga K p.1) = p.2.map (keyH w)
def hookH (n : Nat) (fa : List He.Fa) (fn : List He.DefD) (ex : PySem.W.Frag → Bool) (ds : List (Str × List Key)) : PySem.W.Hook where
  α := (He.AlD × Bool) × List (List Int)
  obs := fun s => obH n fa fn ex (ds.map (·.1)) s.heap.get?
  val := fun w => ((He.valD fn, true), ds.map fun p => p.2.map (keyH w))
  says := fun w h => ∃ K : PySem.W.Frag, K.In h ∧ SaysH fa fn ex ds w K
  of := fun w s e => by
    have e1 : obB n fa fn ex s.heap.get? = (He.valD fn, true) := congrArg Prod.fst e
    have e3 : (ds.map (·.1)).map (fun x => kdH (He.frG s.heap.get? (He.asD s.heap.get? n)) (He.ga (He.frG s.heap.get? (He.asD s.heap.get? n)) x)) = ds.map fun p => p.2.map (keyH w) := congrArg Prod.snd e
    rw [List.map_map] at e3
    exact ⟨He.frG s.heap.get? (He.asD s.heap.get? n), He.frG_in, ⟨congrArg Prod.fst e1, congrArg Prod.snd e1⟩, fun p hp => List.map_inj_left.mp e3 p hp⟩
  keeps := fun _ _ _ ⟨K, hK, c⟩ k => ⟨K, PySem.W.Frag.In.keeps hK k, c⟩
theorem obH_eq {n : Nat} {fa : List He.Fa} {fn : List He.DefD} {ex : PySem.W.Frag → Bool} {ds : List (Str × List Key)} {g : Addr → Option Obj} {s : Shared} (h : ∀ a, g a = s.heap.get? a) : obH n fa fn ex (ds.map (·.1)) g = (hookH n fa fn ex ds).obs s := by
  have e : g = s.heap.get? := funext h
  rw [e] <;> rfl
end DL

set_option Elab.async false
set_option linter.all false
set_option maxRecDepth 100000
set_option maxHeartbeats 4000000
/-! The head, where it is told how many tokens the top has given out. -/
namespace PySem.W
open PySem PySem.Calls PyProof.Rows
/-- as the walk of an open law, tokens told -/
def WalkTk (n : Nat) (q : Program) (loose : List Str) (XP : (Str → Option Value) → Heap → Prop) (YP : World → Heap → Prop) (l : OpenLaw) (d : DefRec) : Prop :=
  ∀ (w : World) (s0 s1 : Shared) (mg mb : Str → Option Value) (fa : Addr) (o : Obj) (pm cd doc : Value) (a : Addr) (vs : List Value) (ns : List Int), n ≤ s1.toks → Ground q loose [] XP w s0 mg mb s1.heap → YP w s1.heap →
    s1.heap.get? fa = some o → o.data = .func (docDef d.name d.params d.body d.scope pm cd doc) → s1.heap.CodeRec cd d.name → mg d.name = some (.ref fa) → s1.heap.get? a = some { cls := .type "list", data := .seq vs.toArray } → IntsAre vs ns → l.most = some ns.length ∨ (∃ m, l.most = some m ∧ ns.length ≤ m) → s1.gens = #[] →
    codeAny (model l.prog w) callerA (.call (.ref fa) ⟨[.ref a], []⟩) (fun res s' => res = .ok (.ret (.bool true)) ∧ OldK s1.heap s'.heap ∧ s'.os = s1.os ∧ AllBare s'.gens) s1
theorem no_makers {r : RowW} (h : r.makers = []) : r.claim.makers = [] := by
  unfold RowW.claim
  simp only [h, List.map_nil]
theorem holds_tk {l : OpenLaw} {q : Program} {loose : List Str} {Xt : Shared → Bool} {XP : (Str → Option Value) → Heap → Prop} {α : Type} {Yf : Shared → α} {Ya : World → α} {YP : World → Heap → Prop} {d : DefRec} {N n m : Nat}
    (left : LeftO l.row.prog q loose Xt Yf Ya N) (hY : ∀ w s, Yf s = Ya w → YP w s.heap) (hN : ∀ w s, Yf s = Ya w → n ≤ s.toks) (hYk : ∀ w h h', YP w h → (∀ b o, h.get? b = some o → h'.get? b = some o) → YP w h')
    (hX : ∀ s, Xt s = true → XP (s.heap.nsMap mainGlobals) s.heap) (hXk : ∀ mg h h', XP mg h → (∀ b o, h.get? b = some o → h'.get? b = some o) → XP mg h') (hdef : defOf q l.row.name = some (d, [])) (hp : l.row.prog.theDef l.row.name = some (d.params, d.body, d.scope))
    (hk : kwWritten? d.params.kwonlyargs d.params.kw_defaults = some []) (hRf : ∀ s, Xt s = true → RecFacts l.row.records s.heap) (hwr : (!l.row.writes || l.row.records.isEmpty) = true) (k1 : l.row.wellSaid = true) (ok : (chainsOk q && opensWell l.row.prog && (frees l.row.toRowW && l.row.within.isEmpty)) = true)
    (hb : l.row.prog.bare) (hw : l.row.toRowW.promised) (hmost : l.most = some m) (hdf : d.params.defaults = []) (hre : l.row.records = []) (call : WalkTk n q loose XP YP l d) : l.row.Holds := by
  refine ⟨k1, hw, ?_⟩
  obtain ⟨c1, c2⟩ := Bool.and_eq_true_iff.mp ok
  obtain ⟨hch, c3⟩ := Bool.and_eq_true_iff.mp c1
  obtain ⟨c4, c5⟩ := Bool.and_eq_true_iff.mp c2
  obtain ⟨hsame, hu, ha, hap, hm⟩ := frees_parts c4
  refine ⟨⟨hb, c3, no_makers hm⟩, hw.witness, fun w => ⟨(left.behind hX hch w).1, fun sB runB => ?_⟩⟩
  have lb := (left.behind (XP := fun mg h => XP mg h ∧ RecFacts l.row.records h) (fun s hs => ⟨hX s hs, hRf s hs⟩) hch w).2 sB runB
  obtain ⟨sF, fen, gF, sT, ran, asl, noG, nsG, gr, yy⟩ := lb
  have gr0 : Ground q loose [] XP w sT (sT.heap.nsMap mainGlobals) (sT.heap.nsMap builtinsNs) sT.heap := ⟨gr.T, gr.B, gr.D, gr.TE, gr.TD, gr.W, gr.X.1, gr.cls, gr.has, gr.apart, gr.once, gr.K⟩
  have rf := gr.X.2
  refine ⟨sF, fen, gF, sT, ran, (fun nm hnm => ?_), rf.1, rf.2.1, ?_⟩
  · obtain rfl : nm = l.row.name := by split at hnm <;> simp_all
    exact pinned_of_view nsG gr0 hdef hp hk
  have noG' : sT.gens = #[] := Array.eq_empty_of_size_eq_zero (beq_iff_eq.mp noG)
  have grR : Ground q loose l.row.records XP w sT _ _ sT.heap := rf.ground gr0
  refine ClaimW.callFrom_of_specG (c := l.row.toRowW.claim) asl noG' fun args hpre hlay ord hord => ?_
  obtain ⟨⟨vs, s1⟩, laid⟩ := Option.isSome_iff_exists.mp (layAllW_isSome (P := w.params) (ord := ord) grR.has args l.row.toRowW.args sT (pre_splitW hpre).1)
  have kps := layAllW_keeps _ _ _ laid
  have rest := layAllW_rest _ _ _ laid
  have grows := layAllW_grows _ _ _ laid
  obtain ⟨as, hrd, hin, hold⟩ := reads_layAllW hord _ _ _ laid hlay s1.heap (fun _ _ e => e)
  have L : Laid l.row.records w sT s1 args vs as := ⟨⟨ord, hord, laid⟩, hrd, hin, hold, kps, rest.1.trans noG', rest.2.2.1⟩
  have gr1 := grR.keeps hXk kps
  obtain ⟨fa, o, pm, cd, doc, dV, kV, h1, h2, h3, h4, h5⟩ := gr1.fn hdef
  obtain rfl : dV = .none := Dflts.none h5 hdf
  obtain rfl : kV = .none := Dflts.noKw h5
  obtain ⟨a, us, ns, rfl, rfl, hobj, hints, hlen⟩ := Att.script_of hmost hpre L.well
  have hcall := call w sT s1 _ _ fa o pm cd doc a us ns (Nat.le_trans (hN w sT yy) grows.toks) (by rw [hre] at gr1; exact gr1) (hYk _ _ _ (hY w sT yy) kps) h2 (fd_plain h3) h4 (defOf_name hdef ▸ h1) hobj hints (.inr ⟨m, hmost, hlen⟩) L.gens
  have hi := ident_freeW hu ha hap
  have hwi : l.row.toRowW.claim.within = [] := List.isEmpty_iff.mp c5
  have good : wpAny (model l.row.prog w) callerA (PySem.call (.ref fa) [.ref a]) (fun v s' => GoodWG l.row.toRowW.claim (classAt sT.heap) (ExcName.means sT.heap) [WData.list (ns.map WData.int)] s1 (.ok (.ret v)) s')
      (fun e s' => GoodWG l.row.toRowW.claim (classAt sT.heap) (ExcName.means sT.heap) [WData.list (ns.map WData.int)] s1 (.error e) s') s1 :=
    enter_call (codeAny_mono hcall fun res s' hq => by
      obtain ⟨rfl, z2, z3, z4⟩ := hq
      exact ⟨.inl ⟨.bool true, .bool true, [], rfl, fun _ => rfl, .bool true, Att.post_true l _, fun _ => ⟨List.Pairwise.nil, fun _ hm => (nomatch hm)⟩⟩, z2, z3, z4⟩)
  refine ⟨[.ref a], s1, laid, ?_⟩
  refine wpAny_bind (wpAny_nsGet gr1.T.g ?_)
  rw [h1]
  refine wpAny_bind (wpAny_mono good (fun v s' g => wpAny_pure ?_) fun e s' g => ?_)
  · have z := g.laid (c := l.row.toRowW.claim) hsame hwi hi L
    exact ⟨_, rfl, z.1, z.2.1, z.2.2, fun hq => ⟨namesKept_of ran nsG _ kps g.2.1.old, noTable hwr hq⟩⟩
  · have z := g.laid (c := l.row.toRowW.claim) hsame hwi hi L
    exact ⟨z.1, z.2.1, z.2.2, fun hq => ⟨namesKept_of ran nsG _ kps g.2.1.old, noTable hwr hq⟩⟩
end PySem.W

set_option Elab.async false
set_option linter.all false
set_option maxRecDepth 100000
set_option maxHeartbeats 4000000
/-! Rules for a state of at least n tokens (a text that the top has written is then not the one made now). -/
namespace DL
open PySem PySem.Spec PyProof.Rows L2
section
variable {α : Type} {M : Model} {A : Around} {n : Nat} {s : Shared} {t : Sem α} {Q Q' : α → Shared → Prop} {E : Value → Shared → Prop}
theorem thnT (hn : n ≤ s.toks) (h : wpAny M A t Q E s) (k : ∀ a s', n ≤ s'.toks → Q a s' → Q' a s') : wpAny M A t Q' E s := wpAny_mono (wpAny_toks_of hn h) (fun a s' q => k a s' q.1 q.2) fun _ _ z => z.2
theorem thnFT (hn : n ≤ s.toks) (h : wpAny M A t Q (fun _ _ => False) s) (k : ∀ a s', n ≤ s'.toks → Q a s' → Q' a s') : wpAny M A t Q' E s := wpAny_mono (wpAny_toks_of hn h) (fun a s' q => k a s' q.1 q.2) fun _ _ z => z.2.elim
end
structure PEN (n : Nat) (X : Cx) (e : Expr) (t : TE) : Prop where
  run : ∀ (pins : List (Addr × Obj)) (s : Shared) (σ : L2.St) (H : Hp) (Q : VK), n ≤ s.toks → Inv X pins σ H s → t σ H Q → wpAny (model X.prog X.w) X.A (eval e X.env) (EP X pins σ Q) X.xe s
structure PAN (n : Nat) (X : Cx) (es : List Expr) (t : TA) : Prop where
  run : ∀ (pos : Pos) (pins : List (Addr × Obj)) (s : Shared) (σ : L2.St) (H : Hp) (Q : List V → Hp → Prop), n ≤ s.toks → Inv X pins σ H s → t σ H Q → wpAny (model X.prog X.w) X.A (spliced (backTo pos (starEach es X.env))) (AP X pins σ Q) X.xe s
structure PSN (n : Nat) (X : Cx) (st : Stmt) (t : TS) : Prop where
  run : ∀ (pins : List (Addr × Obj)) (s : Shared) (σ : L2.St) (H : Hp) (D : Ends), n ≤ s.toks → Inv X pins σ H s → t D σ H → wpAny (model X.prog X.w) X.A (exec st X.env) (SP X pins D) X.xe s
structure PSsN (n : Nat) (X : Cx) (st : List Stmt) (t : TS) : Prop where
  run : ∀ (pins : List (Addr × Obj)) (s : Shared) (σ : L2.St) (H : Hp) (D : Ends), n ≤ s.toks → Inv X pins σ H s → t D σ H → wpAny (model X.prog X.w) X.A (execs st X.env) (SP X pins D) X.xe s
structure PTN (n : Nat) (X : Cx) (e : Expr) (t : TT) : Prop where
  run : ∀ (pins : List (Addr × Obj)) (s : Shared) (σ : L2.St) (H : Hp) (Q : Bool → Hp → Prop), n ≤ s.toks → Inv X pins σ H s → t σ H Q → wpAny (model X.prog X.w) X.A (isTrue e X.env (eval e X.env)) (TP X pins σ Q) X.xe s
section
variable {n : Nat} {X : Cx} {e f o : Expr} {es : List Expr} {st : Stmt} {sts rest : List Stmt} {te tf to : TE} {ta : TA} {tt : TT} {t u : TS} {pos : Pos}
theorem PEN.of (h : PE X e te) : PEN n X e te := ⟨fun pins s σ H Q _ I q => h.run pins s σ H Q I q⟩
theorem PAN.of (h : PA X es ta) : PAN n X es ta := ⟨fun po pins s σ H Q _ I q => h.run po pins s σ H Q I q⟩
theorem PSN.of (h : PS X st t) : PSN n X st t := ⟨fun pins s σ H D _ I q => h.run pins s σ H D I q⟩
theorem PSsN.of (h : PSs X sts t) : PSsN n X sts t := ⟨fun pins s σ H D _ I q => h.run pins s σ H D I q⟩
theorem PTN.of (h : PT X e tt) : PTN n X e tt := ⟨fun pins s σ H Q _ I q => h.run pins s σ H Q I q⟩
theorem PEN.imp {t' : TE} (h : PEN n X e te) (w : ∀ σ H Q, t' σ H Q → te σ H Q) : PEN n X e t' := ⟨fun pins s σ H Q hn I q => h.run pins s σ H Q hn I (w _ _ _ q)⟩
theorem PAN.imp {t' : TA} (h : PAN n X es ta) (w : ∀ σ H Q, t' σ H Q → ta σ H Q) : PAN n X es t' := ⟨fun po pins s σ H Q hn I q => h.run po pins s σ H Q hn I (w _ _ _ q)⟩
theorem PSN.imp {t' : TS} (h : PSN n X st t) (w : ∀ D σ H, t' D σ H → t D σ H) : PSN n X st t' := ⟨fun pins s σ H D hn I q => h.run pins s σ H D hn I (w _ _ _ q)⟩
theorem PSsN.imp {t' : TS} (h : PSsN n X sts t) (w : ∀ D σ H, t' D σ H → t D σ H) : PSsN n X sts t' := ⟨fun pins s σ H D hn I q => h.run pins s σ H D hn I (w _ _ _ q)⟩
theorem PTN.imp {t' : TT} (h : PTN n X e tt) (w : ∀ σ H Q, t' σ H Q → tt σ H Q) : PTN n X e t' := ⟨fun pins s σ H Q hn I q => h.run pins s σ H Q hn I (w _ _ _ q)⟩
theorem pen_op {op : Operator} {r : R2} (ho : OpR X (binaryOp op) r) (ha : PEN n X e te) (hb : PEN n X f tf) : PEN n X (.BinOp e op f pos) (tOp r te tf) :=
  ⟨fun pins s σ H Q hn I h => wpAny_BinOp (thnT hn (ha.run pins s σ H _ hn I h) fun v s1 hn1 ⟨x, H1, I1, r1, q1⟩ => thn (hb.run pins s1 σ H1 _ hn1 I1 q1) fun w s2 ⟨y, H2, I2, r2, q2⟩ => ho pins s2 σ H2 x y v w Q I2 r1 r2 q2)⟩
theorem psn_ret (he : PEN n X e te) : PSN n X (.Return (some e) pos) (tRet te) := ⟨fun pins s σ H D hn I h => wpAny_Return_some (thn (he.run pins s σ H _ hn I h) fun v s1 ⟨x, H1, I1, r1, q1⟩ => ⟨x, σ, H1, I1, r1, q1⟩)⟩
theorem pssn_cons (h1 : PSN n X st t) (h2 : PSsN n X rest u) : PSsN n X (st :: rest) (tSeq t u) := ⟨fun pins s σ H D hn I h => by
  refine wpAny_execs_cons (thnT hn (h1.run pins s σ H { D with nx := u D } hn I h) fun fl s1 hn1 q => ?_)
  cases fl with
  | next => exact let ⟨σ1, H1, I1, q1⟩ := q; h2.run pins s1 σ1 H1 D hn1 I1 q1
  | ret v => exact q
  | brk => exact q
  | cont => exact q⟩
theorem pssn_one (h1 : PSN n X st t) : PSsN n X [st] t := ⟨fun pins s σ H D hn I h => (pssn_cons h1 (PSsN.of (n := n) pss_nil)).run pins s σ H D hn I h⟩
theorem psn_if {a b : List Stmt} (hc : PTN n X e tt) (ha : PSsN n X a t) (hb : PSsN n X b u) : PSN n X (.If e a b pos) (tIfS tt t u) := ⟨fun pins s σ H D hn I h => by
  refine wpAny_If (thnT hn (hc.run pins s σ H _ hn I h) fun d s1 hn1 ⟨H1, I1, q1⟩ => ?_)
  cases d with
  | true => exact ha.run pins s1 σ H1 D hn1 I1 q1
  | false => exact hb.run pins s1 σ H1 D hn1 I1 q1⟩
theorem psn_set {i : Nat} {x : Str} {pos' : Pos} (hN : X.N.Nodup) (hi : X.N[i]? = some x) (hx : Loc X.env.scope x) (he : PEN n X e te) (hs : swapsWith e (some (.Name x pos')) pos.line X.env = pure false := by rfl) (hf : X.fn x = true ∨ X.env.scope.names.lookup x = some .local := by first | exact .inl rfl | exact .inr rfl | assumption) :
    PSN n X (.Assign [.Name x pos'] e pos) (tAsg te (gName i)) :=
  ⟨fun pins s σ H D hn I h => wpAny_Assign_Name (thn (he.run pins s σ H _ hn I h) fun v s1 ⟨y, H1, I1, r1, q1⟩ => store_ok I1 hN hi hx r1 (fun s2 I2 => ⟨_, H1, I2, q1⟩) hf) hs⟩
theorem pan_nil : PAN n X [] tNil := PAN.of pa_nil
theorem pan_cons (he : PEN n X e te) (hr : PAN n X es ta) (hs : starEach (e :: es) X.env = (false, eval e X.env) :: starEach es X.env := by rfl) : PAN n X (e :: es) (tCons te ta) := ⟨fun po pins s σ H Q hn I h => by
  rw [hs]
  show wpAny _ _ (spliced ((false, eval e X.env) :: backTo po (starEach es X.env))) _ _ s
  exact PySem.Calls.spliced_cons (thnT hn (he.run pins s σ H _ hn I h) fun v s1 hn1 ⟨x, H1, I1, r1, q1⟩ => thn (hr.run po pins s1 σ H1 _ hn1 I1 q1) fun us s2 ⟨xs, H2, I2, r2, q2⟩ => ⟨x :: xs, H2, I2, .cons r1 r2, q2⟩)⟩
theorem pen_bm {T : String} {name : Str} {id : String} {apos cpos : Pos} {r : V → List V → Hp → VK → Prop} (pa : PlainAttrs T) (slot : Slot T name id) (hty : typeOf (.builtin id) = pure (.type "method_descriptor")) (hm : MtR X id r) (ho : PEN n X o to) (ha : PAN n X (e :: es) ta)
    (hbase : attributeBase o name X.env (eval o X.env) = eval o X.env := by rfl)
    (hfew : ((backTo cpos (starEach (e :: es) X.env)).all (fun x => !x.1) && (backToKw cpos (keywordEach [] X.env)).all (fun x => x.1.isSome)
      && decide ((e :: es).length + ([] : List Keyword).length + (if ([] : List Keyword).isEmpty then 0 else 1) < 30)) = true := by rfl)
    (hline : (apos.endLine == cpos.line) = true := by rfl) (hs : starEach (e :: es) X.env = (false, eval e X.env) :: starEach es X.env := by rfl) (hplain : (backTo cpos (starEach es X.env)).any (·.1) = false := by rfl) :
    PEN n X (.Call (.Attribute o name apos) (e :: es) [] cpos) (tBM X.K T r to ta) := ⟨fun pins s σ H Q hn I h => by
  refine wpAny_Call_method_late hbase hfew hline rfl (thnT hn (ho.run pins s σ H _ hn I h) fun v s1 hn1 ⟨x, H1, I1, r1, ty, q1⟩ => ?_)
  obtain ⟨h1, h2⟩ := tyV_is I1 r1 ty
  refine ⟨T, id, pa, slot, hty, h1, h2, ?_⟩
  have hA := ha.run cpos pins s1 σ H1 _ hn1 I1 q1
  rw [hs] at hA ⊢
  exact Calls.callWith_builtin (by show (false || (backTo cpos (starEach es X.env)).any (·.1)) = false; rw [hplain] <;> rfl) (Calls.evalArgs_plain (thn hA fun us s2 ⟨vs, H2, I2, r2, q2⟩ => hm pins s2 σ H2 x vs v us Q I2 r1 r2 q2))⟩
end
/-! ### text.replace(A, A + A), A a text of the module's top -/
section
variable {n : Nat} {X : Cx} {o : Expr} {to : TE} {p1 p2 p3 p4 apos cpos : Pos}
theorem pen_replAA {x y : Str} {t : Tok} (hm : X.mg x = some (.str y t)) (ht : t ≠ 0) (hlt : t < n) (hy : (y == y ++ y) = false) (hl : (y.length == 0) = false) (hz : y.length + y.length ≤ 1000) (ho : PE X o to) (hg : Gl X x := by rfl) (hdb : (x == ("__debug__" : Str)) = false := by decide)
    (hst : starEach [.Name x p1, .BinOp (.Name x p2) .Add (.Name x p3) p4] X.env = [(false, eval (.Name x p1) X.env), (false, eval (.BinOp (.Name x p2) .Add (.Name x p3) p4) X.env)] := by rfl)
    (hbase : attributeBase o "replace" X.env (eval o X.env) = eval o X.env := by rfl) (hline : (apos.endLine == cpos.line) = true := by rfl) :
    PEN n X (.Call (.Attribute o "replace" apos) [.Name x p1, .BinOp (.Name x p2) .Add (.Name x p3) p4] [] cpos) (CwR.tReplC to y (y ++ y)) := ⟨fun pins s σ H Q hn I h => by
  refine PySem.Call_method2 hbase hst hline (thnT hn (ho.run pins s σ H _ I h) fun v s1 hn1 ⟨v', H1, I1, r1, z, e1, hb, q⟩ => ?_)
  subst e1
  obtain ⟨tx, e2⟩ := r1
  subst e2
  refine ⟨"str", _, PySem.F.plainAttrs_str, PySem.F.slot_str_replace, PySem.F.type_str_replace, typeIs_str _ _ _, (fun _ e => nomatch e), Calls.callWith_builtin rfl (Calls.evalArgs_plain (Calls.spliced_cons ?_))⟩
  refine ld_glob I1 hg hm ?_ hdb
  refine Calls.spliced_cons (wpAny_BinOp (ld_glob I1 hg hm (ld_glob I1 hg hm ?_ hdb) hdb))
  refine PySem.P.add_str ?_
  rw [hl]
  simp only [Bool.false_eq_true, if_false]
  refine ⟨?_, Calls.spliced_nil ?_⟩
  · have e := len_tl (y ++ y)
    rw [tl_app, List.length_append, ← len_tl] at e
    have : sizeLine = 16777216 := sizeLine_eq
    show (y ++ y).length ≤ sizeLine
    omega
  · exact PySem.SC.replace ht (Nat.ne_of_gt (Nat.lt_of_le_of_lt (Nat.zero_le t) (Nat.lt_of_lt_of_le hlt hn1))) (Nat.ne_of_lt (Nat.lt_of_lt_of_le hlt hn1)) hy hb fun t' k => ⟨.str (Txt.replace z y (y ++ y)), H1, I1.tok k, ⟨t', rfl⟩, q⟩⟩
end
/-! ### a def, where n tokens are out; called -/
structure FnTk (Ok : Around → Prop) (n : Nat) (P : Program) (w : World) (K : PySem.W.Frag) (mg : Str → Option Value) (base : Heap) (CX : CXT) (k : Nat) (f : Addr) (fd : FuncData) (ps : List Str) (sp : Sp) : Prop where
  len : ∀ vs H Q E, sp vs H Q E → vs.length = ps.length
  run : ∀ (A : Around) (outer : List Env) (s : Shared) (H : Hp) (args : Args) (us : List Value) (vs : List V) (Q : VK) (E : XK), Ok A → n ≤ s.toks → Room k A → Env0 P w K mg base A outer s H → BindsTo s fd args (ps.zip us) → Vals vs us → sp vs H Q E →
    codeAny (model P w) A (.call (.ref f) args) (CR CX outer P w H s Q E) s
theorem fnTk_of {Ok : Around → Prop} {n : Nat} {P : Program} {w : World} {K : PySem.W.Frag} {mg : Str → Option Value} {base : Heap} {CX : CXT} {k : Nat} {f : Addr} {name qual : Str} {params : Arguments} {body : List Stmt} {scope : Scope} {dV kV doc pm cdv ct oc : Value} {an od : Option Addr}
    {osl : Array (Option Value)} {N ps : List Str} {sp : Sp} (lk : K.lookup f = some ⟨oc, od, .func (PySem.W.fnOf name qual params body scope dV kV doc pm an cdv ct), osl⟩) (hcd : PySem.W.codeIn K cdv qual = true) (S : FnScope N ps scope)
    (len : ∀ vs H Q E, sp vs H Q E → vs.length = ps.length)
    (hbody : ∀ (A : Around) (outer : List Env) (s : Shared) (H : Hp) (vs : List V) (Q : VK) (E : XK), Ok A → Room k (A.deeper (envOfC qual scope s.heap.objs.size f cdv)) → sp vs H Q E →
      ∃ t, PSsN n (cxOf CX P w K mg base N qual scope f cdv A outer s H E) body t ∧ t { nx := fun _ H' => Q .non H', rt := Q } (L2.start N vs) H) :
    FnTk Ok n P w K mg base CX (k + 1) f (PySem.W.fnOf name qual params body scope dV kV doc pm an cdv ct) ps sp := by
  refine ⟨len, fun A outer s H args us vs Q E hA hn hr e0 hb r hsp => ?_⟩
  have KX : K.In s.heap := e0.mod.kin.keeps fun b o e => (e0.bs b o e).1
  have lim : s.heap.NoLimit := e0.mod.nolimit.keeps fun b o e => (e0.bs b o e).1
  refine codeAny_call_function hr.depth (KX _ _ lk) rfl S.co S.gen rfl (PySem.W.codeRec_of KX hcd) (hb _ _ _ _ (wpAny_with_toks hn (wpAny_newFunctionEnv_cells S.kind (fun ⟨y, v⟩ hy => ?_) fun env he s1 x => ?_)))
  · rcases S.par y (List.of_mem_zip hy).1 with q | q
    · exact .inl q
    · exact .inr ⟨q, PySem.W.cellsFrom_some _ _ _ (.inl q)⟩
  · subst he
    intro hn1
    refine ⟨lim.keeps x.toInCall.keep, codeAny_func ?_⟩
    obtain ⟨t, ht, hq⟩ := hbody A outer s H vs Q E hA (hr.deeper _) hsp
    refine wpAny_mono (ht.run [] s1 (L2.start N vs) H _ hn1 (inv_start S hr.hd e0 (len _ _ _ _ hsp) r x) hq) (fun fl s' hs => ?_) fun e s' hs => hs
    cases fl with
    | ret u =>
      obtain ⟨v, σ', H', J, rv, q⟩ := hs
      exact ⟨v, H', J.os, J.bare, J.base, J.hok, rv, q⟩
    | next =>
      obtain ⟨σ', H', J, q⟩ := hs
      exact ⟨.non, H', J.os, J.bare, J.base, J.hok, rfl, q⟩
    | brk =>
      obtain ⟨_, _, _, q⟩ := hs
      exact False.elim q
    | cont =>
      obtain ⟨_, _, _, q⟩ := hs
      exact False.elim q
def anyA : Around → Prop := fun _ => True
section
variable {n : Nat} {X : Cx} {Ok : Around → Prop} {CX : CXT} {k : Nat} {f : Addr} {fd : FuncData} {ps : List Str} {sp : Sp} {E : L2.St → XK} {x : Str} {p pos : Pos} {e : Expr} {es : List Expr} {t : TA}
theorem run_fnTk {pins : List (Addr × Obj)} {σ : L2.St} {H : Hp} {s : Shared} {Q : VK} {us : List Value} {vs : List V} (F : FnTk Ok n X.prog X.w X.K X.mg X.base CX k f fd ps sp) (hA : Ok X.A) (hn : n ≤ s.toks) (hr : Room k X.A) (hb : Binds X.K fd ps []) (hx : PassesAt CX X σ (E σ))
    (I : Inv X pins σ H s) (r : Vals vs us) (h : sp vs H Q (E σ)) : wpAny (model X.prog X.w) X.A (call (.ref f) us) (EP X pins σ Q) X.xe s := by
  have hl : us.length = ps.length := by rw [← r.length]; exact F.len _ _ _ _ h
  have b := hb s us I.kIn (by rw [List.append_nil]; exact hl)
  rw [List.append_nil] at b
  refine wpAny_call (codeAny_mono (F.run X.A X.stack s H ⟨us, []⟩ us vs Q (E σ) hA hn hr I.env0 b r h) fun res s' hq => ?_)
  cases res with
  | error e => exact hx pins H s e s' I hq
  | ok fl =>
    cases fl with
    | ret u => exact I.after hq
    | next => exact False.elim hq
    | brk => exact False.elim hq
    | cont => exact False.elim hq
theorem pen_call (F : FnTk Ok n X.prog X.w X.K X.mg X.base CX k f fd ps sp) (hA : Ok X.A) (hr : Room k X.A) (hg : Gl X x) (hm : X.mg x = some (.ref f)) (hk : PySem.W.keepIn X.K (.ref f) = true) (hb : Binds X.K fd ps []) (hx : ∀ σ, PassesAt CX X σ (E σ))
    (ha : PAN n X (e :: es) t) (hdb : (x == ("__debug__" : Str)) = false := by decide) (he : starEach (e :: es) X.env = (false, eval e X.env) :: starEach es X.env := by rfl) (hpl : (backTo pos (starEach es X.env)).any (·.1) = false := by rfl) :
    PEN n X (.Call (.Name x p) (e :: es) [] pos) (tCallS sp E t) := by
  refine ⟨fun pins s σ H Q hn I h => ?_⟩
  refine wpAny_Call_Name_kw (ld_glob I hg hm ?_ hdb)
  exact PySem.W.callWith_K (h₀ := X.base) I.ok.mod.kin hk (thnT hn (ha.run pos pins s σ H _ hn I h) fun us s1 hn1 ⟨vs, H1, I1, r, q⟩ => ⟨I1.kIn, run_fnTk F hA hn1 hr hb (hx σ) I1 r q⟩) he hpl
end
/-! ### [elt for tg in iter if ..] -/
section
variable {n : Nat} {X : Cx} {elt tg iter : Expr} {ifs : List Expr} {scope : Scope} {own : List (Str × Nat)} {pos : Pos} {wi : TI} {g : TG} {tt : TT} {te : TE}
theorem pen_lc (hc : X.calm = true) (hN : X.N.Nodup) (hi : PI X tg iter wi) (ok : BlkOk X.N X.env.scope scope own)
    (hg : ∀ (s : Shared) (H : Hp) (C : Addr) (cl : List (Str × Addr)) (fp : List Addr), PG (X.blk s H scope (compEnvC scope cl C X.env) fp) tg g) (ht : ∀ (s : Shared) (H : Hp) (C : Addr) (cl : List (Str × Addr)) (fp : List Addr), PTs (X.blk s H scope (compEnvC scope cl C X.env) fp) ifs tt)
    (he : ∀ (s : Shared) (H : Hp) (C : Addr) (cl : List (Str × Addr)) (fp : List Addr), PEN n (X.blk s H scope (compEnvC scope cl C X.env) fp) elt te) (hs : ∀ x, foldedSetIterable iter X.env x = pure x := by intro _; rfl) :
    PEN n X (.ListComp elt [⟨tg, iter, ifs, 0⟩] scope pos) (tLc wi g tt te (own.map (·.2))) := by
  refine ⟨fun pins s σ H Q hn I h => ?_⟩
  rw [eval_ListComp]
  have clo : ∀ y ∈ scope.names, y.2 = .free → ∃ c, X.env.cells.lookup y.1 = some c := fun y hy e => (ok.free y hy e).elim (fun k => I.ok.has _ (.inl k)) fun k => I.ok.has _ (.inr k)
  refine wpAny_comprehension_free (use := none) rfl hs (closure_ok clo) ok.kind (fun y hy e => by rw [ok.uniq y hy, e]) (thnT hn (hi.run pins s σ H _ I h) fun xv sa hna hx => thnT hna hx fun itv sb hnb hb => ?_)
  obtain ⟨it, fp, tn, J, Hb, rfl, Ib, T, stb, fb, q⟩ := hb
  refine wpAny_newObj_type (newEnv_comp ?_) (by show 0 ≤ sizeLine; decide)
  -- the list under way, at D
  obtain ⟨D, eD⟩ : ∃ D, sb.heap.objs.size = D := ⟨_, rfl⟩
  rw [eD]
  have freeD : Hb D = none := Ib.hok.fresh (Nat.le_of_eq eD)
  obtain ⟨W, ⟨m0, w0⟩, turn⟩ := q D freeD
  generalize esc : ({ sb with heap := sb.heap.push { cls := .type "list", data := .seq ([] : List Value).toArray } } : Shared) = sc
  have hnc : n ≤ sc.toks := by rw [← esc]; exact hnb
  have hpc : sc.heap = sb.heap.push { cls := .type "list", data := .seq ([] : List Value).toArray } := by rw [← esc]
  have Ic : Inv X pins σ (upd Hb D (.lst [])) sc := by
    rw [← esc]
    refine Ib.laid (t' := sb.toks) (fun b o e => Heap.get?_push_of_some _ e) (Nat.le_of_eq eD) ⟨Nat.zero_le _, [], 0, .nil, ?_⟩
    exact eD ▸ Heap.get?_push_size _ rfl
  have ltb : ∀ b ∈ fp, b < sb.heap.objs.size := fun b hb => let ⟨_, e, _⟩ := T.obj _ _ stb b hb; Heap.lt_size e
  have fc : ∀ b ∈ fp, FpOk X pins (upd Hb D (.lst [])) b ∧ b < sc.heap.objs.size := fun b hb => ⟨⟨(upd_ne (eD ▸ Nat.ne_of_lt (ltb b hb))).trans (fb b hb).1, (fb b hb).2⟩, by rw [hpc, Heap.size_push]; exact Nat.lt_succ_of_lt (ltb b hb)⟩
  have stc : tn 0 sc.heap := T.keep _ _ _ stb fun b _ o e => by rw [hpc]; exact Heap.get?_push_of_some _ e
  have Id := block_start Ic ok hN fc
  have pg := hg sc (upd Hb D (.lst [])) sc.heap.objs.size (cellsFrom (sc.heap.objs.size + 1) scope.names (cloFrom X.env.cells scope.names [])) fp
  have pt := ht sc (upd Hb D (.lst [])) sc.heap.objs.size (cellsFrom (sc.heap.objs.size + 1) scope.names (cloFrom X.env.cells scope.names [])) fp
  have pe := he sc (upd Hb D (.lst [])) sc.heap.objs.size (cellsFrom (sc.heap.objs.size + 1) scope.names (cloFrom X.env.cells scope.names [])) fp
  have nofp : ∀ b ∈ fp, (upd Hb D (.lst [])) b = none := fun b hb => (fc b hb).1.1
  have eL : (compEnvC scope (cellsFrom (sc.heap.objs.size + 1) scope.names (cloFrom X.env.cells scope.names [])) sc.heap.objs.size X.env).locals = sc.heap.objs.size := rfl
  show codeAny _ _ (.compStart (.ListComp elt [⟨tg, iter, ifs, 0⟩] scope pos) 0 (.ref it) (.ref D) (compEnvC scope (cellsFrom (sc.heap.objs.size + 1) scope.names (cloFrom X.env.cells scope.names [])) sc.heap.objs.size X.env)) (compPost (model X.prog X.w) X.A X.xe none _ (.ref D) sc.heap.objs.size) { sc with heap := pushCells (sc.heap.push { cls := .type "dict", data := .dict #[] }) scope.names }
  generalize compEnvC scope (cellsFrom (sc.heap.objs.size + 1) scope.names (cloFrom X.env.cells scope.names [])) sc.heap.objs.size X.env = ce at Id pg pt pe eL ⊢
  generalize upd Hb D (.lst []) = Hc at Ic Id pg pt pe w0 nofp fc
  obtain ⟨sd, esd⟩ : ∃ sd : Shared, ({ sc with heap := pushCells (sc.heap.push { cls := .type "dict", data := .dict #[] }) scope.names } : Shared) = sd := ⟨_, rfl⟩
  have hnd : n ≤ sd.toks := by rw [← esd]; exact hnc
  rw [esd] at Id ⊢
  have std : tn 0 sd.heap := T.keep _ _ _ stc fun b _ o e => by rw [← esd]; exact pushCells_keeps _ _ _ _ (Heap.get?_push_of_some _ e)
  have still : ∀ {σ' : L2.St} {H' : Hp} {s' : Shared}, Inv (X.blk sc Hc scope ce fp) [] σ' H' s' → (∀ b ∈ fp, H' b = none) → ∀ b ∈ fp, FpOk (X.blk sc Hc scope ce fp) [] H' b := fun {σ' H' s'} I' hz b hb =>
    ⟨hz b hb, (I'.ok.exf b hb).1, I'.ok.exfs b hb, .inl hb, fun x c e => (I'.ok.exf b hb).2 x c e, fun p hp => absurd (show p ∈ ([] : List (Addr × Obj)) ++ [] from hp) (by simp)⟩
  refine codeAny_compStart_list (?loop) (T.self X.A 0 _ _ _ std ?loop)
  case loop =>
    refine compLoop_any (fun m s' => n ≤ s'.toks ∧ ∃ i H', Inv (X.blk sc Hc scope ce fp) [] (wipe σ (own.map (·.2))) H' s' ∧ tn i s'.heap ∧ (∀ b ∈ fp, H' b = none) ∧ W i m H') ?_ m0 ⟨hnd, 0, Hc, Id, std, nofp, w0⟩
    rintro m se ⟨hne, i, He, Ie, ste, nfe, we⟩
    rcases turn i m He we with ⟨stop, qq⟩ | ⟨go, Nx, hNx, step⟩
    · refine thnF (T.done (X.blk sc Hc scope ce fp) rfl rfl rfl hc i [] se _ He (fun _ _ => False) Ie (still Ie nfe) ste stop) fun r sf ⟨hr, If⟩ => ?_
      subst hr
      have Ig : Inv X pins σ He sf := Ic.call' (ch := fp) If.os If.base If.hok If.bare fun b hb => ⟨(fc b hb).1.2.2.2.1, (fc b hb).1.2.1, (fc b hb).1.2.2.2.2.1, (fc b hb).1.2.2.2.2.2⟩
      have nC : He sc.heap.objs.size = none := eL ▸ (show He ce.locals = none from If.free)
      obtain ⟨mp, hns, _⟩ := If.loc
      have hns : sf.heap.Ns ce.locals mp := hns
      rw [eL] at hns
      obtain ⟨f0, f1, f2, f3, f4, f5⟩ := Ic.fpOk (Nat.le_refl _) nC
      exact ⟨mp, hns, fun h'' sbut => ⟨.ref D, He, Ig.turned (t' := sf.toks) (fun b o hb e => (sbut.2 b hb).trans e) f0 f1 f3 f4 f5, rfl, qq⟩⟩
    · refine thnFT hne (T.item (X.blk sc Hc scope ce fp) rfl rfl rfl hc i [] se _ He (fun _ _ => False) Ie (still Ie nfe) ste go) fun r sf hnf ⟨u, hr, hf⟩ => ?_
      subst hr
      refine thnFT hnf hf fun _ sg hng ⟨x, Hg, Ig, rg, yg, stg, nfg⟩ => ?_
      have Ig2 := Ig.pinned (still Ig nfg) (T.obj _ _ stg)
      refine thnFT hng (pg.run _ sg _ Hg x u _ Ig2 rg (step x Hg yg)) fun _ sh hnh ⟨σh, Hh, Ih, wh, qh⟩ => ?_
      refine thnFT hnh (pt.run _ sh σh Hh _ Ih qh) fun b si hni ⟨Hi, Ii, qi⟩ => ?_
      have again : ∀ {s' : Shared} {H' : Hp}, n ≤ s'.toks → Inv (X.blk sc Hc scope ce fp) ([] ++ pinsAt fp sg.heap) σh H' s' → Nx H' → ∃ m', m' < m ∧ n ≤ s'.toks ∧ ∃ i H', Inv (X.blk sc Hc scope ce fp) [] (wipe σ (own.map (·.2))) H' s' ∧ tn i s'.heap ∧ (∀ b ∈ fp, H' b = none) ∧ W i m' H' := fun {s' H'} hn' I' nx => by
        obtain ⟨m', hm, w'⟩ := hNx H' nx
        have pin' : ∀ b ∈ fp, ∀ o, sg.heap.get? b = some o → s'.heap.get? b = some o ∧ H' b = none := fun b hb o e => let z := I'.pin (b, o) (List.mem_append_right _ (List.mem_append_right _ (mem_pinsAt hb e))); ⟨z.1, z.2.1⟩
        have hl : (wipe σ (own.map (·.2))).length = σh.length := by rw [← wh, wipe_length]
        exact ⟨m', hm, hn', i + 1, H', (I'.unpinned (pins := [])).weak hl (fun j v e => by rw [← wh] at e; exact (wipe_some e).1), T.keep _ _ _ stg fun b hb o e => (pin' b hb o e).1, fun b hb => let ⟨o, e, _⟩ := T.obj _ _ stg b hb; (pin' b hb o e).2, w'⟩
      cases b with
      | false =>
        simp only [Bool.false_eq_true, if_false] at qi ⊢
        exact again hni Ii qi
      | true =>
        simp only [if_true] at qi ⊢
        refine thnFT hni (pe.run _ si σh Hi _ hni Ii qi) fun z sj hnj ⟨yv, Hj, Ij, rj, acc, hDj, hzj, nx⟩ => ?_
        exact wpAny_with_toks hnj (app_ok (X := X.blk sc Hc scope ce fp) Ij hDj hzj rj fun sk Ik hnk => again hnk Ik nx)
end
end DL

set_option Elab.async false
set_option linter.all false
set_option maxRecDepth 100000
set_option maxHeartbeats 4000000
/-! The same over data. -/
namespace DL
open PySem PySem.Spec PyProof.Rows L2
abbrev PDN (n : Nat) (A : Anc) (X : Cx) (e : Expr) (t : TEd) : Prop := PEN n X e (lE X.K A t)
abbrev PAdN (n : Nat) (A : Anc) (X : Cx) (es : List Expr) (t : TAd) : Prop := PAN n X es (lA X.K A t)
abbrev PTdN (n : Nat) (A : Anc) (X : Cx) (e : Expr) (t : TTd) : Prop := PTN n X e (lT X.K A t)
abbrev PSdN (n : Nat) (A : Anc) (X : Cx) (st : Stmt) (t : TSd) : Prop := PSN n X st (lS X.K A t)
abbrev PSsdN (n : Nat) (A : Anc) (X : Cx) (st : List Stmt) (t : TSd) : Prop := PSsN n X st (lS X.K A t)
section
variable {n : Nat} {A : Anc} {X : Cx} {e f o : Expr} {es : List Expr} {st : Stmt} {sts rest : List Stmt} {te tf to : TEd} {ta : TAd} {tt : TTd} {t u : TSd} {g : TGd} {pos : Pos}
theorem PDN.of (h : PD A X e te) : PDN n A X e te := PEN.of h
theorem PAdN.of (h : PAd A X es ta) : PAdN n A X es ta := PAN.of h
theorem PTdN.of (h : PTd A X e tt) : PTdN n A X e tt := PTN.of h
theorem PSdN.of (h : PSd A X st t) : PSdN n A X st t := PSN.of h
theorem PSsdN.of (h : PSsd A X sts t) : PSsdN n A X sts t := PSsN.of h
theorem dopN {op : Operator} {r : R2d} (ho : OpD X (binaryOp op) r) (ha : PDN n A X e te) (hb : PDN n A X f tf) : PDN n A X (.BinOp e op f pos) (dOp r te tf) := (pen_op ho ha hb).imp fun _ _ _ h => lE_bin h
theorem danN : PAdN n A X [] dNil := PAN.of dan
theorem dacN (ha : PDN n A X e te) (hr : PAdN n A X es ta) (hs : starEach (e :: es) X.env = (false, eval e X.env) :: starEach es X.env := by rfl) : PAdN n A X (e :: es) (dCons te ta) := (pan_cons ha hr hs).imp fun _ _ _ h => lA_cons h
theorem dfrzN (h : PDN n A X e te) : PDN n A X e (dFrz te) := PEN.imp h fun σ H Q h => by
  obtain ⟨δ, s, Q', S, t, k⟩ := h
  refine ⟨δ, s, _, S, t, fun v H1 d s1 st1 rep1 dv q => ?_⟩
  obtain ⟨a, b, c⟩ := frz_ok rep1 dv
  exact k v H1 _ _ (st1.trans a) b c q
theorem dbmN {T : String} {name : Str} {id : String} {apos cpos : Pos} {r : DV → List DV → Sto → KD → Prop} (pa : PlainAttrs T) (slot : Slot T name id) (hty : typeOf (.builtin id) = pure (.type "method_descriptor")) (hm : MtR X id (lM X.K r)) (ho : PDN n A X o to) (ha : PAdN n A X (e :: es) ta)
    (hbase : attributeBase o name X.env (eval o X.env) = eval o X.env := by rfl)
    (hfew : ((backTo cpos (starEach (e :: es) X.env)).all (fun x => !x.1) && (backToKw cpos (keywordEach [] X.env)).all (fun x => x.1.isSome)
      && decide ((e :: es).length + ([] : List Keyword).length + (if ([] : List Keyword).isEmpty then 0 else 1) < 30)) = true := by rfl)
    (hline : (apos.endLine == cpos.line) = true := by rfl) (hs : starEach (e :: es) X.env = (false, eval e X.env) :: starEach es X.env := by rfl) (hplain : (backTo cpos (starEach es X.env)).any (·.1) = false := by rfl) :
    PDN n A X (.Call (.Attribute o name apos) (e :: es) [] cpos) (dBM T r to ta) := (pen_bm pa slot hty hm ho ha hbase hfew hline hs hplain).imp fun σ H Q h => by
  obtain ⟨δ, s, Q', S, t, k⟩ := h
  refine ⟨δ, s, _, S, t, fun v H1 d s1 st1 rep1 dv ⟨ty, q1⟩ => ⟨tyD_ok rep1 dv ty, ?_⟩⟩
  refine ⟨δ, s1, _, S.go st1 rep1, q1, fun vs H2 ds s2 st2 rep2 dvs q2 => ?_⟩
  exact ⟨d, ds, s2, _, rep2, dv.step st2 rep1, dvs, q2, fun v3 H3 d3 s3 st3 => k v3 H3 d3 s3 ((st1.trans st2).trans st3)⟩
theorem dscN (h1 : PSdN n A X st t) (h2 : PSsdN n A X rest u) : PSsdN n A X (st :: rest) (dSeq t u) := (pssn_cons h1 h2).imp fun D σ H h => by
  obtain ⟨δ, s, D', S, t, L⟩ := h
  exact ⟨δ, s, _, S, t, ⟨fun σ1 H1 δ1 s1 S1 q => ⟨δ1, s1, D', S1, q, L⟩, L.bk, L.ct, L.rt⟩⟩
theorem ds1N (h1 : PSdN n A X st t) : PSsdN n A X [st] t := pssn_one h1
theorem dsretT (he : PDN n A X e te) : PSdN n A X (.Return (some e) pos) (dRet te) := (psn_ret he).imp fun D σ H h => by
  obtain ⟨δ, s, D', S, t, L⟩ := h
  exact ⟨δ, s, _, S, t, fun v H2 d s2 st rep dv q => L.rt v H2 d s2 (S.stp.trans st) rep dv q⟩
theorem dsifN {a b : List Stmt} (hc : PTdN n A X e tt) (ha : PSsdN n A X a t) (hb : PSsdN n A X b u) : PSdN n A X (.If e a b pos) (dIfS tt t u) := (psn_if hc ha hb).imp fun D σ H h => by
  obtain ⟨δ, s, D', S, t, L⟩ := h
  refine ⟨δ, s, _, S, t, fun b H2 s2 st rep q => ?_⟩
  cases b with
  | true => rw [if_pos rfl]; exact ⟨δ, s2, D', S.go st rep, q, L⟩
  | false => rw [if_neg Bool.false_ne_true]; exact ⟨δ, s2, D', S.go st rep, q, L⟩
theorem dssetN {i : Nat} {x : Str} {pos' : Pos} (hN : X.N.Nodup) (hi : X.N[i]? = some x) (hx : Loc X.env.scope x) (he : PDN n A X e te) (hs : swapsWith e (some (.Name x pos')) pos.line X.env = pure false := by rfl)
    (hf : X.fn x = true ∨ X.env.scope.names.lookup x = some .local := by first | exact .inl rfl | exact .inr rfl | assumption) : PSdN n A X (.Assign [.Name x pos'] e pos) (dAsg te (gNameD i)) := (psn_set hN hi hx he hs hf).imp fun D σ H h => by
  obtain ⟨δ, s, D', S, t, L⟩ := h
  exact ⟨δ, s, _, S, t, fun v H2 d s2 st rep dv q => L.nx _ H2 _ s2 ⟨S.stp.trans st, rep, (S.env.step st S.rep).set dv i⟩ q⟩
/-- text.replace(C, C + C) -/
def kReplAA (y : Str) (Q : KD) (d : DV) (s1 : Sto) : Prop := match d with
  | .str z => z.length + (z.length + 1) * (y ++ y).length ≤ 16777216 ∧ Q (.str (Txt.replace z y (y ++ y))) s1
  | _ => False
def dReplAA (y : Str) (te : TEd) (δ : Ed) (s : Sto) (Q : KD) : Prop := te δ s (kReplAA y Q)
theorem dReplAA_q {y : Str} {te : TEd} {δ : Ed} {s : Sto} {Q : KD} : dReplAA y te δ s Q = te δ s (kReplAA y Q) := propext Iff.rfl
theorem kReplAA_q {y z : Str} {s : Sto} {Q : KD} : kReplAA y Q (.str z) s = (z.length + (z.length + 1) * (y ++ y).length ≤ 16777216 ∧ Q (.str (Txt.replace z y (y ++ y))) s) := propext Iff.rfl
/-- a text of the module's top, its token below n -/
structure TxTk (n : Nat) (mg : Str → Option Value) (x y : Str) : Prop where
  ex : ∃ t, mg x = some (.str y t) ∧ t ≠ 0 ∧ t < n
theorem dreplAA {x y : Str} {p1 p2 p3 p4 apos cpos : Pos} (hm : TxTk n X.mg x y) (ho : PD A X o to) (hy : (y == y ++ y) = false := by decide +kernel) (hl : (y.length == 0) = false := by decide +kernel) (hz : y.length + y.length ≤ 1000 := by decide +kernel) (hg : Gl X x := by rfl) (hdb : (x == ("__debug__" : Str)) = false := by decide)
    (hst : starEach [.Name x p1, .BinOp (.Name x p2) .Add (.Name x p3) p4] X.env = [(false, eval (.Name x p1) X.env), (false, eval (.BinOp (.Name x p2) .Add (.Name x p3) p4) X.env)] := by rfl)
    (hbase : attributeBase o "replace" X.env (eval o X.env) = eval o X.env := by rfl) (hline : (apos.endLine == cpos.line) = true := by rfl) :
    PDN n A X (.Call (.Attribute o "replace" apos) [.Name x p1, .BinOp (.Name x p2) .Add (.Name x p3) p4] [] cpos) (dReplAA y to) := by
  obtain ⟨t, hm, h0, hlt⟩ := hm.ex
  refine (pen_replAA hm h0 hlt hy hl hz ho hg hdb hst hbase hline).imp fun σ H Q h => ?_
  obtain ⟨δ, s0, Q', S, t, kk⟩ := h
  refine ⟨δ, s0, _, S, t, fun v H1 d s1 st1 rep1 dv q => ?_⟩
  cases d with
  | str x => cases dv; exact ⟨x, rfl, q.1, kk _ H1 _ s1 st1 rep1 (.str _) q.2⟩
  | _ => exact q.elim
/-- a list comprehension -/
theorem dlcN {tg iter elt : Expr} {ifs : List Expr} {scope : Scope} {own : List (Str × Nat)} {it : TId} {g : TG} {g' : TGd} {tt : TTd} {te : TEd} {sl : List Nat} (hc : X.calm = true) (hN : X.N.Nodup) (hi : PId A X tg iter it) (ok : BlkOk X.N X.env.scope scope own) (mg : GMono g) (hp : PatOk X.K g g' sl) (hsl : ∀ i ∈ sl, i ∈ own.map (·.2))
    (hg : ∀ (s : Shared) (H : Hp) (C : Addr) (cl : List (Str × Addr)) (fp : List Addr), PG (X.blk s H scope (compEnvC scope cl C X.env) fp) tg g)
    (ht : ∀ (s : Shared) (H : Hp) (C : Addr) (cl : List (Str × Addr)) (fp : List Addr), PTsd A (X.blk s H scope (compEnvC scope cl C X.env) fp) ifs tt)
    (he : ∀ (s : Shared) (H : Hp) (C : Addr) (cl : List (Str × Addr)) (fp : List Addr), PDN n A (X.blk s H scope (compEnvC scope cl C X.env) fp) elt te) (hs : ∀ x, foldedSetIterable iter X.env x = pure x := by intro _; rfl) :
    PDN n A X (.ListComp elt [⟨tg, iter, ifs, 0⟩] scope pos) (dLc it g' tt te (own.map (·.2))) := (pen_lc hc hN hi ok hg ht he hs).imp fun σ H Q h => by
  obtain ⟨δ, s, Q', S, t, k⟩ := h
  refine lc_run mg hp hsl S t fun D acc s1 H1 s2 H2 st1 hD st2 L q => ?_
  obtain ⟨a, b, c⟩ := L.lst st2 hD
  exact k _ H2 _ _ (st1.trans a) b c q
end
/-! ### defs -/
/-- a def that keeps a promise where n tokens are out -/
structure FnT (n : Nat) (P : Program) (w : World) (K : PySem.W.Frag) (mg : Str → Option Value) (base : Heap) (x : Str) (k : Nat) (ps : List Str) (sp : Spd) : Prop where
  ex : ∃ f fd, FnTk anyA n P w K mg base CX0 k f fd ps (lSp K sp) ∧ mg x = some (.ref f) ∧ PySem.W.keepIn K (.ref f) = true ∧ Binds K fd ps []
section
variable {n : Nat} {P : Program} {w : World} {K : PySem.W.Frag} {mg : Str → Option Value} {base : Heap}
theorem PSsN.nox {X : Cx} {st : List Stmt} {t : TS} (h : PSsN n X.nox st t) : PSsN n X st t := ⟨fun pins s σ H D hn I hw => wpAny_mono (h.run pins s σ H D hn (I.wish _) hw) (fun _ _ q => q.unwish) fun _ _ z => False.elim z⟩
theorem defOkT {Ok : Around → Prop} {x qual : Str} {st : Stmt} {f : Addr} {fd : FuncData} {N ps : List Str} {k : Nat} {sp : Spd} {t : TSd} (F : Fun K x qual st f fd) (S : FnScope N ps (defScope st)) (len : ∀ ds s Q E, sp ds s Q E → ds.length = ps.length)
    (hbody : ∀ (A : Anc) (cdv : Value) (Ar : Around) (outer : List Env) (s : Shared) (H : Hp) (E : XK), Ok Ar → Room k (Ar.deeper (envOfC qual (defScope st) s.heap.objs.size f cdv)) →
      PSsdN n A (cxOf CX0 P w K mg base N qual (defScope st) f cdv Ar outer s H E).nox (defBody st) t)
    (hread : ∀ ds s Q E, sp ds s Q E → t { nx := fun _ s => Q .non s, rt := Q } (startD N.length ds) s) : FnTk Ok n P w K mg base CX0 (k + 1) f fd ps (lSp K sp) := by
  obtain ⟨oc, od, kV, doc, pm, an, cdv, ct, osl, rfl, lk, hcd⟩ := F.ex
  refine fnTk_of lk hcd S (fun vs H Q E h => ?_) (fun Ar outer s H vs Q E hA hr h => ?_)
  · obtain ⟨ds, s, Q', E', rep, dv, q, _⟩ := h
    rw [dv.length]
    exact len ds s Q' E' q
  · obtain ⟨ds, s0, Q', E', rep, dv, q, kq, ke⟩ := h
    refine ⟨_, PSsN.nox (hbody ⟨s0, H⟩ cdv Ar outer s H E hA hr), startD N.length ds, s0, _, ⟨Stp.refl s0 H, rep, env_start N dv⟩, hread ds s0 Q' E' q, ?_⟩
    exact ⟨fun σ H2 δ s2 S2 q2 => kq .non H2 .non s2 S2.stp S2.rep .non q2, fun _ _ _ _ _ z => z.elim, fun _ _ _ _ _ z => z.elim, fun v H2 d s2 st rep2 dv2 q2 => kq v H2 d s2 st rep2 dv2 q2⟩
theorem fnOkT {x : Str} {st : Stmt} {N ps : List Str} {k : Nat} {sp : Spd} {t : TSd} (D : DefAt K mg x st ps) (S : FnScope N ps (defScope st)) (len : ∀ ds s Q E, sp ds s Q E → ds.length = ps.length)
    (hbody : ∀ (A : Anc) (f : Addr) (cdv : Value) (Ar : Around) (outer : List Env) (s : Shared) (H : Hp) (E : XK), Room k (Ar.deeper (envOfC x (defScope st) s.heap.objs.size f cdv)) →
      PSsdN n A (cxOf CX0 P w K mg base N x (defScope st) f cdv Ar outer s H E).nox (defBody st) t)
    (hread : ∀ ds s Q E, sp ds s Q E → t { nx := fun _ s => Q .non s, rt := Q } (startD N.length ds) s) : FnT n P w K mg base x (k + 1) ps sp := by
  obtain ⟨f, fd, F, hm, hk, hb⟩ := D.ex
  exact ⟨f, fd, defOkT F S len (fun A cdv Ar outer s H E _ hr => hbody A f cdv Ar outer s H E hr) hread, hm, hk, hb⟩
end
section
variable {n : Nat} {A : Anc} {X : Cx} {k : Nat} {ps : List Str} {sp : Spd} {x : Str} {p pos : Pos} {e : Expr} {es : List Expr} {t : TAd}
theorem dFN (G : FnT n X.prog X.w X.K X.mg X.base x k ps sp) (hr : Room k X.A) (ha : PAdN n A X (e :: es) t) (hg : Gl X x := by rfl) (hdb : (x == ("__debug__" : Str)) = false := by decide) (he : starEach (e :: es) X.env = (false, eval e X.env) :: starEach es X.env := by rfl)
    (hpl : (backTo pos (starEach es X.env)).any (·.1) = false := by rfl) : PDN n A X (.Call (.Name x p) (e :: es) [] pos) (dCall sp [] t) := by
  obtain ⟨f, fd, F, hm, hk, hb⟩ := G.ex
  refine (pen_call (E := fun _ _ _ _ => False) F trivial hr hg hm hk hb (fun σ pins H s e s' I h => h.elim) ha hdb he hpl).imp fun σ H Q h => ?_
  obtain ⟨δ, s, Q', S, t, k⟩ := h
  refine ⟨δ, s, _, S, t, fun vs H1 es s1 st1 rep1 dv q => ?_⟩
  have q2 : cSp sp (es ++ []) s1 Q' noX := q
  rw [List.append_nil] at q2
  exact ⟨es, s1, Q', noX, rep1, dv, q2, fun v2 H2 d2 s2 st2 => k v2 H2 d2 s2 (st1.trans st2), ExL.no⟩
end
/-! ### for -/
section
variable {n : Nat} {X : Cx} {tg iter : Expr} {body : List Stmt} {pos : Pos}
theorem psn_for {wi : TI} {g : TG} {tb : TS} (hp : PassesOwn (model X.prog X.w) X.A X.env X.xe) (hc : X.calm = true) (hi : PI X tg iter wi) (hg : PG X tg g) (hb : PSsN n X body tb)
    (hs : ∀ x, foldedSetIterable iter X.env x = pure x := by intro _; rfl) : PSN n X (.For tg iter body [] pos) (tFor wi g tb) := ⟨fun pins s σ H D hn I h => by
  refine wpAny_For (thnT hn (hi.run pins s σ H _ I h) fun v sa hna ha => thnT hna ha fun itv sb hnb hb2 => ?_) hs
  obtain ⟨it, fp, tn, J, Hb, rfl, Ib, T, stb, fb, W, ⟨m0, w0⟩, turn⟩ := hb2
  have stat : ∀ {H' : Hp}, (∀ b ∈ fp, H' b = none) → ∀ b ∈ fp, FpOk X pins H' b := fun hz b hb => ⟨hz b hb, (fb b hb).2⟩
  refine codeAny_forLoop_any (fun m s' => n ≤ s'.toks ∧ ∃ i σ' H', Inv X pins σ' H' s' ∧ tn i s'.heap ∧ (∀ b ∈ fp, H' b = none) ∧ W i m σ' H') ?_ m0 ⟨hnb, 0, σ, Hb, Ib, stb, fun b hb => (fb b hb).1, w0⟩
  rintro m sc ⟨hnc, i, σc, Hc, Ic, stc, frc, wc⟩
  rcases turn i m σc Hc wc with ⟨stop, qn⟩ | ⟨go, N, hN, step⟩
  · refine wpAny_passesOwn hp (thn (T.done X rfl rfl rfl hc i pins sc σc Hc X.xe Ic (stat frc) stc stop) fun r sd ⟨hr, Id⟩ => ?_)
    subst hr
    exact wpAny_execs_nil ⟨σc, Hc, Id, qn⟩
  · refine wpAny_passesOwn hp (thnT hnc (T.item X rfl rfl rfl hc i pins sc σc Hc X.xe Ic (stat frc) stc go) fun r sd hnd ⟨u, hr, hd⟩ => ?_)
    subst hr
    refine wpAny_passesOwn hp (thnT hnd hd fun _ se hne ⟨x, He, Ie, re, ye, ste, fre⟩ => ?_)
    have Ie2 := Ie.pinned (stat fre) (T.obj _ _ ste)
    refine wpAny_passesOwn hp (thnT hne (hg.run _ se σc He x u _ Ie2 re (step x He ye)) fun _ sf hnf ⟨σf, Hf, If, qf⟩ => ?_)
    refine wpAny_passesOwn hp (thnT hnf (hb.run _ sf σf Hf _ hnf If qf) fun fl sg hng qg => ?_)
    have again : ∀ {σ7 : L2.St} {H7 : Hp}, Inv X (pins ++ pinsAt fp se.heap) σ7 H7 sg → N σ7 H7 → ∃ m', m' < m ∧ n ≤ sg.toks ∧ ∃ i σ' H', Inv X pins σ' H' sg ∧ tn i sg.heap ∧ (∀ b ∈ fp, H' b = none) ∧ W i m' σ' H' := fun {σ7 H7} I7 n7 => by
      obtain ⟨m', hm, w7⟩ := hN σ7 H7 n7
      have at7 : ∀ b ∈ fp, ∀ o, se.heap.get? b = some o → sg.heap.get? b = some o ∧ H7 b = none := fun b hb o e => let z := I7.pin (b, o) (List.mem_append_right _ (List.mem_append_right _ (mem_pinsAt hb e))); ⟨z.1, z.2.1⟩
      exact ⟨m', hm, hng, i + 1, σ7, H7, I7.unpinned, T.keep _ _ _ ste fun b hb o e => (at7 b hb o e).1, fun b hb => let ⟨o, e, _⟩ := T.obj _ _ ste b hb; (at7 b hb o e).2, w7⟩
    cases fl with
    | next => exact let ⟨_, _, I7, n7⟩ := qg; again I7 n7
    | cont => exact let ⟨_, _, I7, n7⟩ := qg; again I7 n7
    | brk => exact let ⟨σ7, H7, I7, q7⟩ := qg; ⟨σ7, H7, I7.unpinned, q7⟩
    | ret v => exact let ⟨x7, σ7, H7, I7, r7, q7⟩ := qg; ⟨x7, σ7, H7, I7.unpinned, r7, q7⟩⟩
theorem dsforN {A : Anc} {it : TId} {g : TGd} {tb : TSd} (hp : PassesOwn (model X.prog X.w) X.A X.env X.xe) (hc : X.calm = true) (hi : PId A X tg iter it) (hg : ∀ B, A.le B → PGd B X tg g) (hb : ∀ B, A.le B → PSsdN n B X body tb)
    (hs : ∀ x, foldedSetIterable iter X.env x = pure x := by intro _; rfl) : PSdN n A X (.For tg iter body [] pos) (dFor it g tb) := by
  refine ⟨fun pins s σ H D hn I h => ?_⟩
  obtain ⟨δ, s0, D', S, t, L⟩ := h
  have all : PSN n X (.For tg iter body [] pos) (tFor (lI X.K A it) (fun v σ H Q => ∃ B, A.le B ∧ lG X.K B g v σ H Q) (fun D σ H => ∃ B, A.le B ∧ lS X.K B tb D σ H)) := by
    refine psn_for hp hc hi ⟨fun pins s σ H v u Q I r q => ?_⟩ ⟨fun pins s σ H D hn I q => ?_⟩ hs
    · obtain ⟨B, hB, q⟩ := q
      exact (hg B hB).run pins s σ H v u Q I r q
    · obtain ⟨B, hB, q⟩ := q
      exact (hb B hB).run pins s σ H D hn I q
  refine all.run pins s σ H D hn I ?_
  refine ⟨δ, s0, _, S, t, fun ds G s1 H1 J st1 rep1 iD ⟨W, w0, step, fin⟩ => ?_⟩
  have S1 := S.go st1 rep1
  have hB : A.le ⟨s1, H1⟩ := S1.stp
  refine ⟨fun i m σ2 H2 => m = ds.length - i ∧ i ≤ ds.length ∧ ∃ δ2 s2, Sd X.K ⟨s1, H1⟩ σ2 H2 δ2 s2 ∧ W i δ2 s2, ⟨ds.length, by simp, Nat.zero_le _, δ, s1, ⟨Stp.refl s1 H1, rep1, S1.env⟩, w0⟩, ?_⟩
  rintro i m σ2 H2 ⟨rfl, hi, δ2, s2, S2, w2⟩
  have up : ∀ {σ H δ s}, Sd X.K ⟨s1, H1⟩ σ H δ s → Sd X.K A σ H δ s := fun S => ⟨S1.stp.trans S.stp, S.rep, S.env⟩
  by_cases hlt : i < ds.length
  · obtain ⟨d, hd⟩ := get_lt hlt
    obtain ⟨gs, _⟩ := step i d δ2 s2 hd w2
    refine .inr ⟨iD.go i s2 H2 S2.stp S2.rep gs hlt, fun σ3 H3 => ∃ δ3 s3, Sd X.K ⟨s1, H1⟩ σ3 H3 δ3 s3 ∧ W (i + 1) δ3 s3, fun σ3 H3 ⟨δ3, s3, S3, w3⟩ => ⟨ds.length - (i + 1), by omega, rfl, hlt, δ3, s3, S3, w3⟩, fun x H3 y => ?_⟩
    obtain ⟨st3, rep3, d3, hd3, dv3⟩ := iD.yld i s2 H2 x H3 S2.stp S2.rep gs hlt y
    obtain ⟨_, q3⟩ := step i d3 δ2 s2 hd3 w2
    refine ⟨⟨s1, H1⟩, hB, d3, δ2, s2, _, S2.go st3 rep3, dv3, q3, fun σ4 H4 δ4 s4 S4 q4 => ?_⟩
    exact ⟨⟨s1, H1⟩, hB, δ4, s4, _, S4, q4, ⟨fun σ H δ s S q => ⟨δ, s, S, q⟩, fun σ H δ s S q => L.nx σ H δ s (up S) q, fun σ H δ s S q => ⟨δ, s, S, q⟩, fun v H d s st rep dv q => L.rt v H d s (S1.stp.trans st) rep dv q⟩⟩
  · have e : i = ds.length := by omega
    subst e
    obtain ⟨gs, q⟩ := fin δ2 s2 w2
    exact .inl ⟨iD.stop s2 H2 S2.stp S2.rep gs, L.nx σ2 H2 δ2 s2 (up S2) q⟩
end
end DL

set_option Elab.async false
set_option linter.all false
set_option maxRecDepth 100000
set_option maxHeartbeats 4000000
/-! The head of a law whose defs want tokens: the hook tells that n are out. -/
namespace DL
open PySem PySem.Spec PyProof.Rows L2
/-- the token of a text of the top: not 0, below n -/
def tkB (n : Nat) (K : PySem.W.Frag) (x y : Str) : Bool := match PySem.W.nsIn K mainGlobals x with
  | some (some (.str z t)) => decide (z = y) && (decide (t ≠ 0) && decide (t < n))
  | _ => false
theorem tk_ok {n : Nat} {K : PySem.W.Frag} {h : Heap} {mg : Str → Option Value} (X : K.In h) (G : h.Ns mainGlobals mg) {x y : Str} (c : tkB n K x y = true) : TxTk n mg x y := by
  unfold tkB at c
  split at c
  · rename_i z t e
    simp only [Bool.and_eq_true, decide_eq_true_eq] at c
    obtain ⟨rfl, h0, hn⟩ := c
    exact ⟨t, PySem.W.mg_of X G e, h0, hn⟩
  · cases c
def hookT (n m : Nat) (fa : List He.Fa) (fn : List He.DefD) (ex : PySem.W.Frag → Bool) (ds : List (Str × List Key)) : PySem.W.Hook where
  α := ((He.AlD × Bool) × List (List Int)) × Bool
  obs := fun s => (obH m fa fn ex (ds.map (·.1)) s.heap.get?, decide (n ≤ s.toks))
  val := fun w => (((He.valD fn, true), ds.map fun p => p.2.map (keyH w)), true)
  says := (hookH m fa fn ex ds).says
  of := fun w s e => by
    have e1 : (obH m fa fn ex (ds.map (·.1)) s.heap.get?) = ((He.valD fn, true), ds.map fun p => p.2.map (keyH w)) := (Prod.mk.inj e).1
    exact (hookH m fa fn ex ds).of w s e1
  keeps := (hookH m fa fn ex ds).keeps
theorem hookT_tok {n m : Nat} {fa : List He.Fa} {fn : List He.DefD} {ex : PySem.W.Frag → Bool} {ds : List (Str × List Key)} (w : World) (s : Shared) (e : (hookT n m fa fn ex ds).obs s = (hookT n m fa fn ex ds).val w) : n ≤ s.toks := of_decide_eq_true (Prod.mk.inj e).2
section
variable {P : Program} {w : World} {K : PySem.W.Frag} {mg mb : Str → Option Value} {s₁ : Shared} {a : Addr} {vs : List Value} {ns : List Int} {H : Hp} {n : Nat}
theorem law_callT {k : Nat} {fa : Addr} {fd : FuncData} {x : Str} {sp : Sp} (hn : n ≤ s₁.toks) (KX : K.In s₁.heap) (hns : s₁.heap.Ns mainGlobals mg) (hb : s₁.heap.Ns builtinsNs mb) (hbb : ∀ x : Str, x ≠ "__name__" → mb x = bootBuiltins x) (hlim : s₁.heap.NoLimit) (hg : s₁.gens = #[])
    (ha : s₁.heap.get? a = some { cls := .type "list", data := .seq vs.toArray }) (hi : IntsAre vs ns) (hl : ns.length ≤ sizeLine) (hr : Room k callerA)
    (F : ∀ base : Heap, K.In base → base.Ns mainGlobals mg → FnTk (· = callerA) n P w K mg base CX0 k fa fd [x] sp) (hbind : ∀ (s : Shared) (u : Value), BindsTo s fd ⟨[u], []⟩ [(x, u)])
    (hsp : ∀ H : Hp, Only H → SqL K H a (ns.map V.int) → sp [.ref a] H (fun v _ => v = .bl true) fun _ _ _ => False) :
    codeAny (model P w) callerA (.call (.ref fa) ⟨[.ref a], []⟩) (fun r s' => r = .ok (.ret (.bool true)) ∧ OldK s₁.heap s'.heap ∧ s'.os = s₁.os ∧ AllBare s'.gens) s₁ := by
  have rv := vals_ints hi
  have run : ∀ H : Hp, Only H → SqL K H a (ns.map V.int) → HOk P w H s₁.heap → (∀ b, H b ≠ none → b = a) → (H a ≠ none → K.lookup a = none) →
      codeAny (model P w) callerA (.call (.ref fa) ⟨[.ref a], []⟩) (fun r s' => r = .ok (.ret (.bool true)) ∧ OldK s₁.heap s'.heap ∧ s'.os = s₁.os ∧ AllBare s'.gens) s₁ := fun H hO hS hok hA hK => by
    obtain ⟨inK, nsK, e0⟩ := env0_top KX hns hb hbb hlim hg ha hok hA hK
    refine codeAny_mono ((F _ inK nsK).run callerA [] s₁ H ⟨[.ref a], []⟩ [.ref a] [.ref a] _ _ rfl hn hr e0 (hbind s₁ (.ref a)) (.cons rfl .nil) (hsp H hO hS)) fun r s' h => ?_
    cases r with
    | error e => exact False.elim h
    | ok fl =>
      cases fl with
      | next => exact False.elim h
      | brk => exact False.elim h
      | cont => exact False.elim h
      | ret u =>
        obtain ⟨v, H', os, bare, un, hok', r', q⟩ := h
        have q' : v = .bl true := q
        subst q'
        obtain rfl : u = Value.bool true := r'
        refine ⟨rfl, OldK.of_keep fun b o e => ?_, os, bare⟩
        rcases hO b with z | ⟨ob, xs, z⟩
        · exact un.keep b o e z (fun z => nomatch z) (fun z => nomatch z)
        · obtain ⟨e1, _⟩ := hok b _ z
          obtain ⟨e2, _⟩ := hok' b _ (un.frzs b ob _ z)
          rw [e] at e1
          cases e1
          exact e2
  cases hk : K.lookup a with
  | some o =>
    have e := KX a o hk
    rw [ha] at e
    cases e
    exact run (fun _ => none) (fun _ => .inl rfl) (.inr ⟨_, vs.toArray, _, hk, rfl, rfl, rfl, by rw [List.size_toArray, hi.length]; exact hl, by simpa using rv⟩) (fun b u z => nomatch z) (fun b z => absurd rfl z) (fun z => absurd rfl z)
  | none =>
    let o1 : Obj := { cls := .type "list", data := .seq vs.toArray }
    have at1 : ∀ {b : Addr} {u : HO}, upd (fun _ => none) a (.frz o1 (.lst (ns.map V.int))) b = some u → b = a ∧ u = .frz o1 (.lst (ns.map V.int)) := fun {b u} z => by
      by_cases hb : b = a
      · rw [hb, upd_same] at z
        exact ⟨hb, (Option.some.inj z).symm⟩
      · rw [upd_ne hb] at z
        cases z
    refine run (upd (fun _ => none) a (.frz o1 (.lst (ns.map V.int)))) (fun b => ?_) (.inl (.inr ⟨o1, upd_same⟩)) (fun b u z => ?_) (fun b z => ?_) fun _ => hk
    · by_cases hb : b = a
      · exact .inr ⟨_, _, by rw [hb]; exact upd_same⟩
      · exact .inl (by rw [upd_ne hb])
    · obtain ⟨rfl, rfl⟩ := at1 z
      exact ⟨ha, by rw [List.length_map]; exact hl, vs, _, rv, ha⟩
    · by_cases hb : b = a
      · exact hb
      · exact absurd (by rw [upd_ne hb]) z
end
theorem walk_ofT {l : PySem.W.OpenLaw} {n m k : Nat} {q : Program} {loose : List Str} {XP : (Str → Option Value) → Heap → Prop} {YP : World → Heap → Prop} {d : DefRec} {x : Str}
    (hm : l.most = some m) (hm2 : m ≤ sizeLine) (hr : Room k callerA)
    (F : ∀ (w : World) (mg : Str → Option Value) (fa : Addr) (h : Heap), YP w h → h.Ns mainGlobals mg → mg d.name = some (.ref fa) →
      ∃ (K : PySem.W.Frag) (fd : FuncData) (sp : Sp), K.In h ∧ (∀ (s : Shared) (u : Value), BindsTo s fd ⟨[u], []⟩ [(x, u)]) ∧
        (∀ (H : Hp) (a : Addr) (ns : List Int), ns.length ≤ m → Only H → SqL K H a (ns.map V.int) → sp [.ref a] H (fun v _ => v = .bl true) fun _ _ _ => False) ∧
        ∀ base : Heap, K.In base → base.Ns mainGlobals mg → FnTk (· = callerA) n l.prog w K mg base CX0 k fa fd [x] sp) :
    PySem.W.WalkTk n q loose XP YP l d := by
  intro w s0 s1 mg mb fa o pm cd doc a vs ns hn G Y ho hd hcd hmg hobj hints hlen hg
  have hlen : ns.length ≤ m := by
    rcases hlen with e | ⟨m', e, hl⟩
    · rw [hm] at e; cases e; exact Nat.le_refl _
    · rw [hm] at e; cases e; exact hl
  obtain ⟨K, fd, sp, KX, hb, hsp, hF⟩ := F w mg fa _ Y G.T.g hmg
  exact law_callT hn KX G.T.g G.T.b G.T.builtins G.T.nolimit hg hobj hints (Nat.le_trans hlen hm2) hr hF hb fun H hO hS => hsp H a ns hlen hO hS
end DL
namespace HandSHeadRun
open PySem PySem.W PySem.Calls PyProof.Rows
theorem head_tk {l : OpenLaw} {q : Program} {H : Hook} {ob : SharedT → H.α} {M n m : Nat} {loose : List PySem.Str} {d : DefRec} (hN : ∀ w s, H.obs s = H.val w → n ≤ s.toks) (ho : ∀ s : SharedT, ob s = H.obs s.abs)
    (e : opening l.row.prog = plainProg l.row.prog.main.scope.names) (f : ∀ s, fenceModules? l.row.prog s = some s) (run : ∀ w, RunEq l.row q H ob M loose w)
    (hdef : defOf q l.row.name = some (d, [])) (hp : l.row.prog.theDef l.row.name = some (d.params, d.body, d.scope)) (hk : kwWritten? d.params.kwonlyargs d.params.kw_defaults = some [])
    (hwr : (!l.row.writes || l.row.records.isEmpty) = true) (k1 : l.row.wellSaid = true) (ok : (chainsOk q && opensWell l.row.prog && (frees l.row.toRowW && l.row.within.isEmpty)) = true) (hb : l.row.prog.bare) (hw : l.row.toRowW.promised)
    (hmost : l.most = some m) (hdf : d.params.defaults = []) (hre : l.row.records = []) (call : WalkTk n q loose (XL q []) H.says l d) : l.row.Holds := by
  have eo : ob = fun s => H.obs s.abs := funext ho
  have left : LeftO l.row.prog q loose (fun s => xlAt q [] s && recOk l.row.toRowW.records s) H.obs H.val (M + 600) true :=
    left_one (M := M) e (Nat.ble_eq_true_of_le (by omega)) f (Nat.ble_eq_true_of_le (by omega)) fun w os => by
      have z := run w os
      rw [eo] at z
      simp only [endQ_eq, seenQ_eq]
      exact z
  exact holds_tk left H.of hN H.keeps (fun s z => xl_of s (Bool.and_eq_true_iff.mp z).1) XL.keeps hdef hp hk (fun s z => recFacts_of (Bool.and_eq_true_iff.mp z).2) hwr k1 ok hb hw hmost hdf hre call
end HandSHeadRun

set_option Elab.async false
set_option linter.all false
set_option maxRecDepth 100000
set_option maxHeartbeats 4000000
/-! Plain law: how values are written. -/
namespace VW
open PySem PySem.Spec PyProof.Rows L2 DL
abbrev S (l : List Nat) : Str := ⟨l.toArray⟩
theorem tl_S (l : List Nat) : DL.tl (S l) = l := rfl
theorem S_len (l : List Nat) : (S l).length = l.length := by rw [len_tl]
theorem S_tl (z : Str) : S (DL.tl z) = z := ext_tl rfl
def wrI : Int → List Nat
  | .ofNat n => TL.numL n
  | .negSucc n => 45 :: TL.numL (n + 1)
theorem tl_int (i : Int) : DL.tl (Str.ofString (toString i)) = wrI i := by
  cases i with
  | ofNat n => exact TL.tl_num n
  | negSucc n =>
    have e : DL.tl (Str.ofString (toString (Int.negSucc n))) = (toString (Int.negSucc n)).toList.map Char.toNat := TL.tl_ofString _
    rw [e]
    show (("-" ++ toString (n + 1) : String)).toList.map Char.toNat = _
    rw [String.toList_append, List.map_append]
    have e2 := TL.tl_num (n + 1)
    rw [TL.tl_ofString] at e2
    show [45] ++ _ = 45 :: _
    exact congrArg (45 :: ·) e2
mutual
/-- the signs of a value's writing -/
def wr : DV → List Nat
  | .non => [45]
  | .bl b => if b then [43] else [33]
  | .int i => wrI i
  | .str z => 34 :: (StrLaws.dbl 34 (DL.tl z) ++ [34])
  | .tup ds => 40 :: (wrJ ds ++ [41])
  | _ => []
def wrJ : List DV → List Nat
  | [] => []
  | d :: ds => wr d ++ wrR ds
def wrR : List DV → List Nat
  | [] => []
  | d :: ds => 32 :: (wr d ++ wrR ds)
end
theorem wrR_append : ∀ as bs : List DV, wrR (as ++ bs) = wrR as ++ wrR bs
  | [], _ => rfl
  | a :: as, bs => by
    show 32 :: (wr a ++ wrR (as ++ bs)) = 32 :: (wr a ++ wrR as) ++ wrR bs
    rw [wrR_append as bs]
    simp
theorem joinL_wr : ∀ ds : List DV, TL.joinL [32] (ds.map wr) = wrJ ds
  | [] => rfl
  | [d] => by
    show wr d = wr d ++ []
    rw [List.append_nil]
  | d :: e :: r => by
    show wr d ++ ([32] ++ TL.joinL [32] ((e :: r).map wr)) = wr d ++ wrR (e :: r)
    rw [joinL_wr (e :: r)]
    rfl
theorem joinSp (ds : List DV) : Txt.join (Str.ofString " ") (ds.map fun d => S (wr d)) = S (wrJ ds) := by
  refine ext_tl ?_
  have e := TL.tl_join (Str.ofString " ") (ds.map fun d => S (wr d))
  rw [← TL.join_eq] at e
  refine e.trans ?_
  rw [List.map_map]
  have e2 : (fun d : DV => S (wr d)) = fun d => S (wr d) := rfl
  have e3 : (TL.tl ∘ fun d : DV => S (wr d)) = wr := rfl
  rw [e3]
  have e4 : TL.tl (Str.ofString " ") = [32] := by decide +kernel
  rw [e4, joinL_wr]
theorem tupS (ds : List DV) : Str.ofString "(" ++ S (wrJ ds) ++ Str.ofString ")" = S (wr (.tup ds)) := by
  refine ext_tl ?_
  rw [tl_app, tl_app]
  have e1 : DL.tl (Str.ofString "(") = [40] := by decide +kernel
  have e2 : DL.tl (Str.ofString ")") = [41] := by decide +kernel
  rw [e1, e2]
  show [40] ++ wrJ ds ++ [41] = 40 :: (wrJ ds ++ [41])
  simp
theorem quoS (z : Str) (a : Str) (ha : DL.tl a = [34]) : a ++ Txt.replace z a (a ++ a) ++ a = S (wr (.str z)) := by
  refine ext_tl ?_
  rw [tl_app, tl_app, ha]
  have e1 : a = (⟨#[34]⟩ : Str) := ext_tl ha
  have e2 : a ++ a = (⟨#[34, 34]⟩ : Str) := ext_tl (by rw [tl_app, ha]; rfl)
  rw [e2, e1]
  have e3 : DL.tl (Txt.replace z ⟨#[34]⟩ ⟨#[34, 34]⟩) = StrLaws.dbl 34 (DL.tl z) := StrLaws.replace_double z 34
  rw [e3]
  show [34] ++ _ ++ [34] = 34 :: (_ ++ [34])
  simp
theorem splS (z : Str) (a b : Str) (ha : DL.tl a = [34]) (hb : DL.tl b = [34, 34]) : a ++ Txt.join b (Txt.split z a) ++ a = S (wr (.str z)) := by
  have e1 : a = (⟨#[34]⟩ : Str) := ext_tl ha
  have e2 : b = (⟨#[34, 34]⟩ : Str) := ext_tl hb
  have e3 : a ++ a = b := ext_tl (by rw [tl_app, ha, hb]; rfl)
  rw [← quoS z a ha, e3, e1, StrLaws.replace_one z b 34, TL.join_eq]
/-! ### lengths -/
theorem dbl_len (c : Nat) : ∀ l : List Nat, (StrLaws.dbl c l).length ≤ 2 * l.length
  | [] => by simp [StrLaws.dbl]
  | k :: r => by
    have ih := dbl_len c r
    unfold StrLaws.dbl
    split
    · simp only [List.length_cons]; omega
    · simp only [List.length_cons]; omega
theorem wrI_len {i : Int} (h : i.natAbs < 10 ^ 40) : (wrI i).length ≤ 41 := by
  cases i with
  | ofNat n => exact Nat.le_trans (TL.numL_len (k := 40) (by decide) h) (by decide)
  | negSucc n =>
    have h2 : n + 1 < 10 ^ 40 := h
    have := TL.numL_len (k := 40) (by decide) h2
    show (45 :: TL.numL (n + 1)).length ≤ 41
    rw [List.length_cons]; omega
theorem wrR_le {m : Nat} : ∀ {ds : List DV}, (∀ d ∈ ds, (wr d).length ≤ m) → (wrR ds).length ≤ ds.length * (m + 1)
  | [], _ => by simp [wrR]
  | d :: ds, h => by
    have h1 := h d List.mem_cons_self
    have h2 := wrR_le (ds := ds) fun e he => h e (List.mem_cons_of_mem _ he)
    show (32 :: (wr d ++ wrR ds)).length ≤ (ds.length + 1) * (m + 1)
    rw [List.length_cons, List.length_append, Nat.succ_mul]
    omega
theorem wrJ_le {m : Nat} {ds : List DV} (h : ∀ d ∈ ds, (wr d).length ≤ m) : (wrJ ds).length ≤ ds.length * (m + 1) := by
  cases ds with
  | nil => simp [wrJ]
  | cons d ds =>
    have h1 := h d List.mem_cons_self
    have h2 := wrR_le (ds := ds) fun e he => h e (List.mem_cons_of_mem _ he)
    show (wr d ++ wrR ds).length ≤ (ds.length + 1) * (m + 1)
    rw [List.length_append, Nat.succ_mul]
    omega
theorem wrT_len (ds : List DV) : (wr (.tup ds)).length = (wrJ ds).length + 2 := by
  show (40 :: (wrJ ds ++ [41])).length = _
  simp
theorem wrT_le {m : Nat} {ds : List DV} (h : ∀ d ∈ ds, (wr d).length ≤ m) : (wr (.tup ds)).length ≤ ds.length * (m + 1) + 2 := by
  rw [wrT_len]
  have := wrJ_le h
  omega
theorem wrS_len (z : Str) : (wr (.str z)).length ≤ 2 * z.length + 2 := by
  have := dbl_len 34 (DL.tl z)
  rw [len_tl]
  show (34 :: (StrLaws.dbl 34 (DL.tl z) ++ [34])).length ≤ _
  rw [List.length_cons, List.length_append]
  show _ + 1 + 1 ≤ _
  omega
theorem wr_part {ds : List DV} : ∀ {d : DV}, d ∈ ds → (wr d).length ≤ (wrR ds).length := by
  induction ds with
  | nil => intro d h; exact nomatch h
  | cons e ds ih =>
    intro d h
    show (wr d).length ≤ (32 :: (wr e ++ wrR ds)).length
    rw [List.length_cons, List.length_append]
    rcases List.mem_cons.mp h with rfl | h
    · omega
    · have := ih h
      omega
theorem wr_partT {ds : List DV} {d : DV} (h : d ∈ ds) : (wr d).length ≤ (wr (.tup ds)).length := by
  have h1 := wr_part h
  cases ds with
  | nil => exact nomatch h
  | cons e r =>
    have e1 : (wrR (e :: r)).length = (wrJ (e :: r)).length + 1 := rfl
    rw [wrT_len]
    omega
/-- the parts' lengths together -/
theorem sum_len : ∀ ds : List DV, ((ds.map fun d => S (wr d)).map (·.length)).sum ≤ (wrR ds).length
  | [] => by simp [wrR]
  | d :: ds => by
    have ih := sum_len ds
    rw [List.map_cons, List.map_cons, List.sum_cons, S_len]
    show _ ≤ (32 :: (wr d ++ wrR ds)).length
    rw [List.length_cons, List.length_append]
    omega
theorem num_len : ∀ ds : List DV, ds.length ≤ (wrR ds).length
  | [] => by simp [wrR]
  | d :: ds => by
    have ih := num_len ds
    show ds.length + 1 ≤ (32 :: (wr d ++ wrR ds)).length
    rw [List.length_cons, List.length_append]
    omega
theorem wrR_J (ds : List DV) : (wrR ds).length ≤ (wrJ ds).length + 1 := by
  cases ds with
  | nil => simp [wrR]
  | cons d ds => exact Nat.le_refl _
/-! ### a split text -/
theorem joinL_len (s : List Nat) : ∀ {ps : List (List Nat)}, ps ≠ [] → (TL.joinL s ps).length + s.length = (ps.map (·.length)).sum + ps.length * s.length
  | [], h => absurd rfl h
  | [p], _ => by
    show p.length + s.length = p.length + 0 + (0 + 1) * s.length
    omega
  | p :: q :: r, _ => by
    have ih := joinL_len s (ps := q :: r) (fun z => nomatch z)
    show (p ++ (s ++ TL.joinL s (q :: r))).length + s.length = p.length + ((q :: r).map (·.length)).sum + ((q :: r).length + 1) * s.length
    rw [List.length_append, List.length_append, Nat.succ_mul]
    omega
theorem split_sizes (z a : Str) (ha : DL.tl a = [34]) : ((Txt.split z a).map fun x => x.length).sum + (Txt.split z a).length ≤ z.length + 1 := by
  have e1 : a = (⟨#[34]⟩ : Str) := ext_tl ha
  by_cases h : Txt.split z a = []
  · rw [h]; simp
  · have h1 := joinL_len [34] (ps := (Txt.split z a).map DL.tl) (fun e => h (List.map_eq_nil_iff.mp e))
    have h2 : Str.join a (Txt.split z a) = z := StrLaws.join_split z a
    have h3 := TL.tl_join a (Txt.split z a)
    rw [h2] at h3
    have h4 : TL.tl a = [34] := ha
    rw [h4] at h3
    have h5 := congrArg List.length h3
    rw [List.map_map] at h1
    have h6 : ((Txt.split z a).map ((fun l : List Nat => l.length) ∘ DL.tl)) = (Txt.split z a).map fun x => x.length := List.map_congr_left fun x _ => (len_tl x).symm
    have h7 : z.length = (DL.tl z).length := len_tl z
    have h8 : (TL.joinL [34] ((Txt.split z a).map DL.tl)).length = (DL.tl z).length := h5.symm
    rw [List.length_map] at h1
    have h9 : ((Txt.split z a).map (List.length ∘ DL.tl)) = (Txt.split z a).map fun x => x.length := List.map_congr_left fun x _ => (len_tl x).symm
    have h10 : ([34] : List Nat).length = 1 := rfl
    rw [h8, h10] at h1
    first | rw [h6] at h1 | rw [h9] at h1
    omega
end VW

set_option Elab.async false
set_option linter.all false
set_option maxRecDepth 100000
set_option maxHeartbeats 4000000
/-! Rules that the reader of values wants. -/
namespace DL
open PySem PySem.Spec PyProof.Rows L2
section
variable {X : Cx} {A : Anc}
/-! ### xs == [], xs != [] of any list -/
def dEqE (neg : Bool) (x y : DV) (s : Sto) (Q : KD) : Prop := match y with
  | .lst [] => match lstD s x with
    | some ds => Q (.bl (if neg then !ds.isEmpty else ds.isEmpty)) s
    | none => False
  | _ => False
def kEqE (neg : Bool) (s : Sto) (Q : KD) : Option (List DV) → Prop
  | some ds => Q (.bl (if neg then !ds.isEmpty else ds.isEmpty)) s
  | none => False
theorem dEqE_q {neg : Bool} {x : DV} {s : Sto} {Q : KD} : dEqE neg x (.lst []) s Q = kEqE neg s Q (lstD s x) := by
  show (match lstD s x with | some ds => Q (.bl (if neg then !ds.isEmpty else ds.isEmpty)) s | none => False) = _
  cases lstD s x <;> rfl
theorem kEqE_q {neg : Bool} {ds : List DV} {s : Sto} {Q : KD} : kEqE neg s Q (some ds) = Q (.bl (if neg then !ds.isEmpty else ds.isEmpty)) s := propext Iff.rfl
theorem od_neE (hu : X.A.units + 64 < cLine) : OpD X (compareOp .NotEq) (dEqE true) := fun pins s σ H x y v u Q I rx ry h => by
  obtain ⟨dx, dy, s0, Q', rep, hx, hy, r, k⟩ := h
  unfold dEqE at r
  split at r
  · split at r
    · rename_i ds e
      obtain ⟨a, xs, rfl, hq, l⟩ := lstD_ok rep hx e
      obtain ⟨b, ys, rfl, hb, _, l2⟩ := hy.lstInv
      cases l2
      cases rx; cases ry
      obtain ⟨its, rv, p, hz⟩ := I.list hq
      obtain ⟨its2, rv2, p2, hz2⟩ := I.list (SqL.of hb)
      have e2 : its2.length = 0 := rv2.length.symm
      have e2' : its2 = [] := List.eq_nil_of_length_eq_zero e2
      subst e2'
      have e3 : its.length = ds.length := rv.length.symm.trans l.length
      have fin := k (.bl (!ds.isEmpty)) H (.bl (!ds.isEmpty)) s0 (Stp.refl s0 H) rep (.bl _) r
      cases ds with
      | nil =>
        have e4 : its = [] := List.eq_nil_of_length_eq_zero e3
        subst e4
        exact SeqAt.RcNeAt.lists (e := fun _ => true) p.isList p2.isList rfl (by omega) (fun j h1 _ => absurd h1 (by simp)) _ _ _ _ ⟨.bl false, H, I, rfl, fin⟩
      | cons d ds =>
        refine SeqAt.RcNeAt.lists_lengths p.isList p2.isList ?_ (by omega) _ _ _ _ ⟨.bl true, H, I, rfl, fin⟩
        cases its with
        | nil => cases e3
        | cons a b => simp
    · exact r.elim
  · exact r.elim
theorem od_eqE (hu : X.A.units + 64 < cLine) : OpD X (compareOp .Eq) (dEqE false) := fun pins s σ H x y v u Q I rx ry h => by
  obtain ⟨dx, dy, s0, Q', rep, hx, hy, r, k⟩ := h
  unfold dEqE at r
  split at r
  · split at r
    · rename_i ds e
      obtain ⟨a, xs, rfl, hq, l⟩ := lstD_ok rep hx e
      obtain ⟨b, ys, rfl, hb, _, l2⟩ := hy.lstInv
      cases l2
      cases rx; cases ry
      obtain ⟨its, rv, p, hz⟩ := I.list hq
      obtain ⟨its2, rv2, p2, hz2⟩ := I.list (SqL.of hb)
      have e2 : its2.length = 0 := rv2.length.symm
      have e2' : its2 = [] := List.eq_nil_of_length_eq_zero e2
      subst e2'
      have e3 : its.length = ds.length := rv.length.symm.trans l.length
      have fin := k (.bl ds.isEmpty) H (.bl ds.isEmpty) s0 (Stp.refl s0 H) rep (.bl _) r
      cases ds with
      | nil =>
        have e4 : its = [] := List.eq_nil_of_length_eq_zero e3
        subst e4
        exact SeqAt.eq_listAt (e := fun _ => true) p.isList p2.isList rfl (by omega) (fun j h1 _ => absurd h1 (by simp)) ⟨.bl true, H, I, rfl, fin⟩
      | cons d ds =>
        refine SeqAt.eq_list_lengthsAt p.isList p2.isList ?_ (by omega) ⟨.bl false, H, I, rfl, fin⟩
        cases its with
        | nil => cases e3
        | cons a b => simp
    · exact r.elim
  · exact r.elim
/-! ### int(text) -/
def dIntS (ds : List DV) (s : Sto) (Q : KD) : Prop := match ds with
  | [.str a] => ∃ n, PySem.intText? a = some n ∧ a.length ≤ 640 ∧ Q (.int n) s
  | _ => False
theorem dIntS_q {a : Str} {s : Sto} {Q : KD} : dIntS [.str a] s Q = ∃ n, PySem.intText? a = some n ∧ a.length ≤ 640 ∧ Q (.int n) s := propext Iff.rfl
theorem cd_intS : CallR X (.type "int") (lC X.K dIntS) := callImp call_int_str fun xs H Q h => by
  obtain ⟨ds, s, Q', rep, dv, r, k⟩ := h
  unfold dIntS at r
  split at r
  · rename_i a
    obtain ⟨n, h1, h2, q⟩ := r
    cases dv with
    | cons h t => cases t; cases h; exact ⟨a, n, rfl, h1, h2, k _ H _ s (Stp.refl s H) rep (.int _) q⟩
  · exact r.elim
/-! ### a < b < c as a value -/
theorem dchainV {a b c : Expr} {ta tb tc : TEd} {r r' : R2d} {op op' : CmpOp} {pos : Pos} (ho : OpD X (compareOp op) r) (ho' : OpD X (compareOp op') r') (ha : PD A X a ta) (hb : PD A X b tb) (hc : PD A X c tc)
    (hm : lastMarks [op, op'] [b, c] = false := by with_unfolding_all rfl) : PD A X (.Compare a [op, op'] [b, c] pos) (dChain r r' ta tb tc) := peImp (pe_chain ho ho' ha hb hc hm) fun _ _ _ h => lE_chain h
/-! ### D[x], D a dict of the module's top -/
theorem dixKD {a b : Expr} {ta tb : TEd} {ad : Addr} {kvs : List (Key × V)} {D : List (Key × DV)} {pos : Pos} (Z : KDt X.prog X.w X.K ad kvs) (hD : ∀ s H, DatP X.K s H kvs D) (ha : PD A X a ta) (hb : PD A X b tb) (hs : PlainIx b := by first | exact fun _ _ => rfl | (intro _ _; rfl)) :
    PD A X (.Subscript a b pos) (dOp (dIxKD ad D) ta tb) := peImp (pe_ix (ix_kd Z hD) ha hb hs) fun _ _ _ h => lE_bin h
/-- a dict that the module's top has written, by its name -/
structure GKD (P : Program) (w : World) (K : PySem.W.Frag) (mg : Str → Option Value) (x : Str) (D : List (Key × DV)) : Prop where
  ex : ∃ a kvs, mg x = some (.ref a) ∧ KDt P w K a kvs ∧ ∀ s H, DatP K s H kvs D
theorem dInKD_q {a : Addr} {D : List (Key × DV)} {neg : Bool} {z : Str} {s : Sto} {Q : KD} : dInKD a D neg (.str z) (.ref a) s Q = Q (.bl (if neg then !(getP D (.inr z)).isSome else (getP D (.inr z)).isSome)) s := propext ⟨fun h => h.2, fun h => ⟨rfl, h⟩⟩
theorem dIxKD_q {a : Addr} {D : List (Key × DV)} {z : Str} {s : Sto} {Q : KD} : dIxKD a D (.ref a) (.str z) s Q = ixD (getP D (.inr z)) s Q := propext ⟨fun h => h.2, fun h => ⟨rfl, h⟩⟩
end
end DL

set_option Elab.async false
set_option linter.all false
set_option maxRecDepth 100000
set_option maxHeartbeats 4000000
/-! Plain law: what a reader sees of a text. -/
namespace VW
open PySem PySem.Spec PyProof.Rows L2 DL
def rsT (z : Str) (p : Nat) : List Nat := (DL.tl z).drop p
theorem rest_app {z : Str} {p : Nat} {l r : List Nat} (h : rsT z p = l ++ r) : rsT z (p + l.length) = r := by
  unfold rsT at h ⊢
  rw [← List.drop_drop, h, List.drop_left]
theorem rest_cons {z : Str} {p c : Nat} {r : List Nat} (h : rsT z p = c :: r) : rsT z (p + 1) = r := rest_app (l := [c]) h
theorem rest_len {z : Str} {p : Nat} : (rsT z p).length = z.length - p := by unfold rsT; rw [List.length_drop, ← len_tl]
theorem rest_lt {z : Str} {p : Nat} {l r : List Nat} (h : rsT z p = l ++ r) (hl : l ≠ []) : p + l.length ≤ z.length := by
  have e := rest_len (z := z) (p := p)
  rw [h, List.length_append] at e
  have : 0 < l.length := List.length_pos_iff.mpr hl
  omega
theorem cut_run {z : Str} {b e : Nat} (h : b ≤ e) : cutS z (some (b : Int)) (some (e : Int)) = S ((rsT z b).take (e - b)) := by
  refine ext_tl ?_
  show ((DL.tl z).drop (HT.sIx z.length 0 (some (b : Int)))).take (HT.sIx z.length z.length (some (e : Int)) - HT.sIx z.length 0 (some (b : Int))) = ((DL.tl z).drop b).take (e - b)
  rw [HT.sIx_nat, HT.sIx_nat]
  have hz := len_tl z
  by_cases hb : b ≤ z.length
  · rw [Nat.min_eq_left hb]
    by_cases he : e ≤ z.length
    · rw [Nat.min_eq_left he]
    · rw [Nat.min_eq_right (by omega), List.take_of_length_le (by rw [List.length_drop]; omega), List.take_of_length_le (by rw [List.length_drop]; omega)]
  · rw [Nat.min_eq_right (by omega), List.drop_of_length_le (by omega), List.drop_of_length_le (by omega)]
    simp
theorem cut_1 {z : Str} {p : Nat} : cutS z (some (p : Int)) (some ((p : Int) + 1)) = S ((rsT z p).take 1) := by
  have e : ((p : Int) + 1) = ((p + 1 : Nat) : Int) := by omega
  rw [e, cut_run (by omega), show p + 1 - p = 1 by omega]
theorem cut_2 {z : Str} {p : Nat} : cutS z (some ((p : Int) + 1)) (some ((p : Int) + 2)) = S ((rsT z (p + 1)).take 1) := by
  have e : ((p : Int) + 1) = ((p + 1 : Nat) : Int) := by omega
  have e2 : ((p : Int) + 2) = ((p + 2 : Nat) : Int) := by omega
  rw [e, e2, cut_run (by omega), show p + 2 - (p + 1) = 1 by omega]
theorem S_dec {a : List Nat} {b : Str} : decide (S a = b) = decide (a = DL.tl b) := by
  by_cases h : S a = b
  · rw [decide_eq_true h, decide_eq_true]; rw [← h]
  · rw [decide_eq_false h, decide_eq_false]; exact fun e => h (ext_tl e)
theorem S_decL {a b : List Nat} : decide (S a = S b) = decide (a = b) := S_dec
theorem fig_in {c : Nat} : subS (S [c]) ("0123456789" : Str) = decide (48 ≤ c ∧ c ≤ 57) := by
  have e := subS_one c ("0123456789" : Str)
  have e2 : (("0123456789" : Str).cps.toList) = [48, 49, 50, 51, 52, 53, 54, 55, 56, 57] := by decide +kernel
  rw [e2] at e
  refine e.trans ?_
  by_cases h : 48 ≤ c ∧ c ≤ 57
  · rw [decide_eq_true h, decide_eq_true]
    simp only [List.mem_cons, List.not_mem_nil, or_false]
    omega
  · rw [decide_eq_false h, decide_eq_false]
    simp only [List.mem_cons, List.not_mem_nil, or_false]
    omega
theorem t0 : DL.tl ("" : Str) = [] := by decide +kernel
theorem t40 : DL.tl ("(" : Str) = [40] := by decide +kernel
theorem t41 : DL.tl (")" : Str) = [41] := by decide +kernel
theorem t32 : DL.tl (" " : Str) = [32] := by decide +kernel
theorem t34 : DL.tl ("\"" : Str) = [34] := by decide +kernel
theorem t45 : DL.tl ("-" : Str) = [45] := by decide +kernel
theorem t48 : DL.tl ("0" : Str) = [48] := by decide +kernel
theorem t43 : DL.tl ("+" : Str) = [43] := by decide +kernel
theorem t33 : DL.tl ("!" : Str) = [33] := by decide +kernel
theorem S0 : S [] = ("" : Str) := by decide +kernel
abbrev isFig (c : Nat) : Prop := 48 ≤ c ∧ c ≤ 57
/-- what stands behind a value: nothing, or no figure and no quote -/
def Ends (r : List Nat) : Prop := r = [] ∨ ∃ c t, r = c :: t ∧ (c = 32 ∨ c = 41)
theorem numL_head {n : Nat} (h : 0 < n) : ∃ c r, TL.numL n = c :: r ∧ 49 ≤ c ∧ c ≤ 57 := by
  induction n using Nat.strongRecOn with
  | _ n ih =>
    by_cases h10 : n < 10
    · exact ⟨48 + n, [], TL.numL_lt h10, by omega, by omega⟩
    · obtain ⟨c, r, e, h1, h2⟩ := ih (n / 10) (by omega) (by omega)
      exact ⟨c, r ++ [48 + n % 10], by rw [TL.numL_step (by omega), e]; rfl, h1, h2⟩
theorem int_back {n : Nat} (h : n < 10 ^ 40) : PySem.intText? (S (TL.numL n)) = some (n : Int) := by
  have e : S (TL.numL n) = Str.ofString (toString ((n : Nat) : Int)) := ext_tl (TL.tl_num n).symm
  rw [e]
  exact TL.int_num (Nat.le_trans (TL.numL_len (k := 40) (by decide) h) (by decide))
theorem dbl_cons_ne {c k : Nat} (h : k ≠ c) (r : List Nat) : StrLaws.dbl c (k :: r) = k :: StrLaws.dbl c r := by
  rw [StrLaws.dbl, if_neg h]
theorem dbl_cons_eq {c : Nat} (r : List Nat) : StrLaws.dbl c (c :: r) = c :: c :: StrLaws.dbl c r := by
  rw [StrLaws.dbl, if_pos rfl]
theorem dbl_ge (c : Nat) : ∀ l : List Nat, l.length ≤ (StrLaws.dbl c l).length
  | [] => by simp
  | k :: r => by
    have ih := dbl_ge c r
    unfold StrLaws.dbl
    split <;> simp only [List.length_cons] <;> omega
end VW

set_option Elab.async false
set_option linter.all false
set_option maxRecDepth 100000
set_option maxHeartbeats 4000000
/-! Plain law: the signs with which a writing goes on. -/
namespace VW
open PySem PySem.Spec PyProof.Rows L2 DL
inductive Stt where
  | val | fst | ins | quo | min | fig | beh
  deriving DecidableEq
structure Cf where
  st : Stt
  dp : Nat
  mn : Nat
/-- a sign that a text may have -/
def txs (c : Nat) : Bool := decide (32 ≤ c ∧ c ≤ 126 ∧ c ≠ 37)
def beg (c : Nat) (first : Bool) : Option Stt :=
  if c = 43 ∨ c = 33 ∨ c = 48 then some .beh
  else if c = 41 then (if first then some .beh else none)
  else if 49 ≤ c ∧ c ≤ 57 then some .fig
  else if c = 45 then some .min else if c = 34 then some .ins else if c = 40 then some .fst else none
def clo (dp c : Nat) : Option Stt := if 0 < dp ∧ c = 32 then some .val else if 0 < dp ∧ c = 41 then some .beh else none
def go (k : Cf) (c : Nat) : Option Stt := match k.st with
  | .val => beg c false
  | .fst => beg c true
  | .ins => if txs c then (if c = 34 then some .quo else some .ins) else none
  | .quo => if c = 34 then some .ins else clo k.dp c
  | .min => if 49 ≤ c ∧ c ≤ 57 then some .fig else clo k.dp c
  | .fig => if (48 ≤ c ∧ c ≤ 57) ∧ k.mn < 40 then some .fig else clo k.dp c
  | .beh => clo k.dp c
def dpN (k : Cf) (c : Nat) : Nat := if k.st = .ins then k.dp else k.dp + (if c = 40 then 1 else 0) - (if c = 41 then 1 else 0)
def stp (k : Cf) (c : Nat) : Option Cf := (go k c).map fun e => ⟨e, dpN k c, if e = .fig then k.mn + 1 else 0⟩
def run : Cf → List Nat → Nat → Sum Cf Nat
  | k, [], _ => .inl k
  | k, c :: l, i => match stp k c with
    | none => .inr i
    | some k' => run k' l (i + 1)
def fin (k : Cf) : Bool := decide (k.dp = 0) && (match k.st with
  | .beh => true | .min => true | .fig => true | .quo => true | _ => false)
abbrev k0 : Cf := ⟨.val, 0, 0⟩
/-- none: a writing; else where it goes on no more -/
def walk (l : List Nat) : Option Nat := match run k0 l 0 with
  | .inr i => some i
  | .inl k => if fin k then none else some l.length
theorem run_app : ∀ (l r : List Nat) (k k' : Cf) (i : Nat), run k l i = .inl k' → run k (l ++ r) i = run k' r (i + l.length)
  | [], r, k, k', i, h => by cases h; rfl
  | c :: l, r, k, k', i, h => by
    cases e : stp k c with
    | none => simp only [run, e] at h; cases h
    | some k2 =>
      simp only [run, e] at h
      have ih := run_app l r k2 k' (i + 1) h
      simp only [List.cons_append, run, e, List.length_cons]
      rw [ih]
      congr 1
      omega
/-- the signs ahead of q lead to k -/
structure At (z : Str) (q : Nat) (k : Cf) : Prop where
  run : run k0 ((DL.tl z).take q) 0 = .inl k
  le : q ≤ z.length
theorem At.zero (z : Str) : At z 0 k0 := ⟨rfl, Nat.zero_le _⟩
theorem At.step {z : Str} {q c : Nat} {r : List Nat} {k k' : Cf} (h : At z q k) (hr : rsT z q = c :: r) (e : stp k c = some k') : At z (q + 1) k' := by
  have hl := rest_len (z := z) (p := q)
  rw [hr, List.length_cons] at hl
  have h1 : (DL.tl z).take (q + 1) = (DL.tl z).take q ++ [c] := by
    rw [List.take_add]
    have : (DL.tl z).drop q = c :: r := hr
    rw [this]; rfl
  refine ⟨?_, by omega⟩
  rw [h1, run_app _ _ _ _ _ h.run]
  simp only [VW.run, e]
theorem At.many {z : Str} : ∀ {l : List Nat} {q : Nat} {r : List Nat} {k k' : Cf}, At z q k → rsT z q = l ++ r → (∀ i, VW.run k l i = .inl k') → At z (q + l.length) k'
  | [], q, r, k, k', h, hr, e => by have := e 0; cases this; exact h
  | c :: l, q, r, k, k', h, hr, e => by
    cases e2 : stp k c with
    | none => have := e 0; simp only [VW.run, e2] at this; cases this
    | some k2 =>
      have h2 := h.step (r := l ++ r) hr e2
      have h3 := At.many (l := l) h2 (rest_cons (r := l ++ r) hr) fun i => by
        cases i with
        | zero =>
          have e0 := e 0
          simp only [VW.run, e2] at e0
          -- positions do not matter
          exact (run_pos l k2 1 0 k' e0)
        | succ i => have := e i; simp only [VW.run, e2] at this; exact this
      rw [List.length_cons]
      have : q + (l.length + 1) = q + 1 + l.length := by omega
      rw [this]; exact h3
where
  run_pos : ∀ (l : List Nat) (k : Cf) (i j : Nat) (k' : Cf), VW.run k l i = .inl k' → VW.run k l j = .inl k'
  | [], k, i, j, k', h => h
  | c :: l, k, i, j, k', h => by
    cases e : stp k c with
    | none => simp only [VW.run, e] at h; cases h
    | some k2 => simp only [VW.run, e] at h ⊢; exact run_pos l k2 _ _ k' h
theorem split_rs {z : Str} {q : Nat} : (DL.tl z) = (DL.tl z).take q ++ rsT z q := (List.take_append_drop q _).symm
theorem At.bad {z : Str} {q c : Nat} {r : List Nat} {k : Cf} (h : At z q k) (hr : rsT z q = c :: r) (e : stp k c = none) : walk (DL.tl z) = some q := by
  unfold walk
  have h1 := run_app _ (rsT z q) _ _ _ h.run
  rw [← split_rs] at h1
  rw [h1, hr]
  simp only [VW.run, e]
  rw [List.length_take, ← len_tl, Nat.min_eq_left h.le]
  simp
theorem At.stop {z : Str} {q : Nat} {k : Cf} (h : At z q k) (hr : rsT z q = []) (e : fin k = false) : walk (DL.tl z) = some q := by
  unfold walk
  have h1 := run_app _ (rsT z q) _ _ _ h.run
  rw [← split_rs] at h1
  rw [h1, hr]
  simp only [VW.run, e]
  have hl := rest_len (z := z) (p := q)
  rw [hr] at hl
  have hl : 0 = z.length - q := hl
  have := h.le
  rw [← len_tl]
  simp
  omega
theorem At.good {z : Str} {q : Nat} {k : Cf} (h : At z q k) (hr : rsT z q = []) (e : fin k = true) : walk (DL.tl z) = none := by
  unfold walk
  have h1 := run_app _ (rsT z q) _ _ _ h.run
  rw [← split_rs] at h1
  rw [h1, hr]
  simp only [VW.run, e]
  rfl
/-- a value's end at a depth: what stands there either closes, parts, or goes on no more -/
def isEnd : Stt → Bool
  | .beh => true | .min => true | .fig => true | .quo => true | _ => false
structure EndAt (z : Str) (q d : Nat) : Prop where
  ex : ∃ k, At z q k ∧ k.dp = d ∧ isEnd k.st = true ∧ ∀ c r, rsT z q = c :: r → go k c = clo d c
theorem EndAt.blank {z : Str} {q d : Nat} {r : List Nat} (h : EndAt z q d) (hd : 0 < d) (hr : rsT z q = 32 :: r) : At z (q + 1) ⟨.val, d, 0⟩ := by
  obtain ⟨k, a, e, hk, hs⟩ := h.ex
  have e1 := hs 32 r hr
  have hn : k.st ≠ .ins := fun z => by rw [z] at hk; cases hk
  refine a.step hr ?_
  have e2 : dpN k 32 = d := by unfold dpN; rw [if_neg hn, e]; rfl
  have e3 : clo d 32 = some .val := if_pos ⟨hd, rfl⟩
  unfold stp
  rw [e1, e3, e2]
  rfl
theorem EndAt.close {z : Str} {q d : Nat} {r : List Nat} (h : EndAt z q d) (hd : 0 < d) (hr : rsT z q = 41 :: r) : EndAt z (q + 1) (d - 1) := by
  obtain ⟨k, a, e, hk, hs⟩ := h.ex
  have e1 := hs 41 r hr
  have hn : k.st ≠ .ins := fun z => by rw [z] at hk; cases hk
  refine ⟨⟨.beh, d - 1, 0⟩, a.step hr ?_, rfl, rfl, fun c r _ => rfl⟩
  have e2 : dpN k 41 = d - 1 := by unfold dpN; rw [if_neg hn, e]; rfl
  have e3 : clo d 41 = some .beh := by unfold clo; rw [if_neg (fun z => nomatch z.2), if_pos ⟨hd, rfl⟩]
  unfold stp
  rw [e1, e3, e2]
  rfl
theorem EndAt.bad {z : Str} {q d : Nat} (h : EndAt z q d) (h1 : ∀ r, rsT z q = 32 :: r → d = 0) (h2 : ∀ r, rsT z q = 41 :: r → d = 0) (h3 : rsT z q = [] → d ≠ 0) : walk (DL.tl z) = some q := by
  obtain ⟨k, a, e, hk, hs⟩ := h.ex
  cases hr : rsT z q with
  | nil =>
    refine a.stop hr ?_
    unfold fin
    have := h3 hr
    rw [decide_eq_false (by omega)]; rfl
  | cons c r =>
    refine a.bad hr ?_
    unfold stp
    rw [hs c r hr]
    unfold clo
    rw [if_neg (fun ⟨x, y⟩ => by subst y; have := h1 r hr; omega), if_neg (fun ⟨x, y⟩ => by subst y; have := h2 r hr; omega)]
    rfl
theorem EndAt.done {z : Str} {q : Nat} (h : EndAt z q 0) (hr : rsT z q = []) : walk (DL.tl z) = none := by
  obtain ⟨k, a, e, hk, hs⟩ := h.ex
  refine a.good hr ?_
  unfold fin
  rw [decide_eq_true e]
  cases hq : k.st <;> rw [hq] at hk <;> first | rfl | cases hk
end VW

set_option Elab.async false
set_option linter.all false
set_option maxRecDepth 100000
set_option maxHeartbeats 4000000
/-! Plain law: the automaton's steps as a reader takes them; values of any depth. -/
namespace VW
open PySem PySem.Spec PyProof.Rows L2 DL
/-! ### where a value begins -/
def Beg (z : Str) (p d : Nat) : Prop := At z p ⟨.val, d, 0⟩ ∨ (At z p ⟨.fst, d, 0⟩ ∧ ∀ r, rsT z p ≠ 41 :: r)
theorem beg_ne {c : Nat} (h : c ≠ 41) : beg c true = beg c false := by
  unfold beg
  rw [if_neg h, if_neg h]
theorem dp_of {st : Stt} {d m c : Nat} (h40 : c ≠ 40) (h41 : c ≠ 41) : dpN ⟨st, d, m⟩ c = d := by
  unfold dpN
  split
  · rfl
  · simp [h40, h41]
theorem Beg.go {z : Str} {p d c : Nat} {r : List Nat} (h : Beg z p d) (hr : rsT z p = c :: r) : ∃ st, At z p ⟨st, d, 0⟩ ∧ st ≠ .ins ∧ VW.go ⟨st, d, 0⟩ c = beg c false := by
  rcases h with h | ⟨h, hn⟩
  · exact ⟨.val, h, (fun z => nomatch z), rfl⟩
  · exact ⟨.fst, h, (fun z => nomatch z), beg_ne fun e => hn r (e ▸ hr)⟩
theorem Beg.one {z : Str} {p d c : Nat} {r : List Nat} {e : Stt} (h : Beg z p d) (hr : rsT z p = c :: r) (hb : beg c false = some e) (h40 : c ≠ 40) : At z (p + 1) ⟨e, d, if e = .fig then 1 else 0⟩ := by
  obtain ⟨st, a, hn, hg⟩ := h.go hr
  have h41 : c ≠ 41 := fun z => by subst z; exact nomatch hb
  refine a.step hr ?_
  unfold stp
  rw [hg, hb, dp_of h40 h41]
  rfl
theorem Beg.opn {z : Str} {p d : Nat} {r : List Nat} (h : Beg z p d) (hr : rsT z p = 40 :: r) : At z (p + 1) ⟨.fst, d + 1, 0⟩ := by
  obtain ⟨st, a, hn, hg⟩ := h.go hr
  refine a.step hr ?_
  have e2 : dpN ⟨st, d, 0⟩ 40 = d + 1 := by unfold dpN; rw [if_neg hn]; rfl
  unfold stp
  rw [hg, e2]
  rfl
theorem Beg.bad {z : Str} {p d c : Nat} {r : List Nat} (h : Beg z p d) (hr : rsT z p = c :: r) (hb : beg c false = none) : walk (DL.tl z) = some p := by
  obtain ⟨st, a, hn, hg⟩ := h.go hr
  refine a.bad hr ?_
  unfold stp
  rw [hg, hb]
  rfl
theorem fin_st {st : Stt} {d m : Nat} (h : isEnd st = false) : fin ⟨st, d, m⟩ = false := by
  unfold fin
  cases st <;> first | (exact Bool.and_false _) | cases h
theorem Beg.stop {z : Str} {p d : Nat} (h : Beg z p d) (hr : rsT z p = []) : walk (DL.tl z) = some p := by
  rcases h with h | ⟨h, _⟩
  · exact h.stop hr (fin_st rfl)
  · exact h.stop hr (fin_st rfl)
theorem Beg.le {z : Str} {p d : Nat} (h : Beg z p d) : p ≤ z.length := by
  rcases h with h | ⟨h, _⟩
  · exact h.le
  · exact h.le
/-! ### ends -/
theorem At.beh {z : Str} {p d : Nat} (h : At z p ⟨.beh, d, 0⟩) : EndAt z p d := ⟨_, h, rfl, rfl, fun c r _ => rfl⟩
theorem At.min {z : Str} {p d : Nat} (h : At z p ⟨.min, d, 0⟩) (hn : ∀ c r, rsT z p = c :: r → ¬ (49 ≤ c ∧ c ≤ 57)) : EndAt z p d := ⟨_, h, rfl, rfl, fun c r e => if_neg (hn c r e)⟩
theorem At.quo {z : Str} {p d : Nat} (h : At z p ⟨.quo, d, 0⟩) (hn : ∀ c r, rsT z p = c :: r → c ≠ 34) : EndAt z p d := ⟨_, h, rfl, rfl, fun c r e => if_neg (hn c r e)⟩
theorem At.fig {z : Str} {p d m : Nat} (h : At z p ⟨.fig, d, m⟩) (hn : 40 ≤ m ∨ ∀ c r, rsT z p = c :: r → ¬ isFig c) : EndAt z p d := ⟨_, h, rfl, rfl, fun c r e => if_neg fun z => by
  rcases hn with hn | hn
  · have : m < 40 := z.2
    omega
  · exact hn c r e z.1⟩
theorem At.empty {z : Str} {p d : Nat} {r : List Nat} (h : At z p ⟨.fst, d + 1, 0⟩) (hr : rsT z p = 41 :: r) : EndAt z (p + 1) d := (h.step (k' := ⟨.beh, d, 0⟩) hr rfl).beh
theorem EndAt.le {z : Str} {p d : Nat} (h : EndAt z p d) : p ≤ z.length := by
  obtain ⟨k, a, _⟩ := h.ex
  exact a.le
/-! ### within a text -/
theorem At.ins {z : Str} {p d c : Nat} {r : List Nat} (h : At z p ⟨.ins, d, 0⟩) (hr : rsT z p = c :: r) (hc : txs c = true) (h34 : c ≠ 34) : At z (p + 1) ⟨.ins, d, 0⟩ := by
  refine h.step hr ?_
  have e : VW.go ⟨.ins, d, 0⟩ c = some .ins := by
    show (if txs c = true then _ else _) = _
    rw [if_pos hc, if_neg h34]
  unfold stp
  rw [e]
  rfl
theorem At.insq {z : Str} {p d : Nat} {r : List Nat} (h : At z p ⟨.ins, d, 0⟩) (hr : rsT z p = 34 :: r) : At z (p + 1) ⟨.quo, d, 0⟩ := h.step hr rfl
theorem At.quoq {z : Str} {p d : Nat} {r : List Nat} (h : At z p ⟨.quo, d, 0⟩) (hr : rsT z p = 34 :: r) : At z (p + 1) ⟨.ins, d, 0⟩ := h.step hr rfl
theorem At.insb {z : Str} {p d c : Nat} {r : List Nat} (h : At z p ⟨.ins, d, 0⟩) (hr : rsT z p = c :: r) (hc : txs c = false) : walk (DL.tl z) = some p := by
  refine h.bad hr ?_
  have e : VW.go ⟨.ins, d, 0⟩ c = none := by
    show (if txs c = true then _ else _) = _
    rw [hc]
    rfl
  unfold stp
  rw [e]
  rfl
theorem At.inse {z : Str} {p d : Nat} (h : At z p ⟨.ins, d, 0⟩) (hr : rsT z p = []) : walk (DL.tl z) = some p := h.stop hr (fin_st rfl)
/-! ### figures -/
theorem At.figs {z : Str} {p d m c : Nat} {r : List Nat} (h : At z p ⟨.fig, d, m⟩) (hr : rsT z p = c :: r) (hc : isFig c) (hm : m < 40) : At z (p + 1) ⟨.fig, d, m + 1⟩ := by
  refine h.step hr ?_
  have e : VW.go ⟨.fig, d, m⟩ c = some .fig := if_pos ⟨hc, hm⟩
  unfold stp
  rw [e, dp_of (by omega) (by omega)]
  rfl
theorem At.minf {z : Str} {p d c : Nat} {r : List Nat} (h : At z p ⟨.min, d, 0⟩) (hr : rsT z p = c :: r) (hc : 49 ≤ c ∧ c ≤ 57) : At z (p + 1) ⟨.fig, d, 1⟩ := by
  refine h.step hr ?_
  have e : VW.go ⟨.min, d, 0⟩ c = some .fig := if_pos hc
  unfold stp
  rw [e, dp_of (by omega) (by omega)]
  rfl
theorem beg_fig {c : Nat} (h : 49 ≤ c ∧ c ≤ 57) : beg c false = some .fig := by
  unfold beg
  rw [if_neg (by omega), if_neg (by omega), if_pos h]
theorem beg_none {c : Nat} (h : ¬ isFig c) (h1 : c ≠ 43) (h2 : c ≠ 33) (h3 : c ≠ 45) (h4 : c ≠ 34) (h5 : c ≠ 40) : beg c false = none := by
  unfold beg
  rw [if_neg (by omega)]
  by_cases h6 : c = 41
  · rw [if_pos h6]; rfl
  · rw [if_neg h6, if_neg (by omega), if_neg h3, if_neg h4, if_neg h5]
/-! ### figures are a number's -/
theorem dig_ext : ∀ (l : List Nat) (n k : Nat), 0 < n → n < 10 ^ k → (∀ c ∈ l, isFig c) → ∃ m, TL.numL n ++ l = TL.numL m ∧ 0 < m ∧ m < 10 ^ (k + l.length)
  | [], n, k, h0, h1, _ => ⟨n, List.append_nil _, h0, h1⟩
  | c :: l, n, k, h0, h1, h2 => by
    have hc := h2 c List.mem_cons_self
    have e : TL.numL (10 * n + (c - 48)) = TL.numL n ++ [c] := by
      rw [TL.numL_step (by omega), show (10 * n + (c - 48)) / 10 = n by omega, show 48 + (10 * n + (c - 48)) % 10 = c by omega]
    have h3 : 10 * n + (c - 48) < 10 ^ (k + 1) := by rw [Nat.pow_succ]; omega
    obtain ⟨m, e2, h4, h5⟩ := dig_ext l (10 * n + (c - 48)) (k + 1) (by omega) h3 fun x hx => h2 x (List.mem_cons_of_mem _ hx)
    refine ⟨m, ?_, h4, by rw [List.length_cons, show k + (l.length + 1) = k + 1 + l.length by omega]; exact h5⟩
    rw [← e2, e]
    simp
theorem dig_num {c : Nat} {l : List Nat} (hc : 49 ≤ c ∧ c ≤ 57) (hl : ∀ x ∈ l, isFig x) (h : l.length < 40) : ∃ m, c :: l = TL.numL m ∧ 0 < m ∧ m < 10 ^ 40 := by
  have e : TL.numL (c - 48) = [c] := by rw [TL.numL_lt (by omega), show 48 + (c - 48) = c by omega]
  obtain ⟨m, e2, h4, h5⟩ := dig_ext l (c - 48) 1 (by omega) (by omega) hl
  rw [e] at e2
  exact ⟨m, e2, h4, Nat.lt_of_lt_of_le h5 (Nat.pow_le_pow_right (by omega) (by omega))⟩
/-! ### values of any depth -/
inductive Wu : DV → Prop
  | non : Wu .non
  | bl (b : Bool) : Wu (.bl b)
  | int (i : Int) (h : i.natAbs < 10 ^ 40) : Wu (.int i)
  | str (z : Str) : Wu (.str z)
  | tup (ds : List DV) (h : ∀ d ∈ ds, Wu d) : Wu (.tup ds)
theorem Wu.frz {d : DV} (h : Wu d) (s : Sto) : frzD s d = (d, s) := by cases h <;> rfl
inductive Wv : Nat → DV → Prop
  | non (n : Nat) : Wv n .non
  | bl (n : Nat) (b : Bool) : Wv n (.bl b)
  | int (n : Nat) (i : Int) (h : i.natAbs < 10 ^ 40) : Wv n (.int i)
  | str (n : Nat) (z : Str) : Wv n (.str z)
  | tup (n : Nat) (ds : List DV) (h : ∀ d ∈ ds, Wv n d) : Wv (n + 1) (.tup ds)
theorem Wv.up {n : Nat} {d : DV} (h : Wv n d) : ∀ {m : Nat}, n ≤ m → Wv m d := by
  induction h with
  | non => exact fun _ => .non _
  | bl _ b => exact fun _ => .bl _ b
  | int _ i h => exact fun _ => .int _ i h
  | str _ z => exact fun _ => .str _ z
  | tup n ds h ih =>
    intro m hm
    cases m with
    | zero => omega
    | succ m => exact .tup m ds fun d hd => ih d hd (by omega)
/-- brackets -/
def pc (l : List Nat) : Nat := l.countP fun c => decide (c = 40 ∨ c = 41)
theorem pc_app (a b : List Nat) : pc (a ++ b) = pc a + pc b := List.countP_append
theorem pc_cons (c : Nat) (l : List Nat) : pc (c :: l) = pc [c] + pc l := pc_app [c] l
theorem pc_len (l : List Nat) : pc l ≤ l.length := List.countP_le_length
theorem wu_dep {d : DV} (h : Wu d) : ∃ n, Wv n d ∧ 2 * n ≤ pc (wr d) := by
  induction h with
  | non => exact ⟨0, .non 0, Nat.zero_le _⟩
  | bl b => exact ⟨0, .bl 0 b, Nat.zero_le _⟩
  | int i h => exact ⟨0, .int 0 i h, Nat.zero_le _⟩
  | str z => exact ⟨0, .str 0 z, Nat.zero_le _⟩
  | tup ds h ih =>
    have key : ∀ es : List DV, (∀ d ∈ es, ∃ n, Wv n d ∧ 2 * n ≤ pc (wr d)) → ∃ n, (∀ d ∈ es, Wv n d) ∧ 2 * n ≤ pc (wrR es) := by
      intro es
      induction es with
      | nil => exact fun _ => ⟨0, fun d hd => (nomatch hd), Nat.zero_le _⟩
      | cons e es ih2 =>
        intro h2
        obtain ⟨n, hn, hp⟩ := h2 e List.mem_cons_self
        obtain ⟨m, hm, hq⟩ := ih2 fun d hd => h2 d (List.mem_cons_of_mem _ hd)
        have e3 : pc (wrR (e :: es)) = pc (wr e) + pc (wrR es) := by
          show pc (32 :: (wr e ++ wrR es)) = _
          rw [pc_cons, pc_app]
          show 0 + _ = _
          omega
        rcases Nat.le_total n m with hl | hl
        · refine ⟨m, fun d hd => ?_, by omega⟩
          rcases List.mem_cons.mp hd with rfl | hd
          · exact hn.up hl
          · exact hm d hd
        · refine ⟨n, fun d hd => ?_, by omega⟩
          rcases List.mem_cons.mp hd with rfl | hd
          · exact hn
          · exact (hm d hd).up hl
    obtain ⟨n, hn, hp⟩ := key ds ih
    refine ⟨n + 1, .tup n ds hn, ?_⟩
    have e3 : pc (wr (.tup ds)) = 2 + pc (wrJ ds) := by
      show pc (40 :: (wrJ ds ++ [41])) = _
      rw [pc_cons, pc_app]
      show 1 + (_ + 1) = _
      omega
    have e4 : pc (wrR ds) = pc (wrJ ds) := by
      cases ds with
      | nil => rfl
      | cons e es =>
        show pc (32 :: (wr e ++ wrR es)) = _
        rw [pc_cons]
        show 0 + _ = _
        rw [Nat.zero_add]
        rfl
    omega
theorem pc_le_of {l : List Nat} (h : ∀ c ∈ l, c ≠ 40 ∧ c ≠ 41) : pc l = 0 := List.countP_eq_zero.mpr fun c hc => by have := h c hc; simp; omega
theorem pc_wrI (i : Int) : pc (wrI i) = 0 := pc_le_of fun c hc => by
  cases i with
  | ofNat n =>
    have := TL.numL_digits n c hc
    omega
  | negSucc n =>
    rcases List.mem_cons.mp hc with rfl | hc
    · decide
    · have := TL.numL_digits (n + 1) c hc
      omega
theorem pc_dbl : ∀ l : List Nat, pc (StrLaws.dbl 34 l) ≤ l.length
  | [] => Nat.zero_le _
  | c :: l => by
    have ih := pc_dbl l
    by_cases h : c = 34
    · subst h
      rw [dbl_cons_eq, pc_cons, pc_cons 34 (StrLaws.dbl 34 l), List.length_cons]
      show 0 + (0 + _) ≤ _
      omega
    · have : pc [c] ≤ 1 := pc_len [c]
      rw [dbl_cons_ne h, pc_cons, List.length_cons]
      omega
theorem pc_str (z : Str) : pc (wr (.str z)) ≤ z.length := by
  show pc (34 :: (StrLaws.dbl 34 (DL.tl z) ++ [34])) ≤ _
  rw [pc_cons, pc_app]
  have := pc_dbl (DL.tl z)
  rw [← len_tl] at this
  show 0 + (_ + 0) ≤ _
  omega
theorem pc_wrR {m : Nat} : ∀ {ds : List DV}, (∀ d ∈ ds, pc (wr d) ≤ m) → pc (wrR ds) ≤ ds.length * m
  | [], _ => Nat.zero_le _
  | d :: ds, h => by
    have h1 := h d List.mem_cons_self
    have h2 := pc_wrR (ds := ds) fun e he => h e (List.mem_cons_of_mem _ he)
    show pc (32 :: (wr d ++ wrR ds)) ≤ _
    rw [pc_cons, pc_app, List.length_cons, Nat.succ_mul]
    show 0 + _ ≤ _
    omega
theorem pc_tup {m : Nat} {ds : List DV} (h : ∀ d ∈ ds, pc (wr d) ≤ m) : pc (wr (.tup ds)) ≤ 2 + ds.length * m := by
  have e3 : pc (wr (.tup ds)) = 2 + pc (wrJ ds) := by
    show pc (40 :: (wrJ ds ++ [41])) = _
    rw [pc_cons, pc_app]
    show 1 + (_ + 1) = _
    omega
  have e4 : pc (wrR ds) = pc (wrJ ds) := by
    cases ds with
    | nil => rfl
    | cons e es =>
      show pc (32 :: (wr e ++ wrR es)) = _
      rw [pc_cons]
      show 0 + _ = _
      rw [Nat.zero_add]
      rfl
  have := pc_wrR h
  omega
/-! ### tuples within one another -/
def nst (n : Nat) : List Nat := List.replicate n 40 ++ List.replicate n 41
theorem run_40 : ∀ (n d i : Nat) (st : Stt), st = .val ∨ st = .fst → 0 < n → run ⟨st, d, 0⟩ (List.replicate n 40) i = .inl ⟨.fst, d + n, 0⟩
  | 0, d, i, st, _, h => absurd h (by decide)
  | 1, d, i, st, h, _ => by rcases h with rfl | rfl <;> rfl
  | n + 2, d, i, st, h, _ => by
    have ih := run_40 (n + 1) (d + 1) (i + 1) .fst (.inr rfl) (by omega)
    have e : stp ⟨st, d, 0⟩ 40 = some ⟨.fst, d + 1, 0⟩ := by rcases h with rfl | rfl <;> rfl
    rw [List.replicate_succ]
    simp only [run, e]
    rw [ih, show d + 1 + (n + 1) = d + (n + 2) by omega]
theorem run_41 : ∀ (n d i : Nat), n ≤ d → run ⟨.beh, d, 0⟩ (List.replicate n 41) i = .inl ⟨.beh, d - n, 0⟩
  | 0, d, i, _ => rfl
  | n + 1, d, i, h => by
    have ih := run_41 n (d - 1) (i + 1) (by omega)
    have e : stp ⟨.beh, d, 0⟩ 41 = some ⟨.beh, d - 1, 0⟩ := by
      have e1 : VW.go ⟨.beh, d, 0⟩ 41 = some .beh := by
        show clo d 41 = _
        unfold clo
        rw [if_neg (fun z => nomatch z.2), if_pos ⟨by omega, rfl⟩]
      unfold stp
      rw [e1]
      rfl
    rw [List.replicate_succ]
    simp only [run, e]
    rw [ih, show d - 1 - n = d - (n + 1) by omega]
theorem walk_nst {n : Nat} (h : 0 < n) : walk (nst n) = none := by
  obtain ⟨m, rfl⟩ : ∃ m, n = m + 1 := ⟨n - 1, by omega⟩
  have e : run k0 (nst (m + 1)) 0 = .inl ⟨.beh, 0, 0⟩ := by
    unfold nst
    rw [run_app _ _ _ _ _ (run_40 (m + 1) 0 0 .val (.inl rfl) h), List.replicate_succ (n := m) (a := 41)]
    have e1 : stp ⟨.fst, 0 + (m + 1), 0⟩ 41 = some ⟨.beh, m, 0⟩ := by
      show some (Cf.mk .beh (0 + (m + 1) + 0 - 1) 0) = _
      rw [show 0 + (m + 1) + 0 - 1 = m by omega]
    simp only [run, e1]
    rw [run_41 m m _ (Nat.le_refl _), Nat.sub_self]
  unfold walk
  rw [e]
  rfl
theorem wr_nst {m : Nat} {d : DV} (h : Wu d) (e : wr d = nst (m + 1)) : (m = 0 ∧ d = .tup []) ∨ (0 < m ∧ ∃ d', d = .tup [d'] ∧ Wu d' ∧ wr d' = nst m) := by
  have e0 : nst (m + 1) = 40 :: (nst m ++ [41]) := by
    unfold nst
    rw [List.replicate_succ (a := 40), List.replicate_succ' (a := 41)]
    simp
  rw [e0] at e
  have h32 : 32 ∉ nst m := fun h => by
    unfold nst at h
    rcases List.mem_append.mp h with h | h
    · exact absurd (List.eq_of_mem_replicate h) (by decide)
    · exact absurd (List.eq_of_mem_replicate h) (by decide)
  cases h with
  | non => cases e
  | bl b => cases b <;> cases e
  | int i hi =>
    exfalso
    have e1 := pc_wrI i
    have e : wrI i = _ := e
    rw [e, pc_cons] at e1
    have e2 : pc [40] = 1 := rfl
    omega
  | str z => cases e
  | tup ds hd =>
    have e : 40 :: (wrJ ds ++ [41]) = 40 :: (nst m ++ [41]) := e
    have e1 : wrJ ds = nst m := by
      have := (List.cons.inj e).2
      exact List.append_cancel_right this
    cases ds with
    | nil =>
      cases m with
      | zero => exact .inl ⟨rfl, rfl⟩
      | succ m => cases e1
    | cons a r =>
      cases r with
      | nil =>
        have e2 : wr a = nst m := by
          have : wr a ++ [] = nst m := e1
          rwa [List.append_nil] at this
        refine .inr ⟨?_, a, rfl, hd a List.mem_cons_self, e2⟩
        cases m with
        | zero =>
          exfalso
          have e3 : wr a = [] := e2
          cases hd a List.mem_cons_self with
          | non => cases e3
          | bl b => cases b <;> cases e3
          | int i hi =>
            cases i with
            | ofNat n => exact TL.numL_ne n e3
            | negSucc n => cases e3
          | str z => cases e3
          | tup ds => cases e3
        | succ m => exact Nat.succ_pos m
      | cons b r =>
        exfalso
        have e2 : wr a ++ 32 :: (wr b ++ wrR r) = nst m := e1
        exact h32 (e2 ▸ List.mem_append_right _ List.mem_cons_self)
end VW

set_option Elab.async false
set_option linter.all false
set_option maxRecDepth 100000
set_option maxHeartbeats 4000000
namespace DL
open PySem PySem.Spec PyProof.Rows L2
variable {X : Cx} {A : Anc}
/-! ### d.get(k, x), d.get(k) -/
def kGetX (Q : KD) (ks : List (Key × DV)) (z : DV) (s3 : Sto) : Option Key → Prop
  | some k => Q ((getP ks k).getD z) s3
  | none => False
def kGetR (Q : KD) (y z : DV) (s3 : Sto) : Option MO → Prop
  | some (.dK ks) => kGetX Q ks z s3 (keyD y)
  | _ => False
def kGet3 (a : Addr) (y : DV) (Q : KD) (z : DV) (s3 : Sto) : Prop := kGetR Q y z s3 (s3 a)
def kGet2 (tx : TEd) (δ : Ed) (Q : KD) (a : Addr) (y : DV) (s2 : Sto) : Prop := tx δ s2 (kGet3 a y Q)
def isDK : Option MO → Prop
  | some (.dK _) => True
  | _ => False
def kGet1 (ty tx : TEd) (δ : Ed) (Q : KD) (d : DV) (s1 : Sto) : Prop := match d with
  | .ref a => isDK (s1 a) ∧ ty δ s1 (kGet2 tx δ Q a)
  | _ => False
def dGet2 (to ty tx : TEd) (δ : Ed) (s : Sto) (Q : KD) : Prop := to δ s (kGet1 ty tx δ Q)
theorem dGet2_q {to ty tx : TEd} {δ : Ed} {s : Sto} {Q : KD} : dGet2 to ty tx δ s Q = to δ s (kGet1 ty tx δ Q) := propext Iff.rfl
theorem kGet1_q {ty tx : TEd} {δ : Ed} {s : Sto} {Q : KD} {a : Addr} : kGet1 ty tx δ Q (.ref a) s = (isDK (s a) ∧ ty δ s (kGet2 tx δ Q a)) := propext Iff.rfl
theorem kGet2_q {tx : TEd} {δ : Ed} {s : Sto} {Q : KD} {a : Addr} {y : DV} : kGet2 tx δ Q a y s = tx δ s (kGet3 a y Q) := propext Iff.rfl
theorem kGet3_q {s : Sto} {Q : KD} {a : Addr} {y z : DV} : kGet3 a y Q z s = kGetR Q y z s (s a) := propext Iff.rfl
theorem kGetR_q {s : Sto} {Q : KD} {ks : List (Key × DV)} {y z : DV} : kGetR Q y z s (some (.dK ks)) = kGetX Q ks z s (keyD y) := propext Iff.rfl
theorem kGetX_q {s : Sto} {Q : KD} {ks : List (Key × DV)} {z : DV} {k : Key} : kGetX Q ks z s (some k) = Q ((getP ks k).getD z) s := propext Iff.rfl
theorem isDK_q {ks : List (Key × DV)} : isDK (some (.dK ks)) = True := propext Iff.rfl
section
variable {o e f : Expr} {apos cpos : Pos} {to ty tx : TEd}
theorem ddget2 (hu : X.A.units + 1 < cLine) (ho : PD A X o to) (he : PD A X e ty) (hf : PD A X f tx) (m : M2 X o "get" apos e f cpos := by exact ⟨rfl, rfl, rfl, rfl⟩) : PD A X (.Call (.Attribute o "get" apos) [e, f] [] cpos) (dGet2 to ty tx) := peImp (pe_dget2 hu ho he hf m) fun σ H Q h => by
  obtain ⟨δ, s, Q', S, t, k⟩ := h
  refine ⟨δ, s, _, S, t, fun v H1 d s1 st1 rep1 dv q => ?_⟩
  cases d with
  | ref a =>
    cases dv
    obtain ⟨q0, q⟩ := q
    cases e1 : s1 a with
    | none => rw [e1] at q0; exact q0.elim
    | some mo =>
      rw [e1] at q0
      cases mo with
      | dK ks =>
        obtain ⟨kvs, hH, hp⟩ := rep1 a _ e1
        refine ⟨a, rfl, .inl ⟨kvs, .inl hH⟩, δ, s1, _, S.go st1 rep1, q, fun v2 H2 d2 s2 st2 rep2 dv2 q2 => ?_⟩
        refine ⟨δ, s2, _, (S.go st1 rep1).go st2 rep2, q2, fun v3 H3 d3 s3 st3 rep3 dv3 q3 => ?_⟩
        have q3 : kGetR Q' d2 d3 s3 (s3 a) := q3
        have kk := fun v d hv q => k v H3 d s3 ((st1.trans st2).trans st3) rep3 hv q
        cases e3 : s3 a with
        | none => rw [e3] at q3; exact q3.elim
        | some mo =>
          rw [e3] at q3
          cases mo with
          | dK ks3 =>
            obtain ⟨kvs3, hH3, hp3⟩ := rep3 a _ e3
            have q3 : kGetX Q' ks3 d3 s3 (keyD d2) := q3
            cases ek : keyD d2 with
            | none => rw [ek] at q3; exact q3.elim
            | some kx =>
              rw [ek] at q3
              have q3 : Q' ((getP ks3 kx).getD d3) s3 := q3
              refine ⟨valV kvs3 kx, .inl ⟨kvs3, kx, .inl hH3, keyD_ok dv2 ek, rfl⟩, ?_⟩
              cases eg : getP ks3 kx with
              | none =>
                rw [eg] at q3
                rw [getP_none hp3 eg]
                exact kk _ _ dv3 q3
              | some dd =>
                rw [eg] at q3
                obtain ⟨vv, h1, h2⟩ := getP_ok hp3 eg
                rw [h1]
                exact kk _ _ h2 q3
          | _ => exact q3.elim
      | _ => exact q0.elim
  | _ => exact q.elim
end
/-! ### enumerate(text) -/
def iEnT (ta : TA) : TI := fun σ H R => ta σ H fun vs H1 => ∃ z : Str, vs = [.str z] ∧ R (Iten z 0) H1
theorem pi_enT {e : Expr} {ta : TA} {p pos tpos : Pos} {elts : List Expr} {kk : Nat} (hg : Gl X "enumerate") (hm : X.mg "enumerate" = none) (ha : PA X [e] ta) (hs : starEach [e] X.env = [(false, eval e X.env)] := by rfl) :
    PI X (.Tuple elts kk tpos) (.Call (.Name "enumerate" p) [e] [] pos) (iEnT ta) := by
  refine ⟨fun pins s σ H R I h => ?_⟩
  refine Call_ (ld_blt I hg hm boot_enumerate (PyProof.Rows.callWith_type1 (thn (ha.run pos pins s σ H _ I h) fun us s1 ⟨vs, H1, I1, r1, q1⟩ => ?_) hs rfl))
  obtain ⟨z, ex, q⟩ := q1
  subst ex
  cases r1 with
  | cons r rr =>
    cases rr
    obtain ⟨t, rfl⟩ := r
    refine call_enumerate_str fun h' he hit hsz hk => wpAny_pyIter_enum he ?_
    have I2 : Inv X pins σ H1 { s1 with heap := h' } := I1.kept (t' := s1.toks) hk
    refine ⟨s1.heap.objs.size + 1, [s1.heap.objs.size + 1, s1.heap.objs.size], _, _, H1, rfl, I2, enumS_turn (s1.heap.objs.size + 1) s1.heap.objs.size z t 0, ⟨⟨.none, by rw [show (0 : Int) + ((0 : Nat) : Int) = 0 by omega]; exact he⟩, hit, Nat.succ_ne_self _⟩, fun b hb => ?_, q⟩
    have hle : s1.heap.objs.size ≤ b := by
      rcases List.mem_cons.mp hb with y | y
      · rw [y]; exact Nat.le_succ _
      · rw [List.mem_singleton.mp y]; exact Nat.le_refl _
    exact I1.fpOk hle (I1.hok.fresh hle)
def kEnT (R : List DV → (Sto → Prop) → Sto → Prop) (ds : List DV) (s1 : Sto) : Prop := match ds with
  | [.str z] => R (enD z 0) gTrue s1
  | _ => False
def dEnT (t : TAd) (δ : Ed) (s : Sto) (R : List DV → (Sto → Prop) → Sto → Prop) : Prop := t δ s (kEnT R)
theorem dEnT_q {t : TAd} {δ : Ed} {s : Sto} {R : List DV → (Sto → Prop) → Sto → Prop} : dEnT t δ s R = t δ s (kEnT R) := propext Iff.rfl
theorem kEnT_q {z : Str} {s : Sto} {R : List DV → (Sto → Prop) → Sto → Prop} : kEnT R [.str z] s = R (enD z 0) gTrue s := propext Iff.rfl
theorem denT {e : Expr} {t : TAd} {p pos tpos : Pos} {es : List Expr} {kk : Nat} (hm : X.mg "enumerate" = none) (ha : PAd A X [e] t) (hg : Gl X "enumerate" := by rfl) (hs : starEach [e] X.env = [(false, eval e X.env)] := by rfl) :
    PId A X (.Tuple es kk tpos) (.Call (.Name "enumerate" p) [e] [] pos) (dEnT t) := piImp (pi_enT hg hm ha hs) fun σ H R h => by
  obtain ⟨δ, s, R', S, t, k⟩ := h
  refine ⟨δ, s, _, S, t, fun vs H1 ds s1 st1 rep1 dv q => ?_⟩
  unfold kEnT at q
  split at q
  · rename_i z
    cases dv with
    | cons h t =>
      cases t
      cases h
      exact ⟨z, rfl, k _ gTrue s1 H1 _ st1 rep1 itd_enS q⟩
  · exact q.elim
end DL

set_option Elab.async false
set_option linter.all false
set_option maxRecDepth 100000
set_option maxHeartbeats 4000000
namespace DL
open PySem PySem.Spec PyProof.Rows L2
/-! ### isinstance(e, (A, B)): e a caught exception, A, B own classes -/
section
variable {X : Cx} {A : Anc}
def tOwn : List Addr → TA
  | [] => tNil
  | c :: r => tCons (tC (.ref c)) (tOwn r)
theorem tOwn_run {σ : L2.St} {H : Hp} : ∀ {cs : List Addr} {R : List V → Hp → Prop}, R (cs.map fun c => .ref c) H → tOwn cs σ H R
  | [], _, r => r
  | _ :: cs, _, r => tOwn_run (cs := cs) r
theorem clsV_own : ∀ cs : List Addr, Paired ClsV (cs.map fun c => V.ref c) (cs.map fun c => Value.ref c)
  | [] => .nil
  | c :: cs => .cons (.own c) (clsV_own cs)
def rIskT (C : Addr) (cs : List Addr) (b : Bool) : List V → Hp → VK → Prop := fun xs H Q => ∃ (a dx tp : Addr), xs = [.ref a, .ref tp] ∧ H a = some (exk a C dx) ∧ (∃ gs, H dx = some (.xd gs)) ∧ H tp = some (.tup (cs.map fun c => V.ref c)) ∧ Q (.bl b) H
theorem call_iskT {C : Addr} {cs : List Addr} {b : Bool} (Z : XfC X.K C) (W : IskC X.K C) (hk : PySem.W.kitAny X.K (.ref C) (cs.map fun c => Value.ref c) = some b) : CallR X (.builtin "isinstance") (rIskT C cs b) := by
  intro pins s σ H xs us Q I r h
  obtain ⟨a, dx, tp, rfl, ea, ⟨gs, ed⟩, hT, q⟩ := h
  obtain ⟨u1, u2, rfl, r1, r2⟩ := vals2 r
  cases (show u2 = Value.ref tp from r2)
  cases (show u1 = Value.ref a from r1)
  obtain ⟨oe, ha, hc, hd, hn⟩ := exk_at I.hok ea
  have hx : ObjOk X.prog X.w H s.heap dx (.xd gs) := I.hok dx _ ed
  obtain ⟨mA, hns, hr⟩ := hx
  obtain ⟨od, ho, hl⟩ := lookIn_ns hns
  have J : PySem.W.InstAt s.heap a oe C (some od) := ⟨ha, hc, hn, by rw [hd]; exact ho⟩
  obtain ⟨_, its, rv, o, h1, h2, n, h3⟩ := (show ObjOk X.prog X.w H s.heap tp (.tup (cs.map fun c => V.ref c)) from I.hok tp _ hT)
  have e3 := ClsV.all (clsV_own cs) rv
  subst e3
  obtain ⟨oc, od2, dt, sl⟩ := o
  simp only at h2 h3
  subst h2 h3
  exact PySem.W.kia_tup (PySem.W.kitx_exc W.hcl Z.ga Z.gg Z.exC W.ha W.hn W.ht W.hm) I.kIn J h1 hk (fun z => nomatch z) fun tk => ⟨.bl b, H, I.kept (t' := tk) fun _ _ z => z, rfl, q⟩
def kIskT (C : Addr) (b : Bool) (Q : KD) (d : DV) (s1 : Sto) : Prop := match d with
  | .ref a => match s1 a with
    | some (.exc C' fs) => C' = C ∧ Q (.bl b) s1
    | _ => False
  | _ => False
def dIskT (te : TEd) (C : Addr) (b : Bool) (δ : Ed) (s : Sto) (Q : KD) : Prop := te δ s (kIskT C b Q)
theorem dIskT_q {te : TEd} {C : Addr} {b : Bool} {δ : Ed} {s : Sto} {Q : KD} : dIskT te C b δ s Q = te δ s (kIskT C b Q) := propext Iff.rfl
theorem diskT {C : Addr} {cs : List Addr} {b : Bool} {e : Expr} {te : TEd} {es : List Expr} {p p2 pos : Pos} {x1} (Z : XfC X.K C) (W : IskC X.K C) (hk : PySem.W.kitAny X.K (.ref C) (cs.map fun c => Value.ref c) = some b) (he : PD A X e te) (hm : X.mg "isinstance" = none) (ht : PA X es (tOwn cs)) (hl : cs.length ≤ 1000 := by first | decide | exact Nat.le_of_ble_eq_true rfl)
    (hg : Gl X "isinstance" := by rfl) (hs : starEach [e, .Tuple es x1 p2] X.env = (false, eval e X.env) :: starEach [.Tuple es x1 p2] X.env := by rfl) (hs2 : starEach [.Tuple es x1 p2] X.env = (false, eval (.Tuple es x1 p2) X.env) :: starEach [] X.env := by rfl)
    (hpl : (backTo pos (starEach [.Tuple es x1 p2] X.env)).any (·.1) = false := by rfl) : PD A X (.Call (.Name "isinstance" p) [e, .Tuple es x1 p2] [] pos) (dIskT te C b) := by
  refine peImp (pe_callB (call_iskT Z W hk) hg hm (by decide +kernel) (pa_cons he (pa_cons (pe_tup ht) pa_nil hs2) hs) (by decide) (by decide) hs hpl) fun σ H Q h => ?_
  obtain ⟨δ, s, Q', S, t, k⟩ := h
  refine ⟨δ, s, _, S, t, fun v H1 d s1 st1 rep1 dv q => ?_⟩
  refine tOwn_run ⟨by rw [List.length_map, sizeLine_eq]; omega, fun p hp => ?_⟩
  unfold kIskT at q
  split at q
  · rename_i a
    cases dv
    split at q
    · rename_i C' fs e
      obtain ⟨rfl, q⟩ := q
      obtain ⟨dx, gs, h1, hp2, hx, n⟩ := rep1 a _ e
      have na : a ≠ p := fun z => by rw [z, hp] at h1; cases h1
      have nd : dx ≠ p := fun z => by rw [z, hp] at hx; cases hx
      exact ⟨a, dx, p, rfl, by rw [upd_ne na]; exact h1, ⟨gs, by rw [upd_ne nd]; exact hx⟩, upd_same, k _ _ _ s1 (st1.trans (Stp.newF hp)) (rep1.newF hp) (.bl _) q⟩
    · exact q.elim
  · exact q.elim
/-- a class's name -/
theorem pe_own {C : Addr} {x : Str} {p : Pos} (hm : X.mg x = some (.ref C)) (hg : Gl X x := by rfl) (hd : (x == ("__debug__" : Str)) = false := by decide) : PE X (.Name x p) (tC (.ref C)) := pe_glob (v := .ref C) hg hm rfl hd
end
end DL
namespace DL
open PySem PySem.Spec PyProof.Rows L2
section
variable {X : Cx}
/-! ### a new list that is changed later: a + b -/
def dAddM (x y : DV) (s : Sto) (Q : KD) : Prop := match x, y with
  | .lst a, .lst b => a.length + b.length ≤ sizeLine ∧ ∀ r, s r = none → Q (.ref r) (up s r (.lst (a ++ b)))
  | _, _ => False
theorem dAddM_q {a b : List DV} {s : Sto} {Q : KD} : dAddM (.lst a) (.lst b) s Q = (a.length + b.length ≤ sizeLine ∧ ∀ r, s r = none → Q (.ref r) (up s r (.lst (a ++ b)))) := propext Iff.rfl
theorem od_addM : OpD X (binaryOp .Add) dAddM := by
  refine opImp op_cat fun x y H Q h => ?_
  obtain ⟨dx, dy, s, Q', rep, hx, hy, r, k⟩ := h
  unfold dAddM at r
  split at r
  · rename_i a b
    obtain ⟨z, q⟩ := r
    obtain ⟨p, xs, rfl, h1, l1⟩ := lstW_ok rep hx (show lstW s (.lst a) = some a from rfl)
    obtain ⟨p2, ys, rfl, h2, l2⟩ := lstW_ok rep hy (show lstW s (.lst b) = some b from rfl)
    refine ⟨p, p2, xs, ys, rfl, rfl, h1, h2, by rw [l1.length, l2.length]; exact z, fun r hr => ?_⟩
    have st : Stp s H (up s r (.lst (a ++ b))) (upd H r (.lst (xs ++ ys))) := Stp.new hr
    have rep2 : Rep X.K (up s r (.lst (a ++ b))) (upd H r (.lst (xs ++ ys))) := rep.put st ⟨xs ++ ys, upd_same, (l1.append l2).step st rep⟩
    exact k _ _ _ _ st rep2 (.ref r) (q r (rep.fresh hr))
  · exact r.elim
end
end DL

set_option Elab.async false
set_option linter.all false
set_option maxRecDepth 100000
set_option maxHeartbeats 4000000
namespace DL
open PySem PySem.Spec PyProof.Rows L2
/-! ### a def that calls itself hundreds of times within itself: room counted by the frame -/
structure Deep (j : Nat) (A : Around) : Prop where
  hd : A.handled = none
  dp : A.depth + j + 100 < recursionLimit
  un : A.units + 16 * j + 2000 < cLine
theorem Deep.mono {i j : Nat} {A : Around} (h : Deep j A) (hi : i ≤ j) : Deep i A := ⟨h.hd, by have := h.dp; omega, by have := h.un; omega⟩
theorem Deep.deeper {j : Nat} {A : Around} (h : Deep (j + 1) A) (env : Env) : Deep j (A.deeper env) :=
  ⟨h.hd, by have := h.dp; show A.depth + 1 + j + 100 < _; omega, by have := h.un; show A.units + 3 + 16 * j + 2000 < _; omega⟩
theorem Deep.room {j : Nat} {A : Around} (h : Deep j A) : Room 30 A := ⟨h.hd, by have := h.dp; omega, by have := h.un; omega⟩
structure FnD (j : Nat) (P : Program) (w : World) (K : PySem.W.Frag) (mg : Str → Option Value) (base : Heap) (x : Str) (k : Nat) (ps : List Str) (sp : Spd) : Prop where
  ex : ∃ f fd, FnTk (Deep j) 0 P w K mg base CX0 k f fd ps (lSp K sp) ∧ mg x = some (.ref f) ∧ PySem.W.keepIn K (.ref f) = true ∧ Binds K fd ps []
theorem fnOkD {P : Program} {w : World} {K : PySem.W.Frag} {mg : Str → Option Value} {base : Heap} {x : Str} {st : Stmt} {N ps : List Str} {j k : Nat} {sp : Spd} {t : TSd} (D : DefAt K mg x st ps) (S : FnScope N ps (defScope st)) (len : ∀ ds s Q E, sp ds s Q E → ds.length = ps.length)
    (hbody : ∀ (A : Anc) (f : Addr) (cdv : Value) (Ar : Around) (outer : List Env) (s : Shared) (H : Hp) (E : XK), Deep j Ar → Room k (Ar.deeper (envOfC x (defScope st) s.heap.objs.size f cdv)) →
      PSsd A (cxOf CX0 P w K mg base N x (defScope st) f cdv Ar outer s H E).nox (defBody st) t)
    (hread : ∀ ds s Q E, sp ds s Q E → t { nx := fun _ s => Q .non s, rt := Q } (startD N.length ds) s) : FnD j P w K mg base x (k + 1) ps sp := by
  obtain ⟨f, fd, F, hm, hk, hb⟩ := D.ex
  exact ⟨f, fd, defOkT F S len (fun A cdv Ar outer s H E hA hr => PSsdN.of (hbody A f cdv Ar outer s H E hA hr)) hread, hm, hk, hb⟩
section
variable {A : Anc} {X : Cx} {j k : Nat} {ps : List Str} {sp : Spd} {x : Str} {p pos : Pos} {e : Expr} {es : List Expr} {t : TAd}
theorem dFD (G : FnD j X.prog X.w X.K X.mg X.base x k ps sp) (hA : Deep j X.A) (hr : Room k X.A) (ha : PAd A X (e :: es) t) (hg : Gl X x := by rfl) (hdb : (x == ("__debug__" : Str)) = false := by decide) (he : starEach (e :: es) X.env = (false, eval e X.env) :: starEach es X.env := by rfl)
    (hpl : (backTo pos (starEach es X.env)).any (·.1) = false := by rfl) : PD A X (.Call (.Name x p) (e :: es) [] pos) (dCall sp [] t) := by
  obtain ⟨f, fd, F, hm, hk, hb⟩ := G.ex
  have h0 : PEN 0 X (.Call (.Name x p) (e :: es) [] pos) (lE X.K A (dCall sp [] t)) := by
    refine (pen_call (E := fun _ _ _ _ => False) F hA hr hg hm hk hb (fun σ pins H s e s' I h => h.elim) (PAN.of ha) hdb he hpl).imp fun σ H Q h => ?_
    obtain ⟨δ, s, Q', S, t, k⟩ := h
    refine ⟨δ, s, _, S, t, fun vs H1 es s1 st1 rep1 dv q => ?_⟩
    have q2 : cSp sp (es ++ []) s1 Q' noX := q
    rw [List.append_nil] at q2
    exact ⟨es, s1, Q', noX, rep1, dv, q2, fun v2 H2 d2 s2 st2 => k v2 H2 d2 s2 (st1.trans st2), ExL.no⟩
  exact ⟨fun pins s σ H Q I q => h0.run pins s σ H Q (Nat.zero_le _) I q⟩
end
end DL

set_option Elab.async false
set_option linter.all false
set_option maxRecDepth 100000
set_option maxHeartbeats 4000000
/-! Plain law: each beginning of a writing goes on; what is refused is refused by its first signs; writings tell values apart. -/
namespace VW
open PySem PySem.Spec PyProof.Rows L2 DL
/-- a value whose texts have signs that texts may have -/
inductive Gd : DV → Prop
  | non : Gd .non
  | bl (b : Bool) : Gd (.bl b)
  | int (i : Int) (h : i.natAbs < 10 ^ 40) : Gd (.int i)
  | str (z : Str) (h : ∀ c ∈ DL.tl z, txs c = true) : Gd (.str z)
  | tup (ds : List DV) (h : ∀ d ∈ ds, Gd d) : Gd (.tup ds)
theorem Gd.wu {d : DV} (h : Gd d) : Wu d := by
  induction h with
  | non => exact .non
  | bl b => exact .bl b
  | int i h => exact .int i h
  | str z h => exact .str z
  | tup ds h ih => exact .tup ds ih
/-! ### beginnings -/
theorem run_pre : ∀ (a b : List Nat) (k : Cf) (i : Nat) (k' : Cf), run k (a ++ b) i = .inl k' → ∃ k2, run k a i = .inl k2
  | [], b, k, i, k', h => ⟨k, rfl⟩
  | c :: a, b, k, i, k', h => by
    cases e : stp k c with
    | none => simp only [List.cons_append, run, e] at h; cases h
    | some k2 =>
      simp only [List.cons_append, run, e] at h
      simp only [run, e]
      exact run_pre a b k2 (i + 1) k' h
theorem end_32 {e : Stt} {D m : Nat} (h : isEnd e = true) (hD : 0 < D) : stp ⟨e, D, m⟩ 32 = some ⟨.val, D, 0⟩ := by
  have e3 : clo D 32 = some .val := if_pos ⟨hD, rfl⟩
  have e1 : go ⟨e, D, m⟩ 32 = clo D 32 := by
    cases e with
    | beh => rfl
    | min => rfl
    | quo => rfl
    | fig => exact if_neg (show ¬ ((48 ≤ 32 ∧ 32 ≤ 57) ∧ m < 40) from fun z => absurd z.1.1 (by decide)) (t := (some Stt.fig : Option Stt)) (e := clo D 32)
    | val => cases h
    | fst => cases h
    | ins => cases h
  have e2 : dpN ⟨e, D, m⟩ 32 = D := dp_of (by decide) (by decide)
  unfold stp
  rw [e1, e3, e2]
  rfl
theorem end_41 {e : Stt} {D m : Nat} (h : isEnd e = true) (hD : 0 < D) : stp ⟨e, D, m⟩ 41 = some ⟨.beh, D - 1, 0⟩ := by
  have e3 : clo D 41 = some .beh := by unfold clo; rw [if_neg (fun z => nomatch z.2), if_pos ⟨hD, rfl⟩]
  have e1 : go ⟨e, D, m⟩ 41 = clo D 41 := by
    cases e with
    | beh => rfl
    | min => rfl
    | quo => rfl
    | fig => exact if_neg (show ¬ ((48 ≤ 41 ∧ 41 ≤ 57) ∧ m < 40) from fun z => absurd z.1.1 (by decide)) (t := (some Stt.fig : Option Stt)) (e := clo D 41)
    | val => cases h
    | fst => cases h
    | ins => cases h
  have hn : e ≠ .ins := fun z => by rw [z] at h; cases h
  have e2 : dpN ⟨e, D, m⟩ 41 = D - 1 := by unfold dpN; rw [if_neg hn]; rfl
  unfold stp
  rw [e1, e3, e2]
  rfl
theorem run_figs : ∀ (l : List Nat) (D m i : Nat), (∀ c ∈ l, isFig c) → m + l.length ≤ 40 → run ⟨.fig, D, m⟩ l i = .inl ⟨.fig, D, m + l.length⟩
  | [], D, m, i, _, _ => rfl
  | c :: l, D, m, i, h, hm => by
    have hc := h c List.mem_cons_self
    have hm' : m + (l.length + 1) ≤ 40 := hm
    have e1 : go ⟨.fig, D, m⟩ c = some .fig := if_pos (show (48 ≤ c ∧ c ≤ 57) ∧ m < 40 from ⟨hc, by omega⟩)
    have e : stp ⟨.fig, D, m⟩ c = some ⟨.fig, D, m + 1⟩ := by
      unfold stp
      rw [e1, dp_of (by omega) (by omega)]
      rfl
    simp only [run, e]
    rw [run_figs l D (m + 1) (i + 1) (fun x hx => h x (List.mem_cons_of_mem _ hx)) (by omega), List.length_cons, show m + 1 + l.length = m + (l.length + 1) by omega]
theorem run_ins : ∀ (l : List Nat) (D i : Nat), (∀ c ∈ l, txs c = true) → run ⟨.ins, D, 0⟩ (StrLaws.dbl 34 l) i = .inl ⟨.ins, D, 0⟩
  | [], D, i, _ => rfl
  | c :: l, D, i, h => by
    have hc := h c List.mem_cons_self
    have hl : ∀ x ∈ l, txs x = true := fun x hx => h x (List.mem_cons_of_mem _ hx)
    by_cases h34 : c = 34
    · subst h34
      rw [dbl_cons_eq]
      have e1 : stp ⟨.ins, D, 0⟩ 34 = some ⟨.quo, D, 0⟩ := rfl
      have e2 : stp ⟨.quo, D, 0⟩ 34 = some ⟨.ins, D, 0⟩ := rfl
      simp only [run, e1, e2]
      exact run_ins l D _ hl
    · rw [dbl_cons_ne h34]
      have e0 : go ⟨.ins, D, 0⟩ c = some .ins := by
        show (if txs c = true then _ else _) = _
        rw [if_pos hc, if_neg h34]
      have e1 : stp ⟨.ins, D, 0⟩ c = some ⟨.ins, D, 0⟩ := by unfold stp; rw [e0]; rfl
      simp only [run, e1]
      exact run_ins l D _ hl
theorem stp_beg {st : Stt} {D c : Nat} {e : Stt} (hs : st = .val ∨ st = .fst) (hb : beg c false = some e) (h40 : c ≠ 40) : stp ⟨st, D, 0⟩ c = some ⟨e, D, if e = .fig then 1 else 0⟩ := by
  have h41 : c ≠ 41 := fun z => by subst z; exact nomatch hb
  have e1 : go ⟨st, D, 0⟩ c = some e := by
    rcases hs with rfl | rfl
    · exact hb
    · exact (beg_ne h41).trans hb
  unfold stp
  rw [e1, dp_of h40 h41]
  rfl
theorem numL_40 {n : Nat} (h : n < 10 ^ 40) : (TL.numL n).length ≤ 40 := TL.numL_len (by decide) h
theorem run_num {st : Stt} {D n i : Nat} (hs : st = .val ∨ st = .fst) (hn : n < 10 ^ 40) : ∃ e m, isEnd e = true ∧ run ⟨st, D, 0⟩ (TL.numL n) i = .inl ⟨e, D, m⟩ := by
  by_cases h0 : n = 0
  · subst h0
    have e := stp_beg (D := D) (c := 48) (e := .beh) hs rfl (by decide)
    refine ⟨.beh, 0, rfl, ?_⟩
    rw [TL.numL_lt (by decide)]
    simp only [run, Nat.add_zero, e]
    rfl
  · obtain ⟨c, l, e0, hc⟩ := numL_head (n := n) (by omega)
    have e := stp_beg (D := D) (c := c) (e := .fig) hs (beg_fig hc) (by omega)
    have hl := numL_40 hn
    have hd := TL.numL_digits n
    rw [e0] at hl hd ⊢
    have hl : l.length + 1 ≤ 40 := hl
    refine ⟨.fig, 1 + l.length, rfl, ?_⟩
    simp only [run, e]
    exact run_figs l D 1 _ (fun x hx => hd x (List.mem_cons_of_mem _ hx)) (by omega)
theorem run_wr {d : DV} (h : Gd d) : ∀ (D i : Nat) (st : Stt), st = .val ∨ st = .fst → ∃ e m, isEnd e = true ∧ run ⟨st, D, 0⟩ (wr d) i = .inl ⟨e, D, m⟩ := by
  induction h with
  | non =>
    intro D i st hs
    have e := stp_beg (D := D) (c := 45) (e := .min) hs rfl (by decide)
    refine ⟨.min, 0, rfl, ?_⟩
    show run _ [45] i = _
    simp only [run, e]
    rfl
  | bl b =>
    intro D i st hs
    cases b with
    | true =>
      have e := stp_beg (D := D) (c := 43) (e := .beh) hs rfl (by decide)
      refine ⟨.beh, 0, rfl, ?_⟩
      show run _ [43] i = _
      simp only [run, e]
      rfl
    | false =>
      have e := stp_beg (D := D) (c := 33) (e := .beh) hs rfl (by decide)
      refine ⟨.beh, 0, rfl, ?_⟩
      show run _ [33] i = _
      simp only [run, e]
      rfl
  | int z hz =>
    intro D i st hs
    cases z with
    | ofNat n => exact run_num hs hz
    | negSucc n =>
      have hn : n + 1 < 10 ^ 40 := hz
      have e := stp_beg (D := D) (c := 45) (e := .min) hs rfl (by decide)
      obtain ⟨c, l, e0, hc⟩ := numL_head (n := n + 1) (by omega)
      have hl := numL_40 hn
      have hd := TL.numL_digits (n + 1)
      show ∃ e m, isEnd e = true ∧ run ⟨st, D, 0⟩ (45 :: TL.numL (n + 1)) i = _
      rw [e0] at hl hd ⊢
      have hl : l.length + 1 ≤ 40 := hl
      have e1 : go ⟨.min, D, 0⟩ c = some .fig := if_pos hc
      have e2 : stp ⟨.min, D, 0⟩ c = some ⟨.fig, D, 1⟩ := by
        unfold stp
        rw [e1, dp_of (by omega) (by omega)]
        rfl
      have e : stp ⟨st, D, 0⟩ 45 = some ⟨.min, D, 0⟩ := e
      refine ⟨.fig, 1 + l.length, rfl, ?_⟩
      simp only [run, e, e2]
      exact run_figs l D 1 _ (fun x hx => hd x (List.mem_cons_of_mem _ hx)) (by omega)
  | str z hz =>
    intro D i st hs
    have e : stp ⟨st, D, 0⟩ 34 = some ⟨.ins, D, 0⟩ := stp_beg (D := D) (c := 34) (e := .ins) hs rfl (by decide)
    refine ⟨.quo, 0, rfl, ?_⟩
    show run _ (34 :: (StrLaws.dbl 34 (DL.tl z) ++ [34])) i = _
    simp only [run, e]
    rw [run_app _ _ _ _ _ (run_ins (DL.tl z) D (i + 1) hz)]
    rfl
  | tup ds hds ih =>
    intro D i st hs
    have eo : stp ⟨st, D, 0⟩ 40 = some ⟨.fst, D + 1, 0⟩ := by rcases hs with rfl | rfl <;> rfl
    have rest : ∀ (es : List DV), (∀ e ∈ es, e ∈ ds) → ∀ (i m : Nat) (e : Stt), isEnd e = true → ∃ e2 m2, isEnd e2 = true ∧ run ⟨e, D + 1, m⟩ (wrR es) i = .inl ⟨e2, D + 1, m2⟩ := by
      intro es
      induction es with
      | nil => exact fun _ i m e he => ⟨e, m, he, rfl⟩
      | cons x es ih2 =>
        intro hx i m e he
        obtain ⟨e2, m2, he2, r2⟩ := ih x (hx x List.mem_cons_self) (D + 1) (i + 1) .val (.inl rfl)
        obtain ⟨e3, m3, he3, r3⟩ := ih2 (fun y hy => hx y (List.mem_cons_of_mem _ hy)) (i + 1 + (wr x).length) m2 e2 he2
        refine ⟨e3, m3, he3, ?_⟩
        show run _ (32 :: (wr x ++ wrR es)) i = _
        have e32 := end_32 (m := m) he (Nat.succ_pos D)
        simp only [run, e32]
        rw [run_app _ _ _ _ _ r2]
        exact r3
    show ∃ e m, isEnd e = true ∧ run ⟨st, D, 0⟩ (40 :: (wrJ ds ++ [41])) i = _
    simp only [run, eo]
    cases ds with
    | nil => exact ⟨.beh, 0, rfl, rfl⟩
    | cons x es =>
      obtain ⟨e2, m2, he2, r2⟩ := ih x List.mem_cons_self (D + 1) (i + 1) .fst (.inr rfl)
      obtain ⟨e3, m3, he3, r3⟩ := rest es (fun y hy => List.mem_cons_of_mem _ hy) (i + 1 + (wr x).length) m2 e2 he2
      refine ⟨.beh, 0, rfl, ?_⟩
      show run _ ((wr x ++ wrR es) ++ [41]) _ = _
      rw [List.append_assoc, run_app _ _ _ _ _ r2, run_app _ _ _ _ _ r3]
      have e41 := end_41 (m := m3) he3 (Nat.succ_pos D)
      simp only [run, e41]
      rfl
theorem walk_pre {d : DV} {l r : List Nat} (h : Gd d) (e : wr d = l ++ r) : walk l = none ∨ walk l = some l.length := by
  obtain ⟨e2, m, _, r2⟩ := run_wr h 0 0 .val (.inl rfl)
  rw [e] at r2
  obtain ⟨k, hk⟩ := run_pre _ _ _ _ _ r2
  unfold walk
  rw [hk]
  by_cases hf : fin k = true
  · left; show (if fin k then none else _) = _; rw [if_pos hf]
  · right; show (if fin k then none else _) = _; rw [if_neg hf]
/-! ### what is refused -/
theorem run_cut : ∀ (l : List Nat) (k : Cf) (i j : Nat), run k l i = .inr j → i ≤ j ∧ ∀ b, run k (l.take (j - i + 1) ++ b) i = .inr j
  | [], k, i, j, h => by cases h
  | c :: l, k, i, j, h => by
    cases e : stp k c with
    | none =>
      simp only [run, e] at h
      cases h
      refine ⟨Nat.le_refl _, fun b => ?_⟩
      rw [Nat.sub_self]
      show run k (c :: ([] ++ b)) i = _
      simp only [run, e]
    | some k2 =>
      simp only [run, e] at h
      obtain ⟨h1, h2⟩ := run_cut l k2 (i + 1) j h
      refine ⟨by omega, fun b => ?_⟩
      have h3 := h2 b
      rw [show j - i + 1 = (j - (i + 1) + 1) + 1 by omega, List.take_succ_cons]
      show run k (c :: (l.take (j - (i + 1) + 1) ++ b)) i = _
      simp only [run, e]
      exact h3
theorem walk_cut {l : List Nat} {q : Nat} (h : walk l = some q) (hq : q < l.length) (b : List Nat) : walk (l.take (q + 1) ++ b) = some q := by
  unfold walk at h ⊢
  cases e : run k0 l 0 with
  | inr j =>
    rw [e] at h
    cases h
    have h2 := (run_cut l k0 0 q e).2 b
    rw [Nat.sub_zero] at h2
    rw [h2]
  | inl k =>
    rw [e] at h
    have h : (if fin k then none else some l.length) = some q := h
    split at h
    · cases h
    · cases h; omega
end VW

set_option Elab.async false
set_option linter.all false
set_option maxRecDepth 100000
set_option maxHeartbeats 4000000
/-! Plain law: a writing tells its value, and where it ends. -/
namespace VW
open PySem PySem.Spec PyProof.Rows L2 DL
/-- digits, then no digit -/
theorem dig_app : ∀ {a b r s : List Nat}, (∀ c ∈ a, isFig c) → (∀ c ∈ b, isFig c) → (∀ c t, r = c :: t → ¬ isFig c) → (∀ c t, s = c :: t → ¬ isFig c) → a ++ r = b ++ s → a = b ∧ r = s
  | [], [], r, s, _, _, _, _, e => ⟨rfl, e⟩
  | [], y :: b, r, s, _, hb, hr, _, e => absurd (hb y List.mem_cons_self) (hr y (b ++ s) e)
  | x :: a, [], r, s, ha, _, _, hs, e => absurd (ha x List.mem_cons_self) (hs x (a ++ r) e.symm)
  | x :: a, y :: b, r, s, ha, hb, hr, hs, e => by
    have e1 : x = y := (List.cons.inj e).1
    have e2 : a ++ r = b ++ s := (List.cons.inj e).2
    obtain ⟨h1, h2⟩ := dig_app (fun c hc => ha c (List.mem_cons_of_mem _ hc)) (fun c hc => hb c (List.mem_cons_of_mem _ hc)) hr hs e2
    exact ⟨by rw [e1, h1], h2⟩
theorem numL_inj {n m : Nat} (hn : n < 10 ^ 40) (hm : m < 10 ^ 40) (e : TL.numL n = TL.numL m) : n = m := by
  have h1 := int_back hn
  have h2 := int_back hm
  rw [e, h2] at h1
  cases h1
  rfl
theorem dbl_app : ∀ {a b r s : List Nat}, (∀ c t, r = c :: t → c ≠ 34) → (∀ c t, s = c :: t → c ≠ 34) → StrLaws.dbl 34 a ++ 34 :: r = StrLaws.dbl 34 b ++ 34 :: s → a = b ∧ r = s
  | [], [], r, s, _, _, e => ⟨rfl, (List.cons.inj e).2⟩
  | [], y :: b, r, s, hr, _, e => by
    exfalso
    by_cases h : y = 34
    · subst h
      rw [dbl_cons_eq] at e
      have e2 : r = 34 :: (StrLaws.dbl 34 b ++ 34 :: s) := (List.cons.inj e).2
      exact hr 34 _ e2 rfl
    · rw [dbl_cons_ne h] at e
      exact h (List.cons.inj e).1.symm
  | x :: a, [], r, s, _, hs, e => by
    exfalso
    by_cases h : x = 34
    · subst h
      rw [dbl_cons_eq] at e
      have e2 : s = 34 :: (StrLaws.dbl 34 a ++ 34 :: r) := (List.cons.inj e).2.symm
      exact hs 34 _ e2 rfl
    · rw [dbl_cons_ne h] at e
      exact h (List.cons.inj e).1
  | x :: a, y :: b, r, s, hr, hs, e => by
    by_cases hx : x = 34
    · subst hx
      by_cases hy : y = 34
      · subst hy
        rw [dbl_cons_eq, dbl_cons_eq] at e
        have e2 : StrLaws.dbl 34 a ++ 34 :: r = StrLaws.dbl 34 b ++ 34 :: s := (List.cons.inj (List.cons.inj e).2).2
        obtain ⟨h1, h2⟩ := dbl_app hr hs e2
        exact ⟨by rw [h1], h2⟩
      · rw [dbl_cons_eq, dbl_cons_ne hy] at e
        exact absurd (List.cons.inj e).1.symm hy
    · by_cases hy : y = 34
      · subst hy
        rw [dbl_cons_eq, dbl_cons_ne hx] at e
        exact absurd (List.cons.inj e).1 hx
      · rw [dbl_cons_ne hx, dbl_cons_ne hy] at e
        have e1 : x = y := (List.cons.inj e).1
        have e2 : StrLaws.dbl 34 a ++ 34 :: r = StrLaws.dbl 34 b ++ 34 :: s := (List.cons.inj e).2
        obtain ⟨h1, h2⟩ := dbl_app hr hs e2
        exact ⟨by rw [e1, h1], h2⟩
/-- the kind, as the first sign tells it -/
def kd : DV → Nat
  | .non => 0
  | .int (.negSucc _) => 0
  | .bl true => 1
  | .bl false => 2
  | .int (.ofNat _) => 3
  | .str _ => 4
  | .tup _ => 5
  | _ => 6
def kc (c : Nat) : Nat := if c = 45 then 0 else if c = 43 then 1 else if c = 33 then 2 else if 48 ≤ c ∧ c ≤ 57 then 3 else if c = 34 then 4 else if c = 40 then 5 else 7
theorem numL_cons (n : Nat) : ∃ c l, TL.numL n = c :: l ∧ isFig c := by
  cases e : TL.numL n with
  | nil => exact absurd e (TL.numL_ne n)
  | cons c l => exact ⟨c, l, rfl, TL.numL_digits n c (by rw [e]; exact List.mem_cons_self)⟩
theorem wr_kd {d : DV} (h : Wu d) : ∃ c l, wr d = c :: l ∧ kc c = kd d := by
  cases h with
  | non => exact ⟨45, [], rfl, rfl⟩
  | bl b => cases b with
    | true => exact ⟨43, [], rfl, rfl⟩
    | false => exact ⟨33, [], rfl, rfl⟩
  | int i hi => cases i with
    | ofNat n =>
      obtain ⟨c, l, e, hc⟩ := numL_cons n
      refine ⟨c, l, e, ?_⟩
      unfold kc
      rw [if_neg (by omega), if_neg (by omega), if_neg (by omega), if_pos hc]
      rfl
    | negSucc n => exact ⟨45, _, rfl, rfl⟩
  | str => exact ⟨34, _, rfl, rfl⟩
  | tup ds => exact ⟨40, _, rfl, rfl⟩
theorem ends_nf {r : List Nat} (h : Ends r) : ∀ c t, r = c :: t → ¬ isFig c := fun c t e => by
  rcases h with h | ⟨d, u, h, h2⟩
  · rw [h] at e; cases e
  · rw [h] at e; cases e; omega
theorem ends_nq {r : List Nat} (h : Ends r) : ∀ c t, r = c :: t → c ≠ 34 := fun c t e => by
  rcases h with h | ⟨d, u, h, h2⟩
  · rw [h] at e; cases e
  · rw [h] at e; cases e; omega
theorem ends_wrR (es : List DV) (r : List Nat) : Ends (wrR es ++ 41 :: r) := by
  cases es with
  | nil => exact .inr ⟨41, r, rfl, .inr rfl⟩
  | cons e es => exact .inr ⟨32, _, rfl, .inl rfl⟩
theorem wr_inj {d : DV} (h : Wu d) : ∀ {e : DV} {r s : List Nat}, Wu e → Ends r → Ends s → wr d ++ r = wr e ++ s → d = e ∧ r = s := by
  induction h with
  | non =>
    intro e r s he hr hs q
    obtain ⟨c, l, e1, k1⟩ := wr_kd he
    have q0 := q
    rw [e1] at q0
    have hc : 45 = c := (List.cons.inj q0).1
    subst hc
    cases he with
    | non => exact ⟨rfl, (List.cons.inj q).2⟩
    | bl b => cases b <;> exact absurd k1 (by decide)
    | int i hi => cases i with
      | ofNat n => exact absurd k1 (show ¬ (0 = 3) by decide)
      | negSucc n =>
        obtain ⟨c, l, e2, hc⟩ := numL_cons (n + 1)
        have q2 : r = TL.numL (n + 1) ++ s := (List.cons.inj q).2
        rw [e2] at q2
        exact absurd hc (ends_nf hr c _ q2)
    | str => exact absurd k1 (show ¬ (0 = 4) by decide)
    | tup => exact absurd k1 (show ¬ (0 = 5) by decide)
  | bl b =>
    intro e r s he hr hs q
    obtain ⟨c, l, e1, k1⟩ := wr_kd he
    have q0 := q
    rw [e1] at q0
    cases b with
    | true =>
      have hc : 43 = c := (List.cons.inj q0).1
      subst hc
      cases he with
      | non => exact absurd k1 (show ¬ (1 = 0) by decide)
      | bl b => cases b with
        | true => exact ⟨rfl, (List.cons.inj q).2⟩
        | false => exact absurd k1 (show ¬ (1 = 2) by decide)
      | int i hi => cases i with
        | ofNat n => exact absurd k1 (show ¬ (1 = 3) by decide)
        | negSucc n => exact absurd k1 (show ¬ (1 = 0) by decide)
      | str => exact absurd k1 (show ¬ (1 = 4) by decide)
      | tup => exact absurd k1 (show ¬ (1 = 5) by decide)
    | false =>
      have hc : 33 = c := (List.cons.inj q0).1
      subst hc
      cases he with
      | non => exact absurd k1 (show ¬ (2 = 0) by decide)
      | bl b => cases b with
        | true => exact absurd k1 (show ¬ (2 = 1) by decide)
        | false => exact ⟨rfl, (List.cons.inj q).2⟩
      | int i hi => cases i with
        | ofNat n => exact absurd k1 (show ¬ (2 = 3) by decide)
        | negSucc n => exact absurd k1 (show ¬ (2 = 0) by decide)
      | str => exact absurd k1 (show ¬ (2 = 4) by decide)
      | tup => exact absurd k1 (show ¬ (2 = 5) by decide)
  | int i hi =>
    intro e r s he hr hs q
    obtain ⟨c, l, e1, k1⟩ := wr_kd he
    have q0 := q
    rw [e1] at q0
    cases i with
    | ofNat n =>
      obtain ⟨x, u, e3, hx⟩ := numL_cons n
      have q0 : TL.numL n ++ r = _ := q0
      rw [e3] at q0
      have hc : x = c := (List.cons.inj q0).1
      subst hc
      have k3 : kc x = 3 := by
        unfold kc
        rw [if_neg (by omega), if_neg (by omega), if_neg (by omega), if_pos hx]
      rw [k3] at k1
      cases he with
      | non => exact absurd k1 (show ¬ (3 = 0) by decide)
      | bl b => cases b <;> exact absurd k1 (by decide)
      | int j hj => cases j with
        | ofNat m =>
          have q : TL.numL n ++ r = TL.numL m ++ s := q
          obtain ⟨h1, h2⟩ := dig_app (TL.numL_digits n) (TL.numL_digits m) (ends_nf hr) (ends_nf hs) q
          exact ⟨congrArg (fun k => DV.int (Int.ofNat k)) (numL_inj (n := n) (m := m) hi hj h1), h2⟩
        | negSucc m => exact absurd k1 (show ¬ (3 = 0) by decide)
      | str => exact absurd k1 (show ¬ (3 = 4) by decide)
      | tup => exact absurd k1 (show ¬ (3 = 5) by decide)
    | negSucc n =>
      have hc : 45 = c := (List.cons.inj q0).1
      subst hc
      cases he with
      | non =>
        obtain ⟨c, l, e2, hc⟩ := numL_cons (n + 1)
        have q2 : TL.numL (n + 1) ++ r = s := (List.cons.inj q).2
        rw [e2] at q2
        exact absurd hc (ends_nf hs c _ q2.symm)
      | bl b => cases b <;> exact absurd k1 (by decide)
      | int j hj => cases j with
        | ofNat m => exact absurd k1 (show ¬ (0 = 3) by decide)
        | negSucc m =>
          have q2 : TL.numL (n + 1) ++ r = TL.numL (m + 1) ++ s := (List.cons.inj q).2
          obtain ⟨h1, h2⟩ := dig_app (TL.numL_digits _) (TL.numL_digits _) (ends_nf hr) (ends_nf hs) q2
          have h3 := numL_inj (n := n + 1) (m := m + 1) hi hj h1
          exact ⟨by rw [show n = m by omega], h2⟩
      | str => exact absurd k1 (show ¬ (0 = 4) by decide)
      | tup => exact absurd k1 (show ¬ (0 = 5) by decide)
  | str z =>
    intro e r s he hr hs q
    obtain ⟨c, l, e1, k1⟩ := wr_kd he
    have q0 := q
    rw [e1] at q0
    have hc : 34 = c := (List.cons.inj q0).1
    subst hc
    cases he with
    | non => exact absurd k1 (show ¬ (4 = 0) by decide)
    | bl b => cases b <;> exact absurd k1 (by decide)
    | int j hj => cases j with
      | ofNat m => exact absurd k1 (show ¬ (4 = 3) by decide)
      | negSucc m => exact absurd k1 (show ¬ (4 = 0) by decide)
    | str y =>
      have q2 : (StrLaws.dbl 34 (DL.tl z) ++ [34]) ++ r = (StrLaws.dbl 34 (DL.tl y) ++ [34]) ++ s := (List.cons.inj q).2
      rw [List.append_assoc, List.append_assoc] at q2
      obtain ⟨h1, h2⟩ := dbl_app (ends_nq hr) (ends_nq hs) q2
      exact ⟨by rw [ext_tl h1], h2⟩
    | tup => exact absurd k1 (show ¬ (4 = 5) by decide)
  | tup ds hd ih =>
    intro e r s he hr hs q
    obtain ⟨c, l, e1, k1⟩ := wr_kd he
    have q0 := q
    rw [e1] at q0
    have hc : 40 = c := (List.cons.inj q0).1
    subst hc
    cases he with
    | non => exact absurd k1 (show ¬ (5 = 0) by decide)
    | bl b => cases b <;> exact absurd k1 (by decide)
    | int j hj => cases j with
      | ofNat m => exact absurd k1 (show ¬ (5 = 3) by decide)
      | negSucc m => exact absurd k1 (show ¬ (5 = 0) by decide)
    | str y => exact absurd k1 (show ¬ (5 = 4) by decide)
    | tup es hes =>
      have q2 : (wrJ ds ++ [41]) ++ r = (wrJ es ++ [41]) ++ s := (List.cons.inj q).2
      rw [List.append_assoc, List.append_assoc] at q2
      have key : ∀ (as bs : List DV), (∀ a ∈ as, a ∈ ds) → (∀ b ∈ bs, Wu b) → wrR as ++ 41 :: r = wrR bs ++ 41 :: s → as = bs ∧ r = s := by
        intro as
        induction as with
        | nil =>
          intro bs _ _ q
          cases bs with
          | nil => exact ⟨rfl, (List.cons.inj q).2⟩
          | cons b bs => exact absurd (List.cons.inj q).1 (by decide)
        | cons a as ih2 =>
          intro bs ha hb q
          cases bs with
          | nil => exact absurd (List.cons.inj q).1 (by decide)
          | cons b bs =>
            have q3 : (wr a ++ wrR as) ++ 41 :: r = (wr b ++ wrR bs) ++ 41 :: s := (List.cons.inj q).2
            rw [List.append_assoc, List.append_assoc] at q3
            obtain ⟨h1, h2⟩ := ih a (ha a List.mem_cons_self) (hb b List.mem_cons_self) (ends_wrR as r) (ends_wrR bs s) q3
            obtain ⟨h3, h4⟩ := ih2 bs (fun x hx => ha x (List.mem_cons_of_mem _ hx)) (fun x hx => hb x (List.mem_cons_of_mem _ hx)) h2
            exact ⟨by rw [h1, h3], h4⟩
      cases ds with
      | nil =>
        cases es with
        | nil => exact ⟨rfl, (List.cons.inj q2).2⟩
        | cons b bs =>
          exfalso
          obtain ⟨c, l, e4, k4⟩ := wr_kd (hes b List.mem_cons_self)
          have q3 : 41 :: r = (wr b ++ wrR bs) ++ [41] ++ s := by rw [List.append_assoc]; exact q2
          rw [e4] at q3
          have : 41 = c := (List.cons.inj q3).1
          subst this
          have h5 := hes b List.mem_cons_self
          cases h5 with
          | non => exact absurd k4 (by decide)
          | bl b => cases b <;> exact absurd k4 (by decide)
          | int j hj => cases j <;> exact absurd k4 (show ¬ (7 = _) from fun z => nomatch z)
          | str => exact absurd k4 (show ¬ (7 = 4) by decide)
          | tup => exact absurd k4 (show ¬ (7 = 5) by decide)
      | cons a as =>
        cases es with
        | nil =>
          exfalso
          obtain ⟨c, l, e4, k4⟩ := wr_kd (hd a List.mem_cons_self)
          have q3 : (wr a ++ wrR as) ++ [41] ++ r = 41 :: s := by rw [List.append_assoc]; exact q2
          rw [e4] at q3
          have : c = 41 := (List.cons.inj q3).1
          subst this
          have h5 := hd a List.mem_cons_self
          cases h5 with
          | non => exact absurd k4 (by decide)
          | bl b => cases b <;> exact absurd k4 (by decide)
          | int j hj => cases j <;> exact absurd k4 (show ¬ (7 = _) from fun z => nomatch z)
          | str => exact absurd k4 (show ¬ (7 = 4) by decide)
          | tup => exact absurd k4 (show ¬ (7 = 5) by decide)
        | cons b bs =>
          have q3 : (wr a ++ wrR as) ++ ([41] ++ r) = (wr b ++ wrR bs) ++ ([41] ++ s) := q2
          rw [List.append_assoc, List.append_assoc] at q3
          obtain ⟨h1, h2⟩ := ih a List.mem_cons_self (hes b List.mem_cons_self) (ends_wrR as r) (ends_wrR bs s) q3
          obtain ⟨h3, h4⟩ := key as bs (fun x hx => List.mem_cons_of_mem _ hx) (fun x hx => hes x (List.mem_cons_of_mem _ hx)) h2
          exact ⟨by rw [h1, h3], h4⟩
theorem wr_one {d e : DV} (h : Wu d) (h2 : Wu e) (q : wr d = wr e) : d = e := (wr_inj h h2 (.inl rfl) (.inl rfl) (by rw [List.append_nil, List.append_nil]; exact q)).1
end VW

set_option Elab.async false
set_option linter.all false
set_option maxRecDepth 100000
set_option maxHeartbeats 4000000
/-! Plain law: repr tells values apart. -/
namespace VW
open PySem PySem.Spec PyProof.Rows L2 DL
open PySem.Builtin.Str (reprChar)
/-- good values by depth -/
inductive Gv : Nat → DV → Prop
  | non (n : Nat) : Gv n .non
  | bl (n : Nat) (b : Bool) : Gv n (.bl b)
  | int (n : Nat) (i : Int) (h : i.natAbs < 10 ^ 40) : Gv n (.int i)
  | str (n : Nat) (z : Str) (h : ∀ c ∈ DL.tl z, txs c = true) : Gv n (.str z)
  | tup (n : Nat) (ds : List DV) (h : ∀ d ∈ ds, Gv n d) : Gv (n + 1) (.tup ds)
theorem Gv.gd {n : Nat} {d : DV} (h : Gv n d) : Gd d := by
  induction h with
  | non n => exact .non
  | bl n b => exact .bl b
  | int n i h => exact .int i h
  | str n z h => exact .str z h
  | tup n ds h ih => exact .tup ds ih
theorem Gv.wv {n : Nat} {d : DV} (h : Gv n d) : Wv n d := by
  induction h with
  | non n => exact .non n
  | bl n b => exact .bl n b
  | int n i h => exact .int n i h
  | str n z h => exact .str n z
  | tup n ds h ih => exact .tup n ds ih
theorem Gv.up {n : Nat} {d : DV} (h : Gv n d) : ∀ {m : Nat}, n ≤ m → Gv m d := by
  induction h with
  | non => exact fun _ => .non _
  | bl _ b => exact fun _ => .bl _ b
  | int _ i h => exact fun _ => .int _ i h
  | str _ z h => exact fun _ => .str _ z h
  | tup n ds h ih =>
    intro m hm
    cases m with
    | zero => omega
    | succ m => exact .tup m ds fun d hd => ih d hd (by omega)
def esc (q : Nat) : List Nat → List Nat
  | [] => []
  | c :: l => (if c = q ∨ c = 92 then [92, c] else [c]) ++ esc q l
def rq (z : Str) : Nat := reprQuote z
theorem rq_or (z : Str) : rq z = 34 ∨ rq z = 39 := by
  unfold rq reprQuote
  split
  · exact .inl rfl
  · exact .inr rfl
mutual
/-- the signs of repr -/
def rp : DV → List Nat
  | .non => [78, 111, 110, 101]
  | .bl b => if b then [84, 114, 117, 101] else [70, 97, 108, 115, 101]
  | .int i => wrI i
  | .str z => rq z :: (esc (rq z) (DL.tl z) ++ [rq z])
  | .tup ds => 40 :: rpL ds
  | _ => []
def rpL : List DV → List Nat
  | [] => [41]
  | d :: ds => rp d ++ rpT ds
def rpT : List DV → List Nat
  | [] => [44, 41]
  | e :: r => 44 :: 32 :: (rp e ++ rpM r)
def rpM : List DV → List Nat
  | [] => [41]
  | e :: r => 44 :: 32 :: (rp e ++ rpM r)
end
theorem print_tx : ∀ c, c < 127 → 32 ≤ c → Unicode.isPrintable c = true := by decide +kernel
theorem reprChar_tx {q c : Nat} (h : txs c = true) : reprChar q c = if c = q ∨ c = 92 then [92, c] else [c] := by
  have h2 : 32 ≤ c ∧ c ≤ 126 ∧ c ≠ 37 := of_decide_eq_true h
  have hp := print_tx c (by omega) h2.1
  unfold reprChar
  by_cases h1 : c = q ∨ c = 92
  · rw [if_pos h1]
    have : (c == q || c == 92) = true := by simpa using h1
    simp only [this, if_true]
  · rw [if_neg h1]
    have : (c == q || c == 92) = false := by simpa using h1
    have n1 : (c == 10) = false := by simp; omega
    have n2 : (c == 13) = false := by simp; omega
    have n3 : (c == 9) = false := by simp; omega
    simp only [this, n1, n2, n3, hp, Bool.false_eq_true, if_false, if_true]
theorem fold_esc (q : Nat) : ∀ (l : List Nat) (acc : Array Nat), (∀ c ∈ l, txs c = true) → (l.foldl (fun out c => out ++ (reprChar q c).toArray) acc).toList = acc.toList ++ esc q l
  | [], acc, _ => by simp [esc]
  | c :: l, acc, h => by
    rw [List.foldl_cons, fold_esc q l _ fun x hx => h x (List.mem_cons_of_mem _ hx), reprChar_tx (h c List.mem_cons_self)]
    simp [esc]
theorem tl_repr {z : Str} (h : ∀ c ∈ DL.tl z, txs c = true) : DL.tl (reprText z) = rp (.str z) := by
  show ((z.cps.foldl (fun out c => out ++ (reprChar (reprQuote z) c).toArray) #[reprQuote z]).push (reprQuote z)).toList = _
  rw [Array.toList_push, ← Array.foldl_toList, fold_esc (reprQuote z) z.cps.toList _ h]
  show _ = rq z :: (esc (rq z) (DL.tl z) ++ [rq z])
  rfl
theorem esc_app (q : Nat) (hq : q ≠ 92) : ∀ {a b r s : List Nat}, esc q a ++ q :: r = esc q b ++ q :: s → a = b ∧ r = s
  | [], [], r, s, e => ⟨rfl, (List.cons.inj e).2⟩
  | [], y :: b, r, s, e => by
    exfalso
    have e : q :: r = ((if y = q ∨ y = 92 then [92, y] else [y]) ++ esc q b) ++ q :: s := e
    split at e
    · exact hq (List.cons.inj e).1
    · rename_i h; exact h (.inl (List.cons.inj e).1.symm)
  | x :: a, [], r, s, e => by
    exfalso
    have e : ((if x = q ∨ x = 92 then [92, x] else [x]) ++ esc q a) ++ q :: r = q :: s := e
    split at e
    · exact hq (List.cons.inj e).1.symm
    · rename_i h; exact h (.inl (List.cons.inj e).1)
  | x :: a, y :: b, r, s, e => by
    have e : ((if x = q ∨ x = 92 then [92, x] else [x]) ++ esc q a) ++ q :: r = ((if y = q ∨ y = 92 then [92, y] else [y]) ++ esc q b) ++ q :: s := e
    by_cases hx : x = q ∨ x = 92
    · rw [if_pos hx] at e
      by_cases hy : y = q ∨ y = 92
      · rw [if_pos hy] at e
        have e1 : x = y := (List.cons.inj (List.cons.inj e).2).1
        have e2 : esc q a ++ q :: r = esc q b ++ q :: s := (List.cons.inj (List.cons.inj e).2).2
        obtain ⟨h1, h2⟩ := esc_app q hq e2
        exact ⟨by rw [e1, h1], h2⟩
      · rw [if_neg hy] at e
        exact absurd (.inr (List.cons.inj e).1.symm) hy
    · rw [if_neg hx] at e
      by_cases hy : y = q ∨ y = 92
      · rw [if_pos hy] at e
        exact absurd (.inr (List.cons.inj e).1) hx
      · rw [if_neg hy] at e
        have e1 : x = y := (List.cons.inj e).1
        have e2 : esc q a ++ q :: r = esc q b ++ q :: s := (List.cons.inj e).2
        obtain ⟨h1, h2⟩ := esc_app q hq e2
        exact ⟨by rw [e1, h1], h2⟩
def EndR (r : List Nat) : Prop := r = [] ∨ ∃ c t, r = c :: t ∧ (c = 44 ∨ c = 41)
theorem endr_nf {r : List Nat} (h : EndR r) : ∀ c t, r = c :: t → ¬ isFig c := fun c t e => by
  rcases h with h | ⟨d, u, h, h2⟩
  · rw [h] at e; cases e
  · rw [h] at e; cases e; omega
def kdR : DV → Nat
  | .non => 0
  | .int (.negSucc _) => 6
  | .bl true => 1
  | .bl false => 2
  | .int (.ofNat _) => 3
  | .str _ => 4
  | .tup _ => 5
  | _ => 8
def kcR (c : Nat) : Nat := if c = 78 then 0 else if c = 84 then 1 else if c = 70 then 2 else if 48 ≤ c ∧ c ≤ 57 then 3 else if c = 34 ∨ c = 39 then 4 else if c = 40 then 5 else if c = 45 then 6 else 7
theorem rp_kd {d : DV} (h : Wu d) : ∃ c l, rp d = c :: l ∧ kcR c = kdR d := by
  cases h with
  | non => exact ⟨78, _, rfl, rfl⟩
  | bl b => cases b with
    | true => exact ⟨84, _, rfl, rfl⟩
    | false => exact ⟨70, _, rfl, rfl⟩
  | int i hi => cases i with
    | ofNat n =>
      obtain ⟨c, l, e, hc⟩ := numL_cons n
      refine ⟨c, l, e, ?_⟩
      unfold kcR
      rw [if_neg (by omega), if_neg (by omega), if_neg (by omega), if_pos hc]
      rfl
    | negSucc n => exact ⟨45, _, rfl, rfl⟩
  | str z =>
    refine ⟨rq z, _, rfl, ?_⟩
    rcases rq_or z with h | h <;> rw [h] <;> rfl
  | tup ds => exact ⟨40, _, rfl, rfl⟩
theorem endr_rpM (es : List DV) (r : List Nat) : EndR (rpM es ++ r) := by
  cases es with
  | nil => exact .inr ⟨41, r, rfl, .inr rfl⟩
  | cons e es => exact .inr ⟨44, _, rfl, .inl rfl⟩
theorem endr_rpT (es : List DV) (r : List Nat) : EndR (rpT es ++ r) := by
  cases es with
  | nil => exact .inr ⟨44, _, rfl, .inl rfl⟩
  | cons e es => exact .inr ⟨44, _, rfl, .inl rfl⟩
theorem kd_of {d e : DV} (hd : Wu d) (he : Wu e) {r s : List Nat} (q : rp d ++ r = rp e ++ s) : kdR d = kdR e := by
  obtain ⟨c, l, e1, k1⟩ := rp_kd hd
  obtain ⟨c2, l2, e2, k2⟩ := rp_kd he
  rw [e1, e2] at q
  have : c = c2 := (List.cons.inj q).1
  rw [← k1, ← k2, this]
theorem rp_inj {d : DV} (h : Wu d) : ∀ {e : DV} {r s : List Nat}, Wu e → EndR r → EndR s → rp d ++ r = rp e ++ s → d = e ∧ r = s := by
  induction h with
  | non =>
    intro e r s he hr hs q
    have k := kd_of .non he q
    cases he with
    | non => exact ⟨rfl, List.append_cancel_left q⟩
    | bl b => cases b <;> exact absurd k (by decide)
    | int i hi => cases i <;> exact absurd k (fun z => nomatch z)
    | str => exact absurd k (fun z => nomatch z)
    | tup => exact absurd k (fun z => nomatch z)
  | bl b =>
    intro e r s he hr hs q
    have k := kd_of (.bl b) he q
    cases he with
    | non => cases b <;> exact absurd k (by decide)
    | bl b2 =>
      cases b <;> cases b2
      · exact ⟨rfl, List.append_cancel_left q⟩
      · exact absurd k (by decide)
      · exact absurd k (by decide)
      · exact ⟨rfl, List.append_cancel_left q⟩
    | int i hi => cases b <;> cases i <;> exact absurd k (fun z => nomatch z)
    | str => cases b <;> exact absurd k (fun z => nomatch z)
    | tup => cases b <;> exact absurd k (fun z => nomatch z)
  | int i hi =>
    intro e r s he hr hs q
    have k := kd_of (.int i hi) he q
    cases he with
    | non => cases i <;> exact absurd k (fun z => nomatch z)
    | bl b2 => cases b2 <;> cases i <;> exact absurd k (fun z => nomatch z)
    | int j hj =>
      cases i with
      | ofNat n =>
        cases j with
        | ofNat m =>
          have q : TL.numL n ++ r = TL.numL m ++ s := q
          obtain ⟨h1, h2⟩ := dig_app (TL.numL_digits n) (TL.numL_digits m) (endr_nf hr) (endr_nf hs) q
          exact ⟨congrArg (fun k => DV.int (Int.ofNat k)) (numL_inj (n := n) (m := m) hi hj h1), h2⟩
        | negSucc m => exact absurd k (fun z => nomatch z)
      | negSucc n =>
        cases j with
        | ofNat m => exact absurd k (fun z => nomatch z)
        | negSucc m =>
          have q2 : TL.numL (n + 1) ++ r = TL.numL (m + 1) ++ s := (List.cons.inj q).2
          obtain ⟨h1, h2⟩ := dig_app (TL.numL_digits _) (TL.numL_digits _) (endr_nf hr) (endr_nf hs) q2
          have h3 := numL_inj (n := n + 1) (m := m + 1) hi hj h1
          exact ⟨by rw [show n = m by omega], h2⟩
    | str => cases i <;> exact absurd k (fun z => nomatch z)
    | tup => cases i <;> exact absurd k (fun z => nomatch z)
  | str z =>
    intro e r s he hr hs q
    have k := kd_of (.str z) he q
    cases he with
    | non => exact absurd k (fun z => nomatch z)
    | bl b => cases b <;> exact absurd k (fun z => nomatch z)
    | int j hj => cases j <;> exact absurd k (fun z => nomatch z)
    | str y =>
      have q : rq z :: ((esc (rq z) (DL.tl z) ++ [rq z]) ++ r) = rq y :: ((esc (rq y) (DL.tl y) ++ [rq y]) ++ s) := q
      have e1 : rq z = rq y := (List.cons.inj q).1
      have e2 := (List.cons.inj q).2
      rw [← e1, List.append_assoc, List.append_assoc] at e2
      have hq : rq z ≠ 92 := by rcases rq_or z with h | h <;> rw [h] <;> decide
      obtain ⟨h1, h2⟩ := esc_app (rq z) hq e2
      exact ⟨by rw [ext_tl h1], h2⟩
    | tup => exact absurd k (fun z => nomatch z)
  | tup ds hd ih =>
    intro e r s he hr hs q
    have k := kd_of (.tup ds hd) he q
    cases he with
    | non => exact absurd k (fun z => nomatch z)
    | bl b => cases b <;> exact absurd k (fun z => nomatch z)
    | int j hj => cases j <;> exact absurd k (fun z => nomatch z)
    | str y => exact absurd k (fun z => nomatch z)
    | tup es hes =>
      have q2 : rpL ds ++ r = rpL es ++ s := (List.cons.inj q).2
      have key : ∀ (as bs : List DV), (∀ a ∈ as, a ∈ ds) → (∀ b ∈ bs, Wu b) → rpM as ++ r = rpM bs ++ s → as = bs ∧ r = s := by
        intro as
        induction as with
        | nil =>
          intro bs _ _ q
          cases bs with
          | nil => exact ⟨rfl, (List.cons.inj q).2⟩
          | cons b bs => exact absurd (List.cons.inj q).1 (by decide)
        | cons a as ih2 =>
          intro bs ha hb q
          cases bs with
          | nil => exact absurd (List.cons.inj q).1 (by decide)
          | cons b bs =>
            have q3 : (rp a ++ rpM as) ++ r = (rp b ++ rpM bs) ++ s := (List.cons.inj (List.cons.inj q).2).2
            rw [List.append_assoc, List.append_assoc] at q3
            obtain ⟨h1, h2⟩ := ih a (ha a List.mem_cons_self) (hb b List.mem_cons_self) (endr_rpM as r) (endr_rpM bs s) q3
            obtain ⟨h3, h4⟩ := ih2 bs (fun x hx => ha x (List.mem_cons_of_mem _ hx)) (fun x hx => hb x (List.mem_cons_of_mem _ hx)) h2
            exact ⟨by rw [h1, h3], h4⟩
      have n41 : ∀ {a : DV} {l t u : List Nat}, Wu a → ¬ (41 :: t = (rp a ++ l) ++ u) := fun {a l t u} ha q => by
        obtain ⟨c, l2, e4, k4⟩ := rp_kd ha
        rw [e4] at q
        have : 41 = c := (List.cons.inj q).1
        subst this
        cases ha with
        | non => exact absurd k4 (by decide)
        | bl b => cases b <;> exact absurd k4 (by decide)
        | int j hj => cases j <;> exact absurd k4 (fun z => nomatch z)
        | str => exact absurd k4 (fun z => nomatch z)
        | tup => exact absurd k4 (fun z => nomatch z)
      cases ds with
      | nil =>
        cases es with
        | nil => exact ⟨rfl, (List.cons.inj q2).2⟩
        | cons b bs => exact absurd q2 (n41 (hes b List.mem_cons_self))
      | cons a as =>
        cases es with
        | nil => exact absurd q2.symm (n41 (hd a List.mem_cons_self))
        | cons b bs =>
          have q3 : (rp a ++ rpT as) ++ r = (rp b ++ rpT bs) ++ s := q2
          rw [List.append_assoc, List.append_assoc] at q3
          obtain ⟨h1, h2⟩ := ih a List.mem_cons_self (hes b List.mem_cons_self) (endr_rpT as r) (endr_rpT bs s) q3
          have fin : as = bs ∧ r = s := by
            cases as with
            | nil =>
              cases bs with
              | nil => exact ⟨rfl, (List.cons.inj (List.cons.inj h2).2).2⟩
              | cons y ys => exact absurd (List.cons.inj (List.cons.inj h2).2).1 (by decide)
            | cons x xs =>
              cases bs with
              | nil => exact absurd (List.cons.inj (List.cons.inj h2).2).1 (by decide)
              | cons y ys => exact key (x :: xs) (y :: ys) (fun w hw => List.mem_cons_of_mem _ hw) (fun w hw => hes w (List.mem_cons_of_mem _ hw)) h2
          exact ⟨by rw [h1, fin.1], fin.2⟩
theorem rp_one {d e : DV} (h : Wu d) (h2 : Wu e) (q : rp d = rp e) : d = e := (rp_inj h h2 (.inl rfl) (.inl rfl) (by rw [List.append_nil, List.append_nil]; exact q)).1
/-- written alike just where repr is alike -/
theorem alike {d e : DV} (h : Wu d) (h2 : Wu e) : decide (S (wr d) = S (wr e)) = decide (S (rp d) = S (rp e)) := by
  refine decide_eq_decide.mpr ⟨fun q => ?_, fun q => ?_⟩
  · rw [wr_one h h2 (congrArg DL.tl q)]
  · rw [rp_one h h2 (congrArg DL.tl q)]
end VW

set_option Elab.async false
set_option linter.all false
set_option maxRecDepth 100000
set_option maxHeartbeats 4000000
/-! Plain law: what repr tells of good values. -/
namespace VW
open PySem PySem.Spec PyProof.Rows L2 DL
theorem rpM_join : ∀ (e : DV) (r : List DV), rpM (e :: r) = 44 :: 32 :: (TL.joinL [44, 32] ((e :: r).map rp) ++ [41])
  | e, [] => by show 44 :: 32 :: (rp e ++ [41]) = 44 :: 32 :: (rp e ++ [41]); rfl
  | e, f :: r => by
    show 44 :: 32 :: (rp e ++ rpM (f :: r)) = 44 :: 32 :: ((rp e ++ ([44, 32] ++ TL.joinL [44, 32] ((f :: r).map rp))) ++ [41])
    rw [rpM_join f r]
    simp
theorem rpL_join (ds : List DV) : TL.joinL [44, 32] (ds.map rp) ++ (if ds.length == 1 then [44, 41] else [41]) = rpL ds := by
  cases ds with
  | nil => rfl
  | cons d r =>
    cases r with
    | nil => show rp d ++ [44, 41] = rp d ++ [44, 41]; rfl
    | cons e r =>
      have e1 : ((d :: e :: r).length == 1) = false := by simp
      rw [e1]
      show (rp d ++ ([44, 32] ++ TL.joinL [44, 32] ((e :: r).map rp))) ++ [41] = rp d ++ 44 :: 32 :: (rp e ++ rpM r)
      have h := rpM_join e r
      have h2 : 44 :: 32 :: (rp e ++ rpM r) = 44 :: 32 :: (TL.joinL [44, 32] ((e :: r).map rp) ++ [41]) := h
      rw [h2]
      simp
theorem log40 {i : Int} (h : i.natAbs < 10 ^ 40) : i.natAbs.log2 < 1920 := by
  by_cases h0 : i.natAbs = 0
  · rw [h0]; decide
  · exact (Nat.log2_lt h0).mpr (Nat.lt_trans h (by decide +kernel))
theorem rp_pd {n : Nat} {d : DV} (h : Gv n d) : ∃ p, pd d = some p ∧ DL.tl p.shown = rp d ∧ p.showable = true ∧ p.hasDict = false ∧ p.depth ≤ n := by
  induction h with
  | non n => exact ⟨.none, by simp [pd], by rw [PyData.shown_none]; decide +kernel, by simp [PyData.showable], by simp [PyData.hasDict], by simp [PyData.depth]⟩
  | bl n b => exact ⟨.bool b, by simp [pd], by rw [PyData.shown_bool]; cases b <;> decide +kernel, by simp [PyData.showable], by simp [PyData.hasDict], by simp [PyData.depth]⟩
  | int n i h => exact ⟨.int i, by simp [pd], by rw [PyData.shown_int]; exact tl_int i, by simp [PyData.showable, log40 h], by simp [PyData.hasDict], by simp [PyData.depth]⟩
  | str n z h => exact ⟨.str z, by simp [pd], by rw [PyData.shown_str]; exact tl_repr h, by simp [PyData.showable], by simp [PyData.hasDict], by simp [PyData.depth]⟩
  | tup n ds h ih =>
    have key : ∀ es : List DV, (∀ e ∈ es, ∃ p, pd e = some p ∧ DL.tl p.shown = rp e ∧ p.showable = true ∧ p.hasDict = false ∧ p.depth ≤ n) →
        ∃ ps, pdL es = some ps ∧ (PyData.shownAll ps).map DL.tl = es.map rp ∧ ps.length = es.length ∧ PyData.showableAll ps = true ∧ PyData.hasDictAll ps = false ∧ PyData.depthAll ps ≤ n := by
      intro es
      induction es with
      | nil => exact fun _ => ⟨[], by simp [pdL], by simp [PyData.shownAll], rfl, by simp [PyData.showableAll], by simp [PyData.hasDictAll], by simp [PyData.depthAll]⟩
      | cons e es ih2 =>
        intro h2
        obtain ⟨p, a1, a2, a3, a4, a5⟩ := h2 e List.mem_cons_self
        obtain ⟨ps, b1, b2, b3, b4, b5, b6⟩ := ih2 fun x hx => h2 x (List.mem_cons_of_mem _ hx)
        refine ⟨p :: ps, by rw [pdL, a1, b1], ?_, by rw [List.length_cons, List.length_cons, b3], by simp [PyData.showableAll, a3, b4], by simp [PyData.hasDictAll, a4, b5], by simp only [PyData.depthAll]; omega⟩
        rw [PyData.shownAll, List.map_cons, List.map_cons, a2, b2]
    obtain ⟨ps, b1, b2, b3, b4, b5, b6⟩ := key ds ih
    refine ⟨.tuple ps, by rw [pd, b1]; rfl, ?_, by simp [PyData.showable, b4], by simp [PyData.hasDict, b5], by simp only [PyData.depth]; omega⟩
    rw [PyData.shown_tuple, tl_app, tl_app]
    have e1 : DL.tl (Str.ofString "(") = [40] := by decide +kernel
    have e2 : DL.tl (Str.join ", " (PyData.shownAll ps)) = TL.joinL [44, 32] (ds.map rp) := by
      have e := TL.tl_join (Str.ofString ", ") (PyData.shownAll ps)
      have e4 : TL.tl (Str.ofString ", ") = [44, 32] := by decide +kernel
      rw [e4] at e
      refine e.trans ?_
      exact congrArg (TL.joinL [44, 32]) b2
    rw [e1, e2, b3]
    have e3 : DL.tl (Str.ofString (if (ds.length == 1) = true then ",)" else ")")) = if ds.length == 1 then [44, 41] else [41] := by
      by_cases h1 : (ds.length == 1) = true
      · rw [if_pos h1, if_pos h1]; decide +kernel
      · rw [if_neg h1, if_neg h1]; decide +kernel
    rw [e3]
    show 40 :: (_) = 40 :: rpL ds
    rw [← rpL_join ds]
    rfl
theorem esc_len (q : Nat) : ∀ l : List Nat, (esc q l).length ≤ 2 * l.length
  | [] => Nat.le_refl _
  | c :: l => by
    have ih := esc_len q l
    show ((if c = q ∨ c = 92 then [92, c] else [c]) ++ esc q l).length ≤ _
    rw [List.length_append, List.length_cons]
    split
    · show 2 + _ ≤ _; omega
    · show 1 + _ ≤ _; omega
theorem rp_len {n : Nat} {d : DV} (h : Gv n d) : (rp d).length ≤ 5 * (wr d).length := by
  induction h with
  | non n => decide
  | bl n b => cases b <;> decide
  | int n i h => show (wrI i).length ≤ 5 * (wrI i).length; omega
  | str n z h =>
    have a := esc_len (rq z) (DL.tl z)
    have b := dbl_ge 34 (DL.tl z)
    have e1 : (rp (.str z)).length = (esc (rq z) (DL.tl z)).length + 2 := by
      show (rq z :: (esc (rq z) (DL.tl z) ++ [rq z])).length = _
      simp
    have e2 : (wr (.str z)).length = (StrLaws.dbl 34 (DL.tl z)).length + 2 := by
      show (34 :: (StrLaws.dbl 34 (DL.tl z) ++ [34])).length = _
      simp
    omega
  | tup n ds h ih =>
    have key : ∀ es : List DV, (∀ e ∈ es, (rp e).length ≤ 5 * (wr e).length) → (rpM es).length ≤ 5 * (wrR es).length + 1 ∧ (rpT es).length ≤ 5 * (wrR es).length + 2 := by
      intro es
      induction es with
      | nil => exact fun _ => ⟨Nat.le_refl _, Nat.le_refl _⟩
      | cons e es ih2 =>
        intro h2
        have a := h2 e List.mem_cons_self
        have b := (ih2 fun x hx => h2 x (List.mem_cons_of_mem _ hx)).1
        have e1 : (rpM (e :: es)).length = 2 + (rp e).length + (rpM es).length := by
          show (44 :: 32 :: (rp e ++ rpM es)).length = _
          simp only [List.length_cons, List.length_append]; omega
        have e2 : (rpT (e :: es)).length = 2 + (rp e).length + (rpM es).length := by
          show (44 :: 32 :: (rp e ++ rpM es)).length = _
          simp only [List.length_cons, List.length_append]; omega
        have e3 : (wrR (e :: es)).length = 1 + (wr e).length + (wrR es).length := by
          show (32 :: (wr e ++ wrR es)).length = _
          simp only [List.length_cons, List.length_append]; omega
        omega
    rw [wrT_len]
    have e0 : (rp (.tup ds)).length = 1 + (rpL ds).length := by
      show (40 :: rpL ds).length = _
      rw [List.length_cons]; omega
    cases ds with
    | nil =>
      rw [e0]
      show 1 + 1 ≤ _
      omega
    | cons d r =>
      have a := ih d List.mem_cons_self
      have b := (key r fun x hx => ih x (List.mem_cons_of_mem _ hx)).2
      have e1 : (rpL (d :: r)).length = (rp d).length + (rpT r).length := by
        show (rp d ++ rpT r).length = _
        rw [List.length_append]
      have e2 : (wrJ (d :: r)).length = (wr d).length + (wrR r).length := by
        show (wr d ++ wrR r).length = _
        rw [List.length_append]
      omega
theorem repr_gv {n : Nat} {d : DV} {s : Sto} {Q : KD} (h : Gv n d) (hn : n ≤ 64) (hl : (wr d).length ≤ 100000) (q : Q (.str (S (rp d))) s) : dRepr [d] s Q := by
  obtain ⟨p, h1, h2, h3, h4, h5⟩ := rp_pd h
  have hlen := rp_len h
  have es : p.shown = S (rp d) := ext_tl h2
  have hsz : (S (rp d)).length ≤ sizeLine := size_le (by rw [S_len]; omega)
  cases h with
  | non => have e : S (rp .non) = Str.ofString "None" := by decide +kernel
           rw [e] at q; exact q
  | bl _ b =>
    have e : S (rp (.bl b)) = Str.ofString (if b then "True" else "False") := by cases b <;> decide +kernel
    rw [e] at q
    cases b <;> exact q
  | int _ i hi =>
    have e : S (rp (.int i)) = Str.ofString (toString i) := ext_tl (tl_int i).symm
    rw [e] at q
    exact ⟨log40 hi, q⟩
  | str _ z hz =>
    have e : S (rp (.str z)) = reprText z := ext_tl (tl_repr hz).symm
    rw [e] at q hsz
    exact ⟨hsz, q⟩
  | tup m ds hd =>
    show kReprP s Q (pd (.tup ds))
    rw [h1]
    exact ⟨h3, h4, Nat.le_trans h5 hn, es ▸ hsz, es ▸ q⟩
end VW

set_option Elab.async false
set_option linter.all false
set_option maxRecDepth 100000
set_option maxHeartbeats 4000000
/-! Where tokens are counted: tests, comparisons, slices, defs that count none, defs that call themselves often. -/
namespace DL
open PySem PySem.Spec PyProof.Rows L2
section
variable {n : Nat} {X : Cx} {a b e : Expr} {rest : List Expr} {pos p2 : Pos} {ta tb te : TE} {tA tB' : TT}
structure PWN (n : Nat) (X : Cx) (e : Expr) (t : TT) : Prop where
  run : ∀ (whole : Sem Value) (pins : List (Addr × Obj)) (s : Shared) (σ : L2.St) (H : Hp) (Q : Bool → Hp → Prop), n ≤ s.toks → Inv X pins σ H s → t σ H Q → wpAny (model X.prog X.w) X.A (isTrue e X.env whole) (TP X pins σ Q) X.xe s
theorem PWN.pt (h : PWN n X e tA) : PTN n X e tA := ⟨h.run _⟩
theorem PWN.of (h : PW X e tA) : PWN n X e tA := ⟨fun wh pins s σ H Q _ I q => h.run wh pins s σ H Q I q⟩
theorem PTN.imp2 {t' : TT} (h : PTN n X e tA) (w : ∀ σ H Q, t' σ H Q → tA σ H Q) : PTN n X e t' := ⟨fun pins s σ H Q hn I q => h.run pins s σ H Q hn I (w _ _ _ q)⟩
theorem PWN.imp {t' : TT} (h : PWN n X e tA) (w : ∀ σ H Q, t' σ H Q → tA σ H Q) : PWN n X e t' := ⟨fun wh pins s σ H Q hn I q => h.run wh pins s σ H Q hn I (w _ _ _ q)⟩
theorem pwn_and1 (ha : PTN n X a tA) : PWN n X (.BoolOp .And [a] pos) tA := by
  refine ⟨fun wh pins s σ H Q hn I h => ?_⟩
  refine isTrue_and (thn (ha.run pins s σ H Q hn I h) fun c s1 e => ?_)
  cases c with
  | true => exact isTrue_and_nil e
  | false => exact e
theorem pwn_or1 (ha : PTN n X a tA) : PWN n X (.BoolOp .Or [a] pos) tA := by
  refine ⟨fun wh pins s σ H Q hn I h => ?_⟩
  refine isTrue_or (thn (ha.run pins s σ H Q hn I h) fun c s1 e => ?_)
  cases c with
  | false => exact isTrue_or_nil e
  | true => exact e
theorem pwn_and (ha : PTN n X a tA) (hb : PWN n X (.BoolOp .And (b :: rest) pos) tB') : PWN n X (.BoolOp .And (a :: b :: rest) pos) (tAnd tA tB') := by
  refine ⟨fun wh pins s σ H Q hn I h => ?_⟩
  refine isTrue_and (thnT hn (ha.run pins s σ H _ hn I h) fun c s1 hn1 ⟨H1, I1, q1⟩ => ?_)
  cases c with
  | true => exact hb.run wh pins s1 σ H1 Q hn1 I1 q1
  | false => exact ⟨H1, I1, q1⟩
theorem pwn_or (ha : PTN n X a tA) (hb : PWN n X (.BoolOp .Or (b :: rest) pos) tB') : PWN n X (.BoolOp .Or (a :: b :: rest) pos) (tOr tA tB') := by
  refine ⟨fun wh pins s σ H Q hn I h => ?_⟩
  refine isTrue_or (thnT hn (ha.run pins s σ H _ hn I h) fun c s1 hn1 ⟨H1, I1, q1⟩ => ?_)
  cases c with
  | true => exact ⟨H1, I1, q1⟩
  | false => exact hb.run wh pins s1 σ H1 Q hn1 I1 q1
theorem ptn_not (ha : PTN n X a tA) : PTN n X (.UnaryOp .Not a pos) (tNot tA) := by
  refine ⟨fun pins s σ H Q hn I h => ?_⟩
  exact isTrue_not (ha.run pins s σ H (fun c H1 => Q (!c) H1) hn I h)
theorem pen_cmpR {op : CmpOp} {r : R2} (ho : OpR X (compareOp op) r) (ha : PEN n X a ta) (hb : PEN n X b tb) (hm : behindInMarks op b = false) : PEN n X (.Compare a [op] [b] pos) (tOp r ta tb) := by
  refine ⟨fun pins s σ H Q hn I h => ?_⟩
  exact wpAny_Compare1 (thnT hn (ha.run pins s σ H _ hn I h) fun v s1 hn1 ⟨x, H1, I1, r1, q1⟩ => thn (hb.run pins s1 σ H1 _ hn1 I1 q1) fun u s2 ⟨y, H2, I2, r2, q2⟩ => ho pins s2 σ H2 x y v u Q I2 r1 r2 q2) hm
theorem ptn_cmpR {op : CmpOp} {r : R2} (ho : OpR X (compareOp op) r) (ha : PEN n X a ta) (hb : PEN n X b tb) (hm : behindInMarks op b = false) : PTN n X (.Compare a [op] [b] pos) (tTest (tOp r ta tb)) := by
  refine ⟨fun pins s σ H Q hn I h => ?_⟩
  refine wpAny_isTrue_Compare1 (thnT hn (ha.run pins s σ H _ hn I h) fun v s1 hn1 ⟨x, H1, I1, r1, q1⟩ => thn (hb.run pins s1 σ H1 _ hn1 I1 q1) fun u s2 ⟨y, H2, I2, r2, q2⟩ =>
    thn (ho pins s2 σ H2 x y v u _ I2 r1 r2 q2) fun c s3 ⟨z, H3, I3, r3, k, e, q3⟩ => ?_) hm
  subst e
  cases r3
  exact wpAny_truthy_bool ⟨H3, I3, q3⟩
theorem ptn_truth (ha : PEN n X a ta) (he : ∀ whole, isTrue a X.env whole = (do let v ← whole; standAt a.pos; holding [v] (truthy v))) :
    PTN n X a (fun σ H Q => ta σ H fun x H' => ∃ k, TruV X.K x H' k ∧ Q k H') := by
  refine ⟨fun pins s σ H Q hn I h => ?_⟩
  exact isTrue_plain (thn (ha.run pins s σ H _ hn I h) fun v s1 ⟨x, H1, I1, r1, q1⟩ => tru_ok pins s1 σ H1 x v Q I1 r1 q1) (he _)
theorem pen_slice {lo hi : Option Expr} {tl tu : TO} {r : V → Option Int → Option Int → Hp → VK → Prop} (hr : SlR X r) (he : PEN n X e te) (hl : PO X lo tl) (hu : PO X hi tu) : PEN n X (.Subscript e (.Slice lo hi none p2) pos) (tSl r te tl tu) := by
  refine ⟨fun pins s σ H Q hn I h => ?_⟩
  refine Subscript_ (thn (he.run pins s σ H _ hn I h) fun v s1 ⟨x, H1, I1, r1, q1⟩ => ?_)
  refine wpAny_Slice (thn (hl.run pins s1 σ H1 _ I1 q1) fun vl s2 ⟨l, H2, I2, pl, q2⟩ => thn (hu.run pins s2 σ H2 _ I2 q2) fun vu s3 ⟨u, H3, I3, pu, q3⟩ => ?_)
  rw [evalPart_none]
  refine wpAny_pure ?_
  have I4 : Inv X pins σ H3 { s3 with heap := s3.heap.push { cls := .type "slice", data := .fields #[vl, vu, .none] } } := I3.kept (t' := s3.toks) fun b ob q => Heap.get?_push_of_some _ q
  obtain ⟨T, id, hT, ht, hg⟩ := hr pins { s3 with heap := s3.heap.push { cls := .type "slice", data := .fields #[vl, vu, .none] } } σ H3 x v vl vu l u s3.heap.objs.size Q I4 r1 (Heap.IsSliceOf.new ..) pl pu q3
  show wpAny (model X.prog X.w) X.A (subscriptTail e (.Slice lo hi none p2) v (.ref s3.heap.objs.size)) (EP X pins σ Q) X.xe { s3 with heap := s3.heap.push { cls := .type "slice", data := .fields #[vl, vu, .none] } }
  exact tail_any (ops := [.ref s3.heap.objs.size, v]) ht hT hg (by with_unfolding_all rfl)
end
/-! ### over data -/
abbrev PWdN (n : Nat) (A : Anc) (X : Cx) (e : Expr) (t : TTd) : Prop := PWN n X e (lT X.K A t)
section
variable {n : Nat} {A : Anc} {X : Cx} {a b e : Expr} {rest : List Expr} {pos p2 : Pos} {ta tb te : TEd} {t u : TTd} {r : R2d}
theorem dcmpN {op : CmpOp} (ho : OpD X (compareOp op) r) (ha : PDN n A X a ta) (hb : PDN n A X b tb) (hm : behindInMarks op b = false) : PDN n A X (.Compare a [op] [b] pos) (dOp r ta tb) := (pen_cmpR ho ha hb hm).imp fun _ _ _ h => lE_bin h
theorem dtcmpN {op : CmpOp} (ho : OpD X (compareOp op) r) (ha : PDN n A X a ta) (hb : PDN n A X b tb) (hm : behindInMarks op b = false) : PTdN n A X (.Compare a [op] [b] pos) (dTest (dOp r ta tb)) :=
  (ptn_cmpR ho ha hb hm).imp2 fun σ H Q h => by
    have h2 := lT_test h
    exact by
      obtain ⟨δ, s, Q', S, t, k⟩ := h2
      exact lE_bin ⟨δ, s, Q', S, t, k⟩
theorem dpandN (ha : PTdN n A X a t) (hb : PWdN n A X (.BoolOp .And (b :: rest) pos) u) : PWdN n A X (.BoolOp .And (a :: b :: rest) pos) (dAnd t u) := (pwn_and ha hb).imp fun σ H Q h => by
  obtain ⟨δ, s, Q', S, t, k⟩ := h
  refine ⟨δ, s, _, S, t, fun b H2 s2 st rep q => ?_⟩
  cases b with
  | true => exact ⟨δ, s2, _, S.go st rep, q, fun b3 H3 s3 st3 => k b3 H3 s3 (st.trans st3)⟩
  | false => exact k false H2 s2 st rep q
theorem dporN (ha : PTdN n A X a t) (hb : PWdN n A X (.BoolOp .Or (b :: rest) pos) u) : PWdN n A X (.BoolOp .Or (a :: b :: rest) pos) (dOr t u) := (pwn_or ha hb).imp fun σ H Q h => by
  obtain ⟨δ, s, Q', S, t, k⟩ := h
  refine ⟨δ, s, _, S, t, fun b H2 s2 st rep q => ?_⟩
  cases b with
  | false => exact ⟨δ, s2, _, S.go st rep, q, fun b3 H3 s3 st3 => k b3 H3 s3 (st.trans st3)⟩
  | true => exact k true H2 s2 st rep q
theorem dpand1N (ha : PTdN n A X a t) : PWdN n A X (.BoolOp .And [a] pos) t := pwn_and1 ha
theorem dpor1N (ha : PTdN n A X a t) : PWdN n A X (.BoolOp .Or [a] pos) t := pwn_or1 ha
theorem dpnotN (ha : PTdN n A X a t) : PTdN n A X (.UnaryOp .Not a pos) (dNot t) := (ptn_not ha).imp2 fun σ H Q h => by
  obtain ⟨δ, s, Q', S, t, k⟩ := h
  exact ⟨δ, s, _, S, t, fun b H2 s2 st rep q => k (!b) H2 s2 st rep q⟩
theorem dtruthN (ha : PDN n A X a ta) (he : ∀ whole, isTrue a X.env whole = (do let v ← whole; standAt a.pos; holding [v] (truthy v)) := by intro _; rfl) : PTdN n A X a (dTru ta) := (ptn_truth ha he).imp2 fun σ H Q h => by
  obtain ⟨δ, s, Q', S, t, k⟩ := h
  refine ⟨δ, s, _, S, t, fun v H2 d s2 st rep dv q => ?_⟩
  unfold kTru at q
  cases e : truD s2 d with
  | none => rw [e] at q; exact False.elim q
  | some b => rw [e] at q; exact ⟨b, truV rep dv e, k b H2 s2 st rep q⟩
theorem dsliceN {lo hi : Option Expr} {tl th : TOd} {r : RSd} (hr : SlR X (lSl X.K r)) (he : PDN n A X e te) (hl : POd A X lo tl) (hu : POd A X hi th) : PDN n A X (.Subscript e (.Slice lo hi none p2) pos) (dSl r te tl th) := (pen_slice hr he hl hu).imp fun σ H Q h => by
  obtain ⟨δ, s, Q', S, t, k⟩ := h
  refine ⟨δ, s, _, S, t, fun v H1 d s1 st1 rep1 dv q1 => ?_⟩
  have S1 := S.go st1 rep1
  refine ⟨δ, s1, _, S1, q1, fun l H2 s2 st2 rep2 q2 => ?_⟩
  refine ⟨δ, s2, _, S1.go st2 rep2, q2, fun u H3 s3 st3 rep3 q3 => ?_⟩
  exact ⟨d, s3, _, rep3, (dv.step st2 rep1).step st3 rep2, q3, fun v4 H4 d4 s4 st4 => k v4 H4 d4 s4 (((st1.trans st2).trans st3).trans st4)⟩
end
/-- what counts no tokens, called where they are counted -/
theorem FnT.ofFn {n : Nat} {P : Program} {w : World} {K : PySem.W.Frag} {mg : Str → Option Value} {base : Heap} {x : Str} {k : Nat} {ps : List Str} {sp : Spd} (G : Fn P w K mg base x k ps sp) : FnT n P w K mg base x k ps sp := by
  obtain ⟨f, fd, F, hm, hk, hb⟩ := G.ex
  exact ⟨f, fd, ⟨F.len, fun A outer s H args us vs Q E _ _ hr e0 b r h => F.run A outer s H args us vs Q E hr e0 b r h⟩, hm, hk, hb⟩
/-! ### both: tokens, and room by the frame -/
structure FnDN (n j : Nat) (P : Program) (w : World) (K : PySem.W.Frag) (mg : Str → Option Value) (base : Heap) (x : Str) (k : Nat) (ps : List Str) (sp : Spd) : Prop where
  ex : ∃ f fd, FnTk (Deep j) n P w K mg base CX0 k f fd ps (lSp K sp) ∧ mg x = some (.ref f) ∧ PySem.W.keepIn K (.ref f) = true ∧ Binds K fd ps []
theorem fnOkDN {n : Nat} {P : Program} {w : World} {K : PySem.W.Frag} {mg : Str → Option Value} {base : Heap} {x : Str} {st : Stmt} {N ps : List Str} {j k : Nat} {sp : Spd} {t : TSd} (D : DefAt K mg x st ps) (S : FnScope N ps (defScope st)) (len : ∀ ds s Q E, sp ds s Q E → ds.length = ps.length)
    (hbody : ∀ (A : Anc) (f : Addr) (cdv : Value) (Ar : Around) (outer : List Env) (s : Shared) (H : Hp) (E : XK), Deep j Ar → Room k (Ar.deeper (envOfC x (defScope st) s.heap.objs.size f cdv)) →
      PSsdN n A (cxOf CX0 P w K mg base N x (defScope st) f cdv Ar outer s H E).nox (defBody st) t)
    (hread : ∀ ds s Q E, sp ds s Q E → t { nx := fun _ s => Q .non s, rt := Q } (startD N.length ds) s) : FnDN n j P w K mg base x (k + 1) ps sp := by
  obtain ⟨f, fd, F, hm, hk, hb⟩ := D.ex
  exact ⟨f, fd, defOkT F S len (fun A cdv Ar outer s H E hA hr => hbody A f cdv Ar outer s H E hA hr) hread, hm, hk, hb⟩
theorem FnDN.mono {n i j : Nat} {P : Program} {w : World} {K : PySem.W.Frag} {mg : Str → Option Value} {base : Heap} {x : Str} {k : Nat} {ps : List Str} {sp : Spd} (G : FnDN n i P w K mg base x k ps sp) (h : i ≤ j) : FnDN n j P w K mg base x k ps sp := by
  obtain ⟨f, fd, F, hm, hk, hb⟩ := G.ex
  exact ⟨f, fd, ⟨F.len, fun A outer s H args us vs Q E hA hn hr e0 b r h2 => F.run A outer s H args us vs Q E (hA.mono h) hn hr e0 b r h2⟩, hm, hk, hb⟩
section
variable {n : Nat} {A : Anc} {X : Cx} {j k : Nat} {ps : List Str} {sp : Spd} {x : Str} {p pos : Pos} {e : Expr} {es : List Expr} {t : TAd}
theorem dFDN (G : FnDN n j X.prog X.w X.K X.mg X.base x k ps sp) (hA : Deep j X.A) (hr : Room k X.A) (ha : PAdN n A X (e :: es) t) (hg : Gl X x := by rfl) (hdb : (x == ("__debug__" : Str)) = false := by decide) (he : starEach (e :: es) X.env = (false, eval e X.env) :: starEach es X.env := by rfl)
    (hpl : (backTo pos (starEach es X.env)).any (·.1) = false := by rfl) : PDN n A X (.Call (.Name x p) (e :: es) [] pos) (dCall sp [] t) := by
  obtain ⟨f, fd, F, hm, hk, hb⟩ := G.ex
  refine (pen_call (E := fun _ _ _ _ => False) F hA hr hg hm hk hb (fun σ pins H s e s' I h => h.elim) ha hdb he hpl).imp fun σ H Q h => ?_
  obtain ⟨δ, s, Q', S, t, k⟩ := h
  refine ⟨δ, s, _, S, t, fun vs H1 es s1 st1 rep1 dv q => ?_⟩
  have q2 : cSp sp (es ++ []) s1 Q' noX := q
  rw [List.append_nil] at q2
  exact ⟨es, s1, Q', noX, rep1, dv, q2, fun v2 H2 d2 s2 st2 => k v2 H2 d2 s2 (st1.trans st2), ExL.no⟩
end
end DL

set_option Elab.async false
set_option linter.all false
set_option maxRecDepth 100000
set_option maxHeartbeats 4000000
namespace DL
open PySem PySem.Spec PyProof.Rows L2
/-! ### try .. except C as n: n's fields read in the suite -/
def wKeepX (K : PySem.W.Frag) (c : Value) (i : Nat) (ts : Addr → Addr → Addr → TS) (Wout : WX) (D : Ends) : WX := fun cls d σ H =>
  ∃ b, PySem.W.exmOne K cls c = some b ∧ (b = true → ∃ C dx, cls = .ref C ∧ d = some dx ∧ ∀ a, H a = none → ts a C dx (kEnds D i a C dx) (σ.set i (some (.ref a))) H) ∧ (b = false → Wout cls d σ H)
section
variable {X : Cx} {x n : Str} {c : Value} {i : Nat} {body suite : List Stmt} {b₀ : Stmt} {np pos pos' : Pos} {tb : WX → TS} {ts : Addr → Addr → Addr → TS} {Wout : WX}
theorem ps_try_keepX (hs : X.stack = X.env :: X.outer) (hf : X.env.frame = some X.env.locals) (hex : X.ex = []) (hN : X.N.Nodup) (hi : X.N[i]? = some n) (hln : X.env.kindOf n = some .local) (hc : Names X x c) (tk : Takes X Wout)
    (hb : ∀ (W : WX) (pn : List (Addr × Obj)) (xe : Value → Shared → Prop), Takes (X.tr pn xe) W → PassesOwn (model X.prog X.w) X.A X.env xe → PSs (X.tr pn xe) body (tb W))
    (hsu : ∀ (a C dx : Addr) (oe : Obj) (pn : List (Addr × Obj)), Zc (.ref C) (some dx) oe → (∃ vs, oe.data = .fields vs) → PSs (X.suite a ((a, oe) :: pn)) (b₀ :: suite) (ts a C dx)) :
    PS X (.Try body [.ExceptHandler (some (.Name x np)) (some n) (b₀ :: suite) pos'] [] [] pos) (fun D σ H => tb (wKeepX X.K c i ts Wout D) D σ H) := by
  refine ⟨fun pins s σ H D I h => ?_⟩
  have ok := I.ok
  have hfr : X.A.frames = some (X.env :: X.outer) := by rw [ok.frames, hs]
  refine wpAny_Try_except (wpAny_mono ((hb (wKeepX X.K c i ts Wout D) (X.pn ++ pins) (fun e s₁ => wpAny (model X.prog X.w) X.A (noteFrame e X.env) (fun _ s₂ => wpAny (model X.prog X.w) X.A (setFlight e none) (fun _ s₃ =>
    wpAny (model X.prog X.w) X.A (handleBy e X.env [.ExceptHandler (some (.Name x np)) (some n) (b₀ :: suite) pos']) (SP X pins D) X.xe s₃) X.xe s₂) X.xe s₁) (fun u s' xx => ?_) PassesOwn.looking).run [] s σ H D (I.toTry _) h) (fun f s1 hsp => ?_) (fun e s1 he => he))
  · obtain ⟨a, B, sI, pins', σ', H', cls, d, rfl, J', nb, up, sky, na, os, ag, b, hb1, hyes, hno⟩ := xx
    have J : Inv X pins σ' H' sI := J'.ofTry ok
    have nbs : ∀ b o, sI.heap.get? b = some o → b ∉ frs (X.env :: X.outer) → B.get? b = some o := by rw [← hs]; exact nb
    have sky' : Sky B (X.env :: X.outer) a (Zc cls d) X.env.locals s'.heap := by rw [← hs]; exact sky
    show wpAny (model X.prog X.w) X.A (noteFrame (.ref a) X.env) _ _ _
    refine Sky.land Zc.steady hfr hf sky' fun h3 fl3 up3 => ?_
    have J3 : Inv X pins σ' H' { s' with heap := h3 } := J.landed nb fl3.1 (up.trans up3) os ag
    obtain ⟨oe3, vs3, he3, hz3, hd3⟩ := fl3.there
    have Bn : B.get? a = none := fl3.2.1
    have nfr : a ∉ frs (X.env :: X.outer) := fun hm => by
      obtain ⟨_, o', e', hnf⟩ := fl3.2.2.1.mem hm
      rw [he3] at e'
      cases e'
      exact hnf _ hd3
    have nsI : ∀ o, sI.heap.get? a ≠ some o := fun o q => by
      have := nbs a o q nfr
      rw [Bn] at this
      cases this
    have h0 : X.s_0.heap.get? a = none := by
      cases q : X.s_0.heap.get? a with
      | none => rfl
      | some o =>
        obtain ⟨o', q'⟩ := J.base.there a o q (by rw [hex]; exact fun z => nomatch z)
        exact absurd q' (nsI o')
    have hp : ∀ p ∈ X.pn ++ pins, p.1 ≠ a := fun p hm z => by
      have q := (J.pin p hm).1
      rw [z] at q
      exact nsI _ q
    have nL : a ≠ X.env.locals := fun z => nfr (List.mem_filterMap.mpr ⟨X.env, List.mem_cons_self, by rw [hf, z]⟩)
    have nF : a ∉ X.fs := fun hm => by
      obtain ⟨e, he, q⟩ := List.mem_filterMap.mp hm
      exact nfr (List.mem_filterMap.mpr ⟨e, List.mem_cons_of_mem _ he, q⟩)
    have S3 := J3.suite he3 hd3 na nL nF
    refine wpAny_handleBy_cons (codeAny_handlers_test ?_) (by intro q; cases q)
    have LM := PySem.W.exm_one (M := model X.prog X.w) (J3.kIn) (show PySem.W.Looks (model X.prog X.w) h3 (typeOf (.ref a)) cls from fun A Q E s k q => wpAny_typeOf_ref (k _ _ he3) (by rw [hz3.1]; exact q)) hb1
    have test : ∀ {Q : Value → Shared → Prop} {E : Value → Shared → Prop}, Q c { s' with heap := h3 } → wpAny (model X.prog X.w) (X.A.mark (some (.ref a))) (eval (.Name x np) X.env) Q E { s' with heap := h3 } := fun {Q E} q => by
      obtain ⟨hg, hdbg, hm | ⟨hm, hv, hnn⟩⟩ := hc
      · exact ld_glob (X := X.suite a ((a, oe3) :: (X.pn ++ pins))) S3 hg hm q hdbg
      · exact ld_blt (X := X.suite a ((a, oe3) :: (X.pn ++ pins))) S3 hg hm hv q hnn hdbg
    refine test (LM.here ?_)
    cases b with
    | true =>
      obtain ⟨C, dx, rfl, rfl, hy⟩ := hyes rfl
      refine codeAny_handlers_suite_as ?_
      refine HandSPX.lands_againZ fl3 fun h4 fl4 up4 => ?_
      have J4 : Inv X pins σ' H' { s' with heap := h4 } := J.landed nb fl4.1 ((up.trans up3).trans up4) os ag
      obtain ⟨oe4, vs4, he4, hz4, hd4⟩ := fl4.there
      have hn4 : PySem.W.notCls oe4 = true := by unfold PySem.W.notCls; rw [hd4] <;> rfl
      have S4 := J4.suite he4 hd4 na nL nF
      refine store_ok (X := X.suite a ((a, oe4) :: (X.pn ++ pins))) (v := .ref a) S4 hN hi (.inl hln) rfl (fun s5 S5 => ?_) (.inr hln)
      refine wpAny_mono ((hsu a C dx oe4 (X.pn ++ pins) hz4 ⟨_, hd4⟩).run [] s5 _ H' _ S5 (hy a na)) (fun f s6 hsp => ?_) (fun _ _ z => False.elim z)
      have end_ : ∀ {σ6 : L2.St} {H6 : Hp} {Q : Shared → Prop}, Inv (X.suite a ((a, oe4) :: (X.pn ++ pins))) [] σ6 H6 s6 → (H6 a = none → ∀ s7, Inv X pins (σ6.set i none) (upd H6 a (exk a C dx)) s7 → Q s7) →
          wpAny (model X.prog X.w) X.A (do bindName X.env n .none; unbindBehindTheSuite X.env n pos') (fun _ s7 => Q s7) X.xe s6 := fun {σ6 H6 Q} S6 hq => by
        have S7 := inv_unsuite S6 ok
        have n6 := (S7.pin (a, oe4) (List.mem_append_right _ List.mem_cons_self)).2.1
        exact gone_ok S7 hN hi hln fun s7 J7 => hq n6 s7 (inv_lay J7 hz4.1 hz4.2 hn4 h0 hp)
      cases f with
      | next =>
        obtain ⟨σ6, H6, S6, q6⟩ := hsp
        exact end_ S6 fun n6 s7 J7 => ⟨_, _, J7, q6 n6⟩
      | brk =>
        obtain ⟨σ6, H6, S6, q6⟩ := hsp
        exact end_ S6 fun n6 s7 J7 => ⟨_, _, J7, q6 n6⟩
      | cont =>
        obtain ⟨σ6, H6, S6, q6⟩ := hsp
        exact end_ S6 fun n6 s7 J7 => ⟨_, _, J7, q6 n6⟩
      | ret u =>
        obtain ⟨v6, σ6, H6, S6, r6, q6⟩ := hsp
        exact end_ S6 fun n6 s7 J7 => ⟨_, _, _, J7, r6, q6 n6⟩
    | false =>
      show wpAny _ X.A (handleBy (.ref a) X.env []) _ _ _
      refine wpAny_handleBy_nil ?_
      obtain ⟨k1, k2, k3, oe, vs, T, oT, ts', he, hz, hd, h1, hr⟩ := id fl3
      unfold PySem.passOn
      refine wpAny_bind (wpAny_field he hd h1 ?_)
      rw [if_neg (show ¬ ((Value.ref T == Value.none) = true) from by simp)]
      have fin : wpAny (model X.prog X.w) X.A (setFlight (.ref a) X.env.frame) (fun _ s4 => wpAny (model X.prog X.w) X.A (throw (.ref a) : Sem Flow) (SP X pins D) X.xe s4) X.xe { s' with heap := h3 } := by
        rw [hf]
        refine HandSPX.setFlight_upZ fl3 fun h4 hh4 up4 => wpAny_throw (tk _ _ ?_)
        exact ⟨a, B, sI, pins, σ', H', cls, d, rfl, J, nb, (up.trans up3).trans up4, .inr (.inr (by rw [hs]; exact hh4)), na, os, ag, hno rfl⟩
      first
        | exact wpAny_bind (wpAny_pure (wpAny_bind fin))
        | exact wpAny_bind fin
  · cases f with
    | next =>
      obtain ⟨σ', H', J', q⟩ := hsp
      exact wpAny_execs_nil ⟨σ', H', J'.ofTry ok, q⟩
    | brk =>
      obtain ⟨σ', H', J', q⟩ := hsp
      exact ⟨σ', H', J'.ofTry ok, q⟩
    | cont =>
      obtain ⟨σ', H', J', q⟩ := hsp
      exact ⟨σ', H', J'.ofTry ok, q⟩
    | ret u =>
      obtain ⟨v, σ', H', J', r, q⟩ := hsp
      exact ⟨v, σ', H', J'.ofTry ok, r, q⟩
end
/-! ### over data -/
def wKeepDX (C : Addr) (i : Nat) (ts : Addr → List (Str × DV) → TSd) (D : EndsD) : XEd := fun cls fs δ s => cls = .ref C ∧ fs ≠ [] ∧ ∀ a, s a = none → ts a fs (kEndsD D i a C fs) (δ.set i (some (.ref a))) s
def dTryX (C : Addr) (i : Nat) (ts : Addr → List (Str × DV) → TSd) (tb : XEd → TSd) (D : EndsD) (δ : Ed) (s : Sto) : Prop := tb (wKeepDX C i ts D) D δ s
theorem dTryX_q {C : Addr} {i : Nat} {ts : Addr → List (Str × DV) → TSd} {tb : XEd → TSd} {D : EndsD} {δ : Ed} {s : Sto} : dTryX C i ts tb D δ s = tb (wKeepDX C i ts D) D δ s := propext Iff.rfl
/-- what a suite knows of the exception caught -/
structure Kx (K : PySem.W.Frag) (A : Anc) (C dx : Addr) (oe : Obj) (fs : List (Str × DV)) : Prop where
  zc : Zc (.ref C) (some dx) oe
  fl : ∃ vs, oe.data = .fields vs
  rep : Rep K A.s A.H
  at_ : ∃ gs, A.H dx = some (.xd gs) ∧ A.s dx = none ∧ DatP K A.s A.H gs fs
section
variable {X : Cx} {A : Anc} {x n : Str} {C : Addr} {i : Nat} {body suite : List Stmt} {b₀ : Stmt} {np pos pos' : Pos} {tb : XEd → TSd} {ts : Addr → List (Str × DV) → TSd}
theorem dstryX (hs : X.stack = X.env :: X.outer) (hf : X.env.frame = some X.env.locals) (hex : X.ex = []) (hN : X.N.Nodup) (hi : X.N[i]? = some n) (hln : X.env.kindOf n = some .local) (hc : Names X x (.ref C)) (hm : PySem.W.exmOne X.K (.ref C) (.ref C) = some true)
    (hb : ∀ (Ex : XEd) (pn : List (Addr × Obj)) (xe : Value → Shared → Prop), Takes (X.tr pn xe) (wX X.K A Ex) → PassesOwn (model X.prog X.w) X.A X.env xe → PSsd A (X.tr pn xe) body (tb Ex))
    (hsu : ∀ (A' : Anc) (a dx : Addr) (oe : Obj) (pn : List (Addr × Obj)) (fs : List (Str × DV)), Kx X.K A' C dx oe fs → PSsd A' (X.suite a ((a, oe) :: pn)) (b₀ :: suite) (ts a fs)) :
    PSd A X (.Try body [.ExceptHandler (some (.Name x np)) (some n) (b₀ :: suite) pos'] [] [] pos) (dTryX C i ts tb) := by
  refine psImp (ps_try_keepX (c := .ref C) (i := i) (Wout := fun _ _ _ _ => False) (tb := fun W D σ H => ∃ Ex, (∀ cls d σ H, wX X.K A Ex cls d σ H → W cls d σ H) ∧ lS X.K A (tb Ex) D σ H)
    (ts := fun a C' dx D σ H => ∃ (A' : Anc) (gs : List (Str × V)) (fs : List (Str × DV)), C' = C ∧ Rep X.K A'.s A'.H ∧ A'.H dx = some (.xd gs) ∧ A'.s dx = none ∧ DatP X.K A'.s A'.H gs fs ∧ lS X.K A' (ts a fs) D σ H) hs hf hex hN hi hln hc takes0
    (fun W pn xe tk ps => ⟨fun pins s σ H D I ⟨Ex, w, h⟩ => (hb Ex pn xe (tk.imp w) ps).run pins s σ H D I h⟩) (fun a C' dx oe pn hz hfl => ⟨fun pins s σ H D I ⟨A', gs, fs, e, h0, h1, h2, h3, h⟩ => by subst e; exact (hsu A' a dx oe pn fs ⟨hz, hfl, h0, gs, h1, h2, h3⟩).run pins s σ H D I h⟩)) fun D σ H h => ?_
  obtain ⟨δ, s, D', S, t, L⟩ := h
  refine ⟨wKeepDX C i ts D', ?_, δ, s, D', S, t, L⟩
  rintro cls d σ2 H2 ⟨fs, δ2, s2, S2, xr, rfl, hne, q⟩
  rcases xr with ⟨_, e⟩ | ⟨dx, gs, rfl, hx, hp, nx⟩
  · exact absurd e hne
  · refine ⟨true, hm, fun _ => ⟨C, dx, rfl, rfl, fun a na => ⟨⟨s2, H2⟩, gs, fs, rfl, S2.rep, hx, nx, hp, δ2.set i (some (.ref a)), s2, _, ⟨Stp.refl s2 H2, S2.rep, S2.env.set (.ref a) i⟩, q a (S2.rep.fresh na), ?_⟩⟩, fun e => nomatch e⟩
    have go : ∀ {σ3 : L2.St} {H3 : Hp} {δ3 : Ed} {s3 : Sto}, Sd X.K ⟨s2, H2⟩ σ3 H3 δ3 s3 → H3 a = none → Sd X.K A (σ3.set i none) (upd H3 a (exk a C dx)) (δ3.set i none) (up s3 a (.exc C fs)) := fun S3 na3 => by
      obtain ⟨st4, rep4⟩ := exc_put (C := C) (a := a) S2.rep hx nx hp S3.stp S3.rep na3
      exact ⟨(S2.stp.trans S3.stp).trans st4, rep4, (S3.env.unset i none).step st4 S3.rep⟩
    refine ⟨fun σ3 H3 δ3 s3 S3 q3 na3 => L.nx _ _ _ _ (go S3 na3) (q3 (S3.rep.fresh na3)), fun σ3 H3 δ3 s3 S3 q3 na3 => L.bk _ _ _ _ (go S3 na3) (q3 (S3.rep.fresh na3)), fun σ3 H3 δ3 s3 S3 q3 na3 => L.ct _ _ _ _ (go S3 na3) (q3 (S3.rep.fresh na3)), fun v H3 d3 s3 st3 rep3 dv3 q3 na3 => ?_⟩
    obtain ⟨st4, rep4⟩ := exc_put (C := C) (a := a) S2.rep hx nx hp st3 rep3 na3
    exact L.rt _ _ _ _ ((S2.stp.trans st3).trans st4) rep4 (dv3.step st4 rep3) (q3 (rep3.fresh na3))
/-- a field of the exception caught, in its suite -/
def kXfS (a : Addr) (n : Str) (fs : List (Str × DV)) (Q : KD) (d : DV) (s1 : Sto) : Prop := d = .ref a ∧ match fs.lookup n with
  | some v => Q v s1
  | none => False
def dXfS (a : Addr) (n : Str) (fs : List (Str × DV)) (te : TEd) (δ : Ed) (s : Sto) (Q : KD) : Prop := te δ s (kXfS a n fs Q)
theorem dXfS_q {a : Addr} {n : Str} {fs : List (Str × DV)} {te : TEd} {δ : Ed} {s : Sto} {Q : KD} : dXfS a n fs te δ s Q = te δ s (kXfS a n fs Q) := propext Iff.rfl
theorem dxfS {a dx : Addr} {oe : Obj} {pn : List (Addr × Obj)} {fs : List (Str × DV)} {e : Expr} {te : TEd} {fl : Str} (kx : Kx X.K A C dx oe fs) (T : XfC X.K C) (hno : PySem.W.findIn X.K (.ref C) fl = some none) (he : PD A (X.suite a ((a, oe) :: pn)) e te)
    (hb : attributeBase e fl X.env (eval e X.env) = eval e X.env := by rfl) : PD A (X.suite a ((a, oe) :: pn)) (.Attribute e fl pos) (dXfS a fl fs te) := peImp (pe_xf T hno kx.zc kx.fl he hb) fun σ H Q h => by
  obtain ⟨δ, s, Q', S, t, k⟩ := h
  refine ⟨δ, s, _, S, t, fun v H1 d s1 st1 rep1 dv q => ?_⟩
  obtain ⟨ed, q⟩ := q
  subst ed
  cases dv
  obtain ⟨gs, hx, nx, hp⟩ := kx.at_
  have st := S.stp.trans st1
  obtain ⟨h1, e1⟩ := st dx _ hx (.inl nx)
  split at q
  · rename_i d el
    obtain ⟨v2, h2, dv2⟩ := (lookP fl (hp.step st kx.rep)).2 d el
    exact ⟨rfl, rfl, dx, gs, v2, rfl, h1, h2, k v2 H1 d s1 st1 rep1 dv2 q⟩
  · exact q.elim
end
end DL

set_option Elab.async false
set_option linter.all false
set_option maxRecDepth 100000
set_option maxHeartbeats 4000000
namespace DL
open PySem PySem.Spec PyProof.Rows L2
/-- an if whose test changes the store: what is known behind it, told ahead -/
theorem ifS_m {c : TTd} {a b : TSd} {D : EndsD} {δ : Ed} {s : Sto} (M : Bool → Sto → Prop) (hc : ∀ Q : Bool → Sto → Prop, (∀ b s', M b s' → Q b s') → c δ s Q) (ht : ∀ s', M true s' → a D δ s') (hf : ∀ s', M false s' → b D δ s') : dIfS c a b D δ s :=
  hc _ fun b s' m => by
    cases b with
    | true => exact ht s' m
    | false => exact hf s' m
theorem isTf_non_bl : isT .non .bl = false := by decide
theorem isTf_non_int : isT .non .int = false := by decide
theorem isTf_non_str : isT .non .str = false := by decide
theorem isTf_non_tup : isT .non .tup = false := by decide
theorem isTf_non_lst : isT .non .lst = false := by decide
theorem isTf_non_dct : isT .non .dct = false := by decide
theorem isTf_bl_non : isT .bl .non = false := by decide
theorem isTf_bl_str : isT .bl .str = false := by decide
theorem isTf_bl_tup : isT .bl .tup = false := by decide
theorem isTf_bl_lst : isT .bl .lst = false := by decide
theorem isTf_bl_dct : isT .bl .dct = false := by decide
theorem isTf_int_non : isT .int .non = false := by decide
theorem isTf_int_bl : isT .int .bl = false := by decide
theorem isTf_int_str : isT .int .str = false := by decide
theorem isTf_int_tup : isT .int .tup = false := by decide
theorem isTf_int_lst : isT .int .lst = false := by decide
theorem isTf_int_dct : isT .int .dct = false := by decide
theorem isTf_str_non : isT .str .non = false := by decide
theorem isTf_str_bl : isT .str .bl = false := by decide
theorem isTf_str_int : isT .str .int = false := by decide
theorem isTf_str_tup : isT .str .tup = false := by decide
theorem isTf_str_lst : isT .str .lst = false := by decide
theorem isTf_str_dct : isT .str .dct = false := by decide
theorem isTf_tup_non : isT .tup .non = false := by decide
theorem isTf_tup_bl : isT .tup .bl = false := by decide
theorem isTf_tup_int : isT .tup .int = false := by decide
theorem isTf_tup_str : isT .tup .str = false := by decide
theorem isTf_tup_lst : isT .tup .lst = false := by decide
theorem isTf_tup_dct : isT .tup .dct = false := by decide
theorem isTf_lst_non : isT .lst .non = false := by decide
theorem isTf_lst_bl : isT .lst .bl = false := by decide
theorem isTf_lst_int : isT .lst .int = false := by decide
theorem isTf_lst_str : isT .lst .str = false := by decide
theorem isTf_lst_tup : isT .lst .tup = false := by decide
theorem isTf_lst_dct : isT .lst .dct = false := by decide
theorem isTf_dct_non : isT .dct .non = false := by decide
theorem isTf_dct_bl : isT .dct .bl = false := by decide
theorem isTf_dct_int : isT .dct .int = false := by decide
theorem isTf_dct_str : isT .dct .str = false := by decide
theorem isTf_dct_tup : isT .dct .tup = false := by decide
theorem isTf_dct_lst : isT .dct .lst = false := by decide
end DL

set_option Elab.async false
set_option linter.all false
set_option maxRecDepth 100000
set_option maxHeartbeats 4000000
namespace Law
open PySem PySem.Spec PyProof.Rows L2 DL
def top (i : Nat) : Stmt := PySem.Challenge.pw_eventledger_k03_whole_writings_begin_and.main.body.getD i (.Pass ⟨0, 0, 0, 0⟩)
abbrev s_NoValue___init__ : Stmt := inClass (top 1) 0
abbrev n_NoValue___init__ : List Str := ["self", "at"]
theorem sc_NoValue___init__ : FnScope n_NoValue___init__ ["self", "at"] (defScope s_NoValue___init__) := ⟨rfl, rfl, rfl, by decide +kernel, rfl, by decide +kernel, by decide +kernel⟩
abbrev s_quoted : Stmt := top 7
abbrev n_quoted : List Str := ["text"]
theorem sc_quoted : FnScope n_quoted ["text"] (defScope s_quoted) := ⟨rfl, rfl, rfl, by decide +kernel, rfl, by decide +kernel, by decide +kernel⟩
abbrev s_shown : Stmt := top 8
abbrev n_shown : List Str := ["value", "part"]
theorem sc_shown : FnScope n_shown ["value"] (defScope s_shown) := ⟨rfl, rfl, rfl, by decide +kernel, rfl, by decide +kernel, by decide +kernel⟩
abbrev s_is_text_sign : Stmt := top 9
abbrev n_is_text_sign : List Str := ["sign"]
theorem sc_is_text_sign : FnScope n_is_text_sign ["sign"] (defScope s_is_text_sign) := ⟨rfl, rfl, rfl, by decide +kernel, rfl, by decide +kernel, by decide +kernel⟩
abbrev s_Reader___init__ : Stmt := inClass (top 10) 0
abbrev n_Reader___init__ : List Str := ["self", "text"]
theorem sc_Reader___init__ : FnScope n_Reader___init__ ["self", "text"] (defScope s_Reader___init__) := ⟨rfl, rfl, rfl, by decide +kernel, rfl, by decide +kernel, by decide +kernel⟩
abbrev s_Reader_sign : Stmt := inClass (top 10) 1
abbrev n_Reader_sign : List Str := ["self"]
theorem sc_Reader_sign : FnScope n_Reader_sign ["self"] (defScope s_Reader_sign) := ⟨rfl, rfl, rfl, by decide +kernel, rfl, by decide +kernel, by decide +kernel⟩
abbrev s_Reader_refuse : Stmt := inClass (top 10) 2
abbrev n_Reader_refuse : List Str := ["self"]
theorem sc_Reader_refuse : FnScope n_Reader_refuse ["self"] (defScope s_Reader_refuse) := ⟨rfl, rfl, rfl, by decide +kernel, rfl, by decide +kernel, by decide +kernel⟩
abbrev s_Reader_figures : Stmt := inClass (top 10) 3
abbrev n_Reader_figures : List Str := ["self", "begin"]
theorem sc_Reader_figures : FnScope n_Reader_figures ["self"] (defScope s_Reader_figures) := ⟨rfl, rfl, rfl, by decide +kernel, rfl, by decide +kernel, by decide +kernel⟩
abbrev s_Reader_number : Stmt := inClass (top 10) 4
abbrev n_Reader_number : List Str := ["self"]
theorem sc_Reader_number : FnScope n_Reader_number ["self"] (defScope s_Reader_number) := ⟨rfl, rfl, rfl, by decide +kernel, rfl, by decide +kernel, by decide +kernel⟩
abbrev s_Reader_quoted_text : Stmt := inClass (top 10) 5
abbrev n_Reader_quoted_text : List Str := ["self", "parts"]
theorem sc_Reader_quoted_text : FnScope n_Reader_quoted_text ["self"] (defScope s_Reader_quoted_text) := ⟨rfl, rfl, rfl, by decide +kernel, rfl, by decide +kernel, by decide +kernel⟩
abbrev s_Reader_single : Stmt := inClass (top 10) 6
abbrev n_Reader_single : List Str := ["self", "sign", "behind"]
theorem sc_Reader_single : FnScope n_Reader_single ["self"] (defScope s_Reader_single) := ⟨rfl, rfl, rfl, by decide +kernel, rfl, by decide +kernel, by decide +kernel⟩
abbrev s_Reader_closed : Stmt := inClass (top 10) 7
abbrev n_Reader_closed : List Str := ["self", "opened", "value"]
theorem sc_Reader_closed : FnScope n_Reader_closed ["self", "opened", "value"] (defScope s_Reader_closed) := ⟨rfl, rfl, rfl, by decide +kernel, rfl, by decide +kernel, by decide +kernel⟩
abbrev s_Reader_whole : Stmt := inClass (top 10) 8
abbrev n_Reader_whole : List Str := ["self", "opened", "value"]
theorem sc_Reader_whole : FnScope n_Reader_whole ["self"] (defScope s_Reader_whole) := ⟨rfl, rfl, rfl, by decide +kernel, rfl, by decide +kernel, by decide +kernel⟩
abbrev s_Reader_value_alone : Stmt := inClass (top 10) 9
abbrev n_Reader_value_alone : List Str := ["self"]
theorem sc_Reader_value_alone : FnScope n_Reader_value_alone ["self"] (defScope s_Reader_value_alone) := ⟨rfl, rfl, rfl, by decide +kernel, rfl, by decide +kernel, by decide +kernel⟩
abbrev s_read : Stmt := top 11
abbrev n_read : List Str := ["text", "reader", "value"]
theorem sc_read : FnScope n_read ["text"] (defScope s_read) := ⟨rfl, rfl, rfl, by decide +kernel, rfl, by decide +kernel, by decide +kernel⟩
abbrev s__law_dealt : Stmt := top 13
abbrev n__law_dealt : List Str := ["script"]
theorem sc__law_dealt : FnScope n__law_dealt ["script"] (defScope s__law_dealt) := ⟨rfl, rfl, rfl, by decide +kernel, rfl, by decide +kernel, by decide +kernel⟩
abbrev s__law_pick : Stmt := top 14
abbrev n__law_pick : List Str := ["hand", "many", "digit", "turn", "cell", "mixed"]
theorem sc__law_pick : FnScope n__law_pick ["hand", "many"] (defScope s__law_pick) := ⟨rfl, rfl, rfl, by decide +kernel, rfl, by decide +kernel, by decide +kernel⟩
abbrev s__law_alphabet : Stmt := top 15
abbrev n__law_alphabet : List Str := ["some"]
theorem sc__law_alphabet : FnScope n__law_alphabet [] (defScope s__law_alphabet) := ⟨rfl, rfl, rfl, by decide +kernel, rfl, by decide +kernel, by decide +kernel⟩
abbrev s__law_long_number : Stmt := top 16
abbrev n__law_long_number : List Str := ["hand", "total", "k"]
theorem sc__law_long_number : FnScope n__law_long_number ["hand"] (defScope s__law_long_number) := ⟨rfl, rfl, rfl, by decide +kernel, rfl, by decide +kernel, by decide +kernel⟩
abbrev s__law_any_text : Stmt := top 17
abbrev n__law_any_text : List Str := ["hand", "most", "signs", "found", "k", "sign"]
theorem sc__law_any_text : FnScope n__law_any_text ["hand", "most"] (defScope s__law_any_text) := ⟨rfl, rfl, rfl, by decide +kernel, rfl, by decide +kernel, by decide +kernel⟩
abbrev s__law_any_value : Stmt := top 18
abbrev n__law_any_value : List Str := ["hand", "deep", "way", "k"]
theorem sc__law_any_value : FnScope n__law_any_value ["hand", "deep"] (defScope s__law_any_value) := ⟨rfl, rfl, rfl, by decide +kernel, rfl, by decide +kernel, by decide +kernel⟩
abbrev s__law_spoilt : Stmt := top 19
abbrev n__law_spoilt : List Str := ["hand", "written", "signs", "at", "way", "sign"]
theorem sc__law_spoilt : FnScope n__law_spoilt ["hand", "written"] (defScope s__law_spoilt) := ⟨rfl, rfl, rfl, by decide +kernel, rfl, by decide +kernel, by decide +kernel⟩
abbrev s__law_near : Stmt := top 20
abbrev n__law_near : List Str := ["hand", "value", "at", "way"]
theorem sc__law_near : FnScope n__law_near ["hand", "value"] (defScope s__law_near) := ⟨rfl, rfl, rfl, by decide +kernel, rfl, by decide +kernel, by decide +kernel⟩
abbrev s__law_told : Stmt := top 21
abbrev n__law_told : List Str := ["written", "kept", "found", "e"]
theorem sc__law_told : FnScope n__law_told ["written"] (defScope s__law_told) := ⟨rfl, rfl, rfl, by decide +kernel, rfl, by decide +kernel, by decide +kernel⟩
abbrev s__law_beginnings_right : Stmt := top 22
abbrev n__law_beginnings_right : List Str := ["written", "many", "told"]
theorem sc__law_beginnings_right : FnScope n__law_beginnings_right ["written"] (defScope s__law_beginnings_right) := ⟨rfl, rfl, rfl, by decide +kernel, rfl, by decide +kernel, by decide +kernel⟩
abbrev s_law : Stmt := top 23
abbrev n_law : List Str := ["script", "hand", "turn", "some", "thing", "one", "other", "spoilt", "told", "k", "behind"]
theorem sc_law : FnScope n_law ["script"] (defScope s_law) := ⟨rfl, rfl, rfl, by decide +kernel, rfl, by decide +kernel, by decide +kernel⟩
/-- how many tokens the top has given out, at least -/
def nTk : Nat := 300
structure Txt (K : PySem.W.Frag) (mg : Str → Option Value) : Prop where
  d_quoted : DefAt K mg "quoted" s_quoted ["text"]
  d_shown : DefAt K mg "shown" s_shown ["value"]
  d__law_dealt : DefAt K mg "_law_dealt" s__law_dealt ["script"]
  d__law_pick : DefAt K mg "_law_pick" s__law_pick ["hand", "many"]
  d__law_alphabet : DefAt K mg "_law_alphabet" s__law_alphabet []
  d__law_long_number : DefAt K mg "_law_long_number" s__law_long_number ["hand"]
  d__law_any_text : DefAt K mg "_law_any_text" s__law_any_text ["hand", "most"]
  d__law_any_value : DefAt K mg "_law_any_value" s__law_any_value ["hand", "deep"]
  d__law_spoilt : DefAt K mg "_law_spoilt" s__law_spoilt ["hand", "written"]
  d__law_near : DefAt K mg "_law_near" s__law_near ["hand", "value"]
  d__law_told : DefAt K mg "_law_told" s__law_told ["written"]
  d__law_beginnings_right : DefAt K mg "_law_beginnings_right" s__law_beginnings_right ["written"]
  d_law : DefAt K mg "law" s_law ["script"]
  t_QUOTE : TxTk nTk mg "QUOTE" "\""
  b_len : mg "len" = none
  b_abs : mg "abs" = none
  b_range : mg "range" = none
  b_list : mg "list" = none
  b_tuple : mg "tuple" = none
  b_str : mg "str" = none
  b_int : mg "int" = none
  b_bool : mg "bool" = none
  b_isinstance : mg "isinstance" = none
  b_repr : mg "repr" = none
  g_QUOTE : ∃ t, mg "QUOTE" = some (.str "\"" t)
local macro_rules | `(tactic| walk_at "dl") => `(tactic| (try simp only [kOp1_e, kOp2_e, kTest_q1, kChain1_e, kChain2_e, kChain3_q1, kChain3_q2, dChain_e, kAnd_q1, kAnd_q2, kOr_q1, kOr_q2, kNot_e, kIf_q1, kIf_q2, kTru_k, kTruO_q1, kTruO_q2, kCons1_e, kCons2_e, kTup_e, kLst_e, kLstM_e, kFrz_e, kDrop_q1, kRetS_e, kIfS_e, kAsg_e, kGCons_e, kPart_q1, kSl1_e, kSl2_e, kSl3_e, kSub1_e, kSub2_e, kCB_e, kBM1_e, kBM2_e, kIt_q, kItO_q, kRng1_q1, kRng2_q1, kWhile_e, kLc1_e, kLc2_e, kLc2', kLc3_e, finF_e, finM_e, kAndE_q1, kAndE_q2, kOrE_q1, kOrE_q2, kNotE_q1, kNeg_q1, kCall_e, kCallK_e, kCallK2_e, dCallK_e, kMeth, kMeth2_e, kMade_e, kMake_e, kMakeK_e, kMakeK2_e, dMakeK_e, kFld, kSetFld_e, kSetFld2, kAugFld, kAugN1_e, kAugN2_e, kPair1_q1, kPair2_q1, kPair3_e, kDisp, dSeq_e, dAsg_e, dVar_k, kVar_q1, kVar_q2, dC_e, dOp_e, gNameD_e, gNilD_e, gConsD_q1, gConsD_q2, gTupD_q1, gifT_q, gifF_q, dTest_e, dTru_e, truD_q1, truD_q2, truD_q3, truD_q5, truD_q6, truD_q7, truD, truD_qs, dAnd_e, dOr_e, dNot_e, dAndE_e, dOrE_e, dNotE_e, dNeg_e, dIf_e, dRet_e, dRetN_e, dRetS_e, dNext_e, dDrop_e, dBreak_e, dCont_e, dCB_e, dCons_e, dNil_e, dIx_str, dIx_lst_q, dIx_tup_q, dIx_scr_q, kChr_q1, kChr_q2, dIx_re, kIxR_q1, kIxR_q2, kIxK_q, ixD_q1, ixD_q2, dSl_e, dSlR_str_q, dSlR_tup_q, dSlR_lst_q, dSlR_scr, dSlR_q1, dSlR_q2, dSlM, dPart_e, dNoPart_e, dI_q1, dI0_q1, dAdd_int_q, dAdd_str_q, dAdd_tup_q, dAdd_lst_q, dAdd_q1, dAdd_q2, dAdd_q3, dMul_int_q, dMul_q1, dMul_q2, dLtB_q1, dLtB_q2, dEq_k, kEqO_q1, kEqO_q2, kEqS_q1, dNe_k, dIs_q1, dIs_q2, isNonD_q1, isNonD, dIn_tup_q, dIn_lst_q, dIn_str_q, dIn_q1, scalEq_q1, scalEq_q2, scalEq_q3, scalEq_q4, scalEq_q5, scalEq_q6, scalEq_q7, scalEq_q8, scalEq, pdS, pd_q1, pd_q2, pd_q3, pd_q4, pd_q5, pd_q6, pd_q7, pd_q8, pdL_q1, pdL, pdL_ints, pdL_strs, eqv_nil, List.isEmpty_map, refL_lst_q, refL_dK_q, refL_ins_q, lstD_lst_q, lstD_scr_q, lstD_tup_q, lstD_str_q, lstD_int_q, lstD_re, lstW_lst_q, lstW_tup_q, lstW_str_q, lstW_int_q, lstW_re, seqD_tup_q, seqD_lst_q, seqD_scr_q, seqD_str_q, seqD_int_q, seqD_re, dictD, keyD_q1, keyD_q2, keyD, dLen_k, kLenO_q1, kLenO_q2, lenD_q1, lenD_tup, lenD_lst, lenD_scr, lenD_re, lenO_q, dAbs_q1, dMin2_q1, dMax2_q1, dListM, dListF_k, kSeqF_q1, kSeqF_q2, dTupF_k, dOrd_q1, dStr_q1, dLst_e, dLstM_e, dTup_e, gSubD_e, dSetR, dFld_e, dSetFld_e, dAugFld_e, dAugN, dIpAdd_q1, dBM_e, tyD_q1, tyD_q2, tyD_q4, tyD_q5, tyD, dAppend, dPop, dJoin, strsD_map, dMeth_e, dCall_e, dMake_e, dFrz_e, frzR_lst_q, frzR_dK_q, frzR_ins_q, frz_int_q, frz_str_q, frz_bl_q, frz_non_q, frz_tup_q, frz_lst_q, frz_scr_q, frz_re, er_none, atI_zero, atI_one, ixN_zero, ixN_one, dDisp_e, dPairs, keysD_q1, keysD, dLc_e, dLcM_e, dFor_e, wipeD_q1, wipeD_q2, dYes_q1, dIt_e, itemsD_q1, itemsD_q2, itemsD_q3, itemsD_q4, itemsD, dRng1_e, dRng2_e, startD_q1, up_same, up_up, er_up, Option.map_some, List.map_cons, List.map_nil, List.length_map, List.length_cons, List.length_nil, List.replicate_succ, List.replicate_zero, List.cons_append, List.nil_append, List.append_nil, getD_qs, getD_q0, set_qs, set_q0, Nat.reduceSub, Nat.reduceAdd, Nat.zero_add, Nat.sub_zero, Bool.not_true, Bool.not_false, if_true, if_false, Bool.true_eq_false, Bool.false_eq_true, reduceIte, true_and, and_true, beq_self_eq_true, Int.reduceEq, Int.reduceLT, Int.reduceLE, Int.reduceAdd, Int.reduceSub, Int.reduceNeg, Int.reduceMul, decide_true, decide_false, dEnS_q, kEnS1_q, kEnS2_q, gStarN_q, gStarD_q, dFmt_q, kFmt_q1, kFmt_q2, dJst_q, dJs_q1, dJs_q2, kJs_q, dSplitK_q, dFind_q1, dFind_q2, dIntF_q1, dIntF_q2, dMulT_q, dPar2_q1, kPar2_q1, dPar3_q1, kPar3_q1, dIsi_q1, kIsi_q1, tyOfD_q1, tyOfD_q2, tyOfD_q3, tyOfD_q4, tyOfD_q5, tyOfD_q6, tyOfD_q7, tyOfD_q8, tyOfO_q1, tyOfO_q2, tyOfO, isT_q1, isT_q2, isT_q3, isT_q4, isT_q5, isT_q6, isT_q7, isT_q8, tyN_bool, tyN_int, tyN_str, tyN_tuple, tyN_list, dRev_q1, kRev_q1, kRev_q2, kRev_q3, dRepl_q, kRepl_q, dReplAA_q, kReplAA_q, dMulS_q1, dSplit1_q, dJoin_lst, kJoinS_q, dEqE_q, kEqE_q, dIntS_q, dInKD_q, dIxKD_q, kMethX2_q, dMethX_q, kMethX, kRaise_q, dRaise_q, kCallX_q, dCallX_q, dTry_q, kEndsD_nx, isNonD_q1, isNonD, dFldE_q, kFldE, dIsk, *]))
local macro_rules | `(tactic| walk_at "side") => `(tactic| first | omega | exact size_lt (by omega) | exact size_le (by omega) | exact mulS (by omega) (by omega) | exact mulS' (by omega) (by omega) | exact cdiv (by omega) (by omega) | exact shaped_ints _ | exact shaped_nil | assumption)
local macro_rules | `(tactic| walk_at "sides") => `(tactic| repeat ((with_reducible refine And.intro ?_ ?_); next => walk_at "side"))
local macro_rules | `(tactic| walk_at "if") => `(tactic| (refine ifS ?_; walk_at "dl"))
local macro_rules | `(tactic| walk_at "for") => `(tactic| (unfold dFor; walk_at "dl"; walk_at "sides"))
local macro_rules | `(tactic| walk_at "upf") => `(tactic| first | exact up_same | assumption | ((rw [up_ne (by first | assumption | exact Ne.symm (by assumption))]); walk_at "upf") | ((rw [er_ne (by first | assumption | exact Ne.symm (by assumption))]); walk_at "upf"))

variable {P : Program} {w : World} {K : PySem.W.Frag} {mg : Str → Option Value} {base : Heap}
/-! ### the hand -/
def handL (ns : List Int) (a l : Int) : List DV := [.lst (ns.map DV.int), .int a, .int l]
def spDealt : Spd := fun ds s Q _ => ∃ ns : List Int, ds = [.scr (ns.map DV.int)] ∧ ns.length ≤ 63 ∧ Kp (∀ p, s p = none → Q (.ref p) (up s p (.lst (handL ns 0 0))))
theorem ok_dealt (T : Txt K mg) : Fn P w K mg base "_law_dealt" 1 ["script"] spDealt := by
  refine fnOk T.d__law_dealt sc__law_dealt (fun ds s Q E h => ?_) (fun A f cdv Ar outer s H E hr => (ds1 (dsret (dlstM (dac (dcallTy cd_listF T.b_list (by decide +kernel) (dac (dslice sl_d (dpv 0) dpn (dpo dint)) dan)) (dac dint (dac dint dan))))))) (fun ds s Q E h => ?_)
  · obtain ⟨ns, rfl, q⟩ := h
    rfl
  · obtain ⟨ns, rfl, hn, q⟩ := h
    have e63 : cutD (ns.map DV.int) none (some 63) = ns.map DV.int := by
      have h1 : HT.sIx (ns.map DV.int).length 0 none = 0 := rfl
      have h2 : HT.sIx (ns.map DV.int).length (ns.map DV.int).length (some 63) = (ns.map DV.int).length := by
        show min 63 _ = _
        rw [List.length_map]
        exact Nat.min_eq_right hn
      exact cutD_whole h1 h2
    walk_at "dl"
    exact ⟨by decide, fun p hp => q.out p hp⟩
def spPick0 : Spd := fun ds s Q _ => ∃ (p : Addr) (many : Int) (ns : List Int) (a l : Int), ds = [.ref p, .int many] ∧ s p = some (.lst (handL ns a l)) ∧ ns.length ≤ 63 ∧ 0 ≤ a ∧ a ≤ 2 ^ 40 ∧ 1 ≤ many ∧ many ≤ 2 ^ 40 ∧
  Kp (∀ (r a' l' : Int), 0 ≤ r → r < many → a ≤ a' → a' ≤ a + 1 → Q (.int r) (up s p (.lst (handL ns a' l'))))
theorem hand_0 (ns : List Int) (a l : Int) : atI (handL ns a l) 0 = some (.lst (ns.map DV.int)) := by rfl
theorem hand_1 (ns : List Int) (a l : Int) : atI (handL ns a l) 1 = some (.int a) := by rfl
theorem hand_2 (ns : List Int) (a l : Int) : atI (handL ns a l) 2 = some (.int l) := by rfl
theorem hand_i1 (ns : List Int) (a l : Int) : ixN (handL ns a l).length 1 = some 1 := by rfl
theorem hand_i2 (ns : List Int) (a l : Int) : ixN (handL ns a l).length 2 = some 2 := by rfl
theorem hand_s1 (ns : List Int) (a l a' : Int) : (handL ns a l).set 1 (.int a') = handL ns a' l := by rfl
theorem hand_s2 (ns : List Int) (a l l' : Int) : (handL ns a l).set 2 (.int l') = handL ns a l' := by rfl
theorem ok_pick0 (T : Txt K mg) : Fn P w K mg base "_law_pick" 1 ["hand", "many"] spPick0 := by
  refine fnOk T.d__law_pick sc__law_pick (fun ds s Q E h => ?_) (fun A f cdv Ar outer s H E hr => (dsc (dsif (dtcmp od_gt (dix (hu_of hr) (dpv 0) dint) dint (nomark _))
  (dsc (dsset (i := 2) sc__law_pick.nd rfl (Or.inl rfl) (dop od_mod (dix (hu_of hr) (dpv 0) dint) (dpv 1)))
  (dsc (dsasg (dop od_fdiv (dix (hu_of hr) (dpv 0) dint) (dpv 1)) (dgsub (hu_of hr) (dpv 0) dint))
  (ds1 (dsret (dpv 2)))))
  dsn)
  (dsc (dsset (i := 3) sc__law_pick.nd rfl (Or.inl rfl) (dix (hu_of hr) (dpv 0) dint))
  (dsc (dsasg (dop od_add (dpv 3) dint) (dgsub (hu_of hr) (dpv 0) dint))
  (dsc (dsset (i := 4) sc__law_pick.nd rfl (Or.inl rfl) (dop od_add (dop od_mul dint (dpv 3)) dint))
  (dsc (dsif (dtcmp (od_ne hr.units) (dix (hu_of hr) (dpv 0) dint) (dlst dan) (nomark _))
  (ds1 (dsset (i := 4) sc__law_pick.nd rfl (Or.inl rfl) (dix (hu_of hr) (dix (hu_of hr) (dpv 0) dint) (dop od_mod (dpv 3) (dcallB cd_len T.b_len PySem.boot_len (dac (dix (hu_of hr) (dpv 0) dint) dan))))))
  dsn)
  (dsc (dsif ((dpand (dtcmp od_lt (dpv 3) (dcallB cd_len T.b_len PySem.boot_len (dac (dix (hu_of hr) (dpv 0) dint) dan)) (nomark _)) (dpand1 (dtcmp od_ge (dcallB cd_abs T.b_abs (by decide +kernel) (dac (dpv 4) dan)) (dop od_pow dint dint) (nomark _))))).pt
  (dsc (dsasg (dop od_fdiv (dcallB cd_abs T.b_abs (by decide +kernel) (dac (dpv 4) dan)) (dpv 1)) (dgsub (hu_of hr) (dpv 0) dint))
  (ds1 (dsret (dop od_mod (dcallB cd_abs T.b_abs (by decide +kernel) (dac (dpv 4) dan)) (dpv 1)))))
  dsn)
  (dsc (dsset (i := 5) sc__law_pick.nd rfl (Or.inl rfl) (dop od_mod (dop od_mul (dop od_add (dop od_add (dop od_mod (dpv 4) dint) (dop od_mul dint (dpv 3))) dint) dint) dint))
  (dsc (dsset (i := 5) sc__law_pick.nd rfl (Or.inl rfl) (dop od_mod (dop od_add (dop od_add (dop od_mul (dpv 5) (dpv 5)) (dop od_mul dint (dpv 3))) dint) dint))
  (ds1 (dsret (dop od_mod (dop od_fdiv (dop od_mod (dop od_mul (dpv 5) (dop od_add (dop od_mod (dpv 5) dint) dint)) dint) dint) (dpv 1))))))))))))) (fun ds s Q E h => ?_)
  · obtain ⟨p, many, ns, a, l, rfl, h1, q⟩ := h
    rfl
  · obtain ⟨p, many, ns, a, l, rfl, h1, hn, ha0, ha, hm1, hm2, q⟩ := h
    have g0 := hand_0
    have g1 := hand_1
    have g2 := hand_2
    have i1 := hand_i1
    have i2 := hand_i2
    have s1 := hand_s1
    have s2 := hand_s2
    walk_at "dl"
    refine ifS ?_
    walk_at "dl"
    refine dGif_of (fun hl => ?_) (fun hl => ?_)
    · walk_at "dl"
      walk_at "sides"
      exact q.out _ a _ (Int.emod_nonneg _ (by omega)) (Int.emod_lt_of_pos _ (by omega)) (by omega) (by omega)
    · walk_at "dl"
      walk_at "sides"
      refine ifJ (fun δ s' => ∃ cell : Int, δ = [some (.ref p), some (.int many), none, some (.int a), some (.int cell), none] ∧ s' = up s p (.lst (handL ns (a + 1) l))) (fun R hR => ?_) (fun δ s' ⟨cell, e1, e2⟩ => ?_)
      · walk_at "dl"
        walk_at "sides"
        refine dGif_of (fun h => ?_) (fun h => ?_)
        · have hne : 0 < ns.length := by
            cases ns with
            | nil => simp at h
            | cons x xs => simp
          walk_at "dl"
          walk_at "sides"
          obtain ⟨c, e1, e2⟩ := atI_pos (xs := ns.map DV.int) (i := a % (ns.length : Int)) (Int.emod_nonneg _ (by omega)) (by rw [List.length_map]; exact Int.emod_lt_of_pos _ (by omega))
          obtain ⟨z, rfl⟩ := int_of_get e2
          rw [e1]
          exact hR _ _ ⟨_, rfl, rfl⟩
        · walk_at "dl"
          exact hR _ _ ⟨_, rfl, rfl⟩
      · subst e1 e2
        walk_at "dl"
        refine ifJ (fun δ s' => δ = [some (.ref p), some (.int many), none, some (.int a), some (.int cell), none] ∧ s' = up s p (.lst (handL ns (a + 1) l))) (fun R hR => ?_) (fun δ s' ⟨e1, e2⟩ => ?_)
        · walk_at "dl"
          cases hc : ltI a (ns.length : Int) with
          | false => walk_at "dl"; all_goals exact hR _ _ ⟨rfl, rfl⟩
          | true =>
            walk_at "dl"
            refine ⟨by unfold CPowD; decide, ?_⟩
            refine dGif_of (fun h => ?_) (fun h => ?_)
            · walk_at "dl"
              walk_at "sides"
              exact q.out _ _ _ (Int.emod_nonneg _ (by omega)) (Int.emod_lt_of_pos _ (by omega)) (by omega) (by omega)
            · exact hR _ _ ⟨rfl, rfl⟩
        · subst e1 e2
          walk_at "dl"
          walk_at "sides"
          exact q.out _ _ _ (Int.emod_nonneg _ (by omega)) (Int.emod_lt_of_pos _ (by omega)) (by omega) (by omega)

/-! ### the pen, told by how far it is -/
structure Pen (s : Sto) (p : Addr) (n : Nat) : Prop where
  ex : ∃ (ns : List Int) (a l : Int), s p = some (.lst (handL ns a l)) ∧ ns.length ≤ 63 ∧ 0 ≤ a ∧ a ≤ n
structure Nxt (s s' : Sto) (p : Addr) (n : Nat) : Prop where
  pen : Pen s' p n
  ext : ∀ a, a ≠ p → s a ≠ none → s' a = s a
theorem Pen.ne {s : Sto} {p : Addr} {n : Nat} (h : Pen s p n) : s p ≠ none := by
  obtain ⟨ns, a, l, e, _⟩ := h.ex
  rw [e]; exact fun z => nomatch z
theorem Pen.le {s : Sto} {p : Addr} {n m : Nat} (h : Pen s p n) (hm : n ≤ m) : Pen s p m := by
  obtain ⟨ns, a, l, e, h1, h2, h3⟩ := h.ex
  exact ⟨ns, a, l, e, h1, h2, by omega⟩
theorem Pen.neD {s : Sto} {p D : Addr} {n : Nat} (h : Pen s p n) (hD : s D = none) : p ≠ D := fun z => h.ne (z ▸ hD)
theorem Pen.put {s : Sto} {p D : Addr} {n : Nat} {m : MO} (h : Pen s p n) (hD : s D = none) : Pen (up s D m) p n := by
  obtain ⟨ns, a, l, e, r⟩ := h.ex
  exact ⟨ns, a, l, (up_ne (h.neD hD)).trans e, r⟩
theorem Nxt.refl {s : Sto} {p : Addr} {n : Nat} (h : Pen s p n) : Nxt s s p n := ⟨h, fun _ _ _ => rfl⟩
theorem Nxt.le {s s' : Sto} {p : Addr} {n m : Nat} (h : Nxt s s' p n) (hm : n ≤ m) : Nxt s s' p m := ⟨h.pen.le hm, h.ext⟩
theorem Nxt.trans {s s1 s2 : Sto} {p : Addr} {n m : Nat} (h : Nxt s s1 p n) (h2 : Nxt s1 s2 p m) : Nxt s s2 p m := ⟨h2.pen, fun a ha hs => by
  have e := h.ext a ha hs
  rw [h2.ext a ha (by rw [e]; exact hs), e]⟩
theorem Nxt.new {s : Sto} {p D : Addr} {n : Nat} {m : MO} (h : Pen s p n) (hD : s D = none) : Nxt s (up s D m) p n := ⟨h.put hD, fun a _ hs => up_ne fun z => hs (z ▸ hD)⟩
theorem Nxt.er {s s' : Sto} {p D : Addr} {n k : Nat} (h0 : Pen s p k) (hD : s D = none) (h : Nxt (up s D .hid) s' p n) : Nxt s (er s' D) p n := by
  have ne := h0.neD hD
  refine ⟨?_, fun a ha hs => ?_⟩
  · obtain ⟨ns, a, l, e, r⟩ := h.pen.ex
    exact ⟨ns, a, l, (er_ne ne).trans e, r⟩
  · have nD : a ≠ D := fun z => hs (z ▸ hD)
    rw [er_ne nD, h.ext a ha (by rw [up_ne nD]; exact hs), up_ne nD]
theorem Nxt.hidD {s s' : Sto} {p D : Addr} {n k : Nat} (h0 : Pen s p k) (hD : s D = none) (h : Nxt (up s D .hid) s' p n) : s' D = some .hid := by
  rw [h.ext D (h0.neD hD).symm (by rw [up_same]; exact fun z => nomatch z), up_same]
def spPck : Spd := fun ds s Q _ => ∃ (p : Addr) (many : Int) (n : Nat), ds = [.ref p, .int many] ∧ Pen s p n ∧ n ≤ 10 ^ 9 ∧ 1 ≤ many ∧ many ≤ 10 ^ 12 ∧ Kp (∀ (r : Int) s', 0 ≤ r → r < many → Nxt s s' p (n + 1) → Q (.int r) s')
theorem ok_pick (T : Txt K mg) : Fn P w K mg base "_law_pick" 1 ["hand", "many"] spPck := (ok_pick0 T).weak fun ds s Q E h => by
  obtain ⟨p, many, n, e, hp, hn, h1, h2, q⟩ := h
  obtain ⟨ns, a, l, hs, hl, h0, ha⟩ := hp.ex
  exact ⟨p, many, ns, a, l, e, hs, hl, h0, by omega, h1, by omega, ⟨fun r a' l' r0 r1 a1 a2 => q.out r _ r0 r1 ⟨⟨ns, a', l', up_same, hl, by omega, by omega⟩, fun b hb _ => up_ne hb⟩⟩⟩
def OfS (A : List Nat) (z : Str) : Prop := ∀ c ∈ tl z, c ∈ A
theorem OfS.join {A : List Nat} {ys : List Str} (h : ∀ y ∈ ys, OfS A y) : OfS A (Txt.join (Str.ofString "") ys) := fun c hc => by
  rw [tl_join0] at hc
  obtain ⟨l, hl, hc⟩ := List.mem_flatten.mp hc
  obtain ⟨y, hy, rfl⟩ := List.mem_map.mp hl
  exact h y hy c hc
/-- a text that is drawn sign by sign -/
structure TxtW (A : List Nat) (s : Sto) (p : Addr) (n : Nat) (D : Addr) (i : Nat) (acc : List DV) (s' : Sto) : Prop where
  ex : ∃ zs : List Str, acc = zs.map DV.str ∧ zs.length = i ∧ ∀ z ∈ zs, z.length = 1 ∧ OfS A z
  nx : Nxt (up s D .hid) s' p (n + i)
theorem TxtW.zero {A : List Nat} {s : Sto} {p D : Addr} {n : Nat} (hp : Pen s p n) (hD : s D = none) : TxtW A s p n D 0 [] (up s D .hid) := ⟨⟨[], rfl, rfl, fun z hz => nomatch hz⟩, .refl (hp.put hD)⟩
theorem TxtW.len {A : List Nat} {s s' : Sto} {p D : Addr} {n i : Nat} {acc : List DV} (h : TxtW A s p n D i acc s') : acc.length = i := by
  obtain ⟨zs, rfl, hl, _⟩ := h.ex
  rw [List.length_map, hl]
theorem TxtW.succ {A : List Nat} {s s' s2 : Sto} {p D : Addr} {n i c : Nat} {acc : List DV} (h : TxtW A s p n D i acc s') (hc : c ∈ A) (N : Nxt s' s2 p (n + i + 1)) : TxtW A s p n D (i + 1) (acc ++ [.str ⟨#[c]⟩]) s2 := by
  obtain ⟨zs, rfl, hl, hz⟩ := h.ex
  refine ⟨⟨zs ++ [⟨#[c]⟩], map_snoc DV.str zs _, by simp [hl], fun z h => ?_⟩, h.nx.trans N⟩
  rcases List.mem_append.mp h with h | h
  · exact hz z h
  · rw [List.mem_singleton.mp h]
    exact ⟨rfl, fun d hd => by rw [List.mem_singleton.mp (show d ∈ [c] from hd)]; exact hc⟩
theorem TxtW.fin {A : List Nat} {s s' : Sto} {p D : Addr} {n i k : Nat} {acc : List DV} (h : TxtW A s p n D i acc s') (hp : Pen s p k) (hD : s D = none) :
    ∃ zs : List Str, acc = zs.map DV.str ∧ zs.length = i ∧ (zs.map (·.length)).sum = i ∧ (Txt.join (Str.ofString "") zs).length = i ∧ OfS A (Txt.join (Str.ofString "") zs) ∧ Nxt s (er s' D) p (n + i) := by
  obtain ⟨zs, e, hl, hz⟩ := h.ex
  have hs : (zs.map (·.length)).sum = i := by
    have e2 : zs.map (·.length) = List.replicate zs.length 1 := by
      rw [List.eq_replicate_iff]
      refine ⟨List.length_map .., fun b hb => ?_⟩
      obtain ⟨z, h, rfl⟩ := List.mem_map.mp hb
      exact (hz z h).1
    rw [e2, List.sum_replicate_nat, Nat.mul_one, hl]
  exact ⟨zs, e, hl, hs, by rw [len_join0]; exact hs, OfS.join fun z h => (hz z h).2, Nxt.er hp hD h.nx⟩

end Law

set_option Elab.async false
set_option linter.all false
set_option maxRecDepth 100000
set_option maxHeartbeats 4000000
namespace Law
open PySem PySem.Spec PyProof.Rows L2 DL
local macro_rules | `(tactic| walk_at "dl") => `(tactic| (try simp only [kOp1_e, kOp2_e, kTest_q1, kChain1_e, kChain2_e, kChain3_q1, kChain3_q2, dChain_e, kAnd_q1, kAnd_q2, kOr_q1, kOr_q2, kNot_e, kIf_q1, kIf_q2, kTru_k, kTruO_q1, kTruO_q2, kCons1_e, kCons2_e, kTup_e, kLst_e, kLstM_e, kFrz_e, kDrop_q1, kRetS_e, kIfS_e, kAsg_e, kGCons_e, kPart_q1, kSl1_e, kSl2_e, kSl3_e, kSub1_e, kSub2_e, kCB_e, kBM1_e, kBM2_e, kIt_q, kItO_q, kRng1_q1, kRng2_q1, kWhile_e, kLc1_e, kLc2_e, kLc2', kLc3_e, finF_e, finM_e, kAndE_q1, kAndE_q2, kOrE_q1, kOrE_q2, kNotE_q1, kNeg_q1, kCall_e, kCallK_e, kCallK2_e, dCallK_e, kMeth, kMeth2_e, kMade_e, kMake_e, kMakeK_e, kMakeK2_e, dMakeK_e, kFld, kSetFld_e, kSetFld2, kAugFld, kAugN1_e, kAugN2_e, kPair1_q1, kPair2_q1, kPair3_e, kDisp, dSeq_e, dAsg_e, dVar_k, kVar_q1, kVar_q2, dC_e, dOp_e, gNameD_e, gNilD_e, gConsD_q1, gConsD_q2, gTupD_q1, gifT_q, gifF_q, dTest_e, dTru_e, truD_q1, truD_q2, truD_q3, truD_q5, truD_q6, truD_q7, truD, truD_qs, dAnd_e, dOr_e, dNot_e, dAndE_e, dOrE_e, dNotE_e, dNeg_e, dIf_e, dRet_e, dRetN_e, dRetS_e, dNext_e, dDrop_e, dBreak_e, dCont_e, dCB_e, dCons_e, dNil_e, dIx_str, dIx_lst_q, dIx_tup_q, dIx_scr_q, kChr_q1, kChr_q2, dIx_re, kIxR_q1, kIxR_q2, kIxK_q, ixD_q1, ixD_q2, dSl_e, dSlR_str_q, dSlR_tup_q, dSlR_lst_q, dSlR_scr, dSlR_q1, dSlR_q2, dSlM, dPart_e, dNoPart_e, dI_q1, dI0_q1, dAdd_int_q, dAdd_str_q, dAdd_tup_q, dAdd_lst_q, dAdd_q1, dAdd_q2, dAdd_q3, dMul_int_q, dMul_q1, dMul_q2, dLtB_q1, dLtB_q2, dEq_k, kEqO_q1, kEqO_q2, kEqS_q1, dNe_k, dIs_q1, dIs_q2, isNonD_q1, isNonD, dIn_tup_q, dIn_lst_q, dIn_str_q, dIn_q1, scalEq_q1, scalEq_q2, scalEq_q3, scalEq_q4, scalEq_q5, scalEq_q6, scalEq_q7, scalEq_q8, scalEq, pdS, pd_q1, pd_q2, pd_q3, pd_q4, pd_q5, pd_q6, pd_q7, pd_q8, pdL_q1, pdL, pdL_ints, pdL_strs, eqv_nil, List.isEmpty_map, refL_lst_q, refL_dK_q, refL_ins_q, lstD_lst_q, lstD_scr_q, lstD_tup_q, lstD_str_q, lstD_int_q, lstD_re, lstW_lst_q, lstW_tup_q, lstW_str_q, lstW_int_q, lstW_re, seqD_tup_q, seqD_lst_q, seqD_scr_q, seqD_str_q, seqD_int_q, seqD_re, dictD, keyD_q1, keyD_q2, keyD, dLen_k, kLenO_q1, kLenO_q2, lenD_q1, lenD_tup, lenD_lst, lenD_scr, lenD_re, lenO_q, dAbs_q1, dMin2_q1, dMax2_q1, dListM, dListF_k, kSeqF_q1, kSeqF_q2, dTupF_k, dOrd_q1, dStr_q1, dLst_e, dLstM_e, dTup_e, gSubD_e, dSetR, dFld_e, dSetFld_e, dAugFld_e, dAugN, dIpAdd_q1, dBM_e, tyD_q1, tyD_q2, tyD_q4, tyD_q5, tyD, dAppend, dPop, dJoin, strsD_map, dMeth_e, dCall_e, dMake_e, dFrz_e, frzR_lst_q, frzR_dK_q, frzR_ins_q, frz_int_q, frz_str_q, frz_bl_q, frz_non_q, frz_tup_q, frz_lst_q, frz_scr_q, frz_re, er_none, atI_zero, atI_one, ixN_zero, ixN_one, dDisp_e, dPairs, keysD_q1, keysD, dLc_e, dLcM_e, dFor_e, wipeD_q1, wipeD_q2, dYes_q1, dIt_e, itemsD_q1, itemsD_q2, itemsD_q3, itemsD_q4, itemsD, dRng1_e, dRng2_e, startD_q1, up_same, up_up, er_up, Option.map_some, List.map_cons, List.map_nil, List.length_map, List.length_cons, List.length_nil, List.replicate_succ, List.replicate_zero, List.cons_append, List.nil_append, List.append_nil, getD_qs, getD_q0, set_qs, set_q0, Nat.reduceSub, Nat.reduceAdd, Nat.zero_add, Nat.sub_zero, Bool.not_true, Bool.not_false, if_true, if_false, Bool.true_eq_false, Bool.false_eq_true, reduceIte, true_and, and_true, beq_self_eq_true, Int.reduceEq, Int.reduceLT, Int.reduceLE, Int.reduceAdd, Int.reduceSub, Int.reduceNeg, Int.reduceMul, decide_true, decide_false, dEnS_q, kEnS1_q, kEnS2_q, gStarN_q, gStarD_q, dFmt_q, kFmt_q1, kFmt_q2, dJst_q, dJs_q1, dJs_q2, kJs_q, dSplitK_q, dFind_q1, dFind_q2, dIntF_q1, dIntF_q2, dMulT_q, dPar2_q1, kPar2_q1, dPar3_q1, kPar3_q1, dIsi_q1, kIsi_q1, tyOfD_q1, tyOfD_q2, tyOfD_q3, tyOfD_q4, tyOfD_q5, tyOfD_q6, tyOfD_q7, tyOfD_q8, tyOfO_q1, tyOfO_q2, tyOfO, isT_q1, isT_q2, isT_q3, isT_q4, isT_q5, isT_q6, isT_q7, isT_q8, tyN_bool, tyN_int, tyN_str, tyN_tuple, tyN_list, dRev_q1, kRev_q1, kRev_q2, kRev_q3, dRepl_q, kRepl_q, dReplAA_q, kReplAA_q, dMulS_q1, dSplit1_q, dJoin_lst, kJoinS_q, dEqE_q, kEqE_q, dIntS_q, dInKD_q, dIxKD_q, kMethX2_q, dMethX_q, kMethX, kRaise_q, dRaise_q, kCallX_q, dCallX_q, dTry_q, kEndsD_nx, isNonD_q1, isNonD, dFldE_q, kFldE, dIsk, *]))
local macro_rules | `(tactic| walk_at "side") => `(tactic| first | omega | exact size_lt (by omega) | exact size_le (by omega) | exact mulS (by omega) (by omega) | exact mulS' (by omega) (by omega) | exact cdiv (by omega) (by omega) | exact shaped_ints _ | exact shaped_nil | assumption)
local macro_rules | `(tactic| walk_at "sides") => `(tactic| repeat ((with_reducible refine And.intro ?_ ?_); next => walk_at "side"))
local macro_rules | `(tactic| walk_at "if") => `(tactic| (refine ifS ?_; walk_at "dl"))
local macro_rules | `(tactic| walk_at "for") => `(tactic| (unfold dFor; walk_at "dl"; walk_at "sides"))
local macro_rules | `(tactic| walk_at "upf") => `(tactic| first | exact up_same | assumption | ((rw [up_ne (by first | assumption | exact Ne.symm (by assumption))]); walk_at "upf") | ((rw [er_ne (by first | assumption | exact Ne.symm (by assumption))]); walk_at "upf"))

variable {P : Program} {w : World} {K : PySem.W.Frag} {mg : Str → Option Value} {base : Heap}
abbrev zA : Str := " !\"#$&'()*+,-./0123456789:;<=>?@ABCDEFGHIJKLMNOPQRSTUVWXYZ[\\]^_`abcdefghijklmnopqrstuvwxyz{|}~"
theorem zA_len : zA.length = 94 := by decide +kernel
def spAlpha : Spd := fun ds s Q _ => ds = [] ∧ Kp (Q (.str zA) s)
theorem ok_alpha (T : Txt K mg) : Fn P w K mg base "_law_alphabet" 1 [] spAlpha := by
  refine fnOk T.d__law_alphabet sc__law_alphabet (fun ds s Q E h => ?_) (fun A f cdv Ar outer s H E hr => (dsc (dsset (i := 0) sc__law_alphabet.nd rfl (Or.inl rfl) dstr)
  (ds1 (dsret (dop od_add (dpv 0) dstr))))) (fun ds s Q E h => ?_)
  · obtain ⟨rfl, q⟩ := h
    rfl
  · obtain ⟨rfl, q⟩ := h
    walk_at "dl"
    exact ⟨by decide +kernel, q.out⟩
/-- a number of up to forty figures, below nought, too -/
def spLong : Spd := fun ds s Q _ => ∃ (p : Addr) (n : Nat), ds = [.ref p] ∧ Pen s p n ∧ n ≤ 10 ^ 7 ∧ Kp (∀ (i : Int) s', i.natAbs < 10 ^ 40 → Nxt s s' p (n + 50) → Q (.int i) s')
theorem ok_long (T : Txt K mg) (G__law_pick : Fn P w K mg base "_law_pick" 1 ["hand", "many"] spPck) : Fn P w K mg base "_law_long_number" 2 ["hand"] spLong := by
  refine fnOk T.d__law_long_number sc__law_long_number (fun ds s Q E h => ?_) (fun A f cdv Ar outer s H E hr => (dsc (dsset (i := 1) sc__law_long_number.nd rfl (Or.inl rfl) dint)
  (dsc (dsfor PassesOwn.never rfl (drange1 T.b_range (dac (dix (hu_of hr) (dlst (dac dint (dac (dop od_add dint (dfrz (dF G__law_pick (hr.mono (by omega)) (dac (dpv 0) (dac dint dan))))) (dac (dop od_add dint (dfrz (dF G__law_pick (hr.mono (by omega)) (dac (dpv 0) (dac dint dan))))) (dac dint dan))))) (dfrz (dF G__law_pick (hr.mono (by omega)) (dac (dpv 0) (dac dint dan))))) dan)) (fun _ _ => dgpat (pg_name (i := 2) sc__law_long_number.nd rfl (Or.inl rfl)) (gmName 2) (patN 2)) (fun _ _ => (ds1 (dsset (i := 1) sc__law_long_number.nd rfl (Or.inl rfl) (dop od_add (dop od_mul dint (dpv 1)) (dfrz (dF G__law_pick (hr.mono (by omega)) (dac (dpv 0) (dac dint dan)))))))))
  (ds1 (dsret (dop od_mul (dpv 1) (dix (hu_of hr) (dlst (dac dint (dac (dneg dint) dan))) (dfrz (dF G__law_pick (hr.mono (by omega)) (dac (dpv 0) (dac dint dan))))))))))) (fun ds s Q E h => ?_)
  · obtain ⟨p, n, rfl, q⟩ := h
    rfl
  · obtain ⟨p, n, rfl, hp, hn, q⟩ := h
    walk_at "dl"
    refine ⟨p, 5, n, rfl, hp, by omega, by decide, by decide, ⟨fun r1 s1 a0 a1 N1 => ?_⟩⟩
    walk_at "dl"
    refine ⟨p, 40, _, rfl, N1.pen, by omega, by decide, by decide, ⟨fun r2 s2 b0 b1 N2 => ?_⟩⟩
    walk_at "dl"
    refine ⟨by decide, p, 4, _, rfl, N2.pen, by omega, by decide, by decide, ⟨fun r3 s3 c0 c1 N3 => ?_⟩⟩
    walk_at "dl"
    refine ixD_all (P := fun d => ∃ b : Int, d = .int b ∧ 1 ≤ b ∧ b ≤ 40) (by
      refine List.forall_mem_cons.mpr ⟨⟨_, rfl, by decide, by decide⟩, List.forall_mem_cons.mpr ⟨⟨_, rfl, by omega, by omega⟩, List.forall_mem_cons.mpr ⟨⟨_, rfl, by omega, by omega⟩, List.forall_mem_cons.mpr ⟨⟨_, rfl, by decide, by decide⟩, fun d h => nomatch h⟩⟩⟩⟩) c0 c1 fun d ⟨m, e, m0, m1⟩ => ?_
    subst e
    walk_at "dl"
    walk_at "sides"
    have em : (m.toNat : Int) = m := Int.toNat_of_nonneg (by omega)
    refine for_rng (fun i δ s' => ∃ (t : Nat) (x : Option DV), δ = [some (.ref p), some (.int (t : Int)), x] ∧ t < 10 ^ i ∧ Nxt s s' p (n + 3 + i)) ⟨0, none, rfl, by decide, ((N1.trans N2).trans N3).le (by omega)⟩ (fun i δ s4 hi ⟨t, x, e1, ht, N⟩ => ?_) (fun δ s4 ⟨t, x, e1, ht, N⟩ => ?_)
    · subst e1
      walk_at "dl"
      refine ⟨mulS (by decide) (by decide), p, 10, _, rfl, N.pen, by omega, by decide, by decide, ⟨fun r4 s5 d0 d1 N5 => ?_⟩⟩
      walk_at "dl"
      obtain ⟨u, rfl⟩ := Int.eq_ofNat_of_zero_le d0
      refine ⟨10 * t + u, some (.int (0 + (i : Int))), ?_, ?_, N.trans N5⟩
      · have : 10 * (t : Int) + (u : Int) = ((10 * t + u : Nat) : Int) := by omega
        rw [this]
      · rw [Nat.pow_succ]; omega
    · subst e1
      walk_at "dl"
      refine ⟨by decide, p, 2, _, rfl, N.pen, by omega, by decide, by decide, ⟨fun r5 s5 d0 d1 N5 => ?_⟩⟩
      have ht40 : t < 10 ^ 40 := Nat.lt_of_lt_of_le ht (Nat.pow_le_pow_right (by decide) (by omega))
      walk_at "dl"
      refine ixD_all (P := fun d => d = .int 1 ∨ d = .int (-1)) (by
        refine List.forall_mem_cons.mpr ⟨.inl rfl, List.forall_mem_cons.mpr ⟨.inr rfl, fun d h => nomatch h⟩⟩) d0 d1 fun d hd => ?_
      rcases hd with rfl | rfl
      · walk_at "dl"
        exact ⟨mulS' (by decide) (by decide), q.out _ _ (by omega) ((N.trans N5).le (by omega))⟩
      · walk_at "dl"
        exact ⟨mulS' (by decide) (by decide), q.out _ _ (by omega) ((N.trans N5).le (by omega))⟩
theorem zA_low : ∀ c ∈ DL.tl zA, c < 128 := by decide +kernel
/-- a text of the alphabet -/
def spAny : Spd := fun ds s Q _ => ∃ (p : Addr) (n : Nat), ds = [.ref p, .int 20] ∧ Pen s p n ∧ n ≤ 10 ^ 7 ∧ Kp (∀ (z : Str) s', z.length ≤ 20 → OfS (DL.tl zA) z → Nxt s s' p (n + 50) → Q (.str z) s')
theorem ok_any (T : Txt K mg) (G__law_alphabet : Fn P w K mg base "_law_alphabet" 1 [] spAlpha) (G__law_pick : Fn P w K mg base "_law_pick" 1 ["hand", "many"] spPck) : Fn P w K mg base "_law_any_text" 2 ["hand", "most"] spAny := by
  refine fnOk T.d__law_any_text sc__law_any_text (fun ds s Q E h => ?_) (fun A f cdv Ar outer s H E hr => (dsc (dspar2 (i := 2) (j := 3) rfl sc__law_any_text.nd rfl rfl (by decide) rfl rfl (dac (dfrz (dF0 G__law_alphabet (hr.mono (by omega)))) (dac dstr dan)) (by rfl))
  (dsc (dsfor PassesOwn.never rfl (drange1 T.b_range (dac (dix (hu_of hr) (dlst (dac dint (dac dint (dac (dfrz (dF G__law_pick (hr.mono (by omega)) (dac (dpv 0) (dac (dop od_add (dpv 1) dint) dan)))) dan)))) (dfrz (dF G__law_pick (hr.mono (by omega)) (dac (dpv 0) (dac dint dan))))) dan)) (fun _ _ => dgpat (pg_name (i := 4) sc__law_any_text.nd rfl (Or.inl rfl)) (gmName 4) (patN 4)) (fun _ _ => (dsc (dsset (i := 5) sc__law_any_text.nd rfl (Or.inl rfl) (dix (hu_of hr) (dpv 2) (dfrz (dF G__law_pick (hr.mono (by omega)) (dac (dpv 0) (dac dint dan))))))
  (ds1 (dsset (i := 3) sc__law_any_text.nd rfl (Or.inl rfl) (dop od_add (dpv 3) (dix (hu_of hr) (dlst (dac dstr (dac dstr (dac (dpv 5) (dac (dpv 5) dan))))) (dfrz (dF G__law_pick (hr.mono (by omega)) (dac (dpv 0) (dac dint dan)))))))))))
  (ds1 (dsret (dpv 3)))))) (fun ds s Q E h => ?_)
  · obtain ⟨p, n, rfl, q⟩ := h
    rfl
  · obtain ⟨p, n, rfl, hp, hn, q⟩ := h
    walk_at "dl"
    refine ⟨rfl, ⟨?_⟩⟩
    walk_at "dl"
    refine ⟨p, _, n, rfl, hp, by omega, by decide, by decide, ⟨fun r1 s1 a0 a1 N1 => ?_⟩⟩
    walk_at "dl"
    refine ⟨by decide, p, 3, _, rfl, N1.pen, by omega, by decide, by decide, ⟨fun r2 s2 b0 b1 N2 => ?_⟩⟩
    walk_at "dl"
    refine ixD_all (P := fun d => ∃ b : Int, d = .int b ∧ 0 ≤ b ∧ b ≤ 20) (by
      refine List.forall_mem_cons.mpr ⟨⟨_, rfl, by decide, by decide⟩, List.forall_mem_cons.mpr ⟨⟨_, rfl, by decide, by decide⟩, List.forall_mem_cons.mpr ⟨⟨_, rfl, by omega, by omega⟩, fun d h => nomatch h⟩⟩⟩) b0 b1 fun d ⟨m, e, c0, c1⟩ => ?_
    subst e
    walk_at "dl"
    walk_at "sides"
    have em : (m.toNat : Int) = m := Int.toNat_of_nonneg c0
    refine for_rng (fun i δ s' => ∃ (z : Str) (x y : Option DV), δ = [some (.ref p), some (.int 20), some (.str zA), some (.str z), x, y] ∧ z.length = i ∧ OfS (DL.tl zA) z ∧ Nxt s s' p (n + 2 + 2 * i)) ⟨Str.ofString "", none, none, rfl, rfl, List.forall_mem_nil _, (N1.trans N2).le (by omega)⟩ (fun i δ s' hi ⟨z, x, y, e1, h1, h2, N⟩ => ?_) (fun δ s' ⟨z, x, y, e1, h1, h2, N⟩ => ?_)
    · subst e1
      walk_at "dl"
      refine ⟨p, 94, _, rfl, N.pen, by omega, by decide, by decide, ⟨fun r3 s3 d0 d1 N3 => ?_⟩⟩
      walk_at "dl"
      refine ⟨by decide +kernel, ?_⟩
      refine chr_all (P := (· ∈ DL.tl zA)) (fun c h => h) d0 (by rw [← len_tl, zA_len]; exact d1) fun c hc => ?_
      walk_at "dl"
      refine ⟨by decide, p, 4, _, rfl, N3.pen, by omega, by decide, by decide, ⟨fun r5 s5 d0 d1 N5 => ?_⟩⟩
      walk_at "dl"
      refine ixD_all (P := fun d => ∃ c : Nat, d = .str ⟨#[c]⟩ ∧ c ∈ DL.tl zA) (by
        refine List.forall_mem_cons.mpr ⟨⟨34, rfl, by decide +kernel⟩, List.forall_mem_cons.mpr ⟨⟨32, rfl, by decide +kernel⟩, List.forall_mem_cons.mpr ⟨⟨c, rfl, hc⟩, List.forall_mem_cons.mpr ⟨⟨c, rfl, hc⟩, fun d h => nomatch h⟩⟩⟩⟩) d0 d1 fun d ⟨c2, e, hc2⟩ => ?_
      subst e
      have l1 : (⟨#[c2]⟩ : Str).length = 1 := rfl
      walk_at "dl"
      refine ⟨size_le (by omega), z ++ ⟨#[c2]⟩, _, _, rfl, ?_, fun d hd => ?_, ((N.trans N3).trans N5).le (by omega)⟩
      · rw [len_tl, tl_app, List.length_append, ← len_tl, ← len_tl]; omega
      · rw [tl_app] at hd
        rcases List.mem_append.mp hd with hd | hd
        · exact h2 d hd
        · rw [List.mem_singleton.mp (show d ∈ [c2] from hd)]; exact hc2
    · subst e1
      walk_at "dl"
      exact q.out _ _ (by omega) h2 (N.le (by omega))
end Law

set_option Elab.async false
set_option linter.all false
set_option maxRecDepth 100000
set_option maxHeartbeats 4000000
namespace Law
open PySem PySem.Spec PyProof.Rows L2 DL VW
local macro_rules | `(tactic| walk_at "dl") => `(tactic| (try simp only [kOp1_e, kOp2_e, kTest_q1, kChain1_e, kChain2_e, kChain3_q1, kChain3_q2, dChain_e, kAnd_q1, kAnd_q2, kOr_q1, kOr_q2, kNot_e, kIf_q1, kIf_q2, kTru_k, kTruO_q1, kTruO_q2, kCons1_e, kCons2_e, kTup_e, kLst_e, kLstM_e, kFrz_e, kDrop_q1, kRetS_e, kIfS_e, kAsg_e, kGCons_e, kPart_q1, kSl1_e, kSl2_e, kSl3_e, kSub1_e, kSub2_e, kCB_e, kBM1_e, kBM2_e, kIt_q, kItO_q, kRng1_q1, kRng2_q1, kWhile_e, kLc1_e, kLc2_e, kLc2', kLc3_e, finF_e, finM_e, kAndE_q1, kAndE_q2, kOrE_q1, kOrE_q2, kNotE_q1, kNeg_q1, kCall_e, kCallK_e, kCallK2_e, dCallK_e, kMeth, kMeth2_e, kMade_e, kMake_e, kMakeK_e, kMakeK2_e, dMakeK_e, kFld, kSetFld_e, kSetFld2, kAugFld, kAugN1_e, kAugN2_e, kPair1_q1, kPair2_q1, kPair3_e, kDisp, dSeq_e, dAsg_e, dVar_k, kVar_q1, kVar_q2, dC_e, dOp_e, gNameD_e, gNilD_e, gConsD_q1, gConsD_q2, gTupD_q1, gifT_q, gifF_q, dTest_e, dTru_e, truD_q1, truD_q2, truD_q3, truD_q5, truD_q6, truD_q7, truD, truD_qs, dAnd_e, dOr_e, dNot_e, dAndE_e, dOrE_e, dNotE_e, dNeg_e, dIf_e, dRet_e, dRetN_e, dRetS_e, dNext_e, dDrop_e, dBreak_e, dCont_e, dCB_e, dCons_e, dNil_e, dIx_str, dIx_lst_q, dIx_tup_q, dIx_scr_q, kChr_q1, kChr_q2, dIx_re, kIxR_q1, kIxR_q2, kIxK_q, ixD_q1, ixD_q2, dSl_e, dSlR_str_q, dSlR_tup_q, dSlR_lst_q, dSlR_scr, dSlR_q1, dSlR_q2, dSlM, dPart_e, dNoPart_e, dI_q1, dI0_q1, dAdd_int_q, dAdd_str_q, dAdd_tup_q, dAdd_lst_q, dAdd_q1, dAdd_q2, dAdd_q3, dMul_int_q, dMul_q1, dMul_q2, dLtB_q1, dLtB_q2, dEq_k, kEqO_q1, kEqO_q2, kEqS_q1, dNe_k, dIs_q1, dIs_q2, isNonD_q1, isNonD, dIn_tup_q, dIn_lst_q, dIn_str_q, dIn_q1, scalEq_q1, scalEq_q2, scalEq_q3, scalEq_q4, scalEq_q5, scalEq_q6, scalEq_q7, scalEq_q8, scalEq, pdS, pd_q1, pd_q2, pd_q3, pd_q4, pd_q5, pd_q6, pd_q7, pd_q8, pdL_q1, pdL, pdL_ints, pdL_strs, eqv_nil, List.isEmpty_map, refL_lst_q, refL_dK_q, refL_ins_q, lstD_lst_q, lstD_scr_q, lstD_tup_q, lstD_str_q, lstD_int_q, lstD_re, lstW_lst_q, lstW_tup_q, lstW_str_q, lstW_int_q, lstW_re, seqD_tup_q, seqD_lst_q, seqD_scr_q, seqD_str_q, seqD_int_q, seqD_re, dictD, keyD_q1, keyD_q2, keyD, dLen_k, kLenO_q1, kLenO_q2, lenD_q1, lenD_tup, lenD_lst, lenD_scr, lenD_re, lenO_q, dAbs_q1, dMin2_q1, dMax2_q1, dListM, dListF_k, kSeqF_q1, kSeqF_q2, dTupF_k, dOrd_q1, dStr_q1, dLst_e, dLstM_e, dTup_e, gSubD_e, dSetR, dFld_e, dSetFld_e, dAugFld_e, dAugN, dIpAdd_q1, dBM_e, tyD_q1, tyD_q2, tyD_q4, tyD_q5, tyD, dAppend, dPop, dJoin, strsD_map, dMeth_e, dCall_e, dMake_e, dFrz_e, frzR_lst_q, frzR_dK_q, frzR_ins_q, frz_int_q, frz_str_q, frz_bl_q, frz_non_q, frz_tup_q, frz_lst_q, frz_scr_q, frz_re, er_none, atI_zero, atI_one, ixN_zero, ixN_one, dDisp_e, dPairs, keysD_q1, keysD, dLc_e, dLcM_e, dFor_e, wipeD_q1, wipeD_q2, dYes_q1, dIt_e, itemsD_q1, itemsD_q2, itemsD_q3, itemsD_q4, itemsD, dRng1_e, dRng2_e, startD_q1, up_same, up_up, er_up, Option.map_some, List.map_cons, List.map_nil, List.length_map, List.length_cons, List.length_nil, List.replicate_succ, List.replicate_zero, List.cons_append, List.nil_append, List.append_nil, getD_qs, getD_q0, set_qs, set_q0, Nat.reduceSub, Nat.reduceAdd, Nat.zero_add, Nat.sub_zero, Bool.not_true, Bool.not_false, if_true, if_false, Bool.true_eq_false, Bool.false_eq_true, reduceIte, true_and, and_true, beq_self_eq_true, Int.reduceEq, Int.reduceLT, Int.reduceLE, Int.reduceAdd, Int.reduceSub, Int.reduceNeg, Int.reduceMul, decide_true, decide_false, dEnS_q, kEnS1_q, kEnS2_q, gStarN_q, gStarD_q, dFmt_q, kFmt_q1, kFmt_q2, dJst_q, dJs_q1, dJs_q2, kJs_q, dSplitK_q, dFind_q1, dFind_q2, dIntF_q1, dIntF_q2, dMulT_q, dPar2_q1, kPar2_q1, dPar3_q1, kPar3_q1, dIsi_q1, kIsi_q1, tyOfD_q1, tyOfD_q2, tyOfD_q3, tyOfD_q4, tyOfD_q5, tyOfD_q6, tyOfD_q7, tyOfD_q8, tyOfO_q1, tyOfO_q2, tyOfO, isT_q1, isT_q2, isT_q3, isT_q4, isT_q5, isT_q6, isT_q7, isT_q8, tyN_bool, tyN_int, tyN_str, tyN_tuple, tyN_list, dRev_q1, kRev_q1, kRev_q2, kRev_q3, dRepl_q, kRepl_q, dReplAA_q, kReplAA_q, dMulS_q1, dSplit1_q, dJoin_lst, kJoinS_q, dEqE_q, kEqE_q, dIntS_q, dInKD_q, dIxKD_q, kMethX2_q, dMethX_q, kMethX, kRaise_q, dRaise_q, kCallX_q, dCallX_q, dTry_q, kEndsD_nx, isNonD_q1, isNonD, dFldE_q, kFldE, dIsk, *]))
local macro_rules | `(tactic| walk_at "side") => `(tactic| first | omega | exact size_lt (by omega) | exact size_le (by omega) | exact mulS (by omega) (by omega) | exact mulS' (by omega) (by omega) | exact cdiv (by omega) (by omega) | exact shaped_ints _ | exact shaped_nil | assumption)
local macro_rules | `(tactic| walk_at "sides") => `(tactic| repeat ((with_reducible refine And.intro ?_ ?_); next => walk_at "side"))
local macro_rules | `(tactic| walk_at "if") => `(tactic| (refine ifS ?_; walk_at "dl"))
local macro_rules | `(tactic| walk_at "for") => `(tactic| (unfold dFor; walk_at "dl"; walk_at "sides"))
local macro_rules | `(tactic| walk_at "upf") => `(tactic| first | exact up_same | assumption | ((rw [up_ne (by first | assumption | exact Ne.symm (by assumption))]); walk_at "upf") | ((rw [er_ne (by first | assumption | exact Ne.symm (by assumption))]); walk_at "upf"))

local macro_rules | `(tactic| walk_at "tst") => `(tactic| (intro Q q; walk_at "dl"; all_goals assumption))
variable {P : Program} {w : World} {K : PySem.W.Frag} {mg : Str → Option Value} {base : Heap}
/-! ### a drawn value -/
inductive Vl : Nat → DV → Prop
  | non (n : Nat) : Vl n .non
  | bl (n : Nat) (b : Bool) : Vl n (.bl b)
  | int (n : Nat) (i : Int) (h : i.natAbs < 10 ^ 40) : Vl n (.int i)
  | str (n : Nat) (z : Str) (h : z.length ≤ 20) (o : OfS (DL.tl zA) z) : Vl n (.str z)
  | tup (n : Nat) (ds : List DV) (hl : ds.length ≤ 3) (h : ∀ d ∈ ds, Vl n d) : Vl (n + 1) (.tup ds)
theorem Vl.frz {n : Nat} {d : DV} (h : Vl n d) (s : Sto) : frzD s d = (d, s) := by cases h <;> rfl
def cV : Nat → Nat
  | 0 => 60
  | k + 1 => 60 + 3 * cV k
/-- how long a writing may be -/
def zV : Nat → Nat
  | 0 => 44
  | k + 1 => 3 * (zV k + 1) + 2
theorem zV_le (k : Nat) : 44 ≤ zV k := by cases k <;> unfold zV <;> first | decide | (have := zV_le ‹Nat›; omega)
theorem wr_bl (b : Bool) : (wr (.bl b)).length ≤ 1 := by cases b <;> exact Nat.le_refl _
theorem zI {i : Int} (h : i.natAbs < 10 ^ 40) (k : Nat) : (wr (.int i)).length ≤ zV k := Nat.le_trans (wrI_len h) (Nat.le_trans (by decide) (zV_le k))
theorem zS {z : Str} (h : z.length ≤ 20) (k : Nat) : (wr (.str z)).length ≤ zV k := by
  have h1 := wrS_len z
  have h2 := zV_le k
  omega
def spNo : Spd := fun _ _ _ _ => False
def spVal (k : Nat) : Spd := fun ds s Q _ => ∃ (p : Addr) (n : Nat), ds = [.ref p, .int (k : Int)] ∧ Pen s p n ∧ n + cV k ≤ 10 ^ 6 ∧ Kp (∀ (d : DV) s', Vl k d → (wr d).length ≤ zV k → Nxt s s' p (n + cV k) → Q d s')
theorem ok_value0 (T : Txt K mg) : Fn P w K mg base "_law_any_value" 2 ["hand", "deep"] spNo :=
  fnOk T.d__law_any_value sc__law_any_value (fun ds s Q E h => h.elim) (fun A f cdv Ar outer s H E hr => dssdead) fun ds s Q E h => h.elim
theorem ok_valueN (T : Txt K mg) (G__law_pick : Fn P w K mg base "_law_pick" 1 ["hand", "many"] spPck) (G__law_long_number : Fn P w K mg base "_law_long_number" 2 ["hand"] spLong) (G__law_any_text : Fn P w K mg base "_law_any_text" 2 ["hand", "most"] spAny) (k : Nat) {spI : Spd} (hI : ∀ j, k = j + 1 → spI = spVal j)
    (G__law_any_value : Fn P w K mg base "_law_any_value" (k + 2) ["hand", "deep"] spI) : Fn P w K mg base "_law_any_value" (k + 3) ["hand", "deep"] (spVal k) := by
  refine fnOk T.d__law_any_value sc__law_any_value (fun ds s Q E h => ?_) (fun A f cdv Ar outer s H E hr => (dsc (dsset (i := 2) sc__law_any_value.nd rfl (Or.inl rfl) (dfrz (dF G__law_pick (hr.mono (by omega)) (dac (dpv 0) (dac (dix (hu_of hr) (dlst (dac dint (dac dint dan))) (dcallTy cd_int T.b_int (by decide +kernel) (dac (dcmp od_gt (dpv 1) dint (nomark _)) dan))) dan)))))
  (dsc (dsif (dtcmp od_lt (dpv 2) dint (nomark _))
  (ds1 (dsret (dix (hu_of hr) (dlst (dac dnon (dac dbl (dac dbl dan)))) (dpv 2))))
  dsn)
  (dsc (dsif (dtcmp od_lt (dpv 2) dint (nomark _))
  (ds1 (dsret (dix (hu_of hr) (dlst (dac dint (dac (dfrz (dF G__law_pick (hr.mono (by omega)) (dac (dpv 0) (dac dint dan)))) (dac (dfrz (dF G__law_long_number (hr.mono (by omega)) (dac (dpv 0) dan))) dan)))) (dop od_sub (dpv 2) dint))))
  dsn)
  (dsc (dsif (dtcmp od_lt (dpv 2) dint (nomark _))
  (ds1 (dsret (dfrz (dF G__law_any_text (hr.mono (by omega)) (dac (dpv 0) (dac dint dan))))))
  dsn)
  (ds1 (dsret (dcallTy cd_tup T.b_tuple (by decide +kernel) (dac (dlc (own := [("k", 3)]) rfl sc__law_any_value.nd (drange1 T.b_range (dac (dfrz (dF G__law_pick (hr.mono (by omega)) (dac (dpv 0) (dac dint dan)))) dan)) (blkOk_by (own := [("k", 3)]) (N := n__law_any_value) (sc := defScope s__law_any_value) (by decide +kernel)) (gmName 3) (patN 3) (by decide) (fun _ _ _ _ _ => (pg_name (i := 3) sc__law_any_value.nd rfl (Or.inl rfl))) (fun _ _ _ _ _ => dtsn) (fun _ _ _ _ _ => (dfrz (dF G__law_any_value (hr.mono (by omega)) (dac (dpv 0) (dac (dop od_sub (dpv 1) dint) dan)))))) dan))))))))) (fun ds s Q E h => ?_)
  · obtain ⟨p, n, rfl, q⟩ := h
    rfl
  · obtain ⟨p, n, rfl, hp, hn, q⟩ := h
    have hc : 60 ≤ cV k := by cases k <;> unfold cV <;> omega
    walk_at "dl"
    obtain ⟨m, hm, m0, m1⟩ : ∃ m : Int, atI [DV.int 8, .int 12] (if ltI 0 (k : Int) = true then 1 else 0) = some (.int m) ∧ 8 ≤ m ∧ (m = 8 ∨ m = 12 ∧ 0 < k) := by
      cases h : ltI 0 (k : Int) with
      | false => exact ⟨8, rfl, by decide, .inl rfl⟩
      | true => exact ⟨12, rfl, by decide, .inr ⟨rfl, by have := of_decide_eq_true h; omega⟩⟩
    refine ⟨by decide, ?_⟩
    rw [hm]
    walk_at "dl"
    refine ⟨p, m, n, rfl, hp, by omega, by omega, by omega, ⟨fun way s1 w0 w1 N1 => ?_⟩⟩
    walk_at "dl"
    by_cases c3 : way < 3
    · have e3 : ltI way 3 = true := decide_eq_true c3
      refine ifS_true (by walk_at "tst") ?_
      walk_at "dl"
      refine ⟨by decide, ?_⟩
      have z1 := Nat.le_trans (by decide : 1 ≤ 44) (zV_le k)
      refine ixD_all (P := fun d => Vl k d ∧ (wr d).length ≤ zV k) (by
        refine List.forall_mem_cons.mpr ⟨⟨.non _, z1⟩, List.forall_mem_cons.mpr ⟨⟨.bl _ _, Nat.le_trans (wr_bl _) z1⟩, List.forall_mem_cons.mpr ⟨⟨.bl _ _, Nat.le_trans (wr_bl _) z1⟩, fun d h => nomatch h⟩⟩⟩) w0 c3 fun d hd => q.out d s1 hd.1 hd.2 (N1.le (by omega))
    · have e3 : ltI way 3 = false := decide_eq_false c3
      refine ifS_false (by walk_at "tst") ?_
      walk_at "dl"
      by_cases c6 : way < 6
      · have e6 : ltI way 6 = true := decide_eq_true c6
        refine ifS_true (by walk_at "tst") ?_
        walk_at "dl"
        refine ⟨p, 12, _, rfl, N1.pen, by omega, by decide, by decide, ⟨fun r2 s2 b0 b1 N2 => ?_⟩⟩
        walk_at "dl"
        refine ⟨p, _, rfl, N2.pen, by omega, ⟨fun i s3 hi N3 => ?_⟩⟩
        walk_at "dl"
        refine ⟨by decide, ?_⟩
        have b40 : r2.natAbs < 10 ^ 40 := by omega
        refine ixD_all (P := fun d => Vl k d ∧ (wr d).length ≤ zV k) (by
          refine List.forall_mem_cons.mpr ⟨⟨.int _ _ (by decide), zI (by decide) k⟩, List.forall_mem_cons.mpr ⟨⟨.int _ _ b40, zI b40 k⟩, List.forall_mem_cons.mpr ⟨⟨.int _ _ hi, zI hi k⟩, fun d h => nomatch h⟩⟩⟩) (by omega) (by show way - 3 < 3; omega) fun d hd => q.out d s3 hd.1 hd.2 (((N1.trans N2).trans N3).le (by omega))
      · have e6 : ltI way 6 = false := decide_eq_false c6
        refine ifS_false (by walk_at "tst") ?_
        walk_at "dl"
        by_cases c8 : way < 8
        · have e8 : ltI way 8 = true := decide_eq_true c8
          refine ifS_true (by walk_at "tst") ?_
          walk_at "dl"
          refine ⟨p, _, rfl, N1.pen, by omega, ⟨fun z s3 h1 h2 N3 => ?_⟩⟩
          walk_at "dl"
          exact q.out _ _ (.str _ z h1 h2) (zS h1 k) ((N1.trans N3).le (by omega))
        · have e8 : ltI way 8 = false := decide_eq_false c8
          refine ifS_false (by walk_at "tst") ?_
          have hk : 0 < k := by omega
          obtain ⟨j, rfl⟩ : ∃ j, k = j + 1 := ⟨k - 1, by omega⟩
          have eI := hI j rfl
          subst eI
          have ecV : cV (j + 1) = 60 + 3 * cV j := rfl
          walk_at "dl"
          refine ⟨p, 4, _, rfl, N1.pen, by omega, by decide, by decide, ⟨fun r2 s2 b0 b1 N2 => ?_⟩⟩
          walk_at "dl"
          walk_at "sides"
          refine lc_rng (fun D i acc s' => (acc.length = i ∧ ∀ d ∈ acc, Vl j d ∧ (wr d).length ≤ zV j) ∧ Nxt (up s2 D .hid) s' p (n + 2 + i * cV j)) (fun D hD => ⟨⟨rfl, fun d h => nomatch h⟩, .refl ((N2.pen.put hD).le (by omega))⟩) (fun D i acc s' hD hi ⟨⟨hl, hv⟩, N⟩ => ?_) (fun D acc s' hD ⟨⟨hl, hv⟩, N⟩ => ?_)
          · have hi3 : i < 3 := by omega
            have hij : i * cV j ≤ 2 * cV j := Nat.mul_le_mul_right _ (by omega)
            have ej : ((j + 1 : Nat) : Int) - 1 = (j : Int) := by omega
            walk_at "dl"
            refine ⟨p, n + 2 + i * cV j, ?_, N.pen, by omega, ⟨fun d s3 hd hz N3 => ?_⟩⟩
            · first | rfl | rw [ej] | (simp only [ej])
            · have fz := hd.frz s3
              walk_at "dl"
              refine ⟨size_lt (by omega), ⟨by simp [hl], fun e he => ?_⟩, (N.trans N3).le (by rw [Nat.succ_mul]; omega)⟩
              rcases List.mem_append.mp he with he | he
              · exact hv e he
              · rw [List.mem_singleton.mp he]; exact ⟨hd, hz⟩
          · unfold finF
            have N3 := Nxt.er N2.pen hD N
            have hr3 : acc.length ≤ 3 := by omega
            have hij : r2.toNat * cV j ≤ 3 * cV j := Nat.mul_le_mul_right _ (by omega)
            walk_at "dl"
            have hz : (wr (.tup acc)).length ≤ zV (j + 1) := by
              have h1 := wrT_le (m := zV j) fun d hd => (hv d hd).2
              have h2 : acc.length * (zV j + 1) ≤ 3 * (zV j + 1) := Nat.mul_le_mul_right _ hr3
              show _ ≤ 3 * (zV j + 1) + 2
              omega
            exact q.out _ _ (.tup j acc (by omega) fun d hd => (hv d hd).1) hz (((N1.trans N2).trans N3).le (by first | omega | (rw [ecV]; omega)))
theorem ok_value (T : Txt K mg) (G__law_pick : Fn P w K mg base "_law_pick" 1 ["hand", "many"] spPck) (G__law_long_number : Fn P w K mg base "_law_long_number" 2 ["hand"] spLong) (G__law_any_text : Fn P w K mg base "_law_any_text" 2 ["hand", "most"] spAny) : ∀ k, Fn P w K mg base "_law_any_value" (k + 3) ["hand", "deep"] (spVal k)
  | 0 => ok_valueN T G__law_pick G__law_long_number G__law_any_text 0 (spI := spNo) (fun j e => by omega) (ok_value0 T)
  | k + 1 => ok_valueN T G__law_pick G__law_long_number G__law_any_text (k + 1) (fun j e => by cases e; rfl) (ok_value T G__law_pick G__law_long_number G__law_any_text k)
end Law

set_option Elab.async false
set_option linter.all false
set_option maxRecDepth 100000
set_option maxHeartbeats 4000000
namespace Law
open PySem PySem.Spec PyProof.Rows L2 DL VW
local macro_rules | `(tactic| walk_at "dl") => `(tactic| (try simp only [kOp1_e, kOp2_e, kTest_q1, kChain1_e, kChain2_e, kChain3_q1, kChain3_q2, dChain_e, kAnd_q1, kAnd_q2, kOr_q1, kOr_q2, kNot_e, kIf_q1, kIf_q2, kTru_k, kTruO_q1, kTruO_q2, kCons1_e, kCons2_e, kTup_e, kLst_e, kLstM_e, kFrz_e, kDrop_q1, kRetS_e, kIfS_e, kAsg_e, kGCons_e, kPart_q1, kSl1_e, kSl2_e, kSl3_e, kSub1_e, kSub2_e, kCB_e, kBM1_e, kBM2_e, kIt_q, kItO_q, kRng1_q1, kRng2_q1, kWhile_e, kLc1_e, kLc2_e, kLc2', kLc3_e, finF_e, finM_e, kAndE_q1, kAndE_q2, kOrE_q1, kOrE_q2, kNotE_q1, kNeg_q1, kCall_e, kCallK_e, kCallK2_e, dCallK_e, kMeth, kMeth2_e, kMade_e, kMake_e, kMakeK_e, kMakeK2_e, dMakeK_e, kFld, kSetFld_e, kSetFld2, kAugFld, kAugN1_e, kAugN2_e, kPair1_q1, kPair2_q1, kPair3_e, kDisp, dSeq_e, dAsg_e, dVar_k, kVar_q1, kVar_q2, dC_e, dOp_e, gNameD_e, gNilD_e, gConsD_q1, gConsD_q2, gTupD_q1, gifT_q, gifF_q, dTest_e, dTru_e, truD_q1, truD_q2, truD_q3, truD_q5, truD_q6, truD_q7, truD, truD_qs, dAnd_e, dOr_e, dNot_e, dAndE_e, dOrE_e, dNotE_e, dNeg_e, dIf_e, dRet_e, dRetN_e, dRetS_e, dNext_e, dDrop_e, dBreak_e, dCont_e, dCB_e, dCons_e, dNil_e, dIx_str, dIx_lst_q, dIx_tup_q, dIx_scr_q, kChr_q1, kChr_q2, dIx_re, kIxR_q1, kIxR_q2, kIxK_q, ixD_q1, ixD_q2, dSl_e, dSlR_str_q, dSlR_tup_q, dSlR_lst_q, dSlR_scr, dSlR_q1, dSlR_q2, dSlM, dPart_e, dNoPart_e, dI_q1, dI0_q1, dAdd_int_q, dAdd_str_q, dAdd_tup_q, dAdd_lst_q, dAdd_q1, dAdd_q2, dAdd_q3, dMul_int_q, dMul_q1, dMul_q2, dLtB_q1, dLtB_q2, dEq_k, kEqO_q1, kEqO_q2, kEqS_q1, dNe_k, dIs_q1, dIs_q2, isNonD_q1, isNonD, dIn_tup_q, dIn_lst_q, dIn_str_q, dIn_q1, scalEq_q1, scalEq_q2, scalEq_q3, scalEq_q4, scalEq_q5, scalEq_q6, scalEq_q7, scalEq_q8, scalEq, pdS, pd_q1, pd_q2, pd_q3, pd_q4, pd_q5, pd_q6, pd_q7, pd_q8, pdL_q1, pdL, pdL_ints, pdL_strs, eqv_nil, List.isEmpty_map, refL_lst_q, refL_dK_q, refL_ins_q, lstD_lst_q, lstD_scr_q, lstD_tup_q, lstD_str_q, lstD_int_q, lstD_re, lstW_lst_q, lstW_tup_q, lstW_str_q, lstW_int_q, lstW_re, seqD_tup_q, seqD_lst_q, seqD_scr_q, seqD_str_q, seqD_int_q, seqD_re, dictD, keyD_q1, keyD_q2, keyD, dLen_k, kLenO_q1, kLenO_q2, lenD_q1, lenD_tup, lenD_lst, lenD_scr, lenD_re, lenO_q, dAbs_q1, dMin2_q1, dMax2_q1, dListM, dListF_k, kSeqF_q1, kSeqF_q2, dTupF_k, dOrd_q1, dStr_q1, dLst_e, dLstM_e, dTup_e, gSubD_e, dSetR, dFld_e, dSetFld_e, dAugFld_e, dAugN, dIpAdd_q1, dBM_e, tyD_q1, tyD_q2, tyD_q4, tyD_q5, tyD, dAppend, dPop, dJoin, strsD_map, dMeth_e, dCall_e, dMake_e, dFrz_e, frzR_lst_q, frzR_dK_q, frzR_ins_q, frz_int_q, frz_str_q, frz_bl_q, frz_non_q, frz_tup_q, frz_lst_q, frz_scr_q, frz_re, er_none, atI_zero, atI_one, ixN_zero, ixN_one, dDisp_e, dPairs, keysD_q1, keysD, dLc_e, dLcM_e, dFor_e, wipeD_q1, wipeD_q2, dYes_q1, dIt_e, itemsD_q1, itemsD_q2, itemsD_q3, itemsD_q4, itemsD, dRng1_e, dRng2_e, startD_q1, up_same, up_up, er_up, Option.map_some, List.map_cons, List.map_nil, List.length_map, List.length_cons, List.length_nil, List.replicate_succ, List.replicate_zero, List.cons_append, List.nil_append, List.append_nil, getD_qs, getD_q0, set_qs, set_q0, Nat.reduceSub, Nat.reduceAdd, Nat.zero_add, Nat.sub_zero, Bool.not_true, Bool.not_false, if_true, if_false, Bool.true_eq_false, Bool.false_eq_true, reduceIte, true_and, and_true, beq_self_eq_true, Int.reduceEq, Int.reduceLT, Int.reduceLE, Int.reduceAdd, Int.reduceSub, Int.reduceNeg, Int.reduceMul, decide_true, decide_false, dEnS_q, kEnS1_q, kEnS2_q, gStarN_q, gStarD_q, dFmt_q, kFmt_q1, kFmt_q2, dJst_q, dJs_q1, dJs_q2, kJs_q, dSplitK_q, dFind_q1, dFind_q2, dIntF_q1, dIntF_q2, dMulT_q, dPar2_q1, kPar2_q1, dPar3_q1, kPar3_q1, dIsi_q1, kIsi_q1, tyOfD_q1, tyOfD_q2, tyOfD_q3, tyOfD_q4, tyOfD_q5, tyOfD_q6, tyOfD_q7, tyOfD_q8, tyOfO_q1, tyOfO_q2, tyOfO, isT_q1, isT_q2, isT_q3, isT_q4, isT_q5, isT_q6, isT_q7, isT_q8, tyN_bool, tyN_int, tyN_str, tyN_tuple, tyN_list, dRev_q1, kRev_q1, kRev_q2, kRev_q3, dRepl_q, kRepl_q, dReplAA_q, kReplAA_q, dMulS_q1, dSplit1_q, dJoin_lst, kJoinS_q, dEqE_q, kEqE_q, dIntS_q, dInKD_q, dIxKD_q, kMethX2_q, dMethX_q, kMethX, kRaise_q, dRaise_q, kCallX_q, dCallX_q, dTry_q, kEndsD_nx, isNonD_q1, isNonD, dFldE_q, kFldE, dIsk, *]))
local macro_rules | `(tactic| walk_at "side") => `(tactic| first | omega | exact size_lt (by omega) | exact size_le (by omega) | exact mulS (by omega) (by omega) | exact mulS' (by omega) (by omega) | exact cdiv (by omega) (by omega) | exact shaped_ints _ | exact shaped_nil | assumption)
local macro_rules | `(tactic| walk_at "sides") => `(tactic| repeat ((with_reducible refine And.intro ?_ ?_); next => walk_at "side"))
local macro_rules | `(tactic| walk_at "if") => `(tactic| (refine ifS ?_; walk_at "dl"))
local macro_rules | `(tactic| walk_at "for") => `(tactic| (unfold dFor; walk_at "dl"; walk_at "sides"))
local macro_rules | `(tactic| walk_at "upf") => `(tactic| first | exact up_same | assumption | ((rw [up_ne (by first | assumption | exact Ne.symm (by assumption))]); walk_at "upf") | ((rw [er_ne (by first | assumption | exact Ne.symm (by assumption))]); walk_at "upf"))

local macro_rules | `(tactic| walk_at "tst") => `(tactic| (intro Q q; walk_at "dl"; all_goals assumption))
variable {P : Program} {w : World} {K : PySem.W.Frag} {mg : Str → Option Value} {base : Heap}
/-! ### a value is shown -/
def spQuo : Spd := fun ds s Q _ => ∃ z : Str, ds = [.str z] ∧ z.length ≤ 100000 ∧ Kp (Q (.str (S (wr (.str z)))) s)
theorem tl34 : DL.tl ("\"" : Str) = [34] := by decide +kernel
theorem tl3434 : DL.tl ("\"\"" : Str) = [34, 34] := by decide +kernel
theorem len34 : ("\"" : Str).length = 1 := by decide +kernel
theorem ok_quoted (T : Txt K mg) : FnT nTk P w K mg base "quoted" 1 ["text"] spQuo := by
  refine fnOkT T.d_quoted sc_quoted (fun ds s Q E h => ?_) (fun A f cdv Ar outer s H E hr => (ds1N (dsretT (dopN od_add (dopN od_add (PDN.of (dgstr T.g_QUOTE)) (dreplAA T.t_QUOTE (dpv 0))) (PDN.of (dgstr T.g_QUOTE)))))) (fun ds s Q E h => ?_)
  · obtain ⟨z, rfl, q⟩ := h
    rfl
  · obtain ⟨z, rfl, hz, q⟩ := h
    walk_at "dl"
    have e2 : (("\"" : Str) ++ ("\"" : Str)).length = 2 := by decide +kernel
    have h1 := TK.replace_len z "\"" ("\"" ++ "\"")
    rw [e2] at h1 ⊢
    have h2 := len34
    have h3 := sizeLine_eq
    have h4 : (("\"" : Str) ++ Txt.replace z "\"" ("\"" ++ "\"")).length = 1 + (Txt.replace z "\"" ("\"" ++ "\"")).length := by rw [len_tl, tl_app, List.length_append, ← len_tl, ← len_tl, h2]
    refine ⟨by omega, by omega, by omega, ?_⟩
    rw [quoS z "\"" tl34]
    exact q.out
def spSho (k : Nat) : Spd := fun ds s Q _ => ∃ d : DV, ds = [d] ∧ Wv k d ∧ (wr d).length ≤ 100000 ∧ Kp (Q (.str (S (wr d))) s)
theorem s_non : ("-" : Str) = S (wr .non) := by decide +kernel
theorem s_t : ("+" : Str) = S (wr (.bl true)) := by decide +kernel
theorem s_f : ("!" : Str) = S (wr (.bl false)) := by decide +kernel
theorem s_int (i : Int) : (Str.ofString (toString i)) = S (wr (.int i)) := ext_tl (tl_int i)
theorem log40 {i : Int} (h : i.natAbs < 10 ^ 40) : i.natAbs.log2 < 1920 := by
  by_cases h0 : i.natAbs = 0
  · rw [h0]; decide
  · exact (Nat.log2_lt h0).mpr (Nat.lt_trans h (by decide +kernel))
theorem str_lenZ {k : Nat} {z : Str} (h : (wr (.str z)).length ≤ k) : z.length ≤ k := by
  have h1 : (wr (.str z)).length = (StrLaws.dbl 34 (DL.tl z)).length + 2 := by
    show (34 :: (StrLaws.dbl 34 (DL.tl z) ++ [34])).length = _
    simp
  have h2 : ∀ l : List Nat, l.length ≤ (StrLaws.dbl 34 l).length := by
    intro l
    induction l with
    | nil => simp
    | cons a r ih =>
      unfold StrLaws.dbl
      split <;> simp only [List.length_cons] <;> omega
  have := h2 (DL.tl z)
  rw [← len_tl] at this
  omega
theorem strsW (ds : List DV) : strsD (List.map (fun d => DV.str (S (wr d))) ds) = some (ds.map fun d => S (wr d)) := by
  have e : List.map (fun d => DV.str (S (wr d))) ds = (ds.map fun d => S (wr d)).map DV.str := by rw [List.map_map]; rfl
  rw [e]
  exact strsD_map _
theorem joinW {ds : List DV} {R : Str → Prop} (hz : (wr (.tup ds)).length ≤ 100000) (h : R (S (wr (.tup ds)))) : (((ds.map fun d => S (wr d)).map fun x => x.length).sum + (ds.map fun d => S (wr d)).length * (Str.ofString " ").length ≤ 16777216 ∧
      (Str.ofString "(").length + (Txt.join (Str.ofString " ") (ds.map fun d => S (wr d))).length ≤ sizeLine ∧
        (Str.ofString "(" ++ Txt.join (Str.ofString " ") (ds.map fun d => S (wr d))).length + (Str.ofString ")").length ≤ sizeLine ∧
          R (Str.ofString "(" ++ Txt.join (Str.ofString " ") (ds.map fun d => S (wr d)) ++ Str.ofString ")")) := by
  have h1 := sum_len ds
  have h2 := num_len ds
  have h3 := wrR_J ds
  rw [wrT_len] at hz
  have e1 : (Str.ofString " ").length = 1 := by decide +kernel
  have e2 : (Str.ofString "(").length = 1 := by decide +kernel
  have e3 : (Str.ofString ")").length = 1 := by decide +kernel
  have e4 := sizeLine_eq
  have e5 : (Str.ofString "(" ++ S (wrJ ds)).length = 1 + (wrJ ds).length := by rw [len_tl, tl_app, List.length_append, ← len_tl, e2]
  rw [joinSp, tupS, List.length_map, e1, e2, e3, e5, S_len]
  exact ⟨by omega, by omega, by omega, h⟩
theorem ok_shown0 (T : Txt K mg) : FnDN nTk 0 P w K mg base "shown" 3 ["value"] spNo :=
  fnOkDN T.d_shown sc_shown (fun ds s Q E h => h.elim) (fun A f cdv Ar outer s H E hA hr => PSsdN.of dssdead) fun ds s Q E h => h.elim
theorem ok_shownN (T : Txt K mg) (G_quoted : FnT nTk P w K mg base "quoted" 1 ["text"] spQuo) (k : Nat) {spI : Spd} (hI : ∀ j, k = j + 1 → spI = spSho j)
    (G_shown : FnDN nTk k P w K mg base "shown" 3 ["value"] spI) : FnDN nTk (k + 1) P w K mg base "shown" 3 ["value"] (spSho k) := by
  refine fnOkDN T.d_shown sc_shown (fun ds s Q E h => ?_) (fun A f cdv Ar outer s H E hA hr => (dscN (PSdN.of (dsif (dtcmp od_is (dpv 0) dnon (nomark _))
  (ds1 (dsret dstr))
  dsn))
  (dscN (PSdN.of (dsif (dtruth (dcallB cd_isi T.b_isinstance (by decide +kernel) (dac (dpv 0) (dac (dbltn T.b_bool rfl) dan))))
  (ds1 (dsret (difexp (dtruth (dpv 0)) dstr dstr)))
  dsn))
  (dscN (PSdN.of (dsif (dtruth (dcallB cd_isi T.b_isinstance (by decide +kernel) (dac (dpv 0) (dac (dbltn T.b_int rfl) dan))))
  (ds1 (dsret (dcallTy cd_str T.b_str (by decide +kernel) (dac (dpv 0) dan))))
  dsn))
  (dscN (dsifN (PTdN.of (dtruth (dcallB cd_isi T.b_isinstance (by decide +kernel) (dac (dpv 0) (dac (dbltn T.b_str rfl) dan)))))
  (ds1N (dsretT (dfrzN (dFN G_quoted (hr.mono (by omega)) (dacN (PDN.of (dpv 0)) danN)))))
  (PSsdN.of dsn))
  (ds1N (dsretT (dopN od_add (dopN od_add (PDN.of dstr) (dbmN PySem.F.plainAttrs_str PySem.F.slot_str_join PySem.F.type_str_join md_join (PDN.of dstr) (dacN (dlcN (own := [("part", 1)]) rfl sc_shown.nd (diter (dpv 0)) (blkOk_by (own := [("part", 1)]) (N := n_shown) (sc := defScope s_shown) (by decide +kernel)) (gmName 1) (patN 1) (by decide) (fun _ _ _ _ _ => (pg_name (i := 1) sc_shown.nd rfl (Or.inl rfl))) (fun _ _ _ _ _ => dtsn) (fun _ _ _ _ _ => (dfrzN (dFDN G_shown (hA.deeper _) (Deep.room (hA.deeper _) |>.mono (by omega)) (dacN (PDN.of (dpv 1)) danN))))) danN))) (PDN.of dstr))))))))) (fun ds s Q E h => ?_)
  · obtain ⟨d, rfl, q⟩ := h
    rfl
  · obtain ⟨d, rfl, hd, hz, q⟩ := h
    cases hd with
    | non =>
      walk_at "dl"
      refine ifS_true (by walk_at "tst") ?_
      walk_at "dl"
      exact s_non ▸ q.out
    | bl _ b =>
      walk_at "dl"
      refine ifS_false (by walk_at "tst") ?_
      walk_at "dl"
      refine ifS_true (by walk_at "tst") ?_
      cases b with
      | true => walk_at "dl"; exact s_t ▸ q.out
      | false => walk_at "dl"; exact s_f ▸ q.out
    | int _ i h =>
      walk_at "dl"
      refine ifS_false (by walk_at "tst") ?_
      walk_at "dl"
      refine ifS_false (by walk_at "tst") ?_
      walk_at "dl"
      refine ifS_true (by walk_at "tst") ?_
      walk_at "dl"
      exact ⟨log40 h, s_int i ▸ q.out⟩
    | str _ z =>
      walk_at "dl"
      refine ifS_false (by walk_at "tst") ?_
      walk_at "dl"
      refine ifS_false (by walk_at "tst") ?_
      walk_at "dl"
      refine ifS_false (by walk_at "tst") ?_
      walk_at "dl"
      refine ifS_true (by walk_at "tst") ?_
      walk_at "dl"
      exact ⟨z, rfl, str_lenZ hz, ⟨by walk_at "dl"; exact q.out⟩⟩
    | tup j ds h =>
      have hl : ds.length ≤ 100000 := by
        have a1 := num_len ds
        have a2 := wrR_J ds
        have a3 := wrT_len ds
        omega
      have eI := hI j rfl
      subst eI
      walk_at "dl"
      refine ifS_false (by walk_at "tst") ?_
      walk_at "dl"
      refine ifS_false (by walk_at "tst") ?_
      walk_at "dl"
      refine ifS_false (by walk_at "tst") ?_
      walk_at "dl"
      refine ifS_false (by walk_at "tst") ?_
      walk_at "dl"
      refine lc_its (fun D i acc s' => acc = (ds.take i).map (fun d => DV.str (S (wr d))) ∧ s' = up s D .hid) (fun D hD => ⟨rfl, rfl⟩) (fun D i acc s' hD h => trivial) (fun D i d acc s' hD hi ⟨ha, hs⟩ => ?_) (fun D acc s' hD ⟨ha, hs⟩ => ?_)
      · subst hs
        have hm : d ∈ ds := List.mem_of_getElem? hi
        have hil : i < ds.length := (List.getElem?_eq_some_iff.mp hi).1
        walk_at "dl"
        refine ⟨d, rfl, h d hm, Nat.le_trans (wr_partT hm) hz, ⟨?_⟩⟩
        walk_at "dl"
        refine ⟨size_lt (by rw [List.length_take]; omega), ?_⟩
        rw [List.take_add_one, hi]
        simp
      · rw [List.take_length] at ha
        subst ha hs
        walk_at "dl"
        rw [List.take_length, strsW]
        exact joinW (R := fun z => Q (DV.str z) s) hz q.out
theorem ok_shown (T : Txt K mg) (G_quoted : FnT nTk P w K mg base "quoted" 1 ["text"] spQuo) : ∀ k, FnDN nTk (k + 1) P w K mg base "shown" 3 ["value"] (spSho k)
  | 0 => ok_shownN T G_quoted 0 (spI := spNo) (fun j e => by omega) (ok_shown0 T)
  | k + 1 => ok_shownN T G_quoted (k + 1) (fun j e => by cases e; rfl) (ok_shown T G_quoted k)
end Law

set_option Elab.async false
set_option linter.all false
set_option maxRecDepth 100000
set_option maxHeartbeats 4000000
namespace Law
open PySem PySem.Spec PyProof.Rows L2 DL VW
local macro_rules | `(tactic| walk_at "dl") => `(tactic| (try simp only [kOp1_e, kOp2_e, kTest_q1, kChain1_e, kChain2_e, kChain3_q1, kChain3_q2, dChain_e, kAnd_q1, kAnd_q2, kOr_q1, kOr_q2, kNot_e, kIf_q1, kIf_q2, kTru_k, kTruO_q1, kTruO_q2, kCons1_e, kCons2_e, kTup_e, kLst_e, kLstM_e, kFrz_e, kDrop_q1, kRetS_e, kIfS_e, kAsg_e, kGCons_e, kPart_q1, kSl1_e, kSl2_e, kSl3_e, kSub1_e, kSub2_e, kCB_e, kBM1_e, kBM2_e, kIt_q, kItO_q, kRng1_q1, kRng2_q1, kWhile_e, kLc1_e, kLc2_e, kLc2', kLc3_e, finF_e, finM_e, kAndE_q1, kAndE_q2, kOrE_q1, kOrE_q2, kNotE_q1, kNeg_q1, kCall_e, kCallK_e, kCallK2_e, dCallK_e, kMeth, kMeth2_e, kMade_e, kMake_e, kMakeK_e, kMakeK2_e, dMakeK_e, kFld, kSetFld_e, kSetFld2, kAugFld, kAugN1_e, kAugN2_e, kPair1_q1, kPair2_q1, kPair3_e, kDisp, dSeq_e, dAsg_e, dVar_k, kVar_q1, kVar_q2, dC_e, dOp_e, gNameD_e, gNilD_e, gConsD_q1, gConsD_q2, gTupD_q1, gifT_q, gifF_q, dTest_e, dTru_e, truD_q1, truD_q2, truD_q3, truD_q5, truD_q6, truD_q7, truD, truD_qs, dAnd_e, dOr_e, dNot_e, dAndE_e, dOrE_e, dNotE_e, dNeg_e, dIf_e, dRet_e, dRetN_e, dRetS_e, dNext_e, dDrop_e, dBreak_e, dCont_e, dCB_e, dCons_e, dNil_e, dIx_str, dIx_lst_q, dIx_tup_q, dIx_scr_q, kChr_q1, kChr_q2, dIx_re, kIxR_q1, kIxR_q2, kIxK_q, ixD_q1, ixD_q2, dSl_e, dSlR_str_q, dSlR_tup_q, dSlR_lst_q, dSlR_scr, dSlR_q1, dSlR_q2, dSlM, dPart_e, dNoPart_e, dI_q1, dI0_q1, dAdd_int_q, dAdd_str_q, dAdd_tup_q, dAdd_lst_q, dAdd_q1, dAdd_q2, dAdd_q3, dMul_int_q, dMul_q1, dMul_q2, dLtB_q1, dLtB_q2, dEq_k, kEqO_q1, kEqO_q2, kEqS_q1, dNe_k, dIs_q1, dIs_q2, isNonD_q1, isNonD, dIn_tup_q, dIn_lst_q, dIn_str_q, dIn_q1, scalEq_q1, scalEq_q2, scalEq_q3, scalEq_q4, scalEq_q5, scalEq_q6, scalEq_q7, scalEq_q8, scalEq, pdS, pd_q1, pd_q2, pd_q3, pd_q4, pd_q5, pd_q6, pd_q7, pd_q8, pdL_q1, pdL, pdL_ints, pdL_strs, eqv_nil, List.isEmpty_map, refL_lst_q, refL_dK_q, refL_ins_q, lstD_lst_q, lstD_scr_q, lstD_tup_q, lstD_str_q, lstD_int_q, lstD_re, lstW_lst_q, lstW_tup_q, lstW_str_q, lstW_int_q, lstW_re, seqD_tup_q, seqD_lst_q, seqD_scr_q, seqD_str_q, seqD_int_q, seqD_re, dictD, keyD_q1, keyD_q2, keyD, dLen_k, kLenO_q1, kLenO_q2, lenD_q1, lenD_tup, lenD_lst, lenD_scr, lenD_re, lenO_q, dAbs_q1, dMin2_q1, dMax2_q1, dListM, dListF_k, kSeqF_q1, kSeqF_q2, dTupF_k, dOrd_q1, dStr_q1, dLst_e, dLstM_e, dTup_e, gSubD_e, dSetR, dFld_e, dSetFld_e, dAugFld_e, dAugN, dIpAdd_q1, dBM_e, tyD_q1, tyD_q2, tyD_q4, tyD_q5, tyD, dAppend, dPop, dJoin, strsD_map, dMeth_e, dCall_e, dMake_e, dFrz_e, frzR_lst_q, frzR_dK_q, frzR_ins_q, frz_int_q, frz_str_q, frz_bl_q, frz_non_q, frz_tup_q, frz_lst_q, frz_scr_q, frz_re, er_none, atI_zero, atI_one, ixN_zero, ixN_one, dDisp_e, dPairs, keysD_q1, keysD, dLc_e, dLcM_e, dFor_e, wipeD_q1, wipeD_q2, dYes_q1, dIt_e, itemsD_q1, itemsD_q2, itemsD_q3, itemsD_q4, itemsD, dRng1_e, dRng2_e, startD_q1, up_same, up_up, er_up, Option.map_some, List.map_cons, List.map_nil, List.length_map, List.length_cons, List.length_nil, List.replicate_succ, List.replicate_zero, List.cons_append, List.nil_append, List.append_nil, getD_qs, getD_q0, set_qs, set_q0, Nat.reduceSub, Nat.reduceAdd, Nat.zero_add, Nat.sub_zero, Bool.not_true, Bool.not_false, if_true, if_false, Bool.true_eq_false, Bool.false_eq_true, reduceIte, true_and, and_true, beq_self_eq_true, Int.reduceEq, Int.reduceLT, Int.reduceLE, Int.reduceAdd, Int.reduceSub, Int.reduceNeg, Int.reduceMul, decide_true, decide_false, dEnS_q, kEnS1_q, kEnS2_q, gStarN_q, gStarD_q, dFmt_q, kFmt_q1, kFmt_q2, dJst_q, dJs_q1, dJs_q2, kJs_q, dSplitK_q, dFind_q1, dFind_q2, dIntF_q1, dIntF_q2, dMulT_q, dPar2_q1, kPar2_q1, dPar3_q1, kPar3_q1, dIsi_q1, kIsi_q1, tyOfD_q1, tyOfD_q2, tyOfD_q3, tyOfD_q4, tyOfD_q5, tyOfD_q6, tyOfD_q7, tyOfD_q8, tyOfO_q1, tyOfO_q2, tyOfO, isT_q1, isT_q2, isT_q3, isT_q4, isT_q5, isT_q6, isT_q7, isT_q8, tyN_bool, tyN_int, tyN_str, tyN_tuple, tyN_list, dRev_q1, kRev_q1, kRev_q2, kRev_q3, dRepl_q, kRepl_q, dReplAA_q, kReplAA_q, dMulS_q1, dSplit1_q, dJoin_lst, kJoinS_q, dEqE_q, kEqE_q, dIntS_q, dInKD_q, dIxKD_q, kMethX2_q, dMethX_q, kMethX, kRaise_q, dRaise_q, kCallX_q, dCallX_q, dTry_q, kEndsD_nx, isNonD_q1, isNonD, dFldE_q, kFldE, dIsk, *]))
local macro_rules | `(tactic| walk_at "side") => `(tactic| first | omega | exact size_lt (by omega) | exact size_le (by omega) | exact mulS (by omega) (by omega) | exact mulS' (by omega) (by omega) | exact cdiv (by omega) (by omega) | exact shaped_ints _ | exact shaped_nil | assumption)
local macro_rules | `(tactic| walk_at "sides") => `(tactic| repeat ((with_reducible refine And.intro ?_ ?_); next => walk_at "side"))
local macro_rules | `(tactic| walk_at "if") => `(tactic| (refine ifS ?_; walk_at "dl"))
local macro_rules | `(tactic| walk_at "for") => `(tactic| (unfold dFor; walk_at "dl"; walk_at "sides"))
local macro_rules | `(tactic| walk_at "upf") => `(tactic| first | exact up_same | assumption | ((rw [up_ne (by first | assumption | exact Ne.symm (by assumption))]); walk_at "upf") | ((rw [er_ne (by first | assumption | exact Ne.symm (by assumption))]); walk_at "upf"))

local macro_rules | `(tactic| walk_at "tst") => `(tactic| (intro Q q; walk_at "dl"; all_goals assumption))
/-! ### the reader -/
abbrev plainD : List (Key × DV) := [(.inr "-", .non), (.inr "+", .bl true), (.inr "!", .bl false)]
structure TxR (P : Program) (w : World) (K : PySem.W.Frag) (mg : Str → Option Value) (C CE : Addr) : Prop where
  c_Reader : Cls K C
  g_Reader : mg "Reader" = some (.ref C)
  g_NoValue : mg "NoValue" = some (.ref CE)
  n_Reader_text : NoAttr K C "text"
  n_Reader_at : NoAttr K C "at"
  m_sign : MethAt K C "sign" "Reader.sign" s_Reader_sign ["self"]
  m_figures : MethAt K C "figures" "Reader.figures" s_Reader_figures ["self"]
  m_number : MethAt K C "number" "Reader.number" s_Reader_number ["self"]
  m_quoted_text : MethAt K C "quoted_text" "Reader.quoted_text" s_Reader_quoted_text ["self"]
  m_single : MethAt K C "single" "Reader.single" s_Reader_single ["self"]
  m_closed : MethAt K C "closed" "Reader.closed" s_Reader_closed ["self", "opened", "value"]
  m_whole : MethAt K C "whole" "Reader.whole" s_Reader_whole ["self"]
  m_value_alone : MethAt K C "value_alone" "Reader.value_alone" s_Reader_value_alone ["self"]
  d_is_text_sign : DefAt K mg "is_text_sign" s_is_text_sign ["sign"]
  d_read : DefAt K mg "read" s_read ["text"]
  m_refuse : MethAt K C "refuse" "Reader.refuse" s_Reader_refuse ["self"]
  b_len : mg "len" = none
  b_ord : mg "ord" = none
  b_tuple : mg "tuple" = none
  b_int : mg "int" = none
  g_FIGURES : ∃ t, mg "FIGURES" = some (.str "0123456789" t)
  g_MOST_FIGURES : ∃ t, mg "MOST_FIGURES" = some (.int 40 t)
  g_QUOTE : ∃ t, mg "QUOTE" = some (.str "\"" t)
  g_PLAIN : GKD P w K mg "PLAIN" plainD
variable {P : Program} {w : World} {K : PySem.W.Frag} {mg : Str → Option Value} {base : Heap} {C CE fI : Addr}
abbrev rd (C : Addr) (z : Str) (p : Nat) : MO := .ins C [("text", .str z), ("at", .int (p : Int))]
theorem rd_l1 {z : Str} {p : Nat} : List.lookup (Str.ofString "text") [(Str.ofString "text", DV.str z), (Str.ofString "at", .int (p : Int))] = some (.str z) := by rfl
theorem rd_l2 {z : Str} {p : Nat} : List.lookup (Str.ofString "at") [(Str.ofString "text", DV.str z), (Str.ofString "at", .int (p : Int))] = some (.int (p : Int)) := by rfl
theorem rd_l3 {z : Str} {p : Nat} {x : Str} (h : (x == ("text" : Str)) = false) (h2 : (x == ("at" : Str)) = false) : List.lookup x [(Str.ofString "text", DV.str z), (Str.ofString "at", .int (p : Int))] = none := by simp [List.lookup, h, h2]
theorem rd_put {z : Str} {p : Nat} {d : DV} : putFD (Str.ofString "at") d [(Str.ofString "text", DV.str z), (Str.ofString "at", .int (p : Int))] = [(Str.ofString "text", .str z), (Str.ofString "at", d)] := by rfl
theorem rd_len {z : Str} {p : Nat} : [(Str.ofString "text", DV.str z), (Str.ofString "at", .int (p : Int))].length = 2 := rfl
theorem rd_mk {z : Str} : putFD (Str.ofString "at") (.int 0) (putFD (Str.ofString "text") (.str z) []) = [(Str.ofString "text", .str z), (Str.ofString "at", .int 0)] := by rfl
/-! ### it is made -/
def spInit (C : Addr) : Spd := fun ds s Q _ => ∃ (o : Addr) (z : Str), ds = [.ref o, .str z] ∧ s o = some (.ins C []) ∧ Kp (Q .non (up s o (rd C z 0)))
theorem ok_init {f : Addr} {fd : FuncData} (T : TxR P w K mg C CE) (F : Fun K "__init__" "Reader.__init__" s_Reader___init__ f fd) : FnOk P w K mg base CX0 1 f fd ["self", "text"] (lSp K (spInit C)) := by
  refine defOk F sc_Reader___init__ (fun ds s Q E h => ?_) (fun A cdv Ar outer s H E hr => (dsc (dssetfld T.c_Reader T.n_Reader_text (dpv 0) (dpv 1))
  (ds1 (dssetfld T.c_Reader T.n_Reader_at (dpv 0) dint)))) (fun ds s Q E h => ?_)
  · obtain ⟨o, z, rfl, q⟩ := h
    rfl
  · obtain ⟨o, z, rfl, h1, q⟩ := h
    walk_at "dl"
    refine ⟨by show (0 : Nat) < 1000; decide, by show (1 : Nat) < 1000; decide, ?_⟩
    rw [rd_mk]
    exact q.out
/-! ### the sign that comes -/
def spSign (C : Addr) : Spd := fun ds s Q _ => ∃ (o : Addr) (z : Str) (p : Nat), ds = [.ref o] ∧ s o = some (rd C z p) ∧ z.length ≤ 4000 ∧ Kp (Q (.str (S ((rsT z p).take 1))) s)
theorem ok_sign (T : TxR P w K mg C CE) : Mt P w K mg base C "sign" 1 ["self"] (spSign C) := by
  refine mtOk T.m_sign sc_Reader_sign (fun ds s Q E h => ?_) (fun A f cdv Ar outer s H E hr => (ds1 (dsret (dslice sl_d (dfld T.c_Reader T.n_Reader_text (dpv 0)) (dpo (dfld T.c_Reader T.n_Reader_at (dpv 0))) (dpo (dop od_add (dfld T.c_Reader T.n_Reader_at (dpv 0)) dint)))))) (fun ds s Q E h => ?_)
  · obtain ⟨o, z, p, rfl, q⟩ := h
    rfl
  · obtain ⟨o, z, p, rfl, h1, hz, q⟩ := h
    have l1 := @rd_l1 z p
    have l2 := @rd_l2 z p
    have hz2 := size_le (show z.length ≤ 1000000 by omega)
    have c1 := @cut_1 z p
    walk_at "dl"
    exact q.out
/-! ### it refuses -/
abbrev bmVE : List Value := [.type "ValueError", .type "Exception", .type "BaseException", .type "object"]
abbrev XZ (P : Program) (w : World) (K : PySem.W.Frag) (mg : Str → Option Value) (base : Heap) (CE : Addr) : Prop := XcAt P w K mg base CE "at" "ValueError.__new__" bmVE
abbrev XF (K : PySem.W.Frag) (CE fI : Addr) : Prop := XcF K CE fI "ValueError.__new__" "ValueError" bmVE "at"
def spRef (C CE : Addr) : Spd := fun ds s Q E => ∃ (o : Addr) (z : Str) (p : Nat), ds = [.ref o] ∧ s o = some (rd C z p) ∧ Kp (E (.ref CE) [("at", .int (p : Int))] s)
theorem ok_refuse (T : TxR P w K mg C CE) (ZF : XZ P w K mg base CE) : MtX P w K mg base C "refuse" 3 ["self"] (spRef C CE) := by
  refine mtOkX T.m_refuse sc_Reader_refuse (fun ds s Q E h => ?_) (fun A f cdv Ar outer s H E Ex hr tk => (ds1 (dsraise PySem.F.excBase_ValueError ZF (hr.mono (by omega)) tk rfl T.g_NoValue (dfld T.c_Reader T.n_Reader_at (dpv 0))))) (fun ds s Q E h => ?_)
  · obtain ⟨o, z, p, rfl, q⟩ := h
    rfl
  · obtain ⟨o, z, p, rfl, h1, q⟩ := h
    have l2 := @rd_l2 z p
    walk_at "dl"
    exact q.out
/-- refused at the place that the automaton tells; what was known stays -/
def Rfd (C CE : Addr) (z : Str) (s : Sto) (o : Addr) (E : XDd) : Prop := ∀ (q : Nat) (s' : Sto), walk (DL.tl z) = some q → (∀ a, a ≠ o → s a ≠ none → s' a = s a) → E (.ref CE) [("at", .int (q : Int))] s'
/-! ### text signs -/
def spIsT : Spd := fun ds s Q _ => ∃ (c : Nat), ds = [.str (S [c])] ∧ Kp (Q (.bl (decide (32 ≤ c ∧ c ≤ 126 ∧ c ≠ 37))) s)
theorem ok_isT (T : TxR P w K mg C CE) : Fn P w K mg base "is_text_sign" 1 ["sign"] spIsT := by
  refine fnOk T.d_is_text_sign sc_is_text_sign (fun ds s Q E h => ?_) (fun A f cdv Ar outer s H E hr => (ds1 (dsret (deand (dchainV od_le od_le dint (dcallB cd_ord T.b_ord (by decide +kernel) (dac (dpv 0) dan)) dint) (deand1 (dcmp (od_ne hr.units) (dcallB cd_ord T.b_ord (by decide +kernel) (dac (dpv 0) dan)) dint (nomark _))))))) (fun ds s Q E h => ?_)
  · obtain ⟨c, rfl, q⟩ := h
    rfl
  · obtain ⟨c, rfl, q⟩ := h
    walk_at "dl"
    have e0 : (#[c].getD 0 0 : Nat) = c := rfl
    rw [e0]
    have q0 := q.out
    refine ⟨rfl, ?_⟩
    by_cases a1 : 32 ≤ c
    · have b1 : leI 32 (c : Int) = true := decide_eq_true (by omega)
      rw [b1]
      walk_at "dl"
      by_cases a2 : c ≤ 126
      · have b2 : leI (c : Int) 126 = true := decide_eq_true (by omega)
        rw [b2]
        walk_at "dl"
        refine ⟨rfl, ?_⟩
        by_cases a3 : c = 37
        · rw [decide_eq_true (show (c : Int) = 37 by omega)]
          rw [decide_eq_false (by omega)] at q0
          exact q0
        · rw [decide_eq_false (show ¬ (c : Int) = 37 by omega)]
          rw [decide_eq_true (by omega)] at q0
          exact q0
      · have b2 : leI (c : Int) 126 = false := decide_eq_false (by omega)
        rw [b2]
        walk_at "dl"
        rw [decide_eq_false (by omega)] at q0
        exact q0
    · have b1 : leI 32 (c : Int) = false := decide_eq_false (by omega)
      rw [b1]
      walk_at "dl"
      rw [decide_eq_false (by omega)] at q0
      exact q0
/-! ### figures, a number -/
theorem rd_up {s : Sto} {o : Addr} {m n : MO} : up (up s o m) o n = up s o n := up_up
def spFig (C : Addr) : Spd := fun ds s Q _ => ∃ (o : Addr) (z : Str) (p d c : Nat) (r : List Nat), ds = [.ref o] ∧ s o = some (rd C z p) ∧ z.length ≤ 4000 ∧ rsT z p = c :: r ∧ (49 ≤ c ∧ c ≤ 57) ∧ At z (p + 1) ⟨.fig, d, 1⟩ ∧
  Kp (∀ i, 0 < i → i ≤ 40 → i ≤ (rsT z p).length → (∀ x ∈ (rsT z p).take i, isFig x) → EndAt z (p + i) d → Q (.str (S ((rsT z p).take i))) (up s o (rd C z (p + i))))
theorem ok_figures (T : TxR P w K mg C CE) (G_Reader_sign : Mt P w K mg base C "sign" 1 ["self"] (spSign C)) : Mt P w K mg base C "figures" 2 ["self"] (spFig C) := by
  refine mtOk T.m_figures sc_Reader_figures (fun ds s Q E h => ?_) (fun A f cdv Ar outer s H E hr => (dsc (dsset (i := 1) sc_Reader_figures.nd rfl (Or.inl rfl) (dfld T.c_Reader T.n_Reader_at (dpv 0)))
  (dsc (dswhile PassesOwn.never ((dpand (dtcmp od_lt (dop od_sub (dfld T.c_Reader T.n_Reader_at (dpv 0)) (dpv 1)) (dgint T.g_MOST_FIGURES) (nomark _)) (dpand (dtcmp (od_ne hr.units) (dfrz (dM0 T.c_Reader G_Reader_sign (hr.mono (by omega)) (dpv 0))) dstr (nomark _)) (dpand1 (dtcmp od_in (dfrz (dM0 T.c_Reader G_Reader_sign (hr.mono (by omega)) (dpv 0))) (dgstr T.g_FIGURES) (by rfl)))))).pt (ds1 (dsaugfld T.c_Reader T.n_Reader_at in_add (dpv 0) pe_int)))
  (ds1 (dsret (dslice sl_d (dfld T.c_Reader T.n_Reader_text (dpv 0)) (dpo (dpv 1)) (dpo (dfld T.c_Reader T.n_Reader_at (dpv 0))))))))) (fun ds s Q E h => ?_)
  · obtain ⟨o, z, p, d, c, r, rfl, q⟩ := h
    rfl
  · obtain ⟨o, z, p, d, c, r, rfl, h1, hz, hr, hc, ha, q⟩ := h
    have l2 := @rd_l2 z p
    walk_at "dl"
    refine ⟨fun m δ s' => ∃ i : Nat, δ = [some (.ref o), some (.int (p : Int))] ∧ s' = up s o (rd C z (p + i)) ∧ i ≤ 40 ∧ i ≤ (rsT z p).length ∧ (∀ x ∈ (rsT z p).take i, isFig x) ∧ (0 < i → At z (p + i) ⟨.fig, d, i⟩) ∧ m = 40 - i, ⟨40, 0, rfl, (up_id h1).symm, by omega, Nat.zero_le _, fun x hx => (nomatch hx), fun z => absurd z (by decide), by omega⟩, ?_⟩
    rintro m δ s' ⟨i, rfl, rfl, hi, hil, hif, hia, rfl⟩
    have e1 : up s o (rd C z (p + i)) o = some (rd C z (p + i)) := up_same
    have l1 := @rd_l1 z (p + i)
    have l2 := @rd_l2 z (p + i)
    have l3 := @rd_l3 z (p + i) "sign" (by decide +kernel) (by decide +kernel)
    have hz2 := size_le (show z.length ≤ 1000000 by omega)
    have e6 : rsT z (p + i) = (rsT z p).drop i := by unfold rsT; rw [List.drop_drop]
    have e7 : i = 0 → rsT z (p + i) = c :: r := fun e => by rw [e6, e, hr]; rfl
    have fin : 0 < i → EndAt z (p + i) d → Q (.str (cutS z (some (p : Int)) (some ((p + i : Nat) : Int)))) (up s o (rd C z (p + i))) := fun h0 he => by
      rw [cut_run (by omega), show p + i - p = i by omega]
      exact q.out i h0 hi hil hif he
    clear hr
    walk_at "dl"
    by_cases c40 : i < 40
    · have a1 : ltI (((p + i : Nat) : Int) - (p : Int)) 40 = true := decide_eq_true (by omega)
      rw [a1]
      walk_at "dl"
      refine ⟨o, z, p + i, rfl, e1, hz, ⟨?_⟩⟩
      cases hk : rsT z (p + i) with
      | nil =>
        have h0 : 0 < i := Nat.pos_of_ne_zero fun e => by have := e7 e; rw [hk] at this; cases this
        have f := fin h0 ((hia h0).fig (.inr fun x r e => by rw [hk] at e; cases e))
        have e2 : (([] : List Nat)).take 1 = [] := rfl
        rw [e2]
        have e3 : decide (S ([] : List Nat) = Str.ofString "") = true := by rw [S_dec, t0]; rfl
        clear hk e6 e7 fin
        walk_at "dl"
        all_goals exact f
      | cons x t =>
        have e2 : ((x :: t)).take 1 = [x] := rfl
        rw [e2]
        have e3 : decide (S [x] = Str.ofString "") = false := by rw [S_dec, t0]; rfl
        have e9 : (rsT z (p + i)).take 1 = [x] := by rw [hk]; rfl
        by_cases hx : isFig x
        · have e4 : subS (S [x]) (Str.ofString "0123456789") = true := fig_in.trans (decide_eq_true hx)
          have e5 := @rd_put z (p + i) (.int (((p + i : Nat) : Int) + 1))
          have n1 : i + 1 ≤ (rsT z p).length := by
            have a := congrArg List.length e6
            rw [hk, List.length_cons, List.length_drop] at a
            omega
          have n2 : ∀ y ∈ (rsT z p).take (i + 1), isFig y := fun y hy => by
            rw [List.take_add, ← e6, hk] at hy
            rcases List.mem_append.mp hy with hy | hy
            · exact hif y hy
            · have : y = x := by simpa using hy
              rw [this]; exact hx
          have n3 : At z (p + (i + 1)) ⟨.fig, d, i + 1⟩ := by
            by_cases h0 : i = 0
            · subst h0; exact ha
            · exact (hia (by omega)).figs hk hx c40
          clear hk e6 e7 fin
          walk_at "dl"
          refine ⟨o, z, p + i, rfl, e1, hz, ⟨?_⟩⟩
          rw [e9]
          walk_at "dl"
          refine ⟨by show (2 : Nat) < 1000; decide, 40 - (i + 1), by omega, i + 1, rfl, ?_, by omega, n1, n2, fun _ => n3, rfl⟩
          rw [show p + (i + 1) = p + i + 1 by omega]
          rfl
        · have h0 : 0 < i := Nat.pos_of_ne_zero fun e => by
            have := e7 e; rw [hk] at this; cases this; exact hx ⟨by omega, by omega⟩
          have f := fin h0 ((hia h0).fig (.inr fun y r e => by rw [hk] at e; cases e; exact hx))
          have e4 : subS (S [x]) (Str.ofString "0123456789") = false := fig_in.trans (decide_eq_false hx)
          clear hk e6 e7 fin
          walk_at "dl"
          refine ⟨o, z, p + i, rfl, e1, hz, ⟨?_⟩⟩
          rw [e9]
          walk_at "dl"
          all_goals exact f
    · have a1 : ltI (((p + i : Nat) : Int) - (p : Int)) 40 = false := decide_eq_false (by omega)
      rw [a1]
      have f := fin (by omega) ((hia (by omega)).fig (.inl (by omega)))
      clear e6 e7 fin
      walk_at "dl"
      all_goals exact f
def spNum (C : Addr) : Spd := fun ds s Q _ => ∃ (o : Addr) (z : Str) (p d : Nat), ds = [.ref o] ∧ s o = some (rd C z p) ∧ z.length ≤ 4000 ∧ ((∃ r, rsT z p = 48 :: r ∧ At z (p + 1) ⟨.beh, d, 0⟩) ∨ ∃ c r, rsT z p = c :: r ∧ (49 ≤ c ∧ c ≤ 57) ∧ At z (p + 1) ⟨.fig, d, 1⟩) ∧
  Kp (∀ (n p' : Nat), n < 10 ^ 40 → p < p' → rsT z p = TL.numL n ++ rsT z p' → EndAt z p' d → Q (.int (n : Int)) (up s o (rd C z p')))
theorem ok_number (T : TxR P w K mg C CE) (G_Reader_sign : Mt P w K mg base C "sign" 1 ["self"] (spSign C)) (G_Reader_figures : Mt P w K mg base C "figures" 2 ["self"] (spFig C)) : Mt P w K mg base C "number" 3 ["self"] (spNum C) := by
  refine mtOk T.m_number sc_Reader_number (fun ds s Q E h => ?_) (fun A f cdv Ar outer s H E hr => (dsc (dsif (dtcmp (od_eq hr.units) (dfrz (dM0 T.c_Reader G_Reader_sign (hr.mono (by omega)) (dpv 0))) dstr (nomark _))
  (dsc (dsaugfld T.c_Reader T.n_Reader_at in_add (dpv 0) pe_int)
  (ds1 (dsret dint)))
  dsn)
  (ds1 (dsret (dcallTy cd_intS T.b_int (by decide +kernel) (dac (dfrz (dM0 T.c_Reader G_Reader_figures (hr.mono (by omega)) (dpv 0))) dan)))))) (fun ds s Q E h => ?_)
  · obtain ⟨o, z, p, d, rfl, q⟩ := h
    rfl
  · obtain ⟨o, z, p, d, rfl, h1, hz, hc, q⟩ := h
    have l2 := @rd_l2 z p
    have l3 := @rd_l3 z p "sign" (by decide +kernel) (by decide +kernel)
    have l4 := @rd_l3 z p "figures" (by decide +kernel) (by decide +kernel)
    walk_at "dl"
    refine ifS ?_
    walk_at "dl"
    refine ⟨o, z, p, rfl, h1, hz, ⟨?_⟩⟩
    rcases hc with ⟨r, hr, ha⟩ | ⟨c, r, hr, hc, ha⟩
    · have e2 : (rsT z p).take 1 = [48] := by rw [hr]; rfl
      rw [e2]
      have e3 : decide (S [48] = Str.ofString "0") = true := by rw [S_dec, t48]; rfl
      have e5 := @rd_put z p (.int ((p : Int) + 1))
      walk_at "dl"
      refine ⟨by show (2 : Nat) < 1000; decide, q.out 0 (p + 1) (by decide) (by omega) ?_ ha.beh⟩
      rw [rest_cons hr, hr, TL.numL_lt (by decide)]
      rfl
    · have e2 : (rsT z p).take 1 = [c] := by rw [hr]; rfl
      rw [e2]
      have e3 : decide (S [c] = Str.ofString "0") = false := by
        rw [S_dec, t48]
        exact decide_eq_false fun e => by cases e; omega
      walk_at "dl"
      refine ⟨o, z, p, d, c, r, rfl, h1, hz, hr, hc, ha, ⟨fun i i0 i40 hil hif he => ?_⟩⟩
      obtain ⟨j, rfl⟩ : ∃ j, i = j + 1 := ⟨i - 1, by omega⟩
      have e8 : (rsT z p).take (j + 1) = c :: r.take j := by rw [hr]; rfl
      obtain ⟨m, e4, m0, m1⟩ := dig_num (l := r.take j) hc (fun x hx => hif x (by rw [e8]; exact List.mem_cons_of_mem _ hx)) (by rw [List.length_take]; omega)
      rw [e8, e4]
      have e9 : rsT z p = TL.numL m ++ rsT z (p + (j + 1)) := by
        rw [← e4, ← e8]
        unfold rsT
        rw [← List.drop_drop, List.take_append_drop]
      have q2 := q.out m _ m1 (by omega) e9 he
      clear e9 e8 e4 hr
      walk_at "dl"
      exact ⟨_, int_back m1, by rw [S_len]; exact Nat.le_trans (TL.numL_len (k := 40) (by decide) m1) (by decide), q2⟩
end Law

set_option Elab.async false
set_option linter.all false
set_option maxRecDepth 100000
set_option maxHeartbeats 4000000
namespace Law
open PySem PySem.Spec PyProof.Rows L2 DL VW
local macro_rules | `(tactic| walk_at "dl") => `(tactic| (try simp only [kOp1_e, kOp2_e, kTest_q1, kChain1_e, kChain2_e, kChain3_q1, kChain3_q2, dChain_e, kAnd_q1, kAnd_q2, kOr_q1, kOr_q2, kNot_e, kIf_q1, kIf_q2, kTru_k, kTruO_q1, kTruO_q2, kCons1_e, kCons2_e, kTup_e, kLst_e, kLstM_e, kFrz_e, kDrop_q1, kRetS_e, kIfS_e, kAsg_e, kGCons_e, kPart_q1, kSl1_e, kSl2_e, kSl3_e, kSub1_e, kSub2_e, kCB_e, kBM1_e, kBM2_e, kIt_q, kItO_q, kRng1_q1, kRng2_q1, kWhile_e, kLc1_e, kLc2_e, kLc2', kLc3_e, finF_e, finM_e, kAndE_q1, kAndE_q2, kOrE_q1, kOrE_q2, kNotE_q1, kNeg_q1, kCall_e, kCallK_e, kCallK2_e, dCallK_e, kMeth, kMeth2_e, kMade_e, kMake_e, kMakeK_e, kMakeK2_e, dMakeK_e, kFld, kSetFld_e, kSetFld2, kAugFld, kAugN1_e, kAugN2_e, kPair1_q1, kPair2_q1, kPair3_e, kDisp, dSeq_e, dAsg_e, dVar_k, kVar_q1, kVar_q2, dC_e, dOp_e, gNameD_e, gNilD_e, gConsD_q1, gConsD_q2, gTupD_q1, gifT_q, gifF_q, dTest_e, dTru_e, truD_q1, truD_q2, truD_q3, truD_q5, truD_q6, truD_q7, truD, truD_qs, dAnd_e, dOr_e, dNot_e, dAndE_e, dOrE_e, dNotE_e, dNeg_e, dIf_e, dRet_e, dRetN_e, dRetS_e, dNext_e, dDrop_e, dBreak_e, dCont_e, dCB_e, dCons_e, dNil_e, dIx_str, dIx_lst_q, dIx_tup_q, dIx_scr_q, kChr_q1, kChr_q2, dIx_re, kIxR_q1, kIxR_q2, kIxK_q, ixD_q1, ixD_q2, dSl_e, dSlR_str_q, dSlR_tup_q, dSlR_lst_q, dSlR_scr, dSlR_q1, dSlR_q2, dSlM, dPart_e, dNoPart_e, dI_q1, dI0_q1, dAdd_int_q, dAdd_str_q, dAdd_tup_q, dAdd_lst_q, dAdd_q1, dAdd_q2, dAdd_q3, dMul_int_q, dMul_q1, dMul_q2, dLtB_q1, dLtB_q2, dEq_k, kEqO_q1, kEqO_q2, kEqS_q1, dNe_k, dIs_q1, dIs_q2, isNonD_q1, isNonD, dIn_tup_q, dIn_lst_q, dIn_str_q, dIn_q1, scalEq_q1, scalEq_q2, scalEq_q3, scalEq_q4, scalEq_q5, scalEq_q6, scalEq_q7, scalEq_q8, scalEq, pdS, pd_q1, pd_q2, pd_q3, pd_q4, pd_q5, pd_q6, pd_q7, pd_q8, pdL_q1, pdL, pdL_ints, pdL_strs, eqv_nil, List.isEmpty_map, refL_lst_q, refL_dK_q, refL_ins_q, lstD_lst_q, lstD_scr_q, lstD_tup_q, lstD_str_q, lstD_int_q, lstD_re, lstW_lst_q, lstW_tup_q, lstW_str_q, lstW_int_q, lstW_re, seqD_tup_q, seqD_lst_q, seqD_scr_q, seqD_str_q, seqD_int_q, seqD_re, dictD, keyD_q1, keyD_q2, keyD, dLen_k, kLenO_q1, kLenO_q2, lenD_q1, lenD_tup, lenD_lst, lenD_scr, lenD_re, lenO_q, dAbs_q1, dMin2_q1, dMax2_q1, dListM, dListF_k, kSeqF_q1, kSeqF_q2, dTupF_k, dOrd_q1, dStr_q1, dLst_e, dLstM_e, dTup_e, gSubD_e, dSetR, dFld_e, dSetFld_e, dAugFld_e, dAugN, dIpAdd_q1, dBM_e, tyD_q1, tyD_q2, tyD_q4, tyD_q5, tyD, dAppend, dPop, dJoin, strsD_map, dMeth_e, dCall_e, dMake_e, dFrz_e, frzR_lst_q, frzR_dK_q, frzR_ins_q, frz_int_q, frz_str_q, frz_bl_q, frz_non_q, frz_tup_q, frz_lst_q, frz_scr_q, frz_re, er_none, atI_zero, atI_one, ixN_zero, ixN_one, dDisp_e, dPairs, keysD_q1, keysD, dLc_e, dLcM_e, dFor_e, wipeD_q1, wipeD_q2, dYes_q1, dIt_e, itemsD_q1, itemsD_q2, itemsD_q3, itemsD_q4, itemsD, dRng1_e, dRng2_e, startD_q1, up_same, up_up, er_up, Option.map_some, List.map_cons, List.map_nil, List.length_map, List.length_cons, List.length_nil, List.replicate_succ, List.replicate_zero, List.cons_append, List.nil_append, List.append_nil, getD_qs, getD_q0, set_qs, set_q0, Nat.reduceSub, Nat.reduceAdd, Nat.zero_add, Nat.sub_zero, Bool.not_true, Bool.not_false, if_true, if_false, Bool.true_eq_false, Bool.false_eq_true, reduceIte, true_and, and_true, beq_self_eq_true, Int.reduceEq, Int.reduceLT, Int.reduceLE, Int.reduceAdd, Int.reduceSub, Int.reduceNeg, Int.reduceMul, decide_true, decide_false, dEnS_q, kEnS1_q, kEnS2_q, gStarN_q, gStarD_q, dFmt_q, kFmt_q1, kFmt_q2, dJst_q, dJs_q1, dJs_q2, kJs_q, dSplitK_q, dFind_q1, dFind_q2, dIntF_q1, dIntF_q2, dMulT_q, dPar2_q1, kPar2_q1, dPar3_q1, kPar3_q1, dIsi_q1, kIsi_q1, tyOfD_q1, tyOfD_q2, tyOfD_q3, tyOfD_q4, tyOfD_q5, tyOfD_q6, tyOfD_q7, tyOfD_q8, tyOfO_q1, tyOfO_q2, tyOfO, isT_q1, isT_q2, isT_q3, isT_q4, isT_q5, isT_q6, isT_q7, isT_q8, tyN_bool, tyN_int, tyN_str, tyN_tuple, tyN_list, dRev_q1, kRev_q1, kRev_q2, kRev_q3, dRepl_q, kRepl_q, dReplAA_q, kReplAA_q, dMulS_q1, dSplit1_q, dJoin_lst, kJoinS_q, dEqE_q, kEqE_q, dIntS_q, dInKD_q, dIxKD_q, kMethX2_q, dMethX_q, kMethX, kRaise_q, dRaise_q, kCallX_q, dCallX_q, dTry_q, kEndsD_nx, isNonD_q1, isNonD, dFldE_q, kFldE, dIsk, *]))
local macro_rules | `(tactic| walk_at "side") => `(tactic| first | omega | exact size_lt (by omega) | exact size_le (by omega) | exact mulS (by omega) (by omega) | exact mulS' (by omega) (by omega) | exact cdiv (by omega) (by omega) | exact shaped_ints _ | exact shaped_nil | assumption)
local macro_rules | `(tactic| walk_at "sides") => `(tactic| repeat ((with_reducible refine And.intro ?_ ?_); next => walk_at "side"))
local macro_rules | `(tactic| walk_at "if") => `(tactic| (refine ifS ?_; walk_at "dl"))
local macro_rules | `(tactic| walk_at "for") => `(tactic| (unfold dFor; walk_at "dl"; walk_at "sides"))
local macro_rules | `(tactic| walk_at "upf") => `(tactic| first | exact up_same | assumption | ((rw [up_ne (by first | assumption | exact Ne.symm (by assumption))]); walk_at "upf") | ((rw [er_ne (by first | assumption | exact Ne.symm (by assumption))]); walk_at "upf"))

local macro_rules | `(tactic| walk_at "tst") => `(tactic| (intro Q q; walk_at "dl"; all_goals assumption))
variable {P : Program} {w : World} {K : PySem.W.Frag} {mg : Str → Option Value} {base : Heap} {C CE fI : Addr}
/-! ### a text between quotes -/
theorem rdl {s : Sto} {o l : Addr} {R R' X : MO} (ne : o ≠ l) : up (up (up s o R) l X) o R' = up (up s o R') l X := by
  rw [up_comm ne.symm, up_up]
theorem join_ones (cs : List Nat) : Txt.join (Str.ofString "") (cs.map fun c => S [c]) = S cs := by
  refine ext_tl ?_
  rw [tl_join0, List.map_map]
  show (cs.map fun c => [c]).flatten = cs
  induction cs with
  | nil => rfl
  | cons c cs ih => rw [List.map_cons, List.flatten_cons, ih]; rfl
theorem sum_one (cs : List Nat) : ((cs.map fun c => S [c]).map fun x => x.length).sum = cs.length := by
  induction cs with
  | nil => rfl
  | cons c cs ih => rw [List.map_cons, List.map_cons, List.sum_cons, ih]; show 1 + _ = _; rw [List.length_cons]; omega
theorem strs_one (cs : List Nat) : strsD (cs.map fun c => DV.str (S [c])) = some (cs.map fun c => S [c]) := by
  have e : (cs.map fun c => DV.str (S [c])) = (cs.map fun c => S [c]).map DV.str := by rw [List.map_map]; rfl
  rw [e]
  exact strsD_map _
theorem dbl_append (c : Nat) : ∀ a b : List Nat, StrLaws.dbl c (a ++ b) = StrLaws.dbl c a ++ StrLaws.dbl c b
  | [], b => rfl
  | x :: a, b => by
    have ih := dbl_append c a b
    by_cases h : x = c
    · subst h
      rw [List.cons_append, dbl_cons_eq, dbl_cons_eq, ih]; rfl
    · rw [List.cons_append, dbl_cons_ne h, dbl_cons_ne h, ih]; rfl
theorem sub_drop {s : Sto} {o l : Addr} {R X : MO} (hl : s l = none) (ne : o ≠ l) (hX : X ≠ .hid) : Sub (up s o R) (up (up s o R) l X) := sub_up (by rw [up_ne ne.symm]; exact hl) hX
def spQt (C CE : Addr) : Spd := fun ds s Q E => ∃ (o : Addr) (z : Str) (p d : Nat) (r : List Nat), ds = [.ref o] ∧ s o = some (rd C z p) ∧ z.length ≤ 4000 ∧ rsT z p = 34 :: r ∧ At z (p + 1) ⟨.ins, d, 0⟩ ∧
  Kp ((∀ (t : List Nat) (p' : Nat), p < p' → rsT z p = wr (.str (S t)) ++ rsT z p' → EndAt z p' d → Q (.str (S t)) (up s o (rd C z p'))) ∧ Rfd C CE z s o E)
theorem ok_qt (T : TxR P w K mg C CE) (G_is_text_sign : Fn P w K mg base "is_text_sign" 1 ["sign"] spIsT) (G_Reader_sign : Mt P w K mg base C "sign" 1 ["self"] (spSign C)) (G_Reader_refuse : MtX P w K mg base C "refuse" 3 ["self"] (spRef C CE)) : MtX P w K mg base C "quoted_text" 4 ["self"] (spQt C CE) := by
  refine mtOkX T.m_quoted_text sc_Reader_quoted_text (fun ds s Q E h => ?_) (fun A f cdv Ar outer s H E Ex hr tk => (dsc (dsset (i := 1) sc_Reader_quoted_text.nd rfl (Or.inl rfl) (dlstM dan))
  (dsc (dsaugfld T.c_Reader T.n_Reader_at in_add (dpv 0) pe_int)
  (ds1 (dswhile (passes_of rfl) (dtruth dbl) (dsc (dsif ((dpand (dtcmp (od_eq hr.units) (dfrz (dM0 T.c_Reader G_Reader_sign (hr.mono (by omega)) (dpv 0))) (dgstr T.g_QUOTE) (nomark _)) (dpand1 (dtcmp (od_eq hr.units) (dslice sl_d (dfld T.c_Reader T.n_Reader_text (dpv 0)) (dpo (dop od_add (dfld T.c_Reader T.n_Reader_at (dpv 0)) dint)) (dpo (dop od_add (dfld T.c_Reader T.n_Reader_at (dpv 0)) dint))) (dgstr T.g_QUOTE) (nomark _))))).pt
  (ds1 (dsaugfld T.c_Reader T.n_Reader_at in_add (dpv 0) pe_int))
  (ds1 (dsif (dtcmp (od_eq hr.units) (dfrz (dM0 T.c_Reader G_Reader_sign (hr.mono (by omega)) (dpv 0))) (dgstr T.g_QUOTE) (nomark _))
  (dsc (dsaugfld T.c_Reader T.n_Reader_at in_add (dpv 0) pe_int)
  (ds1 (dsretS (dbm PySem.F.plainAttrs_str PySem.F.slot_str_join PySem.F.type_str_join md_join dstr (dac (dpv 1) dan)))))
  (ds1 (dsif ((dpor (dtcmp (od_eq hr.units) (dfrz (dM0 T.c_Reader G_Reader_sign (hr.mono (by omega)) (dpv 0))) dstr (nomark _)) (dpor1 (dpnot (dtruth (dfrz (dF G_is_text_sign (hr.mono (by omega)) (dac (dfrz (dM0 T.c_Reader G_Reader_sign (hr.mono (by omega)) (dpv 0))) dan)))))))).pt
  (ds1 (dsexpr (dfrz (dMX0 T.c_Reader G_Reader_refuse (hr.mono (by omega)) tk (dpv 0)))))
  dsn)))))
  (dsc (dsexpr (dbm PySem.F.plainAttrs_list PySem.F.slot_list_append PySem.F.type_list_append md_append (dpv 1) (dac (dfrz (dM0 T.c_Reader G_Reader_sign (hr.mono (by omega)) (dpv 0))) dan)))
  (ds1 (dsaugfld T.c_Reader T.n_Reader_at in_add (dpv 0) pe_int))))))))) (fun ds s Q E h => ?_)
  · obtain ⟨o, z, p, d, r, rfl, q⟩ := h
    rfl
  · obtain ⟨o, z, p, d, r, rfl, h1, hz, hr, ha, q⟩ := h
    have e5 := @rd_put z p (.int ((p : Int) + 1))
    have l2 := @rd_l2 z p
    walk_at "dl"
    refine ⟨Nat.zero_le _, fun l hl => ?_⟩
    have ne : o ≠ l := ne_up h1 hl
    have h1' : up s l (.lst []) o = some (rd C z p) := by rw [up_ne ne]; exact h1
    walk_at "dl"
    refine ⟨by show (2 : Nat) < 1000; decide, ?_⟩
    refine ⟨fun m δ s' => ∃ (pre : List Nat) (k : Nat), δ = [some (.ref o), some (.ref l)] ∧ s' = up (up s o (rd C z k)) l (.lst (pre.map fun c => DV.str (S [c]))) ∧ rsT z p = 34 :: (StrLaws.dbl 34 pre ++ rsT z k) ∧ p < k ∧ At z k ⟨.ins, d, 0⟩ ∧ m = z.length - k,
      ⟨z.length - (p + 1), [], p + 1, rfl, ?_, ?_, Nat.lt_succ_self _, ha, rfl⟩, ?_⟩
    · show up (up s l (.lst [])) o (rd C z (p + 1)) = _
      rw [up_comm ne.symm]
      rfl
    · rw [rest_cons hr, hr]
      rfl
    rintro m δ s' ⟨pre, k, rfl, rfl, hp, hpk, ha, rfl⟩
    clear hr h1'
    have e1 : up (up s o (rd C z k)) l (.lst (pre.map fun c => DV.str (S [c]))) o = some (rd C z k) := by rw [up_ne ne, up_same]
    have e0 : ∀ x, up (up s o (rd C z k)) l x l = some x := fun x => up_same
    have l1 := @rd_l1 z k
    have l2 := @rd_l2 z k
    have l3 := @rd_l3 z k "sign" (by decide +kernel) (by decide +kernel)
    have l4 := @rd_l3 z k "refuse" (by decide +kernel) (by decide +kernel)
    have hz2 := size_le (show z.length ≤ 1000000 by omega)
    have c2 := @cut_2 z k
    have e6 := @rd_put z k (.int ((k : Int) + 1))
    have hkz := ha.le
    have hpre : pre.length ≤ 4000 := by
      have a1 := congrArg List.length hp
      rw [rest_len, List.length_cons, List.length_append] at a1
      have a2 := dbl_ge 34 pre
      omega
    have hE : walk (DL.tl z) = some k → E (.ref CE) [("at", .int (k : Int))] (up (up s o (rd C z k)) l (.lst (pre.map fun c => DV.str (S [c])))) := fun hw => q.out.2 k _ hw fun a a1 a2 => by
      have nl : a ≠ l := fun e => a2 (e ▸ hl)
      rw [up_ne nl, up_ne a1]
    have hpK := Kp.mk hp
    clear hp
    walk_at "dl"
    cases hk : rsT z k with
    | nil =>
      have q1 : (rsT z k).take 1 = [] := by rw [hk]; rfl
      have q3 : decide (S ([] : List Nat) = Str.ofString "\"") = false := by rw [S_dec, t34]; rfl
      have q4 : decide (S ([] : List Nat) = Str.ofString "") = true := by rw [S_dec, t0]; rfl
      have hE2 := hE (ha.inse hk)
      clear hk
      refine ifS_false (fun Q q => ?_) ?_
      · walk_at "dl"
        refine ⟨o, z, k, rfl, e1, hz, ⟨?_⟩⟩
        rw [q1]
        walk_at "dl"
        all_goals assumption
      walk_at "dl"
      refine ifS_false (fun Q q => ?_) ?_
      · walk_at "dl"
        refine ⟨o, z, k, rfl, e1, hz, ⟨?_⟩⟩
        rw [q1]
        walk_at "dl"
        all_goals assumption
      walk_at "dl"
      refine ifS_true (fun Q q => ?_) ?_
      · walk_at "dl"
        refine ⟨o, z, k, rfl, e1, hz, ⟨?_⟩⟩
        rw [q1]
        walk_at "dl"
        all_goals assumption
      walk_at "dl"
      exact ⟨o, z, k, rfl, e1, ⟨hE2⟩⟩
    | cons c r2 =>
      have hp := hpK.out
      have hkl : k < z.length := by
        have a1 := congrArg List.length hk
        rw [rest_len, List.length_cons] at a1
        omega
      by_cases h34 : c = 34
      · subst h34
        have q1 : (rsT z k).take 1 = [34] := by rw [hk]; rfl
        have q3 : decide (S [34] = Str.ofString "\"") = true := by rw [S_dec, t34]; rfl
        have hr2 := rest_cons hk
        by_cases h2 : ∃ r3, r2 = 34 :: r3
        · obtain ⟨r3, rfl⟩ := h2
          have q2 : (rsT z (k + 1)).take 1 = [34] := by rw [hr2]; rfl
          have hp2 : rsT z p = 34 :: (StrLaws.dbl 34 (pre ++ [34]) ++ rsT z (k + 2)) := by
            rw [hp, hk, rest_cons hr2, dbl_append]
            show _ = 34 :: (StrLaws.dbl 34 pre ++ [34, 34] ++ r3)
            simp
          have ha2 := (ha.insq hk).quoq hr2
          clear hp hk hr2
          refine ifS_true (fun Q q => ?_) ?_
          · walk_at "dl"
            refine ⟨o, z, k, rfl, e1, hz, ⟨?_⟩⟩
            rw [q1]
            walk_at "dl"
            all_goals (try rw [q2])
            all_goals walk_at "dl"
            all_goals assumption
          walk_at "dl"
          refine ⟨by show (2 : Nat) < 1000; decide, ?_⟩
          rw [rdl ne]
          have k3 := @rd_l3 z (k + 1) "sign" (by decide +kernel) (by decide +kernel)
          have e1 : up (up s o (rd C z (k + 1))) l (.lst (pre.map fun c => DV.str (S [c]))) o = some (rd C z (k + 1)) := by rw [up_ne ne, up_same]
          refine ⟨by rw [up_same], k3, ?_⟩
          refine ⟨o, z, k + 1, rfl, e1, hz, ⟨?_⟩⟩
          rw [q2]
          have e7 := @rd_put z (k + 1) (.int (((k + 1 : Nat) : Int) + 1))
          have e8 := @rd_l2 z (k + 1)
          have e9 : ∀ x, up (up (up s o (rd C z (k + 1))) l (.lst (pre.map fun c => DV.str (S [c])))) l x o = some (rd C z (k + 1)) := fun x => by rw [up_ne ne, up_ne ne, up_same]
          walk_at "dl"
          refine ⟨size_lt (by omega), ?_⟩
          rw [up_ne ne, up_same]
          refine ⟨rfl, (by show (2 : Nat) < 1000; decide), z.length - (k + 2), by omega, pre ++ [34], k + 2, rfl, ?_, (by first | exact hp2 | rfl), by omega, ha2, rfl⟩
          rw [rdl ne, List.map_append]
          rfl
        · have q2 : decide (S ((rsT z (k + 1)).take 1) = Str.ofString "\"") = false := by
            rw [S_dec, t34, hr2]
            refine decide_eq_false fun e => h2 ?_
            cases r2 with
            | nil => cases e
            | cons c u => cases e; exact ⟨u, rfl⟩
          have hend : EndAt z (k + 1) d := (ha.insq hk).quo fun c u e e2 => h2 ⟨u, by rw [← hr2, e, e2]⟩
          have q5 := q.out.1 pre (k + 1) (by omega) (by
            rw [hp, hk, hr2]
            show _ = 34 :: (StrLaws.dbl 34 (DL.tl (S pre)) ++ [34]) ++ r2
            rw [tl_S]
            simp) hend
          clear hp hk hr2 h2
          refine ifS_false (fun Q q => ?_) ?_
          · walk_at "dl"
            refine ⟨o, z, k, rfl, e1, hz, ⟨?_⟩⟩
            rw [q1]
            walk_at "dl"
            all_goals assumption
          walk_at "dl"
          refine ifS_true (fun Q q => ?_) ?_
          · walk_at "dl"
            refine ⟨o, z, k, rfl, e1, hz, ⟨?_⟩⟩
            rw [q1]
            walk_at "dl"
            all_goals assumption
          walk_at "dl"
          refine ⟨by show (2 : Nat) < 1000; decide, ?_⟩
          rw [rdl ne]
          walk_at "dl"
          rw [strs_one]
          have e9 : (Str.ofString "").length = 0 := by decide +kernel
          refine ⟨by rw [sum_one, e9]; omega, up s o (rd C z (k + 1)), sub_drop hl ne (fun z => nomatch z), ?_⟩
          rw [join_ones]
          exact q5
      · have q1 : (rsT z k).take 1 = [c] := by rw [hk]; rfl
        have q3 : decide (S [c] = Str.ofString "\"") = false := by rw [S_dec, t34]; exact decide_eq_false fun e => h34 (by cases e; rfl)
        have q4 : decide (S [c] = Str.ofString "") = false := by rw [S_dec, t0]; rfl
        cases hts : txs c with
        | true =>
          have hs : 32 ≤ c ∧ c ≤ 126 ∧ c ≠ 37 := of_decide_eq_true hts
          have hp2 : rsT z p = 34 :: (StrLaws.dbl 34 (pre ++ [c]) ++ rsT z (k + 1)) := by
            rw [hp, hk, rest_cons hk, dbl_append, dbl_cons_ne h34]
            show _ = 34 :: (StrLaws.dbl 34 pre ++ [c] ++ r2)
            simp
          have ha2 := ha.ins hk hts h34
          clear hp hk hts
          refine ifS_false (fun Q q => ?_) ?_
          · walk_at "dl"
            refine ⟨o, z, k, rfl, e1, hz, ⟨?_⟩⟩
            rw [q1]
            walk_at "dl"
            all_goals assumption
          walk_at "dl"
          refine ifS_false (fun Q q => ?_) ?_
          · walk_at "dl"
            refine ⟨o, z, k, rfl, e1, hz, ⟨?_⟩⟩
            rw [q1]
            walk_at "dl"
            all_goals assumption
          walk_at "dl"
          refine ifS_false (fun Q q => ?_) ?_
          · walk_at "dl"
            refine ⟨o, z, k, rfl, e1, hz, ⟨?_⟩⟩
            rw [q1]
            walk_at "dl"
            refine ⟨o, z, k, rfl, e1, hz, ⟨?_⟩⟩
            rw [q1]
            walk_at "dl"
            refine ⟨c, rfl, ⟨?_⟩⟩
            rw [decide_eq_true hs]
            walk_at "dl"
            all_goals assumption
          walk_at "dl"
          refine ⟨o, z, k, rfl, e1, hz, ⟨?_⟩⟩
          rw [q1]
          walk_at "dl"
          refine ⟨size_lt (by omega), ?_⟩
          rw [up_ne ne, up_same]
          refine ⟨rfl, (by show (2 : Nat) < 1000; decide), z.length - (k + 1), by omega, pre ++ [c], k + 1, rfl, ?_, (by first | exact hp2 | rfl), by omega, ha2, rfl⟩
          rw [rdl ne, List.map_append]
          rfl
        | false =>
          have hs : ¬ (32 ≤ c ∧ c ≤ 126 ∧ c ≠ 37) := of_decide_eq_false hts
          have hE2 := hE (ha.insb hk hts)
          clear hp hk hts
          refine ifS_false (fun Q q => ?_) ?_
          · walk_at "dl"
            refine ⟨o, z, k, rfl, e1, hz, ⟨?_⟩⟩
            rw [q1]
            walk_at "dl"
            all_goals assumption
          walk_at "dl"
          refine ifS_false (fun Q q => ?_) ?_
          · walk_at "dl"
            refine ⟨o, z, k, rfl, e1, hz, ⟨?_⟩⟩
            rw [q1]
            walk_at "dl"
            all_goals assumption
          walk_at "dl"
          refine ifS_true (fun Q q => ?_) ?_
          · walk_at "dl"
            refine ⟨o, z, k, rfl, e1, hz, ⟨?_⟩⟩
            rw [q1]
            walk_at "dl"
            refine ⟨o, z, k, rfl, e1, hz, ⟨?_⟩⟩
            rw [q1]
            walk_at "dl"
            refine ⟨c, rfl, ⟨?_⟩⟩
            rw [decide_eq_false hs]
            walk_at "dl"
            all_goals assumption
          walk_at "dl"
          exact ⟨o, z, k, rfl, e1, ⟨hE2⟩⟩
end Law

set_option Elab.async false
set_option linter.all false
set_option maxRecDepth 100000
set_option maxHeartbeats 4000000
namespace Law
open PySem PySem.Spec PyProof.Rows L2 DL VW
local macro_rules | `(tactic| walk_at "dl") => `(tactic| (try simp only [kOp1_e, kOp2_e, kTest_q1, kChain1_e, kChain2_e, kChain3_q1, kChain3_q2, dChain_e, kAnd_q1, kAnd_q2, kOr_q1, kOr_q2, kNot_e, kIf_q1, kIf_q2, kTru_k, kTruO_q1, kTruO_q2, kCons1_e, kCons2_e, kTup_e, kLst_e, kLstM_e, kFrz_e, kDrop_q1, kRetS_e, kIfS_e, kAsg_e, kGCons_e, kPart_q1, kSl1_e, kSl2_e, kSl3_e, kSub1_e, kSub2_e, kCB_e, kBM1_e, kBM2_e, kIt_q, kItO_q, kRng1_q1, kRng2_q1, kWhile_e, kLc1_e, kLc2_e, kLc2', kLc3_e, finF_e, finM_e, kAndE_q1, kAndE_q2, kOrE_q1, kOrE_q2, kNotE_q1, kNeg_q1, kCall_e, kCallK_e, kCallK2_e, dCallK_e, kMeth, kMeth2_e, kMade_e, kMake_e, kMakeK_e, kMakeK2_e, dMakeK_e, kFld, kSetFld_e, kSetFld2, kAugFld, kAugN1_e, kAugN2_e, kPair1_q1, kPair2_q1, kPair3_e, kDisp, dSeq_e, dAsg_e, dVar_k, kVar_q1, kVar_q2, dC_e, dOp_e, gNameD_e, gNilD_e, gConsD_q1, gConsD_q2, gTupD_q1, gifT_q, gifF_q, dTest_e, dTru_e, truD_q1, truD_q2, truD_q3, truD_q5, truD_q6, truD_q7, truD, truD_qs, dAnd_e, dOr_e, dNot_e, dAndE_e, dOrE_e, dNotE_e, dNeg_e, dIf_e, dRet_e, dRetN_e, dRetS_e, dNext_e, dDrop_e, dBreak_e, dCont_e, dCB_e, dCons_e, dNil_e, dIx_str, dIx_lst_q, dIx_tup_q, dIx_scr_q, kChr_q1, kChr_q2, dIx_re, kIxR_q1, kIxR_q2, kIxK_q, ixD_q1, ixD_q2, dSl_e, dSlR_str_q, dSlR_tup_q, dSlR_lst_q, dSlR_scr, dSlR_q1, dSlR_q2, dSlM, dPart_e, dNoPart_e, dI_q1, dI0_q1, dAdd_int_q, dAdd_str_q, dAdd_tup_q, dAdd_lst_q, dAdd_q1, dAdd_q2, dAdd_q3, dMul_int_q, dMul_q1, dMul_q2, dLtB_q1, dLtB_q2, dEq_k, kEqO_q1, kEqO_q2, kEqS_q1, dNe_k, dIs_q1, dIs_q2, isNonD_q1, isNonD, dIn_tup_q, dIn_lst_q, dIn_str_q, dIn_q1, scalEq_q1, scalEq_q2, scalEq_q3, scalEq_q4, scalEq_q5, scalEq_q6, scalEq_q7, scalEq_q8, scalEq, pdS, pd_q1, pd_q2, pd_q3, pd_q4, pd_q5, pd_q6, pd_q7, pd_q8, pdL_q1, pdL, pdL_ints, pdL_strs, eqv_nil, List.isEmpty_map, refL_lst_q, refL_dK_q, refL_ins_q, lstD_lst_q, lstD_scr_q, lstD_tup_q, lstD_str_q, lstD_int_q, lstD_re, lstW_lst_q, lstW_tup_q, lstW_str_q, lstW_int_q, lstW_re, seqD_tup_q, seqD_lst_q, seqD_scr_q, seqD_str_q, seqD_int_q, seqD_re, dictD, keyD_q1, keyD_q2, keyD, dLen_k, kLenO_q1, kLenO_q2, lenD_q1, lenD_tup, lenD_lst, lenD_scr, lenD_re, lenO_q, dAbs_q1, dMin2_q1, dMax2_q1, dListM, dListF_k, kSeqF_q1, kSeqF_q2, dTupF_k, dOrd_q1, dStr_q1, dLst_e, dLstM_e, dTup_e, gSubD_e, dSetR, dFld_e, dSetFld_e, dAugFld_e, dAugN, dIpAdd_q1, dBM_e, tyD_q1, tyD_q2, tyD_q4, tyD_q5, tyD, dAppend, dPop, dJoin, strsD_map, dMeth_e, dCall_e, dMake_e, dFrz_e, frzR_lst_q, frzR_dK_q, frzR_ins_q, frz_int_q, frz_str_q, frz_bl_q, frz_non_q, frz_tup_q, frz_lst_q, frz_scr_q, frz_re, er_none, atI_zero, atI_one, ixN_zero, ixN_one, dDisp_e, dPairs, keysD_q1, keysD, dLc_e, dLcM_e, dFor_e, wipeD_q1, wipeD_q2, dYes_q1, dIt_e, itemsD_q1, itemsD_q2, itemsD_q3, itemsD_q4, itemsD, dRng1_e, dRng2_e, startD_q1, up_same, up_up, er_up, Option.map_some, List.map_cons, List.map_nil, List.length_map, List.length_cons, List.length_nil, List.replicate_succ, List.replicate_zero, List.cons_append, List.nil_append, List.append_nil, getD_qs, getD_q0, set_qs, set_q0, Nat.reduceSub, Nat.reduceAdd, Nat.zero_add, Nat.sub_zero, Bool.not_true, Bool.not_false, if_true, if_false, Bool.true_eq_false, Bool.false_eq_true, reduceIte, true_and, and_true, beq_self_eq_true, Int.reduceEq, Int.reduceLT, Int.reduceLE, Int.reduceAdd, Int.reduceSub, Int.reduceNeg, Int.reduceMul, decide_true, decide_false, dEnS_q, kEnS1_q, kEnS2_q, gStarN_q, gStarD_q, dFmt_q, kFmt_q1, kFmt_q2, dJst_q, dJs_q1, dJs_q2, kJs_q, dSplitK_q, dFind_q1, dFind_q2, dIntF_q1, dIntF_q2, dMulT_q, dPar2_q1, kPar2_q1, dPar3_q1, kPar3_q1, dIsi_q1, kIsi_q1, tyOfD_q1, tyOfD_q2, tyOfD_q3, tyOfD_q4, tyOfD_q5, tyOfD_q6, tyOfD_q7, tyOfD_q8, tyOfO_q1, tyOfO_q2, tyOfO, isT_q1, isT_q2, isT_q3, isT_q4, isT_q5, isT_q6, isT_q7, isT_q8, tyN_bool, tyN_int, tyN_str, tyN_tuple, tyN_list, dRev_q1, kRev_q1, kRev_q2, kRev_q3, dRepl_q, kRepl_q, dReplAA_q, kReplAA_q, dMulS_q1, dSplit1_q, dJoin_lst, kJoinS_q, dEqE_q, kEqE_q, dIntS_q, dInKD_q, dIxKD_q, kMethX2_q, dMethX_q, kMethX, kRaise_q, dRaise_q, kCallX_q, dCallX_q, dTry_q, kEndsD_nx, isNonD_q1, isNonD, dFldE_q, kFldE, dIsk, *]))
local macro_rules | `(tactic| walk_at "side") => `(tactic| first | omega | exact size_lt (by omega) | exact size_le (by omega) | exact mulS (by omega) (by omega) | exact mulS' (by omega) (by omega) | exact cdiv (by omega) (by omega) | exact shaped_ints _ | exact shaped_nil | assumption)
local macro_rules | `(tactic| walk_at "sides") => `(tactic| repeat ((with_reducible refine And.intro ?_ ?_); next => walk_at "side"))
local macro_rules | `(tactic| walk_at "if") => `(tactic| (refine ifS ?_; walk_at "dl"))
local macro_rules | `(tactic| walk_at "for") => `(tactic| (unfold dFor; walk_at "dl"; walk_at "sides"))
local macro_rules | `(tactic| walk_at "upf") => `(tactic| first | exact up_same | assumption | ((rw [up_ne (by first | assumption | exact Ne.symm (by assumption))]); walk_at "upf") | ((rw [er_ne (by first | assumption | exact Ne.symm (by assumption))]); walk_at "upf"))

local macro_rules | `(tactic| walk_at "tst") => `(tactic| (intro Q q; walk_at "dl"; all_goals assumption))
variable {P : Program} {w : World} {K : PySem.W.Frag} {mg : Str → Option Value} {base : Heap} {C CE fI : Addr}
/-! ### a value that is no tuple -/
theorem gp_none {c : Nat} (h1 : c ≠ 45) (h2 : c ≠ 43) (h3 : c ≠ 33) : getP plainD (.inr (S [c])) = none := by
  have d1 : ¬ ((.inr "-" : Key) = .inr (S [c])) := fun e => h1 (by have e2 := congrArg DL.tl (Sum.inr.inj e).symm; rw [t45] at e2; cases e2; rfl)
  have d2 : ¬ ((.inr "+" : Key) = .inr (S [c])) := fun e => h2 (by have e2 := congrArg DL.tl (Sum.inr.inj e).symm; rw [t43] at e2; cases e2; rfl)
  have d3 : ¬ ((.inr "!" : Key) = .inr (S [c])) := fun e => h3 (by have e2 := congrArg DL.tl (Sum.inr.inj e).symm; rw [t33] at e2; cases e2; rfl)
  unfold getP
  rw [List.find?_cons_of_neg (by simpa using d1), List.find?_cons_of_neg (by simpa using d2), List.find?_cons_of_neg (by simpa using d3)]
  rfl
theorem gp45 : getP plainD (.inr (S [45])) = some .non := by
  have e : S [45] = ("-" : Str) := ext_tl t45.symm
  rw [e]
  unfold getP
  rw [List.find?_cons_of_pos (by simp)]
  rfl
theorem gp43 : getP plainD (.inr (S [43])) = some (.bl true) := by
  have e : S [43] = ("+" : Str) := ext_tl t43.symm
  have d1 : ¬ ((.inr "-" : Key) = .inr ("+" : Str)) := by decide +kernel
  rw [e]
  unfold getP
  rw [List.find?_cons_of_neg (by simpa using d1), List.find?_cons_of_pos (by simp)]
  rfl
theorem gp33 : getP plainD (.inr (S [33])) = some (.bl false) := by
  have e : S [33] = ("!" : Str) := ext_tl t33.symm
  have d1 : ¬ ((.inr "-" : Key) = .inr ("!" : Str)) := by decide +kernel
  have d2 : ¬ ((.inr "+" : Key) = .inr ("!" : Str)) := by decide +kernel
  rw [e]
  unfold getP
  rw [List.find?_cons_of_neg (by simpa using d1), List.find?_cons_of_neg (by simpa using d2), List.find?_cons_of_pos (by simp)]
  rfl
theorem gp0 : getP plainD (.inr (S [])) = none := by
  have e : S [] = ("" : Str) := ext_tl t0.symm
  have d1 : ¬ ((.inr "-" : Key) = .inr ("" : Str)) := by decide +kernel
  have d2 : ¬ ((.inr "+" : Key) = .inr ("" : Str)) := by decide +kernel
  have d3 : ¬ ((.inr "!" : Key) = .inr ("" : Str)) := by decide +kernel
  rw [e]
  unfold getP
  rw [List.find?_cons_of_neg (by simpa using d1), List.find?_cons_of_neg (by simpa using d2), List.find?_cons_of_neg (by simpa using d3)]
  rfl
def ValK (C CE : Addr) (z : Str) (p d : Nat) (s : Sto) (o : Addr) (Q : KD) (E : XDd) : Prop := (∀ (v : DV) (p' : Nat), Wu v → p < p' → rsT z p = wr v ++ rsT z p' → EndAt z p' d → Q v (up s o (rd C z p'))) ∧ Rfd C CE z s o E
def spSgl (C CE : Addr) : Spd := fun ds s Q E => ∃ (o : Addr) (z : Str) (p d : Nat), ds = [.ref o] ∧ s o = some (rd C z p) ∧ z.length ≤ 4000 ∧ Beg z p d ∧ (∀ r, rsT z p ≠ 40 :: r) ∧ Kp (ValK C CE z p d s o Q E)
theorem ok_single (T : TxR P w K mg C CE) (G_Reader_sign : Mt P w K mg base C "sign" 1 ["self"] (spSign C)) (G_Reader_number : Mt P w K mg base C "number" 3 ["self"] (spNum C)) (G_Reader_quoted_text : MtX P w K mg base C "quoted_text" 4 ["self"] (spQt C CE)) (G_Reader_refuse : MtX P w K mg base C "refuse" 3 ["self"] (spRef C CE)) : MtX P w K mg base C "single" 5 ["self"] (spSgl C CE) := by
  obtain ⟨aP, kP, hmP, ZP, hDP⟩ := T.g_PLAIN.ex
  refine mtOkX T.m_single sc_Reader_single (fun ds s Q E h => ?_) (fun A f cdv Ar outer s H E Ex hr tk => (dsc (dsset (i := 1) sc_Reader_single.nd rfl (Or.inl rfl) (dfrz (dM0 T.c_Reader G_Reader_sign (hr.mono (by omega)) (dpv 0))))
  (dsc (dsset (i := 2) sc_Reader_single.nd rfl (Or.inl rfl) (dslice sl_d (dfld T.c_Reader T.n_Reader_text (dpv 0)) (dpo (dop od_add (dfld T.c_Reader T.n_Reader_at (dpv 0)) dint)) (dpo (dop od_add (dfld T.c_Reader T.n_Reader_at (dpv 0)) dint))))
  (dsc (dsif ((dpand (dtcmp (od_eq hr.units) (dpv 1) dstr (nomark _)) (dpand (dtcmp (od_ne hr.units) (dpv 2) dstr (nomark _)) (dpand (dtcmp od_in (dpv 2) (dgstr T.g_FIGURES) (by rfl)) (dpand1 (dtcmp (od_ne hr.units) (dpv 2) dstr (nomark _))))))).pt
  (dsc (dsaugfld T.c_Reader T.n_Reader_at in_add (dpv 0) pe_int)
  (ds1 (dsret (dop od_sub dint (dfrz (dM0 T.c_Reader G_Reader_number (hr.mono (by omega)) (dpv 0)))))))
  dsn)
  (dsc (dsif (dtcmp (od_inKD ZP hDP) (dpv 1) (dglob (v := .ref aP) hmP rfl (fun _ _ _ => .ref _)) (by rfl))
  (dsc (dsaugfld T.c_Reader T.n_Reader_at in_add (dpv 0) pe_int)
  (ds1 (dsret (dixKD ZP hDP (dglob (v := .ref aP) hmP rfl (fun _ _ _ => .ref _)) (dpv 1)))))
  dsn)
  (dsc (dsif (dtcmp (od_eq hr.units) (dpv 1) (dgstr T.g_QUOTE) (nomark _))
  (ds1 (dsret (dfrz (dMX0 T.c_Reader G_Reader_quoted_text (hr.mono (by omega)) tk (dpv 0)))))
  dsn)
  (dsc (dsif ((dpor (dtcmp (od_eq hr.units) (dpv 1) dstr (nomark _)) (dpor1 (dtcmp od_notin (dpv 1) (dgstr T.g_FIGURES) (by rfl))))).pt
  (ds1 (dsexpr (dfrz (dMX0 T.c_Reader G_Reader_refuse (hr.mono (by omega)) tk (dpv 0)))))
  dsn)
  (ds1 (dsret (dfrz (dM0 T.c_Reader G_Reader_number (hr.mono (by omega)) (dpv 0)))))))))))) (fun ds s Q E h => ?_)
  · obtain ⟨o, z, p, d, rfl, q⟩ := h
    rfl
  · obtain ⟨o, z, p, d, rfl, h1, hz, hb, h40, q⟩ := h
    have l1 := @rd_l1 z p
    have l2 := @rd_l2 z p
    have l3 := @rd_l3 z p "sign" (by decide +kernel) (by decide +kernel)
    have l4 := @rd_l3 z p "number" (by decide +kernel) (by decide +kernel)
    have l5 := @rd_l3 z p "quoted_text" (by decide +kernel) (by decide +kernel)
    have l6 := @rd_l3 z p "refuse" (by decide +kernel) (by decide +kernel)
    have hz2 := size_le (show z.length ≤ 1000000 by omega)
    have c2 := @cut_2 z p
    have e6 := @rd_put z p (.int ((p : Int) + 1))
    walk_at "dl"
    refine ⟨o, z, p, rfl, h1, hz, ⟨?_⟩⟩
    cases hr : rsT z p with
    | nil =>
      have q3 : decide (S (([] : List Nat).take 1) = Str.ofString "-") = false := by rw [S_dec, t45]; rfl
      have q4 : decide (S (([] : List Nat).take 1) = Str.ofString "\"") = false := by rw [S_dec, t34]; rfl
      have q5 : decide (S (([] : List Nat).take 1) = Str.ofString "") = true := by rw [S_dec, t0]; rfl
      have g1 : getP plainD (.inr (S (([] : List Nat).take 1))) = none := gp0
      have hE := q.out.2 p s (hb.stop hr) fun a _ _ => rfl
      clear hr h40
      walk_at "dl"
      refine ifS_false (fun Q q => ?_) ?_
      · walk_at "dl"
        all_goals assumption
      walk_at "dl"
      refine ifS_false (fun Q q => ?_) ?_
      · walk_at "dl"
        all_goals assumption
      walk_at "dl"
      refine ifS_false (fun Q q => ?_) ?_
      · walk_at "dl"
        all_goals assumption
      walk_at "dl"
      refine ifS_true (fun Q q => ?_) ?_
      · walk_at "dl"
        all_goals assumption
      walk_at "dl"
      exact ⟨o, z, p, rfl, h1, ⟨hE⟩⟩
    | cons c r =>
      have ec : (c :: r).take 1 = [c] := rfl
      rw [ec]
      have n40 : c ≠ 40 := fun e => h40 r (e ▸ hr)
      have hr2 := rest_cons hr
      have hrK := Kp.mk hr
      by_cases c45 : c = 45
      · subst c45
        have q3 : decide (S [45] = Str.ofString "-") = true := by rw [S_dec, t45]; rfl
        have g1 := gp45
        have ha := hb.one hr (e := .min) rfl n40
        by_cases hx : ∃ x u, r = x :: u ∧ 49 ≤ x ∧ x ≤ 57
        · obtain ⟨x, u, rfl, hx⟩ := hx
          have q2 : (rsT z (p + 1)).take 1 = [x] := by rw [hr2]; rfl
          have q4 : decide (S [x] = Str.ofString "0") = false := by rw [S_dec, t48]; exact decide_eq_false fun e => by cases e; omega
          have q5 : decide (S [x] = Str.ofString "") = false := by rw [S_dec, t0]; rfl
          have q6 : subS (S [x]) (Str.ofString "0123456789") = true := fig_in.trans (decide_eq_true ⟨by omega, hx.2⟩)
          have hm := (show At z (p + 1) ⟨.min, d, 0⟩ from ha).minf hr2 hx
          have hr3K := Kp.mk hr2
          clear hr hr2 h40
          walk_at "dl"
          refine ifS_true (fun Q q => ?_) ?_
          · walk_at "dl"
            all_goals assumption
          walk_at "dl"
          refine ⟨(by show (2 : Nat) < 1000; decide), @rd_l3 z (p + 1) "number" (by decide +kernel) (by decide +kernel), ?_⟩
          refine ⟨o, z, p + 1, d, rfl, up_same, hz, .inr ⟨x, u, hr3K.out, hx, hm⟩, ⟨fun n p' hn hp' hw he => ?_⟩⟩
          have n0 : n ≠ 0 := fun e => by
            subst e
            rw [hr3K.out, TL.numL_lt (by decide)] at hw
            cases hw
            omega
          have e9 : (0 : Int) - (n : Int) = Int.negSucc (n - 1) := by omega
          have q7 := q.out.1 (.int (Int.negSucc (n - 1))) p' (.int _ (by show n - 1 + 1 < _; omega)) (by omega) (by
            rw [hrK.out, ← hr3K.out, hw]
            show _ = 45 :: TL.numL (n - 1 + 1) ++ _
            rw [show n - 1 + 1 = n by omega]
            rfl) he
          have e10 : ∀ x y, up (up s o x) o y = up s o y := fun x y => up_up
          clear hw
          walk_at "dl"
          all_goals first | exact q7 | (rw [e9]; exact q7)
        · have he : EndAt z (p + 1) d := (show At z (p + 1) ⟨.min, d, 0⟩ from ha).min fun x u e e2 => hx ⟨x, u, by rw [← hr2]; exact e, e2⟩
          have q7 := q.out.1 .non (p + 1) .non (by omega) (by rw [hr, hr2]; rfl) he
          have key : r = [] ∨ (∃ u, r = 48 :: u) ∨ ∃ x u, r = x :: u ∧ ¬ isFig x := by
            cases r with
            | nil => exact .inl rfl
            | cons x u =>
              by_cases h48 : x = 48
              · exact .inr (.inl ⟨u, by rw [h48]⟩)
              · refine .inr (.inr ⟨x, u, rfl, fun e => hx ⟨x, u, rfl, by omega⟩⟩)
          have hr2K := Kp.mk hr2
          clear hr hx hr2
          walk_at "dl"
          refine ifS_false (fun Q q => ?_) ?_
          · rcases key with rfl | ⟨u, rfl⟩ | ⟨x, u, rfl, hx⟩
            · have q2 : (rsT z (p + 1)).take 1 = [] := by rw [hr2K.out]; rfl
              have q4 : decide (S ([] : List Nat) = Str.ofString "") = true := by rw [S_dec, t0]; rfl
              clear hr2K
              walk_at "dl"
              all_goals assumption
            · have q2 : (rsT z (p + 1)).take 1 = [48] := by rw [hr2K.out]; rfl
              have q4 : decide (S [48] = Str.ofString "") = false := by rw [S_dec, t0]; rfl
              have q5 : subS (S [48]) (Str.ofString "0123456789") = true := fig_in.trans (decide_eq_true (by omega))
              have q6 : decide (S [48] = Str.ofString "0") = true := by rw [S_dec, t48]; rfl
              clear hr2K
              walk_at "dl"
              all_goals assumption
            · have q2 : (rsT z (p + 1)).take 1 = [x] := by rw [hr2K.out]; rfl
              have q4 : decide (S [x] = Str.ofString "") = false := by rw [S_dec, t0]; rfl
              have q5 : subS (S [x]) (Str.ofString "0123456789") = false := fig_in.trans (decide_eq_false hx)
              clear hr2K
              walk_at "dl"
              all_goals assumption
          clear key
          walk_at "dl"
          refine ifS_true (fun Q q => ?_) ?_
          · walk_at "dl"
            all_goals assumption
          walk_at "dl"
          exact ⟨(by show (2 : Nat) < 1000; decide), q7⟩
      · have q3 : decide (S [c] = Str.ofString "-") = false := by rw [S_dec, t45]; exact decide_eq_false fun e => c45 (by cases e; rfl)
        by_cases c43 : c = 43
        · subst c43
          have g1 := gp43
          have q7 := q.out.1 (.bl true) (p + 1) (.bl true) (by omega) (by rw [hr, hr2]; rfl) (show At z (p + 1) ⟨.beh, d, 0⟩ from hb.one hr (e := .beh) rfl n40).beh
          clear hr hr2 h40
          walk_at "dl"
          refine ifS_false (fun Q q => ?_) ?_
          · walk_at "dl"
            all_goals assumption
          walk_at "dl"
          refine ifS_true (fun Q q => ?_) ?_
          · walk_at "dl"
            all_goals assumption
          walk_at "dl"
          exact ⟨(by show (2 : Nat) < 1000; decide), q7⟩
        · by_cases c33 : c = 33
          · subst c33
            have g1 := gp33
            have q7 := q.out.1 (.bl false) (p + 1) (.bl false) (by omega) (by rw [hr, hr2]; rfl) (show At z (p + 1) ⟨.beh, d, 0⟩ from hb.one hr (e := .beh) rfl n40).beh
            clear hr hr2 h40
            walk_at "dl"
            refine ifS_false (fun Q q => ?_) ?_
            · walk_at "dl"
              all_goals assumption
            walk_at "dl"
            refine ifS_true (fun Q q => ?_) ?_
            · walk_at "dl"
              all_goals assumption
            walk_at "dl"
            exact ⟨(by show (2 : Nat) < 1000; decide), q7⟩
          · have g1 := gp_none (c := c) c45 c43 c33
            by_cases c34 : c = 34
            · subst c34
              have q4 : decide (S [34] = Str.ofString "\"") = true := by rw [S_dec, t34]; rfl
              have ha := hb.one hr (e := .ins) rfl n40
              clear hr hr2 h40
              walk_at "dl"
              refine ifS_false (fun Q q => ?_) ?_
              · walk_at "dl"
                all_goals assumption
              walk_at "dl"
              refine ifS_false (fun Q q => ?_) ?_
              · walk_at "dl"
                all_goals assumption
              walk_at "dl"
              refine ifS_true (fun Q q => ?_) ?_
              · walk_at "dl"
                all_goals assumption
              walk_at "dl"
              refine ⟨o, z, p, d, r, rfl, h1, hz, hrK.out, ha, ⟨fun t p' hp' hw he => ?_, fun qq s' hw hs => q.out.2 qq s' hw hs⟩⟩
              have q7 := q.out.1 _ p' (.str _) hp' hw he
              clear hw
              walk_at "dl"
              all_goals exact q7
            · have q4 : decide (S [c] = Str.ofString "\"") = false := by rw [S_dec, t34]; exact decide_eq_false fun e => c34 (by cases e; rfl)
              have q5 : decide (S [c] = Str.ofString "") = false := by rw [S_dec, t0]; rfl
              by_cases hf : isFig c
              · have q6 : subS (S [c]) (Str.ofString "0123456789") = true := fig_in.trans (decide_eq_true hf)
                have hc : ((∃ r, rsT z p = 48 :: r ∧ At z (p + 1) ⟨.beh, d, 0⟩) ∨ ∃ c r, rsT z p = c :: r ∧ (49 ≤ c ∧ c ≤ 57) ∧ At z (p + 1) ⟨.fig, d, 1⟩) := by
                  by_cases c48 : c = 48
                  · subst c48
                    exact .inl ⟨r, hr, hb.one hr (e := .beh) rfl n40⟩
                  · have hc2 : 49 ≤ c ∧ c ≤ 57 := by omega
                    exact .inr ⟨c, r, hr, hc2, hb.one hr (e := .fig) (beg_fig hc2) n40⟩
                have hcK := Kp.mk hc
                clear hr hr2 h40 hc
                walk_at "dl"
                refine ifS_false (fun Q q => ?_) ?_
                · walk_at "dl"
                  all_goals assumption
                walk_at "dl"
                refine ifS_false (fun Q q => ?_) ?_
                · walk_at "dl"
                  all_goals assumption
                walk_at "dl"
                refine ifS_false (fun Q q => ?_) ?_
                · walk_at "dl"
                  all_goals assumption
                walk_at "dl"
                refine ifS_false (fun Q q => ?_) ?_
                · walk_at "dl"
                  all_goals assumption
                walk_at "dl"
                refine ⟨o, z, p, d, rfl, h1, hz, hcK.out, ⟨fun n p' hn hp' hw he => ?_⟩⟩
                have q7 := q.out.1 (.int (n : Int)) p' (.int _ hn) hp' hw he
                clear hw
                walk_at "dl"
                all_goals exact q7
              · have q6 : subS (S [c]) (Str.ofString "0123456789") = false := fig_in.trans (decide_eq_false hf)
                have hE := q.out.2 p s (hb.bad hr (beg_none hf c43 c33 c45 c34 n40)) fun a _ _ => rfl
                clear hr hr2 h40
                walk_at "dl"
                refine ifS_false (fun Q q => ?_) ?_
                · walk_at "dl"
                  all_goals assumption
                walk_at "dl"
                refine ifS_false (fun Q q => ?_) ?_
                · walk_at "dl"
                  all_goals assumption
                walk_at "dl"
                refine ifS_false (fun Q q => ?_) ?_
                · walk_at "dl"
                  all_goals assumption
                walk_at "dl"
                refine ifS_true (fun Q q => ?_) ?_
                · walk_at "dl"
                  all_goals assumption
                walk_at "dl"
                exact ⟨o, z, p, rfl, h1, ⟨hE⟩⟩
def spAlo (C CE : Addr) : Spd := fun ds s Q E => ∃ (o : Addr) (z : Str) (p d : Nat), ds = [.ref o] ∧ s o = some (rd C z p) ∧ z.length ≤ 4000 ∧ Beg z p d ∧ (∀ r, rsT z p = 40 :: r → ∃ u, r = 41 :: u) ∧ Kp (ValK C CE z p d s o Q E)
theorem ok_alone (T : TxR P w K mg C CE) (G_Reader_sign : Mt P w K mg base C "sign" 1 ["self"] (spSign C)) (G_Reader_single : MtX P w K mg base C "single" 5 ["self"] (spSgl C CE)) : MtX P w K mg base C "value_alone" 6 ["self"] (spAlo C CE) := by
  refine mtOkX T.m_value_alone sc_Reader_value_alone (fun ds s Q E h => ?_) (fun A f cdv Ar outer s H E Ex hr tk => (dsc (dsif (dtcmp (od_ne hr.units) (dfrz (dM0 T.c_Reader G_Reader_sign (hr.mono (by omega)) (dpv 0))) dstr (nomark _))
  (ds1 (dsret (dfrz (dMX0 T.c_Reader G_Reader_single (hr.mono (by omega)) tk (dpv 0)))))
  dsn)
  (dsc (dsaugfld T.c_Reader T.n_Reader_at in_add (dpv 0) pe_int)
  (ds1 (dsret (dtup dan)))))) (fun ds s Q E h => ?_)
  · obtain ⟨o, z, p, d, rfl, q⟩ := h
    rfl
  · obtain ⟨o, z, p, d, rfl, h1, hz, hb, h40, q⟩ := h
    have l2 := @rd_l2 z p
    have l3 := @rd_l3 z p "sign" (by decide +kernel) (by decide +kernel)
    have l4 := @rd_l3 z p "single" (by decide +kernel) (by decide +kernel)
    have e6 := @rd_put z p (.int ((p : Int) + 2))
    by_cases h : ∃ r, rsT z p = 40 :: r
    · obtain ⟨r, hr⟩ := h
      obtain ⟨u, rfl⟩ := h40 r hr
      have q1 : (rsT z p).take 1 = [40] := by rw [hr]; rfl
      have q3 : decide (S [40] = Str.ofString "(") = true := by rw [S_dec, t40]; rfl
      have q7 := q.out.1 (.tup []) (p + 2) (.tup [] fun d hd => (nomatch hd)) (by omega) (by rw [rest_cons (rest_cons hr), hr]; rfl) ((hb.opn hr).empty (rest_cons hr))
      clear hr h40
      walk_at "dl"
      refine ifS_false (fun Q q => ?_) ?_
      · walk_at "dl"
        refine ⟨o, z, p, rfl, h1, hz, ⟨?_⟩⟩
        rw [q1]
        walk_at "dl"
        all_goals assumption
      walk_at "dl"
      exact ⟨(by show (2 : Nat) < 1000; decide), Nat.zero_le _, q7⟩
    · have q3 : decide (S ((rsT z p).take 1) = Str.ofString "(") = false := by
        rw [S_dec, t40]
        refine decide_eq_false fun e => h ?_
        cases hr : rsT z p with
        | nil => rw [hr] at e; cases e
        | cons c r => rw [hr] at e; cases e; exact ⟨r, rfl⟩
      have h41 : ∀ r, rsT z p ≠ 40 :: r := fun r e => h ⟨r, e⟩
      have h41K := Kp.mk h41
      clear h h41 h40
      walk_at "dl"
      refine ifS_true (fun Q q => ?_) ?_
      · walk_at "dl"
        refine ⟨o, z, p, rfl, h1, hz, ⟨?_⟩⟩
        walk_at "dl"
        all_goals assumption
      walk_at "dl"
      refine ⟨o, z, p, d, rfl, h1, hz, hb, h41K.out, ⟨fun v p' hv hp' hw he => ?_, fun qq s' hw hs => q.out.2 qq s' hw hs⟩⟩
      have fz := hv.frz
      have q7 := q.out.1 v p' hv hp' hw he
      clear hw
      walk_at "dl"
      all_goals exact q7
end Law

set_option Elab.async false
set_option linter.all false
set_option maxRecDepth 100000
set_option maxHeartbeats 4000000
namespace Law
open PySem PySem.Spec PyProof.Rows L2 DL VW
local macro_rules | `(tactic| walk_at "dl") => `(tactic| (try simp only [kOp1_e, kOp2_e, kTest_q1, kChain1_e, kChain2_e, kChain3_q1, kChain3_q2, dChain_e, kAnd_q1, kAnd_q2, kOr_q1, kOr_q2, kNot_e, kIf_q1, kIf_q2, kTru_k, kTruO_q1, kTruO_q2, kCons1_e, kCons2_e, kTup_e, kLst_e, kLstM_e, kFrz_e, kDrop_q1, kRetS_e, kIfS_e, kAsg_e, kGCons_e, kPart_q1, kSl1_e, kSl2_e, kSl3_e, kSub1_e, kSub2_e, kCB_e, kBM1_e, kBM2_e, kIt_q, kItO_q, kRng1_q1, kRng2_q1, kWhile_e, kLc1_e, kLc2_e, kLc2', kLc3_e, finF_e, finM_e, kAndE_q1, kAndE_q2, kOrE_q1, kOrE_q2, kNotE_q1, kNeg_q1, kCall_e, kCallK_e, kCallK2_e, dCallK_e, kMeth, kMeth2_e, kMade_e, kMake_e, kMakeK_e, kMakeK2_e, dMakeK_e, kFld, kSetFld_e, kSetFld2, kAugFld, kAugN1_e, kAugN2_e, kPair1_q1, kPair2_q1, kPair3_e, kDisp, dSeq_e, dAsg_e, dVar_k, kVar_q1, kVar_q2, dC_e, dOp_e, gNameD_e, gNilD_e, gConsD_q1, gConsD_q2, gTupD_q1, gifT_q, gifF_q, dTest_e, dTru_e, truD_q1, truD_q2, truD_q3, truD_q5, truD_q6, truD_q7, truD, truD_qs, dAnd_e, dOr_e, dNot_e, dAndE_e, dOrE_e, dNotE_e, dNeg_e, dIf_e, dRet_e, dRetN_e, dRetS_e, dNext_e, dDrop_e, dBreak_e, dCont_e, dCB_e, dCons_e, dNil_e, dIx_str, dIx_lst_q, dIx_tup_q, dIx_scr_q, kChr_q1, kChr_q2, dIx_re, kIxR_q1, kIxR_q2, kIxK_q, ixD_q1, ixD_q2, dSl_e, dSlR_str_q, dSlR_tup_q, dSlR_lst_q, dSlR_scr, dSlR_q1, dSlR_q2, dSlM, dPart_e, dNoPart_e, dI_q1, dI0_q1, dAdd_int_q, dAdd_str_q, dAdd_tup_q, dAdd_lst_q, dAdd_q1, dAdd_q2, dAdd_q3, dMul_int_q, dMul_q1, dMul_q2, dLtB_q1, dLtB_q2, dEq_k, kEqO_q1, kEqO_q2, kEqS_q1, dNe_k, dIs_q1, dIs_q2, isNonD_q1, isNonD, dIn_tup_q, dIn_lst_q, dIn_str_q, dIn_q1, scalEq_q1, scalEq_q2, scalEq_q3, scalEq_q4, scalEq_q5, scalEq_q6, scalEq_q7, scalEq_q8, scalEq, pdS, pd_q1, pd_q2, pd_q3, pd_q4, pd_q5, pd_q6, pd_q7, pd_q8, pdL_q1, pdL, pdL_ints, pdL_strs, eqv_nil, List.isEmpty_map, refL_lst_q, refL_dK_q, refL_ins_q, lstD_lst_q, lstD_scr_q, lstD_tup_q, lstD_str_q, lstD_int_q, lstD_re, lstW_lst_q, lstW_tup_q, lstW_str_q, lstW_int_q, lstW_re, seqD_tup_q, seqD_lst_q, seqD_scr_q, seqD_str_q, seqD_int_q, seqD_re, dictD, keyD_q1, keyD_q2, keyD, dLen_k, kLenO_q1, kLenO_q2, lenD_q1, lenD_tup, lenD_lst, lenD_scr, lenD_re, lenO_q, dAbs_q1, dMin2_q1, dMax2_q1, dListM, dListF_k, kSeqF_q1, kSeqF_q2, dTupF_k, dOrd_q1, dStr_q1, dLst_e, dLstM_e, dTup_e, gSubD_e, dSetR, dFld_e, dSetFld_e, dAugFld_e, dAugN, dIpAdd_q1, dBM_e, tyD_q1, tyD_q2, tyD_q4, tyD_q5, tyD, dAppend, dPop, dJoin, strsD_map, dMeth_e, dCall_e, dMake_e, dFrz_e, frzR_lst_q, frzR_dK_q, frzR_ins_q, frz_int_q, frz_str_q, frz_bl_q, frz_non_q, frz_tup_q, frz_lst_q, frz_scr_q, frz_re, er_none, atI_zero, atI_one, ixN_zero, ixN_one, dDisp_e, dPairs, keysD_q1, keysD, dLc_e, dLcM_e, dFor_e, wipeD_q1, wipeD_q2, dYes_q1, dIt_e, itemsD_q1, itemsD_q2, itemsD_q3, itemsD_q4, itemsD, dRng1_e, dRng2_e, startD_q1, up_same, up_up, er_up, Option.map_some, List.map_cons, List.map_nil, List.length_map, List.length_cons, List.length_nil, List.replicate_succ, List.replicate_zero, List.cons_append, List.nil_append, List.append_nil, getD_qs, getD_q0, set_qs, set_q0, Nat.reduceSub, Nat.reduceAdd, Nat.zero_add, Nat.sub_zero, Bool.not_true, Bool.not_false, if_true, if_false, Bool.true_eq_false, Bool.false_eq_true, reduceIte, true_and, and_true, beq_self_eq_true, Int.reduceEq, Int.reduceLT, Int.reduceLE, Int.reduceAdd, Int.reduceSub, Int.reduceNeg, Int.reduceMul, decide_true, decide_false, dEnS_q, kEnS1_q, kEnS2_q, gStarN_q, gStarD_q, dFmt_q, kFmt_q1, kFmt_q2, dJst_q, dJs_q1, dJs_q2, kJs_q, dSplitK_q, dFind_q1, dFind_q2, dIntF_q1, dIntF_q2, dMulT_q, dPar2_q1, kPar2_q1, dPar3_q1, kPar3_q1, dIsi_q1, kIsi_q1, tyOfD_q1, tyOfD_q2, tyOfD_q3, tyOfD_q4, tyOfD_q5, tyOfD_q6, tyOfD_q7, tyOfD_q8, tyOfO_q1, tyOfO_q2, tyOfO, isT_q1, isT_q2, isT_q3, isT_q4, isT_q5, isT_q6, isT_q7, isT_q8, tyN_bool, tyN_int, tyN_str, tyN_tuple, tyN_list, dRev_q1, kRev_q1, kRev_q2, kRev_q3, dRepl_q, kRepl_q, dReplAA_q, kReplAA_q, dMulS_q1, dSplit1_q, dJoin_lst, kJoinS_q, dEqE_q, kEqE_q, dIntS_q, dInKD_q, dIxKD_q, kMethX2_q, dMethX_q, kMethX, kRaise_q, dRaise_q, kCallX_q, dCallX_q, dTry_q, kEndsD_nx, isNonD_q1, isNonD, dFldE_q, kFldE, dIsk, *]))
local macro_rules | `(tactic| walk_at "side") => `(tactic| first | omega | exact size_lt (by omega) | exact size_le (by omega) | exact mulS (by omega) (by omega) | exact mulS' (by omega) (by omega) | exact cdiv (by omega) (by omega) | exact shaped_ints _ | exact shaped_nil | assumption)
local macro_rules | `(tactic| walk_at "sides") => `(tactic| repeat ((with_reducible refine And.intro ?_ ?_); next => walk_at "side"))
local macro_rules | `(tactic| walk_at "if") => `(tactic| (refine ifS ?_; walk_at "dl"))
local macro_rules | `(tactic| walk_at "for") => `(tactic| (unfold dFor; walk_at "dl"; walk_at "sides"))
local macro_rules | `(tactic| walk_at "upf") => `(tactic| first | exact up_same | assumption | ((rw [up_ne (by first | assumption | exact Ne.symm (by assumption))]); walk_at "upf") | ((rw [er_ne (by first | assumption | exact Ne.symm (by assumption))]); walk_at "upf"))

local macro_rules | `(tactic| walk_at "tst") => `(tactic| (intro Q q; walk_at "dl"; all_goals assumption))
variable {P : Program} {w : World} {K : PySem.W.Frag} {mg : Str → Option Value} {base : Heap} {C CE fI : Addr}
/-! ### tuples under way, the innermost first: where its list stands, what it has -/
abbrev Fr := Addr × List DV
def lsF (F : List Fr) : List DV := F.reverse.map fun f => DV.ref f.1
structure Stk (s : Sto) (q0 o : Addr) (F : List Fr) : Prop where
  top : s q0 = some (.lst (lsF F))
  fr : ∀ f ∈ F, s f.1 = some (.lst f.2)
  nd : (q0 :: o :: F.map (·.1)).Nodup
def wrA : List DV → List Nat
  | [] => []
  | d :: ds => wr d ++ 32 :: wrA ds
/-- what was read of the tuples under way -/
def pwF : List Fr → List Nat
  | [] => []
  | (_, acc) :: F => pwF F ++ 40 :: wrA acc
theorem wrR_snoc (v : DV) : ∀ ds : List DV, wrR (ds ++ [v]) = 32 :: (wrA ds ++ wr v)
  | [] => by show 32 :: (wr v ++ []) = _; rw [List.append_nil]; rfl
  | e :: es => by
    show 32 :: (wr e ++ wrR (es ++ [v])) = 32 :: ((wr e ++ 32 :: wrA es) ++ wr v)
    rw [wrR_snoc v es]
    simp
theorem wrJ_snoc (v : DV) (ds : List DV) : wrJ (ds ++ [v]) = wrA ds ++ wr v := by
  cases ds with
  | nil => show wr v ++ [] = _; rw [List.append_nil]; rfl
  | cons e es =>
    show wr e ++ wrR (es ++ [v]) = (wr e ++ 32 :: wrA es) ++ wr v
    rw [wrR_snoc]
    simp
theorem wrA_snoc (v : DV) : ∀ ds : List DV, wrA (ds ++ [v]) = wrA ds ++ wr v ++ [32]
  | [] => by show wr v ++ 32 :: [] = _; rfl
  | e :: es => by
    show wr e ++ 32 :: wrA (es ++ [v]) = (wr e ++ 32 :: wrA es) ++ wr v ++ [32]
    rw [wrA_snoc v es]
    simp
theorem pw_close (a : Addr) (acc : List DV) (v : DV) (G : List Fr) : pwF ((a, acc) :: G) ++ wr v ++ [41] = pwF G ++ wr (.tup (acc ++ [v])) := by
  show pwF G ++ 40 :: wrA acc ++ wr v ++ [41] = pwF G ++ 40 :: (wrJ (acc ++ [v]) ++ [41])
  rw [wrJ_snoc]
  simp
theorem pw_blank (a : Addr) (acc : List DV) (v : DV) (G : List Fr) : pwF ((a, acc) :: G) ++ wr v ++ [32] = pwF ((a, acc ++ [v]) :: G) := by
  show pwF G ++ 40 :: wrA acc ++ wr v ++ [32] = pwF G ++ 40 :: wrA (acc ++ [v])
  rw [wrA_snoc]
  simp
theorem take_one {z : Str} {p c : Nat} {r : List Nat} (h : rsT z p = c :: r) : (DL.tl z).take (p + 1) = (DL.tl z).take p ++ [c] := by
  have e : (DL.tl z).drop p = c :: r := h
  rw [List.take_add, e]
  rfl
theorem take_to {z : Str} {p p' : Nat} {l : List Nat} (h : rsT z p = l ++ rsT z p') (h1 : p ≤ p') (h2 : p' ≤ z.length) : (DL.tl z).take p' = (DL.tl z).take p ++ l := by
  have e1 := congrArg List.length h
  rw [List.length_append, rest_len, rest_len] at e1
  have e : (DL.tl z).drop p = l ++ rsT z p' := h
  rw [show p' = p + l.length by omega, List.take_add, e, List.take_left]
theorem lsF_cons (f : Fr) (F : List Fr) : lsF (f :: F) = lsF F ++ [.ref f.1] := by unfold lsF; rw [List.reverse_cons, List.map_append]; rfl
theorem lsF_ne (f : Fr) (F : List Fr) : (lsF (f :: F)).isEmpty = false := by rw [lsF_cons]; cases lsF F <;> rfl
theorem lsF_len (F : List Fr) : (lsF F).length = F.length := by unfold lsF; rw [List.length_map, List.length_reverse]
theorem lsF_at (f : Fr) (F : List Fr) : atI (lsF (f :: F)) (-1) = some (.ref f.1) := by
  rw [lsF_cons]
  have e : (lsF F ++ [DV.ref f.1]).length = (lsF F).length + 1 := by simp
  unfold atI ixN
  rw [if_neg (by decide), e, if_pos (by omega), show ((-1 : Int) + (((lsF F).length + 1 : Nat) : Int)).toNat = (lsF F).length by omega]
  simp
theorem lsF_last (f : Fr) (F : List Fr) : (lsF (f :: F))[(lsF (f :: F)).length - 1]? = some (.ref f.1) := by
  rw [lsF_cons]
  simp
theorem lsF_drop (f : Fr) (F : List Fr) : (lsF (f :: F)).dropLast = lsF F := by rw [lsF_cons, List.dropLast_concat]
def spClo (C : Addr) : Spd := fun ds s Q _ => ∃ (o q0 : Addr) (z : Str) (p : Nat) (v : DV) (F : List Fr), ds = [.ref o, .ref q0, v] ∧ s o = some (rd C z p) ∧ z.length ≤ 4000 ∧ Stk s q0 o F ∧ EndAt z p F.length ∧ (DL.tl z).take p = pwF F ++ wr v ∧ Wu v ∧ (∀ f ∈ F, ∀ e ∈ f.2, Wu e) ∧ (∀ f ∈ F, f.2.length < p) ∧
  Kp ((∀ v' s' p', Stk s' q0 o [] → s' o = some (rd C z p') → p ≤ p' → EndAt z p' 0 → (DL.tl z).take p' = wr v' → Wu v' → (∀ a, a ≠ o → a ≠ q0 → (∀ f ∈ F, f.1 ≠ a) → s' a = s a) → Q v' s') ∧
    ∀ v' s' p' a acc G, Stk s' q0 o ((a, acc ++ [v']) :: G) → s' o = some (rd C z p') → p ≤ p' → EndAt z p' (G.length + 1) → (DL.tl z).take p' = pwF ((a, acc) :: G) ++ wr v' → Wu v' → (∀ f ∈ (a, acc ++ [v']) :: G, ∀ e ∈ f.2, Wu e) → (∀ f ∈ (a, acc ++ [v']) :: G, f.2.length ≤ p') → (∀ r, rsT z p' ≠ 41 :: r) →
      (∀ f ∈ (a, acc ++ [v']) :: G, ∃ g ∈ F, f.1 = g.1) → G.length + 1 ≤ F.length → (∀ a, a ≠ o → a ≠ q0 → (∀ f ∈ F, f.1 ≠ a) → s' a = s a) → Q v' s')
theorem ok_closed (T : TxR P w K mg C CE) (G_Reader_sign : Mt P w K mg base C "sign" 1 ["self"] (spSign C)) : Mt P w K mg base C "closed" 2 ["self", "opened", "value"] (spClo C) := by
  refine mtOk T.m_closed sc_Reader_closed (fun ds s Q E h => ?_) (fun A f cdv Ar outer s H E hr => (dsc (dswhile PassesOwn.never (dtcmp (od_neE hr.units) (dpv 1) (dlst dan) (nomark _)) (dsc (dsexpr (dbm PySem.F.plainAttrs_list PySem.F.slot_list_append PySem.F.type_list_append md_append (dix (hu_of hr) (dpv 1) (dneg dint)) (dac (dpv 2) dan)))
  (dsc (dsif (dtcmp (od_ne hr.units) (dfrz (dM0 T.c_Reader G_Reader_sign (hr.mono (by omega)) (dpv 0))) dstr (nomark _))
  (ds1 (dsret (dpv 2)))
  dsn)
  (dsc (dsaugfld T.c_Reader T.n_Reader_at in_add (dpv 0) pe_int)
  (ds1 (dsset (i := 2) sc_Reader_closed.nd rfl (Or.inl rfl) (dcallTy cd_tup T.b_tuple (by decide +kernel) (dac (dbm0 PySem.F.plainAttrs_list PySem.F.slot_list_pop PySem.F.type_list_pop md_pop (dpv 1)) dan))))))))
  (ds1 (dsret (dpv 2))))) (fun ds s Q E h => ?_)
  · obtain ⟨o, q0, z, p, v, F, rfl, q⟩ := h
    rfl
  · obtain ⟨o, q0, z, p, v, F, rfl, h1, hz, hS, hE, ht, hv, hw, hac, q⟩ := h
    have htK := Kp.mk ht
    clear ht
    have hfz := hv.frz
    walk_at "dl"
    refine ⟨fun m δ s' => ∃ (v' : DV) (F' : List Fr) (p' : Nat), δ = [some (.ref o), some (.ref q0), some v'] ∧ Stk s' q0 o F' ∧ s' o = some (rd C z p') ∧ p ≤ p' ∧ EndAt z p' F'.length ∧ Kp ((DL.tl z).take p' = pwF F' ++ wr v') ∧ Wu v' ∧ (∀ f ∈ F', ∀ e ∈ f.2, Wu e) ∧ (∀ f ∈ F', f.2.length < p') ∧ (∃ A, F = A ++ F') ∧ (∀ a, a ≠ o → a ≠ q0 → (∀ f ∈ F, f.1 ≠ a) → s' a = s a) ∧ m = F'.length,
      ⟨F.length, v, F, p, rfl, hS, h1, Nat.le_refl _, hE, htK, hv, hw, hac, ⟨[], rfl⟩, fun _ _ _ _ => rfl, rfl⟩, ?_⟩
    rintro m δ s' ⟨v', F', p', rfl, S', h1', hpp, hE', htK', hv', hw', hac', hsf, hfr, rfl⟩
    have l3 := @rd_l3 z p' "sign" (by decide +kernel) (by decide +kernel)
    have hfz' := hv'.frz
    obtain ⟨t1, t2, t3⟩ := id S'
    have hpz : p' ≤ z.length := hE'.le
    cases F' with
    | nil =>
      have e0 : s' q0 = some (.lst []) := t1
      clear t1
      walk_at "dl"
      refine ⟨Nat.zero_le _, ?_⟩
      exact q.out.1 v' s' p' S' h1' hpp hE' htK'.out hv' hfr
    | cons f G =>
      obtain ⟨a, acc⟩ := f
      have e0 : s' q0 = some (.lst (lsF ((a, acc) :: G))) := t1
      have hL := lsF_ne (a, acc) G
      have hA : atI (lsF ((a, acc) :: G)) (-1) = some (.ref a) := lsF_at (a, acc) G
      have hD := lsF_drop (a, acc) G
      have hLa : (lsF ((a, acc) :: G))[(lsF ((a, acc) :: G)).length - 1]? = some (.ref a) := lsF_last (a, acc) G
      have ea : s' a = some (.lst acc) := t2 (a, acc) List.mem_cons_self
      have hl : acc.length < p' := hac' (a, acc) List.mem_cons_self
      clear t1
      generalize hLL : lsF ((a, acc) :: G) = L at e0 hL hA hD hLa
      have hz3 := size_lt (show acc.length ≤ 1000000 by omega)
      walk_at "dl"
      refine ⟨Nat.zero_le _, ?_⟩
      walk_at "dl"
      have nq : q0 ≠ a := fun e => (List.nodup_cons.mp t3).1 (by rw [e]; exact List.mem_cons_of_mem _ List.mem_cons_self)
      have no : o ≠ a := fun e => (List.nodup_cons.mp (List.nodup_cons.mp t3).2).1 (by rw [e]; exact List.mem_cons_self)
      have nG : ∀ f ∈ G, f.1 ≠ a := fun f hf e => (List.nodup_cons.mp (List.nodup_cons.mp (List.nodup_cons.mp t3).2).2).1 (List.mem_map.mpr ⟨f, hf, e⟩)
      have nqo : q0 ≠ o := fun e => (List.nodup_cons.mp t3).1 (by rw [e]; exact List.mem_cons_self)
      have eo : up s' a (.lst (acc ++ [v'])) o = some (rd C z p') := by rw [up_ne no]; exact h1'
      have eq0 : up s' a (.lst (acc ++ [v'])) q0 = some (.lst L) := by rw [up_ne nq]; exact e0
      obtain ⟨B, hB⟩ := hsf
      have hmem : ∀ f ∈ (a, acc) :: G, f ∈ F := fun f hf => by rw [hB]; exact List.mem_append_right _ hf
      by_cases h41 : ∃ r, rsT z p' = 41 :: r
      · obtain ⟨r, hr2⟩ := h41
        have q1 : (rsT z p').take 1 = [41] := by rw [hr2]; rfl
        have q3 : decide (S [41] = Str.ofString ")") = true := by rw [S_dec, t41]; rfl
        have hE2 : EndAt z (p' + 1) G.length := hE'.close (Nat.succ_pos _) hr2
        have ht2 : Kp ((DL.tl z).take (p' + 1) = pwF G ++ wr (.tup (acc ++ [v']))) := ⟨by rw [take_one hr2, htK'.out, pw_close]⟩
        clear hr2
        refine ifS_false (fun Q q => ?_) ?_
        · walk_at "dl"
          refine ⟨o, z, p', rfl, eo, hz, ⟨?_⟩⟩
          rw [q1]
          walk_at "dl"
          all_goals assumption
        have e5 : ∀ x, up (up s' a (.lst (acc ++ [v']))) o x q0 = some (.lst L) := fun x => by rw [up_ne nqo]; exact eq0
        have e6 : ∀ x y, up (up (up s' a (.lst (acc ++ [v']))) o x) q0 y a = some (.lst (acc ++ [v'])) := fun x y => by rw [up_ne nq.symm, up_ne no.symm, up_same]
        walk_at "dl"
        have t4 := List.nodup_cons.mp t3
        have t5 := List.nodup_cons.mp t4.2
        have t6 := List.nodup_cons.mp t5.2
        have gq : ∀ f ∈ G, f.1 ≠ q0 := fun f hf e => t4.1 (List.mem_cons_of_mem _ (List.mem_cons_of_mem _ (List.mem_map.mpr ⟨f, hf, e⟩)))
        have go : ∀ f ∈ G, f.1 ≠ o := fun f hf e => t5.1 (List.mem_cons_of_mem _ (List.mem_map.mpr ⟨f, hf, e⟩))
        refine ⟨(by show (2 : Nat) < 1000; decide), G.length, Nat.lt_succ_self _, .tup (acc ++ [v']), G, p' + 1, rfl, ⟨up_same, ?_, ?_⟩, ?_, Nat.le_succ_of_le hpp, hE2, ht2, .tup _ ?_, ?_, ?_, ⟨B ++ [(a, acc)], ?_⟩, ?_, rfl⟩
        · intro f hf
          rw [up_ne (gq f hf), up_ne (go f hf), up_ne (nG f hf)]
          exact t2 f (List.mem_cons_of_mem _ hf)
        · exact List.nodup_cons.mpr ⟨fun h => t4.1 (by rcases List.mem_cons.mp h with h | h; exact absurd h nqo; exact List.mem_cons_of_mem _ (List.mem_cons_of_mem _ h)), List.nodup_cons.mpr ⟨fun h => t5.1 (List.mem_cons_of_mem _ h), t6.2⟩⟩
        · rw [up_ne nqo.symm, up_same]
          rfl
        · intro e he
          rcases List.mem_append.mp he with he | he
          · exact hw' _ List.mem_cons_self e he
          · rw [List.mem_singleton.mp he]; exact hv'
        · exact fun f hf => hw' f (List.mem_cons_of_mem _ hf)
        · intro f hf
          exact Nat.lt_succ_of_lt (hac' f (List.mem_cons_of_mem _ hf))
        · first | (rw [hB]; simp) | simp
        · intro b b1 b2 b3
          rw [up_ne b2, up_ne b1, up_ne (b3 (a, acc) (by first | exact hmem _ List.mem_cons_self | simp)).symm]
          exact hfr b b1 b2 (by first | exact b3 | (rw [hB]; exact b3))
      · have q3 : decide (S ((rsT z p').take 1) = Str.ofString ")") = false := by
          rw [S_dec, t41]
          refine decide_eq_false fun e => h41 ?_
          cases hr : rsT z p' with
          | nil => rw [hr] at e; cases e
          | cons c r => rw [hr] at e; cases e; exact ⟨r, rfl⟩
        have hn41 : ∀ r, rsT z p' ≠ 41 :: r := fun r e => h41 ⟨r, e⟩
        have hFl : G.length + 1 ≤ F.length := by rw [hB, List.length_append, List.length_cons]; omega
        have hwF : ∀ f ∈ (a, acc ++ [v']) :: G, ∀ e ∈ f.2, Wu e := fun f hf e he => by
          rcases List.mem_cons.mp hf with rfl | hf
          · rcases List.mem_append.mp he with he | he
            · exact hw' _ List.mem_cons_self e he
            · rw [List.mem_singleton.mp he]; exact hv'
          · exact hw' f (List.mem_cons_of_mem _ hf) e he
        have hlF : ∀ f ∈ (a, acc ++ [v']) :: G, f.2.length ≤ p' := fun f hf => by
          rcases List.mem_cons.mp hf with rfl | hf
          · show (acc ++ [v']).length ≤ p'
            rw [List.length_append]; show acc.length + 1 ≤ p'; omega
          · exact Nat.le_of_lt (hac' f (List.mem_cons_of_mem _ hf))
        have hsub : ∀ f ∈ (a, acc ++ [v']) :: G, ∃ g ∈ F, f.1 = g.1 := fun f hf => by
          rcases List.mem_cons.mp hf with rfl | hf
          · exact ⟨(a, acc), hmem _ List.mem_cons_self, rfl⟩
          · exact ⟨f, hmem f (List.mem_cons_of_mem _ hf), rfl⟩
        have hfin := q.out.2 v' (up s' a (.lst (acc ++ [v']))) p' a acc G ⟨by rw [eq0, ← hLL, lsF_cons, lsF_cons], fun f hf => by
          rcases List.mem_cons.mp hf with rfl | hf
          · exact up_same
          · rw [up_ne (nG f hf)]; exact t2 f (List.mem_cons_of_mem _ hf), t3⟩ eo hpp hE' htK'.out hv' hwF hlF hn41 hsub hFl fun b b1 b2 b3 => by
            rw [up_ne (b3 _ (hmem _ List.mem_cons_self)).symm]
            exact hfr b b1 b2 b3
        clear h41 hn41
        refine ifS_true (fun Q q => ?_) ?_
        · walk_at "dl"
          refine ⟨o, z, p', rfl, eo, hz, ⟨?_⟩⟩
          walk_at "dl"
          all_goals assumption
        walk_at "dl"
        all_goals exact hfin
end Law

set_option Elab.async false
set_option linter.all false
set_option maxRecDepth 100000
set_option maxHeartbeats 4000000
namespace Law
open PySem PySem.Spec PyProof.Rows L2 DL VW
local macro_rules | `(tactic| walk_at "dl") => `(tactic| (try simp only [kOp1_e, kOp2_e, kTest_q1, kChain1_e, kChain2_e, kChain3_q1, kChain3_q2, dChain_e, kAnd_q1, kAnd_q2, kOr_q1, kOr_q2, kNot_e, kIf_q1, kIf_q2, kTru_k, kTruO_q1, kTruO_q2, kCons1_e, kCons2_e, kTup_e, kLst_e, kLstM_e, kFrz_e, kDrop_q1, kRetS_e, kIfS_e, kAsg_e, kGCons_e, kPart_q1, kSl1_e, kSl2_e, kSl3_e, kSub1_e, kSub2_e, kCB_e, kBM1_e, kBM2_e, kIt_q, kItO_q, kRng1_q1, kRng2_q1, kWhile_e, kLc1_e, kLc2_e, kLc2', kLc3_e, finF_e, finM_e, kAndE_q1, kAndE_q2, kOrE_q1, kOrE_q2, kNotE_q1, kNeg_q1, kCall_e, kCallK_e, kCallK2_e, dCallK_e, kMeth, kMeth2_e, kMade_e, kMake_e, kMakeK_e, kMakeK2_e, dMakeK_e, kFld, kSetFld_e, kSetFld2, kAugFld, kAugN1_e, kAugN2_e, kPair1_q1, kPair2_q1, kPair3_e, kDisp, dSeq_e, dAsg_e, dVar_k, kVar_q1, kVar_q2, dC_e, dOp_e, gNameD_e, gNilD_e, gConsD_q1, gConsD_q2, gTupD_q1, gifT_q, gifF_q, dTest_e, dTru_e, truD_q1, truD_q2, truD_q3, truD_q5, truD_q6, truD_q7, truD, truD_qs, dAnd_e, dOr_e, dNot_e, dAndE_e, dOrE_e, dNotE_e, dNeg_e, dIf_e, dRet_e, dRetN_e, dRetS_e, dNext_e, dDrop_e, dBreak_e, dCont_e, dCB_e, dCons_e, dNil_e, dIx_str, dIx_lst_q, dIx_tup_q, dIx_scr_q, kChr_q1, kChr_q2, dIx_re, kIxR_q1, kIxR_q2, kIxK_q, ixD_q1, ixD_q2, dSl_e, dSlR_str_q, dSlR_tup_q, dSlR_lst_q, dSlR_scr, dSlR_q1, dSlR_q2, dSlM, dPart_e, dNoPart_e, dI_q1, dI0_q1, dAdd_int_q, dAdd_str_q, dAdd_tup_q, dAdd_lst_q, dAdd_q1, dAdd_q2, dAdd_q3, dMul_int_q, dMul_q1, dMul_q2, dLtB_q1, dLtB_q2, dEq_k, kEqO_q1, kEqO_q2, kEqS_q1, dNe_k, dIs_q1, dIs_q2, isNonD_q1, isNonD, dIn_tup_q, dIn_lst_q, dIn_str_q, dIn_q1, scalEq_q1, scalEq_q2, scalEq_q3, scalEq_q4, scalEq_q5, scalEq_q6, scalEq_q7, scalEq_q8, scalEq, pdS, pd_q1, pd_q2, pd_q3, pd_q4, pd_q5, pd_q6, pd_q7, pd_q8, pdL_q1, pdL, pdL_ints, pdL_strs, eqv_nil, List.isEmpty_map, refL_lst_q, refL_dK_q, refL_ins_q, lstD_lst_q, lstD_scr_q, lstD_tup_q, lstD_str_q, lstD_int_q, lstD_re, lstW_lst_q, lstW_tup_q, lstW_str_q, lstW_int_q, lstW_re, seqD_tup_q, seqD_lst_q, seqD_scr_q, seqD_str_q, seqD_int_q, seqD_re, dictD, keyD_q1, keyD_q2, keyD, dLen_k, kLenO_q1, kLenO_q2, lenD_q1, lenD_tup, lenD_lst, lenD_scr, lenD_re, lenO_q, dAbs_q1, dMin2_q1, dMax2_q1, dListM, dListF_k, kSeqF_q1, kSeqF_q2, dTupF_k, dOrd_q1, dStr_q1, dLst_e, dLstM_e, dTup_e, gSubD_e, dSetR, dFld_e, dSetFld_e, dAugFld_e, dAugN, dIpAdd_q1, dBM_e, tyD_q1, tyD_q2, tyD_q4, tyD_q5, tyD, dAppend, dPop, dJoin, strsD_map, dMeth_e, dCall_e, dMake_e, dFrz_e, frzR_lst_q, frzR_dK_q, frzR_ins_q, frz_int_q, frz_str_q, frz_bl_q, frz_non_q, frz_tup_q, frz_lst_q, frz_scr_q, frz_re, er_none, atI_zero, atI_one, ixN_zero, ixN_one, dDisp_e, dPairs, keysD_q1, keysD, dLc_e, dLcM_e, dFor_e, wipeD_q1, wipeD_q2, dYes_q1, dIt_e, itemsD_q1, itemsD_q2, itemsD_q3, itemsD_q4, itemsD, dRng1_e, dRng2_e, startD_q1, up_same, up_up, er_up, Option.map_some, List.map_cons, List.map_nil, List.length_map, List.length_cons, List.length_nil, List.replicate_succ, List.replicate_zero, List.cons_append, List.nil_append, List.append_nil, getD_qs, getD_q0, set_qs, set_q0, Nat.reduceSub, Nat.reduceAdd, Nat.zero_add, Nat.sub_zero, Bool.not_true, Bool.not_false, if_true, if_false, Bool.true_eq_false, Bool.false_eq_true, reduceIte, true_and, and_true, beq_self_eq_true, Int.reduceEq, Int.reduceLT, Int.reduceLE, Int.reduceAdd, Int.reduceSub, Int.reduceNeg, Int.reduceMul, decide_true, decide_false, dEnS_q, kEnS1_q, kEnS2_q, gStarN_q, gStarD_q, dFmt_q, kFmt_q1, kFmt_q2, dJst_q, dJs_q1, dJs_q2, kJs_q, dSplitK_q, dFind_q1, dFind_q2, dIntF_q1, dIntF_q2, dMulT_q, dPar2_q1, kPar2_q1, dPar3_q1, kPar3_q1, dIsi_q1, kIsi_q1, tyOfD_q1, tyOfD_q2, tyOfD_q3, tyOfD_q4, tyOfD_q5, tyOfD_q6, tyOfD_q7, tyOfD_q8, tyOfO_q1, tyOfO_q2, tyOfO, isT_q1, isT_q2, isT_q3, isT_q4, isT_q5, isT_q6, isT_q7, isT_q8, tyN_bool, tyN_int, tyN_str, tyN_tuple, tyN_list, dRev_q1, kRev_q1, kRev_q2, kRev_q3, dRepl_q, kRepl_q, dReplAA_q, kReplAA_q, dMulS_q1, dSplit1_q, dJoin_lst, kJoinS_q, dEqE_q, kEqE_q, dIntS_q, dInKD_q, dIxKD_q, kMethX2_q, dMethX_q, kMethX, kRaise_q, dRaise_q, kCallX_q, dCallX_q, dTry_q, kEndsD_nx, isNonD_q1, isNonD, dFldE_q, kFldE, dIsk, *]))
local macro_rules | `(tactic| walk_at "side") => `(tactic| first | omega | exact size_lt (by omega) | exact size_le (by omega) | exact mulS (by omega) (by omega) | exact mulS' (by omega) (by omega) | exact cdiv (by omega) (by omega) | exact shaped_ints _ | exact shaped_nil | assumption)
local macro_rules | `(tactic| walk_at "sides") => `(tactic| repeat ((with_reducible refine And.intro ?_ ?_); next => walk_at "side"))
local macro_rules | `(tactic| walk_at "if") => `(tactic| (refine ifS ?_; walk_at "dl"))
local macro_rules | `(tactic| walk_at "for") => `(tactic| (unfold dFor; walk_at "dl"; walk_at "sides"))
local macro_rules | `(tactic| walk_at "upf") => `(tactic| first | exact up_same | assumption | ((rw [up_ne (by first | assumption | exact Ne.symm (by assumption))]); walk_at "upf") | ((rw [er_ne (by first | assumption | exact Ne.symm (by assumption))]); walk_at "upf"))

local macro_rules | `(tactic| walk_at "tst") => `(tactic| (intro Q q; walk_at "dl"; all_goals assumption))
variable {P : Program} {w : World} {K : PySem.W.Frag} {mg : Str → Option Value} {base : Heap} {C CE fI : Addr}
def spWho (C CE : Addr) : Spd := fun ds s Q E => ∃ (o : Addr) (z : Str), ds = [.ref o] ∧ s o = some (rd C z 0) ∧ z.length ≤ 4000 ∧ Kp ((∀ v s' p', Wu v → s' o = some (rd C z p') → EndAt z p' 0 → (DL.tl z).take p' = wr v → (∀ a, a ≠ o → s a ≠ none → s' a = s a) → Q v s') ∧ Rfd C CE z s o E)
theorem ok_whole (T : TxR P w K mg C CE) (G_Reader_sign : Mt P w K mg base C "sign" 1 ["self"] (spSign C)) (G_Reader_value_alone : MtX P w K mg base C "value_alone" 6 ["self"] (spAlo C CE)) (G_Reader_closed : Mt P w K mg base C "closed" 2 ["self", "opened", "value"] (spClo C)) (G_Reader_refuse : MtX P w K mg base C "refuse" 3 ["self"] (spRef C CE)) : MtX P w K mg base C "whole" 7 ["self"] (spWho C CE) := by
  refine mtOkX T.m_whole sc_Reader_whole (fun ds s Q E h => ?_) (fun A f cdv Ar outer s H E Ex hr tk => (dsc (dsset (i := 1) sc_Reader_whole.nd rfl (Or.inl rfl) (dlstM dan))
  (ds1 (dswhile (passes_of rfl) (dtruth dbl) (ds1 (dsif ((dpand (dtcmp (od_eq hr.units) (dfrz (dM0 T.c_Reader G_Reader_sign (hr.mono (by omega)) (dpv 0))) dstr (nomark _)) (dpand1 (dtcmp (od_ne hr.units) (dslice sl_d (dfld T.c_Reader T.n_Reader_text (dpv 0)) (dpo (dop od_add (dfld T.c_Reader T.n_Reader_at (dpv 0)) dint)) (dpo (dop od_add (dfld T.c_Reader T.n_Reader_at (dpv 0)) dint))) dstr (nomark _))))).pt
  (dsc (dsaugfld T.c_Reader T.n_Reader_at in_add (dpv 0) pe_int)
  (ds1 (dsexpr (dbm PySem.F.plainAttrs_list PySem.F.slot_list_append PySem.F.type_list_append md_append (dpv 1) (dac (dlstM dan) dan)))))
  (dsc (dsset (i := 2) sc_Reader_whole.nd rfl (Or.inl rfl) (dfrz (dMX0 T.c_Reader G_Reader_value_alone (hr.mono (by omega)) tk (dpv 0))))
  (dsc (dsset (i := 2) sc_Reader_whole.nd rfl (Or.inl rfl) (dfrz (dM T.c_Reader G_Reader_closed (hr.mono (by omega)) (dpv 0) (dac (dpv 1) (dac (dpv 2) dan)))))
  (dsc (dsif (dtcmp (od_eqE hr.units) (dpv 1) (dlst dan) (nomark _))
  (ds1 (dsret (dpv 2)))
  dsn)
  (dsc (dsif (dtcmp (od_ne hr.units) (dfrz (dM0 T.c_Reader G_Reader_sign (hr.mono (by omega)) (dpv 0))) dstr (nomark _))
  (ds1 (dsexpr (dfrz (dMX0 T.c_Reader G_Reader_refuse (hr.mono (by omega)) tk (dpv 0)))))
  dsn)
  (ds1 (dsaugfld T.c_Reader T.n_Reader_at in_add (dpv 0) pe_int)))))))))))) (fun ds s Q E h => ?_)
  · obtain ⟨o, z, rfl, q⟩ := h
    rfl
  · obtain ⟨o, z, rfl, h1, hz, q⟩ := h
    walk_at "dl"
    refine ⟨Nat.zero_le _, fun q0 hq0 => ?_⟩
    have nqo : q0 ≠ o := fun e => by rw [e, h1] at hq0; cases hq0
    refine ⟨fun m δ s' => ∃ (F : List Fr) (x : Option DV) (p : Nat), δ = [some (.ref o), some (.ref q0), x] ∧ Stk s' q0 o F ∧ s' o = some (rd C z p) ∧ Beg z p F.length ∧ Kp ((DL.tl z).take p = pwF F) ∧ (∀ f ∈ F, ∀ e ∈ f.2, Wu e) ∧ (∀ f ∈ F, f.2.length ≤ p) ∧ F.length ≤ p ∧ (∀ f ∈ F, s f.1 = none) ∧ (∀ a, a ≠ o → s a ≠ none → s' a = s a) ∧ m = z.length - p,
      ⟨z.length, [], none, 0, rfl, ⟨up_same, fun f hf => (nomatch hf), List.nodup_cons.mpr ⟨fun h => nqo (List.mem_singleton.mp h), List.nodup_cons.mpr ⟨fun h => (nomatch h), List.nodup_nil⟩⟩⟩, (up_ne nqo.symm).trans h1, .inl (At.zero z), ⟨rfl⟩, fun f hf => (nomatch hf), fun f hf => (nomatch hf), Nat.le_refl _, fun f hf => (nomatch hf), fun a _ ha => up_ne fun e => ha (e ▸ hq0), rfl⟩, ?_⟩
    rintro m δ s' ⟨F, x, p, rfl, S', h1', hb, htK, hw, hac, hFl, hfn, hfr, rfl⟩
    have l1 := @rd_l1 z p
    have l2 := @rd_l2 z p
    have l3 := @rd_l3 z p "sign" (by decide +kernel) (by decide +kernel)
    have l4 := @rd_l3 z p "value_alone" (by decide +kernel) (by decide +kernel)
    have hz2 := size_le (show z.length ≤ 1000000 by omega)
    have c2 := @cut_2 z p
    obtain ⟨t1, t2, t3⟩ := id S'
    have hpz := hb.le
    have eQ : s' q0 = some (.lst (lsF F)) := t1
    clear t1
    walk_at "dl"
    by_cases hopn : ∃ r, rsT z p = 40 :: r ∧ ∀ u, r ≠ 41 :: u
    · obtain ⟨r, hr, hr41⟩ := hopn
      have q1 : (rsT z p).take 1 = [40] := by rw [hr]; rfl
      have hr2 := rest_cons hr
      have q3 : decide (S [40] = Str.ofString "(") = true := by rw [S_dec, t40]; rfl
      have q4 : decide (S ((rsT z (p + 1)).take 1) = Str.ofString ")") = false := by
        rw [S_dec, t41, hr2]
        refine decide_eq_false fun e => ?_
        cases r with
        | nil => cases e
        | cons c u => cases e; exact hr41 u rfl
      have hb2 : Beg z (p + 1) (F.length + 1) := .inr ⟨hb.opn hr, fun u e => hr41 u (by rw [← hr2]; exact e)⟩
      have hpz1 : p < z.length := by
        have a1 := congrArg List.length hr
        rw [rest_len, List.length_cons] at a1
        omega
      have ht2 : ∀ f : Addr, Kp ((DL.tl z).take (p + 1) = pwF ((f, []) :: F)) := fun f => ⟨by rw [take_one hr, htK.out]; rfl⟩
      have e6 := @rd_put z p (.int ((p : Int) + 1))
      clear hr hr2 hr41
      refine ifS_true (fun Q q => ?_) ?_
      · walk_at "dl"
        refine ⟨o, z, p, rfl, h1', hz, ⟨?_⟩⟩
        rw [q1]
        walk_at "dl"
        all_goals assumption
      have e7 : ∀ x, up s' o x q0 = some (.lst (lsF F)) := fun x => (up_ne nqo).trans eQ
      have hLn : (lsF F).length < sizeLine := size_lt (by rw [lsF_len]; omega)
      walk_at "dl"
      refine ⟨(by show (2 : Nat) < 1000; decide), Nat.zero_le _, fun f hf0 => ?_⟩
      have hfo : f ≠ o := fun e => by rw [e, up_same] at hf0; cases hf0
      have hf1 : s' f = none := by rw [up_ne hfo] at hf0; exact hf0
      have hfq : q0 ≠ f := fun e => by rw [← e, eQ] at hf1; cases hf1
      have hfF : ∀ g ∈ F, g.1 ≠ f := fun g hg e => by
        have := t2 g hg
        rw [e, hf1] at this; cases this
      have hfs : s f = none := by
        cases e : s f with
        | none => rfl
        | some m =>
          have e2 := hfr f hfo (by rw [e]; exact fun z => nomatch z)
          rw [hf1, e] at e2; cases e2
      have t4 := List.nodup_cons.mp t3
      have t5 := List.nodup_cons.mp t4.2
      have gq : ∀ g ∈ F, g.1 ≠ q0 := fun g hg e => t4.1 (List.mem_cons_of_mem _ (List.mem_map.mpr ⟨g, hg, e⟩))
      have go : ∀ g ∈ F, g.1 ≠ o := fun g hg e => t5.1 (List.mem_map.mpr ⟨g, hg, e⟩)
      rw [up_ne hfq, e7]
      refine ⟨hLn, z.length - (p + 1), by omega, (f, []) :: F, x, p + 1, rfl, ⟨?_, ?_, ?_⟩, ?_, hb2, ht2 f, ?_, ?_, ?_, ?_, ?_, rfl⟩
      · rw [up_same, lsF_cons]
      · intro g hg
        rcases List.mem_cons.mp hg with rfl | hg
        · rw [up_ne hfq.symm, up_same]
        · rw [up_ne (gq g hg), up_ne (hfF g hg), up_ne (go g hg)]
          exact t2 g hg
      · refine List.nodup_cons.mpr ⟨fun h => ?_, List.nodup_cons.mpr ⟨fun h => ?_, List.nodup_cons.mpr ⟨fun h => ?_, t5.2⟩⟩⟩
        · rcases List.mem_cons.mp h with h | h
          · exact nqo h
          · rcases List.mem_cons.mp h with h | h
            · exact hfq h
            · exact t4.1 (List.mem_cons_of_mem _ h)
        · rcases List.mem_cons.mp h with h | h
          · exact hfo h.symm
          · exact t5.1 h
        · obtain ⟨g, hg, e⟩ := List.mem_map.mp h
          exact hfF g hg e
      · rw [up_ne nqo.symm, up_ne hfo.symm, up_same]
        rfl
      · intro g hg
        rcases List.mem_cons.mp hg with rfl | hg
        · exact fun e he => (nomatch he)
        · exact hw g hg
      · intro g hg
        rcases List.mem_cons.mp hg with rfl | hg
        · exact Nat.zero_le _
        · exact Nat.le_succ_of_le (hac g hg)
      · exact Nat.succ_le_succ hFl
      · intro g hg
        rcases List.mem_cons.mp hg with rfl | hg
        · exact hfs
        · exact hfn g hg
      · intro b b1 b2
        have nb : b ≠ q0 := fun e => b2 (e ▸ hq0)
        have nbf : b ≠ f := fun e => b2 (e ▸ hfs)
        rw [up_ne nb, up_ne nbf, up_ne b1]
        exact hfr b b1 b2
    · have hal : ∀ r, rsT z p = 40 :: r → ∃ u, r = 41 :: u := fun r hr => by
        refine Classical.byContradiction fun h => hopn ⟨r, hr, fun u e => h ⟨u, e⟩⟩
      have key : (∃ u, rsT z p = 40 :: 41 :: u) ∨ decide (S ((rsT z p).take 1) = Str.ofString "(") = false := by
        cases hr : rsT z p with
        | nil => right; rw [S_dec, t40]; rfl
        | cons c r =>
          by_cases h40 : c = 40
          · subst h40
            obtain ⟨u, rfl⟩ := hal r hr
            exact .inl ⟨u, rfl⟩
          · right
            rw [S_dec, t40]
            exact decide_eq_false fun e => h40 (by cases e; rfl)
      have halK := Kp.mk hal
      clear hal hopn
      refine ifS_false (fun Q q => ?_) ?_
      · rcases key with ⟨u, hr⟩ | hk
        · have q1 : (rsT z p).take 1 = [40] := by rw [hr]; rfl
          have e2 : (rsT z (p + 1)).take 1 = [41] := by rw [rest_cons hr]; rfl
          have q3 : decide (S [40] = Str.ofString "(") = true := by rw [S_dec, t40]; rfl
          have q4 : decide (S [41] = Str.ofString ")") = true := by rw [S_dec, t41]; rfl
          clear hr halK
          walk_at "dl"
          refine ⟨o, z, p, rfl, h1', hz, ⟨?_⟩⟩
          rw [q1]
          walk_at "dl"
          all_goals assumption
        · walk_at "dl"
          refine ⟨o, z, p, rfl, h1', hz, ⟨?_⟩⟩
          walk_at "dl"
          all_goals assumption
      clear key
      walk_at "dl"
      refine ⟨o, z, p, F.length, rfl, h1', hz, hb, halK.out, ⟨fun v p1 hv hp1 hwv he => ?_, fun qq s2 hq hs => q.out.2 qq s2 hq fun a a1 a2 => (hs a a1 (by rw [hfr a a1 a2]; exact a2)).trans (hfr a a1 a2)⟩⟩
      have fz := hv.frz
      have t4 := List.nodup_cons.mp t3
      have t5 := List.nodup_cons.mp t4.2
      have go : ∀ f ∈ F, f.1 ≠ o := fun f hf e => t5.1 (List.mem_map.mpr ⟨f, hf, e⟩)
      have htv : Kp ((DL.tl z).take p1 = pwF F ++ wr v) := ⟨by rw [take_to hwv (Nat.le_of_lt hp1) he.le, htK.out]⟩
      clear hwv
      walk_at "dl"
      refine ⟨@rd_l3 z p1 "closed" (by decide +kernel) (by decide +kernel), ?_⟩
      refine ⟨o, q0, z, p1, v, F, rfl, up_same, hz, ⟨(up_ne nqo).trans eQ, fun f hf => (up_ne (go f hf)).trans (t2 f hf), t3⟩, he, htv.out, hv, hw, fun f hf => Nat.lt_of_le_of_lt (hac f hf) hp1, ⟨fun d2 s2 p2 S2 h2 le2 he2 ht2 hv2 fr2 => ?_, fun d2 s2 p2 a acc G S2 h2 le2 he2 ht2 hv2 hw2 ac2 n41 sub2 fl2 fr2 => ?_⟩⟩
      · have fz3 := hv2.frz s2
        obtain ⟨u1, u2, u3⟩ := id S2
        have e0 : s2 q0 = some (.lst []) := u1
        have hfr2 : ∀ a, a ≠ o → s a ≠ none → s2 a = s a := fun a a1 a2 => by
          rw [fr2 a a1 (fun e => a2 (e ▸ hq0)) (fun f hf e => a2 (e ▸ hfn f hf)), up_ne a1]
          exact hfr a a1 a2
        have q5 := q.out.1 d2 s2 p2 hv2 h2 he2 ht2 hfr2
        clear u1 ht2
        walk_at "dl"
        refine ifS_true (fun Q q => ?_) ?_
        · walk_at "dl"
          all_goals first | exact Nat.zero_le _ | exact ⟨Nat.zero_le _, q⟩ | assumption
        walk_at "dl"
        all_goals exact q5
      · have fz3 := hv2.frz s2
        obtain ⟨u1, u2, u3⟩ := id S2
        have hL := lsF_ne (a, acc ++ [d2]) G
        have e0 : s2 q0 = some (.lst (lsF ((a, acc ++ [d2]) :: G))) := u1
        have hfr2 : ∀ a, a ≠ o → s a ≠ none → s2 a = s a := fun a a1 a2 => by
          rw [fr2 a a1 (fun e => a2 (e ▸ hq0)) (fun f hf e => a2 (e ▸ hfn f hf)), up_ne a1]
          exact hfr a a1 a2
        have m1 := @rd_l2 z p2
        have m3 := @rd_l3 z p2 "sign" (by decide +kernel) (by decide +kernel)
        have m4 := @rd_l3 z p2 "refuse" (by decide +kernel) (by decide +kernel)
        have ht2K := Kp.mk ht2
        have n41K := Kp.mk n41
        clear u1 ht2 n41
        generalize hLL : lsF ((a, acc ++ [d2]) :: G) = L at e0 hL
        walk_at "dl"
        refine ifS_false (fun Q q => ?_) ?_
        · walk_at "dl"
          all_goals first | exact Nat.zero_le _ | exact ⟨Nat.zero_le _, q⟩ | assumption
        walk_at "dl"
        by_cases h32 : ∃ r, rsT z p2 = 32 :: r
        · obtain ⟨r, r3⟩ := h32
          have q5 : (rsT z p2).take 1 = [32] := by rw [r3]; rfl
          have q6 : decide (S [32] = Str.ofString " ") = true := by rw [S_dec, t32]; rfl
          have hp2 : p2 < z.length := by
            have e := rest_len (z := z) (p := p2)
            rw [r3, List.length_cons] at e
            omega
          have hb3 : Beg z (p2 + 1) (G.length + 1) := .inl (he2.blank (Nat.succ_pos _) r3)
          have ht3 : Kp ((DL.tl z).take (p2 + 1) = pwF ((a, acc ++ [d2]) :: G)) := ⟨by rw [take_one r3, ht2K.out, pw_blank]⟩
          have e7 := @rd_put z p2 (.int ((p2 : Int) + 1))
          clear r3
          refine ifS_false (fun Q q => ?_) ?_
          · walk_at "dl"
            refine ⟨o, z, p2, rfl, h2, hz, ⟨?_⟩⟩
            rw [q5]
            walk_at "dl"
            all_goals assumption
          walk_at "dl"
          have hfa : ∀ f ∈ (a, acc ++ [d2]) :: G, s f.1 = none := fun f hf => by
            obtain ⟨g, hg, e1⟩ := sub2 f hf
            rw [e1]; exact hfn g hg
          have no : ∀ f ∈ (a, acc ++ [d2]) :: G, f.1 ≠ o := fun f hf e => (List.nodup_cons.mp (List.nodup_cons.mp u3).2).1 (List.mem_map.mpr ⟨f, hf, e⟩)
          refine ⟨(by show (2 : Nat) < 1000; decide), z.length - (p2 + 1), by omega, (a, acc ++ [d2]) :: G, some d2, p2 + 1, rfl, ⟨?_, ?_, u3⟩, up_same, hb3, ht3, hw2, ?_, ?_, hfa, ?_, rfl⟩
          · rw [up_ne nqo, e0, ← hLL]
          · intro f hf
            rw [up_ne (no f hf)]
            exact u2 f hf
          · exact fun f hf => Nat.le_succ_of_le (ac2 f hf)
          · show G.length + 1 ≤ p2 + 1
            omega
          · intro b b1 b2
            rw [up_ne b1]
            exact hfr2 b b1 b2
        · have q6 : decide (S ((rsT z p2).take 1) = Str.ofString " ") = false := by
            rw [S_dec, t32]
            refine decide_eq_false fun e => h32 ?_
            cases hr : rsT z p2 with
            | nil => rw [hr] at e; cases e
            | cons c r => rw [hr] at e; cases e; exact ⟨r, rfl⟩
          have hE := q.out.2 p2 s2 (he2.bad (fun r e => absurd ⟨r, e⟩ h32) (fun r e => absurd e (n41K.out r)) fun _ => Nat.succ_ne_zero _) hfr2
          clear h32 n41K
          refine ifS_true (fun Q q => ?_) ?_
          · walk_at "dl"
            refine ⟨o, z, p2, rfl, h2, hz, ⟨?_⟩⟩
            walk_at "dl"
            all_goals assumption
          walk_at "dl"
          exact ⟨o, z, p2, rfl, h2, ⟨hE⟩⟩
def spRead (CE : Addr) : Spd := fun ds s Q E => ∃ z : Str, ds = [.str z] ∧ z.length ≤ 4000 ∧ Kp ((∀ v s', Wu v → DL.tl z = wr v → walk (DL.tl z) = none → (∀ a, s a ≠ none → s' a = s a) → Q v s') ∧ ∀ (q : Nat) s', walk (DL.tl z) = some q → (∀ a, s a ≠ none → s' a = s a) → E (.ref CE) [("at", .int (q : Int))] s')
structure RdMk (P : Program) (w : World) (K : PySem.W.Frag) (mg : Str → Option Value) (base : Heap) (C : Addr) : Prop where
  ex : ∃ f fd, FnOk P w K mg base CX0 1 f fd ["self", "text"] (lSp K (spInit C)) ∧ Mk K C f ∧ Binds K fd ["self", "text"] []
theorem rd_mk2 {f : Addr} {fd : FuncData} (T : TxR P w K mg C CE) (M : Mk K C f) (F : Fun K "__init__" "Reader.__init__" s_Reader___init__ f fd) (b : Binds K fd ["self", "text"] []) : RdMk P w K mg base C := ⟨f, fd, ok_init T F, M, b⟩
theorem ok_read (T : TxR P w K mg C CE) (ZF : XZ P w K mg base CE) (MK : RdMk P w K mg base C) (G_Reader_whole : MtX P w K mg base C "whole" 7 ["self"] (spWho C CE)) : FnX P w K mg base "read" 8 ["text"] (spRead CE) := by
  obtain ⟨f0, fd0, F0, M0, B0⟩ := MK.ex
  refine fnOkX T.d_read sc_read (fun ds s Q E h => ?_) (fun A f cdv Ar outer s H E Ex hr tk => (dsc (dsset (i := 1) sc_read.nd rfl (Or.inl rfl) (dmake M0 F0 (hr.mono (by omega)) T.g_Reader B0 .nil (fun _ _ => .nil) (dac (dpv 0) dan)))
  (dsc (dsset (i := 2) sc_read.nd rfl (Or.inl rfl) (dfrz (dMX0 T.c_Reader G_Reader_whole (hr.mono (by omega)) tk (dpv 1))))
  (dsc (dsif (dtcmp od_lt (dfld T.c_Reader T.n_Reader_at (dpv 1)) (dcallB cd_len T.b_len PySem.boot_len (dac (dpv 0) dan)) (nomark _))
  (ds1 (dsraise PySem.F.excBase_ValueError ZF (hr.mono (by omega)) tk rfl T.g_NoValue (dfld T.c_Reader T.n_Reader_at (dpv 1))))
  dsn)
  (ds1 (dsret (dpv 2))))))) (fun ds s Q E h => ?_)
  · obtain ⟨z, rfl, q⟩ := h
    rfl
  · obtain ⟨z, rfl, hz, q⟩ := h
    have l3 := @rd_l3 z 0 "whole" (by decide +kernel) (by decide +kernel)
    walk_at "dl"
    refine fun o ho => ⟨o, _, rfl, up_same, ⟨?_⟩⟩
    walk_at "dl"
    have fr0 : ∀ {s' : Sto} {x : MO}, (∀ a, a ≠ o → up s o x a ≠ none → s' a = up s o x a) → ∀ a, s a ≠ none → s' a = s a := fun h a ha => by
      have na : a ≠ o := fun e => ha (e ▸ ho)
      rw [h a na (by rw [up_ne na]; exact ha), up_ne na]
    refine ⟨o, z, rfl, up_same, hz, ⟨fun v s' p' hv h1 he ht h3 => ?_, fun qq s' hw h3 => q.out.2 qq s' hw (by first | exact fr0 h3 | (rw [up_up] at h3; exact fr0 h3))⟩⟩
    have h3' : ∀ a, s a ≠ none → s' a = s a := by first | exact fr0 h3 | (rw [up_up] at h3; exact fr0 h3)
    have fz := hv.frz s'
    have l2 := @rd_l2 z p'
    have hz2 := size_le (show z.length ≤ 1000000 by omega)
    by_cases hlt : p' < z.length
    · have e1 : ltI (p' : Int) (z.length : Int) = true := decide_eq_true (by omega)
      have hE := q.out.2 p' s' (he.bad (fun _ _ => rfl) (fun _ _ => rfl) fun e => by
        have a := rest_len (z := z) (p := p')
        rw [e] at a
        have a : 0 = z.length - p' := a
        omega) h3'
      clear ht h3
      walk_at "dl"
      refine ifS_true (fun Q q => ?_) ?_
      · walk_at "dl"
        all_goals first | exact ⟨hz2, q⟩ | assumption
      walk_at "dl"
      all_goals exact hE
    · have e1 : ltI (p' : Int) (z.length : Int) = false := decide_eq_false (by omega)
      have hlz := len_tl z
      have hr0 : rsT z p' = [] := by unfold rsT; exact List.drop_of_length_le (by omega)
      have q5 := q.out.1 v s' hv (by rw [← ht, List.take_of_length_le (by omega)]) (he.done hr0) h3'
      clear ht h3 hr0 hlz
      walk_at "dl"
      refine ifS_false (fun Q q => ?_) ?_
      · walk_at "dl"
        all_goals first | exact ⟨hz2, q⟩ | assumption
      walk_at "dl"
      all_goals exact q5
end Law

set_option Elab.async false
set_option linter.all false
set_option maxRecDepth 100000
set_option maxHeartbeats 4000000
namespace Law
open PySem PySem.Spec PyProof.Rows L2 DL VW
local macro_rules | `(tactic| walk_at "dl") => `(tactic| (try simp only [kOp1_e, kOp2_e, kTest_q1, kChain1_e, kChain2_e, kChain3_q1, kChain3_q2, dChain_e, kAnd_q1, kAnd_q2, kOr_q1, kOr_q2, kNot_e, kIf_q1, kIf_q2, kTru_k, kTruO_q1, kTruO_q2, kCons1_e, kCons2_e, kTup_e, kLst_e, kLstM_e, kFrz_e, kDrop_q1, kRetS_e, kIfS_e, kAsg_e, kGCons_e, kPart_q1, kSl1_e, kSl2_e, kSl3_e, kSub1_e, kSub2_e, kCB_e, kBM1_e, kBM2_e, kIt_q, kItO_q, kRng1_q1, kRng2_q1, kWhile_e, kLc1_e, kLc2_e, kLc2', kLc3_e, finF_e, finM_e, kAndE_q1, kAndE_q2, kOrE_q1, kOrE_q2, kNotE_q1, kNeg_q1, kCall_e, kCallK_e, kCallK2_e, dCallK_e, kMeth, kMeth2_e, kMade_e, kMake_e, kMakeK_e, kMakeK2_e, dMakeK_e, kFld, kSetFld_e, kSetFld2, kAugFld, kAugN1_e, kAugN2_e, kPair1_q1, kPair2_q1, kPair3_e, kDisp, dSeq_e, dAsg_e, dVar_k, kVar_q1, kVar_q2, dC_e, dOp_e, gNameD_e, gNilD_e, gConsD_q1, gConsD_q2, gTupD_q1, gifT_q, gifF_q, dTest_e, dTru_e, truD_q1, truD_q2, truD_q3, truD_q5, truD_q6, truD_q7, truD, truD_qs, dAnd_e, dOr_e, dNot_e, dAndE_e, dOrE_e, dNotE_e, dNeg_e, dIf_e, dRet_e, dRetN_e, dRetS_e, dNext_e, dDrop_e, dBreak_e, dCont_e, dCB_e, dCons_e, dNil_e, dIx_str, dIx_lst_q, dIx_tup_q, dIx_scr_q, kChr_q1, kChr_q2, dIx_re, kIxR_q1, kIxR_q2, kIxK_q, ixD_q1, ixD_q2, dSl_e, dSlR_str_q, dSlR_tup_q, dSlR_lst_q, dSlR_scr, dSlR_q1, dSlR_q2, dSlM, dPart_e, dNoPart_e, dI_q1, dI0_q1, dAdd_int_q, dAdd_str_q, dAdd_tup_q, dAdd_lst_q, dAdd_q1, dAdd_q2, dAdd_q3, dMul_int_q, dMul_q1, dMul_q2, dLtB_q1, dLtB_q2, dEq_k, kEqO_q1, kEqO_q2, kEqS_q1, dNe_k, dIs_q1, dIs_q2, isNonD_q1, isNonD, dIn_tup_q, dIn_lst_q, dIn_str_q, dIn_q1, scalEq_q1, scalEq_q2, scalEq_q3, scalEq_q4, scalEq_q5, scalEq_q6, scalEq_q7, scalEq_q8, scalEq, pdS, pd_q1, pd_q2, pd_q3, pd_q4, pd_q5, pd_q6, pd_q7, pd_q8, pdL_q1, pdL, pdL_ints, pdL_strs, eqv_nil, List.isEmpty_map, refL_lst_q, refL_dK_q, refL_ins_q, lstD_lst_q, lstD_scr_q, lstD_tup_q, lstD_str_q, lstD_int_q, lstD_re, lstW_lst_q, lstW_tup_q, lstW_str_q, lstW_int_q, lstW_re, seqD_tup_q, seqD_lst_q, seqD_scr_q, seqD_str_q, seqD_int_q, seqD_re, dictD, keyD_q1, keyD_q2, keyD, dLen_k, kLenO_q1, kLenO_q2, lenD_q1, lenD_tup, lenD_lst, lenD_scr, lenD_re, lenO_q, dAbs_q1, dMin2_q1, dMax2_q1, dListM, dListF_k, kSeqF_q1, kSeqF_q2, dTupF_k, dOrd_q1, dStr_q1, dLst_e, dLstM_e, dTup_e, gSubD_e, dSetR, dFld_e, dSetFld_e, dAugFld_e, dAugN, dIpAdd_q1, dBM_e, tyD_q1, tyD_q2, tyD_q4, tyD_q5, tyD, dAppend, dPop, dJoin, strsD_map, dMeth_e, dCall_e, dMake_e, dFrz_e, frzR_lst_q, frzR_dK_q, frzR_ins_q, frz_int_q, frz_str_q, frz_bl_q, frz_non_q, frz_tup_q, frz_lst_q, frz_scr_q, frz_re, er_none, atI_zero, atI_one, ixN_zero, ixN_one, dDisp_e, dPairs, keysD_q1, keysD, dLc_e, dLcM_e, dFor_e, wipeD_q1, wipeD_q2, dYes_q1, dIt_e, itemsD_q1, itemsD_q2, itemsD_q3, itemsD_q4, itemsD, dRng1_e, dRng2_e, startD_q1, up_same, up_up, er_up, Option.map_some, List.map_cons, List.map_nil, List.length_map, List.length_cons, List.length_nil, List.replicate_succ, List.replicate_zero, List.cons_append, List.nil_append, List.append_nil, getD_qs, getD_q0, set_qs, set_q0, Nat.reduceSub, Nat.reduceAdd, Nat.zero_add, Nat.sub_zero, Bool.not_true, Bool.not_false, if_true, if_false, Bool.true_eq_false, Bool.false_eq_true, reduceIte, true_and, and_true, beq_self_eq_true, Int.reduceEq, Int.reduceLT, Int.reduceLE, Int.reduceAdd, Int.reduceSub, Int.reduceNeg, Int.reduceMul, decide_true, decide_false, dEnS_q, kEnS1_q, kEnS2_q, gStarN_q, gStarD_q, dFmt_q, kFmt_q1, kFmt_q2, dJst_q, dJs_q1, dJs_q2, kJs_q, dSplitK_q, dFind_q1, dFind_q2, dIntF_q1, dIntF_q2, dMulT_q, dPar2_q1, kPar2_q1, dPar3_q1, kPar3_q1, dIsi_q1, kIsi_q1, tyOfD_q1, tyOfD_q2, tyOfD_q3, tyOfD_q4, tyOfD_q5, tyOfD_q6, tyOfD_q7, tyOfD_q8, tyOfO_q1, tyOfO_q2, tyOfO, isT_q1, isT_q2, isT_q3, isT_q4, isT_q5, isT_q6, isT_q7, isT_q8, tyN_bool, tyN_int, tyN_str, tyN_tuple, tyN_list, dRev_q1, kRev_q1, kRev_q2, kRev_q3, dRepl_q, kRepl_q, dReplAA_q, kReplAA_q, dMulS_q1, dSplit1_q, dJoin_lst, kJoinS_q, dEqE_q, kEqE_q, dIntS_q, dInKD_q, dIxKD_q, kMethX2_q, dMethX_q, kMethX, kRaise_q, dRaise_q, kCallX_q, dCallX_q, dTry_q, kEndsD_nx, isNonD_q1, isNonD, dFldE_q, kFldE, dIsk, dGet2_q, kGet1_q, kGet2_q, kGet3_q, kGetR_q, kGetX_q, isDK_q, dEnT_q, kEnT_q, dIskT_q, kIskT, dAddM_q, dTryX_q, dXfS_q, kXfS, *]))
local macro_rules | `(tactic| walk_at "side") => `(tactic| first | omega | exact size_lt (by omega) | exact size_le (by omega) | exact mulS (by omega) (by omega) | exact mulS' (by omega) (by omega) | exact cdiv (by omega) (by omega) | exact shaped_ints _ | exact shaped_nil | assumption)
local macro_rules | `(tactic| walk_at "sides") => `(tactic| repeat ((with_reducible refine And.intro ?_ ?_); next => walk_at "side"))
local macro_rules | `(tactic| walk_at "if") => `(tactic| (refine ifS ?_; walk_at "dl"))
local macro_rules | `(tactic| walk_at "for") => `(tactic| (unfold dFor; walk_at "dl"; walk_at "sides"))
local macro_rules | `(tactic| walk_at "upf") => `(tactic| first | exact up_same | assumption | ((rw [up_ne (by first | assumption | exact Ne.symm (by assumption))]); walk_at "upf") | ((rw [er_ne (by first | assumption | exact Ne.symm (by assumption))]); walk_at "upf"))

variable {P : Program} {w : World} {K : PySem.W.Frag} {mg : Str → Option Value} {base : Heap} {C CE fI CB CS : Addr}
structure TxN (K : PySem.W.Frag) (mg : Str → Option Value) (CE : Addr) : Prop where
  b_ValueError : mg "ValueError" = none
  g_NoValue : mg "NoValue" = some (.ref CE)
def spTold : Spd := fun ds s Q _ => ∃ z : Str, ds = [.str z] ∧ z.length ≤ 4000 ∧ Kp ((∀ v s', Wu v → DL.tl z = wr v → walk (DL.tl z) = none → (∀ a, s a ≠ none → s' a = s a) → Q (.tup [.str "told", v]) s') ∧ ∀ (q : Nat) s', walk (DL.tl z) = some q → (∀ a, s a ≠ none → s' a = s a) → Q (.tup [.str "refused", .int (q : Int)]) s')
theorem ok_told (T0 : Txt K mg) (T : TxN K mg CE) (ZK : XF K CE fI) (G_read : FnX P w K mg base "read" 8 ["text"] (spRead CE)) : Fn P w K mg base "_law_told" 10 ["written"] spTold := by
  refine fnOk T0.d__law_told sc__law_told (fun ds s Q E h => ?_) (fun A f cdv Ar outer s H E hr => (dsc (dsasg (dtup (dac dnon (dac dnon dan))) (dgpat (pg_tup rfl (pgs_cons (pg_name (i := 1) sc__law_told.nd rfl (Or.inl rfl)) (pgs_cons (pg_name (i := 2) sc__law_told.nd rfl (Or.inl rfl)) pgs_nil))) (gmTup (gmCons (gmName 1) (gmCons (gmName 2) gmNil))) (patT (gmCons (gmName 1) (gmCons (gmName 2) gmNil)) (patsC (gmName 1) (gmCons (gmName 2) gmNil) (patN 1) (patsC (gmName 2) gmNil (patN 2) patsN)))))
  (dsc (dstryX (i := 3) rfl rfl rfl sc__law_told.nd rfl rfl ⟨rfl, by decide, .inl T.g_NoValue⟩ ZK.exm (fun Ex pn xe tk ps => (ds1 (dsset (i := 2) sc__law_told.nd rfl (Or.inl rfl) (dfrz (dFX G_read (hr.mono (by omega)) tk (dac (dpv 0) dan)))))) (fun A2 a dx oe pn fs kx => (ds1 (dsset (i := 1) sc__law_told.nd rfl (Or.inl rfl) (dxfS kx ZK.xf ZK.no (dpv 3))))))
  (ds1 (dsret (difexp (dtcmp od_is (dpv 1) dnon (nomark _)) (dtup (dac dstr (dac (dpv 2) dan))) (dtup (dac dstr (dac (dpv 1) dan))))))))) (fun ds s Q E h => ?_)
  · obtain ⟨z, rfl, q⟩ := h
    rfl
  · obtain ⟨z, rfl, hz, q⟩ := h
    walk_at "dl"
    refine ⟨by decide, z, rfl, hz, ⟨fun v s' hv hw hn hs => ?_, fun qq s' hw hs => ⟨rfl, (fun z => nomatch z), fun a ha => ?_⟩⟩⟩
    · have fz := hv.frz s'
      have q2 := q.out.1 v s' hv hw hn hs
      clear hw hn
      walk_at "dl"
      first | decide | exact ⟨by decide, q2⟩
    · have q2 := q.out.2 qq (up s' a (.exc CE [("at", .int (qq : Int))])) hw fun b hb => by
        have nb : b ≠ a := fun e => hb (by
          cases hsb : s b with
          | none => rfl
          | some m =>
            have := hs b (by rw [hsb]; exact fun z => nomatch z)
            rw [e, ha] at this
            rw [e] at hsb
            rw [hsb] at this
            cases this)
        rw [up_ne nb]
        exact hs b hb
      clear hw
      have el : List.lookup (Str.ofString "at") [(Str.ofString "at", DV.int (qq : Int))] = some (.int (qq : Int)) := by rfl
      walk_at "dl"
      first | exact fun _ => by decide | exact fun _ => ⟨by decide, q2⟩
end Law

set_option Elab.async false
set_option linter.all false
set_option maxRecDepth 100000
set_option maxHeartbeats 4000000
namespace Law
open PySem PySem.Spec PyProof.Rows L2 DL VW
local macro_rules | `(tactic| walk_at "dl") => `(tactic| (try simp only [kOp1_e, kOp2_e, kTest_q1, kChain1_e, kChain2_e, kChain3_q1, kChain3_q2, dChain_e, kAnd_q1, kAnd_q2, kOr_q1, kOr_q2, kNot_e, kIf_q1, kIf_q2, kTru_k, kTruO_q1, kTruO_q2, kCons1_e, kCons2_e, kTup_e, kLst_e, kLstM_e, kFrz_e, kDrop_q1, kRetS_e, kIfS_e, kAsg_e, kGCons_e, kPart_q1, kSl1_e, kSl2_e, kSl3_e, kSub1_e, kSub2_e, kCB_e, kBM1_e, kBM2_e, kIt_q, kItO_q, kRng1_q1, kRng2_q1, kWhile_e, kLc1_e, kLc2_e, kLc2', kLc3_e, finF_e, finM_e, kAndE_q1, kAndE_q2, kOrE_q1, kOrE_q2, kNotE_q1, kNeg_q1, kCall_e, kCallK_e, kCallK2_e, dCallK_e, kMeth, kMeth2_e, kMade_e, kMake_e, kMakeK_e, kMakeK2_e, dMakeK_e, kFld, kSetFld_e, kSetFld2, kAugFld, kAugN1_e, kAugN2_e, kPair1_q1, kPair2_q1, kPair3_e, kDisp, dSeq_e, dAsg_e, dVar_k, kVar_q1, kVar_q2, dC_e, dOp_e, gNameD_e, gNilD_e, gConsD_q1, gConsD_q2, gTupD_q1, gifT_q, gifF_q, dTest_e, dTru_e, truD_q1, truD_q2, truD_q3, truD_q5, truD_q6, truD_q7, truD, truD_qs, dAnd_e, dOr_e, dNot_e, dAndE_e, dOrE_e, dNotE_e, dNeg_e, dIf_e, dRet_e, dRetN_e, dRetS_e, dNext_e, dDrop_e, dBreak_e, dCont_e, dCB_e, dCons_e, dNil_e, dIx_str, dIx_lst_q, dIx_tup_q, dIx_scr_q, kChr_q1, kChr_q2, dIx_re, kIxR_q1, kIxR_q2, kIxK_q, ixD_q1, ixD_q2, dSl_e, dSlR_str_q, dSlR_tup_q, dSlR_lst_q, dSlR_scr, dSlR_q1, dSlR_q2, dSlM, dPart_e, dNoPart_e, dI_q1, dI0_q1, dAdd_int_q, dAdd_str_q, dAdd_tup_q, dAdd_lst_q, dAdd_q1, dAdd_q2, dAdd_q3, dMul_int_q, dMul_q1, dMul_q2, dLtB_q1, dLtB_q2, dEq_k, kEqO_q1, kEqO_q2, kEqS_q1, dNe_k, dIs_q1, dIs_q2, isNonD_q1, isNonD, dIn_tup_q, dIn_lst_q, dIn_str_q, dIn_q1, scalEq_q1, scalEq_q2, scalEq_q3, scalEq_q4, scalEq_q5, scalEq_q6, scalEq_q7, scalEq_q8, scalEq, pdS, pd_q1, pd_q2, pd_q3, pd_q4, pd_q5, pd_q6, pd_q7, pd_q8, pdL_q1, pdL, pdL_ints, pdL_strs, eqv_nil, List.isEmpty_map, refL_lst_q, refL_dK_q, refL_ins_q, lstD_lst_q, lstD_scr_q, lstD_tup_q, lstD_str_q, lstD_int_q, lstD_re, lstW_lst_q, lstW_tup_q, lstW_str_q, lstW_int_q, lstW_re, seqD_tup_q, seqD_lst_q, seqD_scr_q, seqD_str_q, seqD_int_q, seqD_re, dictD, keyD_q1, keyD_q2, keyD, dLen_k, kLenO_q1, kLenO_q2, lenD_q1, lenD_tup, lenD_lst, lenD_scr, lenD_re, lenO_q, dAbs_q1, dMin2_q1, dMax2_q1, dListM, dListF_k, kSeqF_q1, kSeqF_q2, dTupF_k, dOrd_q1, dStr_q1, dLst_e, dLstM_e, dTup_e, gSubD_e, dSetR, dFld_e, dSetFld_e, dAugFld_e, dAugN, dIpAdd_q1, dBM_e, tyD_q1, tyD_q2, tyD_q4, tyD_q5, tyD, dAppend, dPop, dJoin, strsD_map, dMeth_e, dCall_e, dMake_e, dFrz_e, frzR_lst_q, frzR_dK_q, frzR_ins_q, frz_int_q, frz_str_q, frz_bl_q, frz_non_q, frz_tup_q, frz_lst_q, frz_scr_q, frz_re, er_none, atI_zero, atI_one, ixN_zero, ixN_one, dDisp_e, dPairs, keysD_q1, keysD, dLc_e, dLcM_e, dFor_e, wipeD_q1, wipeD_q2, dYes_q1, dIt_e, itemsD_q1, itemsD_q2, itemsD_q3, itemsD_q4, itemsD, dRng1_e, dRng2_e, startD_q1, up_same, up_up, er_up, Option.map_some, List.map_cons, List.map_nil, List.length_map, List.length_cons, List.length_nil, List.replicate_succ, List.replicate_zero, List.cons_append, List.nil_append, List.append_nil, getD_qs, getD_q0, set_qs, set_q0, Nat.reduceSub, Nat.reduceAdd, Nat.zero_add, Nat.sub_zero, Bool.not_true, Bool.not_false, if_true, if_false, Bool.true_eq_false, Bool.false_eq_true, reduceIte, true_and, and_true, beq_self_eq_true, Int.reduceEq, Int.reduceLT, Int.reduceLE, Int.reduceAdd, Int.reduceSub, Int.reduceNeg, Int.reduceMul, decide_true, decide_false, dEnS_q, kEnS1_q, kEnS2_q, gStarN_q, gStarD_q, dFmt_q, kFmt_q1, kFmt_q2, dJst_q, dJs_q1, dJs_q2, kJs_q, dSplitK_q, dFind_q1, dFind_q2, dIntF_q1, dIntF_q2, dMulT_q, dPar2_q1, kPar2_q1, dPar3_q1, kPar3_q1, dIsi_q1, kIsi_q1, tyOfD_q1, tyOfD_q2, tyOfD_q3, tyOfD_q4, tyOfD_q5, tyOfD_q6, tyOfD_q7, tyOfD_q8, tyOfO_q1, tyOfO_q2, tyOfO, isT_q1, isT_q2, isT_q3, isT_q4, isT_q5, isT_q6, isT_q7, isT_q8, tyN_bool, tyN_int, tyN_str, tyN_tuple, tyN_list, dRev_q1, kRev_q1, kRev_q2, kRev_q3, dRepl_q, kRepl_q, dReplAA_q, kReplAA_q, dMulS_q1, dSplit1_q, dJoin_lst, kJoinS_q, dEqE_q, kEqE_q, dIntS_q, dInKD_q, dIxKD_q, kMethX2_q, dMethX_q, kMethX, kRaise_q, dRaise_q, kCallX_q, dCallX_q, dTry_q, kEndsD_nx, isNonD_q1, isNonD, dFldE_q, kFldE, dIsk, dGet2_q, kGet1_q, kGet2_q, kGet3_q, kGetR_q, kGetX_q, isDK_q, dEnT_q, kEnT_q, dIskT_q, kIskT, dAddM_q, dTryX_q, dXfS_q, kXfS, isTf_non_bl, isTf_non_int, isTf_non_str, isTf_non_tup, isTf_non_lst, isTf_non_dct, isTf_bl_non, isTf_bl_str, isTf_bl_tup, isTf_bl_lst, isTf_bl_dct, isTf_int_non, isTf_int_bl, isTf_int_str, isTf_int_tup, isTf_int_lst, isTf_int_dct, isTf_str_non, isTf_str_bl, isTf_str_int, isTf_str_tup, isTf_str_lst, isTf_str_dct, isTf_tup_non, isTf_tup_bl, isTf_tup_int, isTf_tup_str, isTf_tup_lst, isTf_tup_dct, isTf_lst_non, isTf_lst_bl, isTf_lst_int, isTf_lst_str, isTf_lst_tup, isTf_lst_dct, isTf_dct_non, isTf_dct_bl, isTf_dct_int, isTf_dct_str, isTf_dct_tup, isTf_dct_lst, *]))
local macro_rules | `(tactic| walk_at "side") => `(tactic| first | omega | exact size_lt (by omega) | exact size_le (by omega) | exact mulS (by omega) (by omega) | exact mulS' (by omega) (by omega) | exact cdiv (by omega) (by omega) | exact shaped_ints _ | exact shaped_nil | assumption)
local macro_rules | `(tactic| walk_at "sides") => `(tactic| repeat ((with_reducible refine And.intro ?_ ?_); next => walk_at "side"))
local macro_rules | `(tactic| walk_at "if") => `(tactic| (refine ifS ?_; walk_at "dl"))
local macro_rules | `(tactic| walk_at "for") => `(tactic| (unfold dFor; walk_at "dl"; walk_at "sides"))
local macro_rules | `(tactic| walk_at "upf") => `(tactic| first | exact up_same | assumption | ((rw [up_ne (by first | assumption | exact Ne.symm (by assumption))]); walk_at "upf") | ((rw [er_ne (by first | assumption | exact Ne.symm (by assumption))]); walk_at "upf"))

local macro_rules | `(tactic| walk_at "tst") => `(tactic| (intro Q q; walk_at "dl"; all_goals assumption))
variable {P : Program} {w : World} {K : PySem.W.Frag} {mg : Str → Option Value} {base : Heap} {C CE fI : Addr}
/-! ### a value with something otherwise -/
theorem zA_tx : ∀ c ∈ DL.tl zA, txs c = true := by decide +kernel
def cP : Nat → Nat
  | 0 => 20
  | n + 1 => 2 + 3 * cP n
theorem cP_le (n : Nat) : 20 ≤ cP n := by
  induction n with
  | zero => exact Nat.le_refl _
  | succ n ih => show 20 ≤ 2 + 3 * cP n; omega
theorem vl_gv {n : Nat} {d : DV} (h : Vl n d) : Gv n d ∧ pc (wr d) ≤ cP n := by
  induction h with
  | non n => exact ⟨.non n, Nat.zero_le _⟩
  | bl n b => exact ⟨.bl n b, by cases b <;> exact Nat.zero_le _⟩
  | int n i h => exact ⟨.int n i h, by rw [show wr (.int i) = wrI i from rfl, pc_wrI]; exact Nat.zero_le _⟩
  | str n z h o =>
    have a := pc_str z
    have b := cP_le n
    exact ⟨.str n z fun c hc => zA_tx c (o c hc), by omega⟩
  | tup n ds hl h ih =>
    have a := pc_tup (m := cP n) fun d hd => (ih d hd).2
    have b : ds.length * cP n ≤ 3 * cP n := Nat.mul_le_mul_right _ hl
    refine ⟨.tup n ds fun d hd => (ih d hd).1, ?_⟩
    show _ ≤ 2 + 3 * cP n
    omega
theorem gv_lay {n : Nat} {d : DV} (h : Gv n d) : ∃ p, pd d = some p ∧ p.canLay0 = true ∧ p.depth ≤ n := by
  induction h with
  | non n => exact ⟨.none, by simp [pd], by simp [PyData.canLay0], by simp [PyData.depth]⟩
  | bl n b => exact ⟨.bool b, by simp [pd], by simp [PyData.canLay0], by simp [PyData.depth]⟩
  | int n i h => exact ⟨.int i, by simp [pd], by simp [PyData.canLay0], by simp [PyData.depth]⟩
  | str n z h =>
    have e : okS z := by
      rw [okS_iff]
      exact fun c hc => by
        have := of_decide_eq_true (h c hc)
        omega
    exact ⟨.str z, by simp [pd], by simp only [PyData.canLay0]; exact e, by simp [PyData.depth]⟩
  | tup n ds h ih =>
    have key : ∀ es : List DV, (∀ e ∈ es, ∃ p, pd e = some p ∧ p.canLay0 = true ∧ p.depth ≤ n) → ∃ ps, pdL es = some ps ∧ PyData.canLayAll0 ps = true ∧ PyData.depthAll ps ≤ n := by
      intro es
      induction es with
      | nil => exact fun _ => ⟨[], by simp [pdL], by simp [PyData.canLayAll0], by simp [PyData.depthAll]⟩
      | cons e es ih2 =>
        intro h2
        obtain ⟨p, a1, a2, a3⟩ := h2 e List.mem_cons_self
        obtain ⟨ps, b1, b2, b3⟩ := ih2 fun x hx => h2 x (List.mem_cons_of_mem _ hx)
        exact ⟨p :: ps, by rw [pdL, a1, b1], by simp [PyData.canLayAll0, a2, b2], by simp only [PyData.depthAll]; omega⟩
    obtain ⟨ps, b1, b2, b3⟩ := key ds ih
    exact ⟨.tuple ps, by rw [pd, b1]; rfl, by simp only [PyData.canLay0]; exact b2, by simp only [PyData.depth]; omega⟩
theorem gv_tup {n : Nat} {ds : List DV} (h : Gv n (.tup ds)) (hn : n ≤ 64) : ∃ ps, pdL ds = some ps ∧ SeqAt.shaped (.tuple ps) = true ∧ ps.length = ds.length := by
  obtain ⟨p, e, h1, h2⟩ := gv_lay h
  rw [pd] at e
  cases hl : pdL ds with
  | none => rw [hl] at e; cases e
  | some ps =>
    rw [hl] at e
    cases e
    refine ⟨ps, rfl, by unfold SeqAt.shaped; rw [h1]; exact decide_eq_true (Nat.le_trans h2 hn), ?_⟩
    clear h1 h2 h
    have key : ∀ (es : List DV) (qs : List PyData), pdL es = some qs → qs.length = es.length := by
      intro es
      induction es with
      | nil => intro qs h; simp [pdL] at h; rw [h]; rfl
      | cons e es ih =>
        intro qs h
        rw [pdL] at h
        cases h1 : pd e with
        | none => rw [h1] at h; cases h
        | some p =>
          cases h2 : pdL es with
          | none => rw [h1, h2] at h; cases h
          | some ps => rw [h1, h2] at h; cases h; rw [List.length_cons, List.length_cons, ih _ h2]
    exact key _ _ hl
theorem sh_nil : SeqAt.shaped (.tuple []) = true := by unfold SeqAt.shaped; simp [PyData.canLay0, PyData.canLayAll0, PyData.depth, PyData.depthAll]
theorem ev_nil : PyData.eqv (.tuple []) (.tuple []) = true := by simp [PyData.eqv, PyData.eqvAll]
theorem ev_cons {ps : List PyData} (h : ps ≠ []) : PyData.eqv (.tuple ps) (.tuple []) = false := by
  cases ps with
  | nil => exact absurd rfl h
  | cons p ps => simp [PyData.eqv, PyData.eqvAll]
/-- near a value -/
structure Nr (n : Nat) (v v' : DV) : Prop where
  gv : Gv n v'
  len : (wr v').length ≤ (wr v).length + 60
  pcs : pc (wr v') ≤ pc (wr v) + 4
structure Fl (n : Nat) (v' : DV) : Prop where
  gv : Gv n v'
  len : (wr v').length ≤ 60
  pcs : pc (wr v') ≤ 4
theorem Fl.nr {n : Nat} {v v' : DV} (h : Fl n v') : Nr n v v' := ⟨h.gv, Nat.le_trans h.len (Nat.le_add_left _ _), Nat.le_trans h.pcs (Nat.le_add_left _ _)⟩
theorem fl_int {n : Nat} {i : Int} (h : i.natAbs < 10 ^ 40) : Fl n (.int i) := ⟨.int _ _ h, Nat.le_trans (wrI_len h) (by decide), by rw [show wr (.int i) = wrI i from rfl, pc_wrI]; exact Nat.zero_le _⟩
theorem fl_bl {n : Nat} {b : Bool} : Fl n (.bl b) := ⟨.bl _ _, by cases b <;> exact (by decide : 1 ≤ 60), by cases b <;> exact Nat.zero_le _⟩
theorem wrI_tx {i : Int} : ∀ c ∈ wrI i, txs c = true := by
  have key : ∀ n, ∀ c ∈ TL.numL n, txs c = true := fun n c hc => by
    have := TL.numL_digits n c hc
    exact decide_eq_true (by omega)
  intro c hc
  cases i with
  | ofNat n => exact key n c hc
  | negSucc n =>
    rcases List.mem_cons.mp hc with rfl | hc
    · decide
    · exact key _ c hc
theorem fl_istr {n : Nat} {i : Int} (h : i.natAbs < 10 ^ 40) : Fl n (.str (Str.ofString (toString i))) := by
  have e := tl_int i
  have hd : StrLaws.dbl 34 (wrI i) = wrI i := by
    have key : ∀ l : List Nat, (∀ c ∈ l, c ≠ 34) → StrLaws.dbl 34 l = l := by
      intro l
      induction l with
      | nil => exact fun _ => rfl
      | cons c l ih =>
        intro hc
        rw [dbl_cons_ne (hc c List.mem_cons_self), ih fun x hx => hc x (List.mem_cons_of_mem _ hx)]
    refine key _ fun c hc => ?_
    cases i with
    | ofNat n =>
      have := TL.numL_digits n c hc
      omega
    | negSucc n =>
      rcases List.mem_cons.mp hc with rfl | hc
      · decide
      · have := TL.numL_digits _ c hc
        omega
  have hw : wr (.str (Str.ofString (toString i))) = 34 :: (wrI i ++ [34]) := by
    show 34 :: (StrLaws.dbl 34 (DL.tl (Str.ofString (toString i))) ++ [34]) = _
    rw [e, hd]
  have hl := wrI_len h
  refine ⟨.str _ _ (by rw [e]; exact wrI_tx), ?_, ?_⟩
  · rw [hw, List.length_cons, List.length_append]; show (wrI i).length + 1 + 1 ≤ 60; omega
  · rw [hw, pc_cons, pc_app, pc_wrI]; decide
theorem fl_e {n : Nat} : Fl n (.str (Str.ofString "")) := by
  have e : wr (.str (Str.ofString "")) = [34, 34] := by decide +kernel
  exact ⟨.str _ _ (by decide +kernel), by rw [e]; decide, by rw [e]; decide⟩
theorem fl_m {n : Nat} : Fl n (.str (Str.ofString "-")) := by
  have e : wr (.str (Str.ofString "-")) = [34, 45, 34] := by decide +kernel
  exact ⟨.str _ _ (by decide +kernel), by rw [e]; decide, by rw [e]; decide⟩
theorem fl_t {n : Nat} : Fl (n + 1) (.tup []) := ⟨.tup _ _ fun d hd => (nomatch hd), (by decide : 2 ≤ 60), (by decide : 2 ≤ 4)⟩
theorem flat8 (n : Nat) : ∀ d ∈ [DV.int 0, .int 1, .non, .bl true, .bl false, .str (Str.ofString ""), .str (Str.ofString "-"), .tup []], Fl (n + 1) d :=
  List.forall_mem_cons.mpr ⟨fl_int (by decide), List.forall_mem_cons.mpr ⟨fl_int (by decide), List.forall_mem_cons.mpr ⟨⟨.non _, (by decide : 1 ≤ 60), (by decide : 0 ≤ 4)⟩, List.forall_mem_cons.mpr ⟨fl_bl, List.forall_mem_cons.mpr ⟨fl_bl, List.forall_mem_cons.mpr ⟨fl_e, List.forall_mem_cons.mpr ⟨fl_m, List.forall_mem_cons.mpr ⟨fl_t, fun d hd => (nomatch hd)⟩⟩⟩⟩⟩⟩⟩⟩
/-! a text's -/
theorem wrS_of (z : Str) : wr (.str z) = 34 :: (StrLaws.dbl 34 (DL.tl z) ++ [34]) := rfl
theorem dbl_perm : ∀ {l m : List Nat}, l.Perm m → (StrLaws.dbl 34 l).Perm (StrLaws.dbl 34 m) := by
  intro l m h
  induction h with
  | nil => exact .nil
  | cons x _ ih =>
    by_cases e : x = 34
    · subst e; rw [dbl_cons_eq, dbl_cons_eq]; exact (ih.cons _).cons _
    · rw [dbl_cons_ne e, dbl_cons_ne e]; exact ih.cons _
  | swap x y l =>
    by_cases e : x = 34
    · by_cases f : y = 34
      · subst e f; exact .refl _
      · subst e; rw [dbl_cons_ne f, dbl_cons_eq, dbl_cons_eq, dbl_cons_ne f]
        exact ((List.Perm.swap 34 y _).trans ((List.Perm.swap 34 y _).cons 34))
    · by_cases f : y = 34
      · subst f; rw [dbl_cons_eq, dbl_cons_ne e, dbl_cons_ne e, dbl_cons_eq]
        exact (((List.Perm.swap x 34 _).cons 34).trans (List.Perm.swap x 34 _))
      · rw [dbl_cons_ne f, dbl_cons_ne e, dbl_cons_ne e, dbl_cons_ne f]; exact .swap _ _ _
  | trans _ _ a b => exact a.trans b
theorem dbl_app2 : ∀ l m : List Nat, StrLaws.dbl 34 (l ++ m) = StrLaws.dbl 34 l ++ StrLaws.dbl 34 m
  | [], m => rfl
  | c :: l, m => by
    by_cases e : c = 34
    · subst e; rw [List.cons_append, dbl_cons_eq, dbl_cons_eq, dbl_app2 l m]; rfl
    · rw [List.cons_append, dbl_cons_ne e, dbl_cons_ne e, dbl_app2 l m]; rfl
structure NrS (z y : Str) : Prop where
  tx : ∀ c ∈ DL.tl y, txs c = true
  len : (StrLaws.dbl 34 (DL.tl y)).length ≤ (StrLaws.dbl 34 (DL.tl z)).length + 2
  pcs : pc (StrLaws.dbl 34 (DL.tl y)) ≤ pc (StrLaws.dbl 34 (DL.tl z))
theorem NrS.nr {n : Nat} {z y : Str} (h : NrS z y) : Nr n (.str z) (.str y) := by
  have h1 := h.len
  have h2 := h.pcs
  refine ⟨.str _ _ h.tx, ?_, ?_⟩
  · rw [wrS_of, wrS_of, List.length_cons, List.length_cons, List.length_append, List.length_append]; omega
  · have e : ∀ x : Str, pc (wr (.str x)) = pc (StrLaws.dbl 34 (DL.tl x)) := fun x => by
      rw [wrS_of, pc_cons 34, pc_app]
      exact Nat.zero_add _
    rw [e, e]; omega
theorem nrS_app {z a : Str} {c : Nat} (hz : ∀ c ∈ DL.tl z, txs c = true) (ha : DL.tl a = [c]) (hc : txs c = true) (hp : pc (StrLaws.dbl 34 [c]) = 0) (hl : (StrLaws.dbl 34 [c]).length ≤ 2) : NrS z (z ++ a) := by
  have e : DL.tl (z ++ a) = DL.tl z ++ [c] := by rw [tl_app, ha]
  refine ⟨fun x hx => ?_, ?_, ?_⟩
  · rw [e] at hx
    rcases List.mem_append.mp hx with hx | hx
    · exact hz x hx
    · rw [List.mem_singleton.mp hx]; exact hc
  · rw [e, dbl_app2, List.length_append]; omega
  · rw [e, dbl_app2, pc_app]; omega
theorem nrS_take {z y : Str} {k : Nat} (hz : ∀ c ∈ DL.tl z, txs c = true) (e : DL.tl y = (DL.tl z).take k) : NrS z y := by
  have e2 : DL.tl z = (DL.tl z).take k ++ (DL.tl z).drop k := (List.take_append_drop k _).symm
  have e3 : StrLaws.dbl 34 (DL.tl z) = StrLaws.dbl 34 ((DL.tl z).take k) ++ StrLaws.dbl 34 ((DL.tl z).drop k) := by rw [← dbl_app2, List.take_append_drop]
  refine ⟨fun x hx => hz x ?_, ?_, ?_⟩
  · rw [e] at hx; exact List.mem_of_mem_take hx
  · rw [e, e3, List.length_append]; omega
  · rw [e, e3, pc_app]; omega
theorem nrS_rev {z y : Str} (hz : ∀ c ∈ DL.tl z, txs c = true) (e : DL.tl y = (DL.tl z).reverse) : NrS z y := by
  have p := dbl_perm (List.reverse_perm (DL.tl z))
  refine ⟨fun x hx => hz x ?_, ?_, ?_⟩
  · rw [e] at hx; exact List.mem_reverse.mp hx
  · rw [e, p.length_eq]; omega
  · rw [e]; unfold pc; rw [p.countP_eq]; exact Nat.le_refl _
/-! a tuple's -/
theorem wrT_sum (ds : List DV) : (wr (.tup ds)).length ≤ (wrR ds).length + 2 ∧ (wrR ds).length + 1 ≤ (wr (.tup ds)).length ∧ pc (wr (.tup ds)) = pc (wrR ds) + 2 := by
  have h1 := wrT_len ds
  cases ds with
  | nil => exact ⟨by decide, by decide, by decide⟩
  | cons d ds =>
    have e2 : (wrR (d :: ds)).length = (wrJ (d :: ds)).length + 1 := rfl
    have e3 : pc (wr (.tup (d :: ds))) = pc (wrJ (d :: ds)) + 2 := by
      show pc (40 :: (wrJ (d :: ds) ++ [41])) = _
      rw [pc_cons, pc_app]
      show 1 + (_ + 1) = _
      omega
    have e4 : pc (wrR (d :: ds)) = pc (wrJ (d :: ds)) := by
      show pc (32 :: wrJ (d :: ds)) = _
      rw [pc_cons]
      exact Nat.zero_add _
    omega
theorem wrR_one (d : DV) : (wrR [d]).length = (wr d).length + 1 ∧ pc (wrR [d]) = pc (wr d) := by
  have e : wrR [d] = 32 :: (wr d ++ []) := rfl
  rw [e, List.append_nil, List.length_cons, pc_cons]
  exact ⟨rfl, Nat.zero_add _⟩
theorem wrR_len (a b : List DV) : (wrR (a ++ b)).length = (wrR a).length + (wrR b).length ∧ pc (wrR (a ++ b)) = pc (wrR a) + pc (wrR b) := by
  rw [wrR_append, List.length_append, pc_app]
  exact ⟨rfl, rfl⟩
theorem wrT_ne {ds : List DV} (h : ds ≠ []) : (wr (.tup ds)).length = (wrR ds).length + 1 := by
  have h1 := wrT_len ds
  cases ds with
  | nil => exact absurd rfl h
  | cons d ds =>
    have e2 : (wrR (d :: ds)).length = (wrJ (d :: ds)).length + 1 := rfl
    omega
structure NrT (ds es : List DV) : Prop where
  len : (wrR es).length ≤ (wrR ds).length + 50
  pcs : pc (wrR es) ≤ pc (wrR ds) + 2
theorem NrT.nr {n : Nat} {ds es : List DV} (h : NrT ds es) (hv : ∀ e ∈ es, Gv n e) : Nr (n + 1) (.tup ds) (.tup es) := by
  have h1 := wrT_sum ds
  have h2 := wrT_sum es
  have h3 := h.len
  have h4 := h.pcs
  exact ⟨.tup _ _ hv, by omega, by omega⟩
theorem nrT_take (ds : List DV) (k : Nat) : NrT ds (ds.take k) := by
  have h := wrR_len (ds.take k) (ds.drop k)
  rw [List.take_append_drop] at h
  exact ⟨by omega, by omega⟩
theorem wrR_rev : ∀ ds : List DV, (wrR ds.reverse).length = (wrR ds).length ∧ pc (wrR ds.reverse) = pc (wrR ds)
  | [] => ⟨rfl, rfl⟩
  | d :: ds => by
    have h1 := wrR_rev ds
    have h2 := wrR_len ds.reverse [d]
    have h3 := wrR_len [d] ds
    rw [List.reverse_cons]
    rw [show [d] ++ ds = d :: ds from rfl] at h3
    omega
theorem nrT_rev (ds : List DV) : NrT ds ds.reverse := by
  have h := wrR_rev ds
  exact ⟨by omega, by omega⟩
theorem nrT_app (ds : List DV) : NrT ds (ds ++ [.int 0]) := by
  have h := wrR_len ds [.int 0]
  have h2 := wrR_one (.int 0)
  have h3 := (fl_int (n := 0) (i := 0) (by decide)).pcs
  have e0 : wr (.int 0) = [48] := TL.numL_lt (by decide)
  rw [e0] at h2
  have e1 : ([48] : List Nat).length = 1 := rfl
  have e2 : pc [48] = 0 := rfl
  exact ⟨by omega, by omega⟩
theorem nr_in {n : Nat} {v : DV} (h : Gv n v) : Nr (n + 1) v (.tup [v]) := by
  have h1 := wrT_sum [v]
  have h2 := wrR_one v
  exact ⟨.tup _ _ fun d hd => by rw [List.mem_singleton.mp hd]; exact h, by omega, by omega⟩
theorem nr_at {n : Nat} {ds : List DV} {k : Nat} {v v' : DV} (hk : ds[k]? = some v) (hv : ∀ d ∈ ds, Gv n d) (h : Nr n v v') : Nr (n + 1) (.tup ds) (.tup (DL.cutD ds none (some (k : Int)) ++ [v'] ++ DL.cutD ds (some ((k : Int) + 1)) none)) := by
  have hl : k < ds.length := (List.getElem?_eq_some_iff.mp hk).1
  have e1 : DL.cutD ds none (some (k : Int)) = ds.take k := by
    unfold DL.cutD
    rw [HT.sIx_none, HT.sIx_nat, List.drop_zero, Nat.sub_zero, Nat.min_eq_left (by omega)]
  have e2 : DL.cutD ds (some ((k : Int) + 1)) none = ds.drop (k + 1) := by
    unfold DL.cutD
    rw [show ((k : Int) + 1) = ((k + 1 : Nat) : Int) from rfl, HT.sIx_none, HT.sIx_nat, Nat.min_eq_left (by omega)]
    exact List.take_of_length_le (by rw [List.length_drop]; omega)
  have e3 : ds = ds.take k ++ ([v] ++ ds.drop (k + 1)) := by
    have := List.take_append_drop k ds
    rw [List.drop_eq_getElem_cons hl, List.getElem_eq_iff (h := hl) |>.mpr hk] at this
    exact this.symm
  rw [e1, e2]
  have a1 := wrR_len (ds.take k) ([v] ++ ds.drop (k + 1))
  rw [← e3] at a1
  have a2 := wrR_len [v] (ds.drop (k + 1))
  have a3 := wrR_len (ds.take k ++ [v']) (ds.drop (k + 1))
  have a4 := wrR_len (ds.take k) [v']
  have a5 := wrR_one v
  have a6 := wrR_one v'
  have n1 : ds ≠ [] := fun e => by rw [e] at hl; exact absurd hl (Nat.not_lt_zero _)
  have n2 : ds.take k ++ [v'] ++ ds.drop (k + 1) ≠ [] := fun e => by
    have := congrArg List.length e
    rw [List.length_append, List.length_append] at this
    have h1 : [v'].length = 1 := rfl
    have h2 : ([] : List DV).length = 0 := rfl
    omega
  have b1 := wrT_ne n1
  have b2 := wrT_ne n2
  have b3 := (wrT_sum ds).2.2
  have b4 := (wrT_sum (ds.take k ++ [v'] ++ ds.drop (k + 1))).2.2
  have c1 := h.len
  have c2 := h.pcs
  refine ⟨.tup _ _ fun d hd => ?_, ?_, ?_⟩
  · rcases List.mem_append.mp hd with hd | hd
    · rcases List.mem_append.mp hd with hd | hd
      · exact hv d (List.mem_of_mem_take hd)
      · rw [List.mem_singleton.mp hd]; exact h.gv
    · exact hv d (List.mem_of_mem_drop hd)
  · omega
  · omega
end Law

set_option Elab.async false
set_option linter.all false
set_option maxRecDepth 100000
set_option maxHeartbeats 4000000
namespace Law
open PySem PySem.Spec PyProof.Rows L2 DL VW
local macro_rules | `(tactic| walk_at "dl") => `(tactic| (try simp only [kOp1_e, kOp2_e, kTest_q1, kChain1_e, kChain2_e, kChain3_q1, kChain3_q2, dChain_e, kAnd_q1, kAnd_q2, kOr_q1, kOr_q2, kNot_e, kIf_q1, kIf_q2, kTru_k, kTruO_q1, kTruO_q2, kCons1_e, kCons2_e, kTup_e, kLst_e, kLstM_e, kFrz_e, kDrop_q1, kRetS_e, kIfS_e, kAsg_e, kGCons_e, kPart_q1, kSl1_e, kSl2_e, kSl3_e, kSub1_e, kSub2_e, kCB_e, kBM1_e, kBM2_e, kIt_q, kItO_q, kRng1_q1, kRng2_q1, kWhile_e, kLc1_e, kLc2_e, kLc2', kLc3_e, finF_e, finM_e, kAndE_q1, kAndE_q2, kOrE_q1, kOrE_q2, kNotE_q1, kNeg_q1, kCall_e, kCallK_e, kCallK2_e, dCallK_e, kMeth, kMeth2_e, kMade_e, kMake_e, kMakeK_e, kMakeK2_e, dMakeK_e, kFld, kSetFld_e, kSetFld2, kAugFld, kAugN1_e, kAugN2_e, kPair1_q1, kPair2_q1, kPair3_e, kDisp, dSeq_e, dAsg_e, dVar_k, kVar_q1, kVar_q2, dC_e, dOp_e, gNameD_e, gNilD_e, gConsD_q1, gConsD_q2, gTupD_q1, gifT_q, gifF_q, dTest_e, dTru_e, truD_q1, truD_q2, truD_q3, truD_q5, truD_q6, truD_q7, truD, truD_qs, dAnd_e, dOr_e, dNot_e, dAndE_e, dOrE_e, dNotE_e, dNeg_e, dIf_e, dRet_e, dRetN_e, dRetS_e, dNext_e, dDrop_e, dBreak_e, dCont_e, dCB_e, dCons_e, dNil_e, dIx_str, dIx_lst_q, dIx_tup_q, dIx_scr_q, kChr_q1, kChr_q2, dIx_re, kIxR_q1, kIxR_q2, kIxK_q, ixD_q1, ixD_q2, dSl_e, dSlR_str_q, dSlR_tup_q, dSlR_lst_q, dSlR_scr, dSlR_q1, dSlR_q2, dSlM, dPart_e, dNoPart_e, dI_q1, dI0_q1, dAdd_int_q, dAdd_str_q, dAdd_tup_q, dAdd_lst_q, dAdd_q1, dAdd_q2, dAdd_q3, dMul_int_q, dMul_q1, dMul_q2, dLtB_q1, dLtB_q2, dEq_k, kEqO_q1, kEqO_q2, kEqS_q1, dNe_k, dIs_q1, dIs_q2, isNonD_q1, isNonD, dIn_tup_q, dIn_lst_q, dIn_str_q, dIn_q1, scalEq_q1, scalEq_q2, scalEq_q3, scalEq_q4, scalEq_q5, scalEq_q6, scalEq_q7, scalEq_q8, scalEq, pdS, pd_q1, pd_q2, pd_q3, pd_q4, pd_q5, pd_q6, pd_q7, pd_q8, pdL_q1, pdL, pdL_ints, pdL_strs, eqv_nil, List.isEmpty_map, refL_lst_q, refL_dK_q, refL_ins_q, lstD_lst_q, lstD_scr_q, lstD_tup_q, lstD_str_q, lstD_int_q, lstD_re, lstW_lst_q, lstW_tup_q, lstW_str_q, lstW_int_q, lstW_re, seqD_tup_q, seqD_lst_q, seqD_scr_q, seqD_str_q, seqD_int_q, seqD_re, dictD, keyD_q1, keyD_q2, keyD, dLen_k, kLenO_q1, kLenO_q2, lenD_q1, lenD_tup, lenD_lst, lenD_scr, lenD_re, lenO_q, dAbs_q1, dMin2_q1, dMax2_q1, dListM, dListF_k, kSeqF_q1, kSeqF_q2, dTupF_k, dOrd_q1, dStr_q1, dLst_e, dLstM_e, dTup_e, gSubD_e, dSetR, dFld_e, dSetFld_e, dAugFld_e, dAugN, dIpAdd_q1, dBM_e, tyD_q1, tyD_q2, tyD_q4, tyD_q5, tyD, dAppend, dPop, dJoin, strsD_map, dMeth_e, dCall_e, dMake_e, dFrz_e, frzR_lst_q, frzR_dK_q, frzR_ins_q, frz_int_q, frz_str_q, frz_bl_q, frz_non_q, frz_tup_q, frz_lst_q, frz_scr_q, frz_re, er_none, atI_zero, atI_one, ixN_zero, ixN_one, dDisp_e, dPairs, keysD_q1, keysD, dLc_e, dLcM_e, dFor_e, wipeD_q1, wipeD_q2, dYes_q1, dIt_e, itemsD_q1, itemsD_q2, itemsD_q3, itemsD_q4, itemsD, dRng1_e, dRng2_e, startD_q1, up_same, up_up, er_up, Option.map_some, List.map_cons, List.map_nil, List.length_map, List.length_cons, List.length_nil, List.replicate_succ, List.replicate_zero, List.cons_append, List.nil_append, List.append_nil, getD_qs, getD_q0, set_qs, set_q0, Nat.reduceSub, Nat.reduceAdd, Nat.zero_add, Nat.sub_zero, Bool.not_true, Bool.not_false, if_true, if_false, Bool.true_eq_false, Bool.false_eq_true, reduceIte, true_and, and_true, beq_self_eq_true, Int.reduceEq, Int.reduceLT, Int.reduceLE, Int.reduceAdd, Int.reduceSub, Int.reduceNeg, Int.reduceMul, decide_true, decide_false, dEnS_q, kEnS1_q, kEnS2_q, gStarN_q, gStarD_q, dFmt_q, kFmt_q1, kFmt_q2, dJst_q, dJs_q1, dJs_q2, kJs_q, dSplitK_q, dFind_q1, dFind_q2, dIntF_q1, dIntF_q2, dMulT_q, dPar2_q1, kPar2_q1, dPar3_q1, kPar3_q1, dIsi_q1, kIsi_q1, tyOfD_q1, tyOfD_q2, tyOfD_q3, tyOfD_q4, tyOfD_q5, tyOfD_q6, tyOfD_q7, tyOfD_q8, tyOfO_q1, tyOfO_q2, tyOfO, isT_q1, isT_q2, isT_q3, isT_q4, isT_q5, isT_q6, isT_q7, isT_q8, tyN_bool, tyN_int, tyN_str, tyN_tuple, tyN_list, dRev_q1, kRev_q1, kRev_q2, kRev_q3, dRepl_q, kRepl_q, dReplAA_q, kReplAA_q, dMulS_q1, dSplit1_q, dJoin_lst, kJoinS_q, dEqE_q, kEqE_q, dIntS_q, dInKD_q, dIxKD_q, kMethX2_q, dMethX_q, kMethX, kRaise_q, dRaise_q, kCallX_q, dCallX_q, dTry_q, kEndsD_nx, isNonD_q1, isNonD, dFldE_q, kFldE, dIsk, dGet2_q, kGet1_q, kGet2_q, kGet3_q, kGetR_q, kGetX_q, isDK_q, dEnT_q, kEnT_q, dIskT_q, kIskT, dAddM_q, dTryX_q, dXfS_q, kXfS, isTf_non_bl, isTf_non_int, isTf_non_str, isTf_non_tup, isTf_non_lst, isTf_non_dct, isTf_bl_non, isTf_bl_str, isTf_bl_tup, isTf_bl_lst, isTf_bl_dct, isTf_int_non, isTf_int_bl, isTf_int_str, isTf_int_tup, isTf_int_lst, isTf_int_dct, isTf_str_non, isTf_str_bl, isTf_str_int, isTf_str_tup, isTf_str_lst, isTf_str_dct, isTf_tup_non, isTf_tup_bl, isTf_tup_int, isTf_tup_str, isTf_tup_lst, isTf_tup_dct, isTf_lst_non, isTf_lst_bl, isTf_lst_int, isTf_lst_str, isTf_lst_tup, isTf_lst_dct, isTf_dct_non, isTf_dct_bl, isTf_dct_int, isTf_dct_str, isTf_dct_tup, isTf_dct_lst, *]))
local macro_rules | `(tactic| walk_at "side") => `(tactic| first | omega | exact size_lt (by omega) | exact size_le (by omega) | exact mulS (by omega) (by omega) | exact mulS' (by omega) (by omega) | exact cdiv (by omega) (by omega) | exact shaped_ints _ | exact shaped_nil | assumption)
local macro_rules | `(tactic| walk_at "sides") => `(tactic| repeat ((with_reducible refine And.intro ?_ ?_); next => walk_at "side"))
local macro_rules | `(tactic| walk_at "if") => `(tactic| (refine ifS ?_; walk_at "dl"))
local macro_rules | `(tactic| walk_at "for") => `(tactic| (unfold dFor; walk_at "dl"; walk_at "sides"))
local macro_rules | `(tactic| walk_at "upf") => `(tactic| first | exact up_same | assumption | ((rw [up_ne (by first | assumption | exact Ne.symm (by assumption))]); walk_at "upf") | ((rw [er_ne (by first | assumption | exact Ne.symm (by assumption))]); walk_at "upf"))

local macro_rules | `(tactic| walk_at "tst") => `(tactic| (intro Q q; walk_at "dl"; all_goals assumption))
variable {P : Program} {w : World} {K : PySem.W.Frag} {mg : Str → Option Value} {base : Heap} {C CE fI : Addr}
theorem cutD_len (ds : List DV) (lo hi : Option Int) : (DL.cutD ds lo hi).length ≤ ds.length := by
  unfold DL.cutD
  rw [List.length_take, List.length_drop]
  omega
def spNear (k : Nat) : Spd := fun ds s Q _ => ∃ (p : Addr) (n : Nat) (v : DV), ds = [.ref p, v] ∧ Vl k v ∧ Pen s p n ∧ n + 10 * (k + 1) ≤ 10 ^ 6 ∧ Kp (∀ v' s', Nr (k + 1) v v' → Nxt s s' p (n + 10 * (k + 1)) → Q v' s')
theorem ok_near0 (T : Txt K mg) : Fn P w K mg base "_law_near" 2 ["hand", "value"] spNo :=
  fnOk T.d__law_near sc__law_near (fun ds s Q E h => h.elim) (fun A f cdv Ar outer s H E hr => dssdead) fun ds s Q E h => h.elim
theorem ok_nearN (T : Txt K mg) (G__law_pick : Fn P w K mg base "_law_pick" 1 ["hand", "many"] spPck) (k : Nat) (hk : k ≤ 60) {spI : Spd} (hI : ∀ j, k = j + 1 → spI = spNear j)
    (G__law_near : Fn P w K mg base "_law_near" (k + 2) ["hand", "value"] spI) : Fn P w K mg base "_law_near" (k + 3) ["hand", "value"] (spNear k) := by
  refine fnOk T.d__law_near sc__law_near (fun ds s Q E h => ?_) (fun A f cdv Ar outer s H E hr => (dsc (dsif ((dpand (dtruth (dcallB cd_isi T.b_isinstance (by decide +kernel) (dac (dpv 1) (dac (dbltn T.b_tuple rfl) dan)))) (dpand (dtcmp (od_ne hr.units) (dpv 1) (dtup dan) (nomark _)) (dpand1 (dtcmp od_gt (dfrz (dF G__law_pick (hr.mono (by omega)) (dac (dpv 0) (dac dint dan)))) dint (nomark _)))))).pt
  (dsc (dsset (i := 2) sc__law_near.nd rfl (Or.inl rfl) (dfrz (dF G__law_pick (hr.mono (by omega)) (dac (dpv 0) (dac (dcallB cd_len T.b_len PySem.boot_len (dac (dpv 1) dan)) dan)))))
  (ds1 (dsret (dop od_add (dop od_add (dslice sl_d (dpv 1) dpn (dpo (dpv 2))) (dtup (dac (dfrz (dF G__law_near (hr.mono (by omega)) (dac (dpv 0) (dac (dix (hu_of hr) (dpv 1) (dpv 2)) dan)))) dan))) (dslice sl_d (dpv 1) (dpo (dop od_add (dpv 2) dint)) dpn)))))
  dsn)
  (dsc (dsif ((dpor (dtruth (dcallB cd_isi T.b_isinstance (by decide +kernel) (dac (dpv 1) (dac (dbltn T.b_bool rfl) dan)))) (dpor1 (dtcmp od_is (dpv 1) dnon (nomark _))))).pt
  (ds1 (dsret (dix (hu_of hr) (dlst (dac dint (dac dint (dac dnon (dac dbl (dac dbl (dac dstr (dac dstr (dac (dtup dan) dan))))))))) (dfrz (dF G__law_pick (hr.mono (by omega)) (dac (dpv 0) (dac dint dan)))))))
  dsn)
  (dsc (dsif (dtruth (dcallB cd_isi T.b_isinstance (by decide +kernel) (dac (dpv 1) (dac (dbltn T.b_int rfl) dan))))
  (ds1 (dsret (dix (hu_of hr) (dlst (dac (dop od_mod (dop od_add (dpv 1) dint) (dop od_pow dint dint)) (dac (dop od_sub dint (dpv 1)) (dac (dop od_mod (dop od_mul dint (dpv 1)) (dop od_pow dint dint)) (dac (dcallTy cd_str T.b_str (by decide +kernel) (dac (dpv 1) dan)) (dac (dcmp (od_eq hr.units) (dpv 1) dint (nomark _)) dan)))))) (dfrz (dF G__law_pick (hr.mono (by omega)) (dac (dpv 0) (dac dint dan)))))))
  dsn)
  (dsc (dsif (dtruth (dcallB cd_isi T.b_isinstance (by decide +kernel) (dac (dpv 1) (dac (dbltn T.b_str rfl) dan))))
  (dsc (dsset (i := 3) sc__law_near.nd rfl (Or.inl rfl) (dfrz (dF G__law_pick (hr.mono (by omega)) (dac (dpv 0) (dac dint dan)))))
  (ds1 (dsret (dix (hu_of hr) (dlst (dac (dop od_add (dpv 1) dstr) (dac (dop od_add (dpv 1) dstr) (dac (dslice sl_d (dpv 1) dpn (dpo (dneg dint))) (dac (drev (dpv 1)) (dac (dtup (dac (dpv 1) dan)) dan)))))) (dpv 3)))))
  dsn)
  (ds1 (dsret (dix (hu_of hr) (dlst (dac (dtup (dac (dpv 1) dan)) (dac (dop od_add (dpv 1) (dtup (dac dint dan))) (dac (dslice sl_d (dpv 1) dpn (dpo (dneg dint))) (dac (drev (dpv 1)) (dac (dtup dan) dan)))))) (dfrz (dF G__law_pick (hr.mono (by omega)) (dac (dpv 0) (dac dint dan)))))))))))) (fun ds s Q E h => ?_)
  · obtain ⟨p, n, v, rfl, q⟩ := h
    rfl
  · obtain ⟨p, n, v, rfl, hv, hp, hn, q⟩ := h
    have fin : ∀ {l : List DV} {r : Int} {s1 : Sto}, (∀ d ∈ l, Nr (k + 1) v d) → 0 ≤ r → r < l.length → Nxt s s1 p (n + 10 * (k + 1)) → ixD (atI l r) s1 Q := fun h h0 h1 N => ixD_all h h0 h1 fun d hd => q.out d _ hd N
    have e40 : CPowD 10 40 := by unfold CPowD; decide
    have e39 : CPowD 10 39 := by unfold CPowD; decide
    cases hv with
    | non =>
      walk_at "dl"
      refine ifS_false (by walk_at "tst") ?_
      walk_at "dl"
      refine ifS_true (by walk_at "tst") ?_
      walk_at "dl"
      refine ⟨by decide, by decide, p, 8, n, rfl, hp, by omega, by decide, by decide, ⟨fun r s1 r0 r1 N1 => ?_⟩⟩
      walk_at "dl"
      exact fin (fun d hd => (flat8 k d hd).nr) r0 r1 (N1.le (by omega))
    | bl _ b =>
      walk_at "dl"
      refine ifS_false (by walk_at "tst") ?_
      walk_at "dl"
      refine ifS_true (by walk_at "tst") ?_
      walk_at "dl"
      refine ⟨by decide, by decide, p, 8, n, rfl, hp, by omega, by decide, by decide, ⟨fun r s1 r0 r1 N1 => ?_⟩⟩
      walk_at "dl"
      exact fin (fun d hd => (flat8 k d hd).nr) r0 r1 (N1.le (by omega))
    | int _ i hi =>
      walk_at "dl"
      refine ifS_false (by walk_at "tst") ?_
      walk_at "dl"
      refine ifS_false (by walk_at "tst") ?_
      walk_at "dl"
      refine ifS_true (by walk_at "tst") ?_
      walk_at "dl"
      refine ⟨by decide, mulS (by decide) (by decide), by decide, log40 hi, by decide, p, 5, n, rfl, hp, by omega, by decide, by decide, ⟨fun r s1 r0 r1 N1 => ?_⟩⟩
      walk_at "dl"
      have b1 : ((i + 1) % 10 ^ Int.toNat 40).natAbs < 10 ^ 40 := by
        have e : Int.toNat 40 = 40 := rfl
        rw [e]; omega
      have b2 : (10 * i % 10 ^ Int.toNat 39).natAbs < 10 ^ 40 := by
        have e : Int.toNat 39 = 39 := rfl
        rw [e]; omega
      have b3 : (0 - i).natAbs < 10 ^ 40 := by omega
      exact fin (List.forall_mem_cons.mpr ⟨(fl_int b1).nr, List.forall_mem_cons.mpr ⟨(fl_int b3).nr, List.forall_mem_cons.mpr ⟨(fl_int b2).nr, List.forall_mem_cons.mpr ⟨(fl_istr hi).nr, List.forall_mem_cons.mpr ⟨fl_bl.nr, fun d hd => (nomatch hd)⟩⟩⟩⟩⟩) r0 r1 (N1.le (by omega))
    | str _ z hl o =>
      walk_at "dl"
      refine ifS_false (by walk_at "tst") ?_
      walk_at "dl"
      refine ifS_false (by walk_at "tst") ?_
      walk_at "dl"
      refine ifS_false (by walk_at "tst") ?_
      walk_at "dl"
      refine ifS_true (by walk_at "tst") ?_
      walk_at "dl"
      refine ⟨p, 5, n, rfl, hp, by omega, by decide, by decide, ⟨fun r s1 r0 r1 N1 => ?_⟩⟩
      walk_at "dl"
      have hz : ∀ c ∈ DL.tl z, txs c = true := fun c hc => zA_tx c (o c hc)
      have a1 : (Str.ofString "\"").length = 1 := by decide +kernel
      have a2 : (Str.ofString " ").length = 1 := by decide +kernel
      have et : DL.tl (cutS z none (some (-1))) = (DL.tl z).take (HT.sIx z.length z.length (some (-1))) := by
        show ((DL.tl z).drop 0).take (HT.sIx z.length z.length (some (-1)) - 0) = _
        rw [List.drop_zero, Nat.sub_zero]
      have ez := size_le (n := z.length) (by omega)
      refine ⟨size_le (by omega), size_le (by omega), ez, ez, by decide, by decide, ?_⟩
      have gz : Gv k (.str z) := .str _ _ hz
      exact fin (List.forall_mem_cons.mpr ⟨(nrS_app hz t34 (by decide) (by decide) (by decide)).nr, List.forall_mem_cons.mpr ⟨(nrS_app hz t32 (by decide) (by decide) (by decide)).nr, List.forall_mem_cons.mpr ⟨(nrS_take hz et).nr, List.forall_mem_cons.mpr ⟨(nrS_rev hz rfl).nr, List.forall_mem_cons.mpr ⟨nr_in gz, fun d hd => (nomatch hd)⟩⟩⟩⟩⟩) r0 r1 (N1.le (by omega))
    | tup j ds hl hd =>
      have eI := hI j rfl
      subst eI
      walk_at "dl"
      have gd : ∀ d ∈ ds, Gv j d := fun d h => (vl_gv (hd d h)).1
      have gt : Gv (j + 1) (.tup ds) := .tup _ _ gd
      obtain ⟨ps, epd, sh1, epl⟩ := gv_tup gt (by omega)
      have sh0 := sh_nil
      have back : ∀ s1, Nxt s s1 p (n + 2) → ∀ r : Int, 0 ≤ r → r < 5 → ixD (atI [DV.tup [DV.tup ds], DV.tup (ds ++ [DV.int 0]), DV.tup (DL.cutD ds none (some (-1))), DV.tup ds.reverse, DV.tup []] r) s1 Q := fun s1 N1 r r0 r1 => by
        have et : DL.cutD ds none (some (-1)) = ds.take (HT.sIx ds.length ds.length (some (-1))) := by
          unfold DL.cutD
          rw [HT.sIx_none, List.drop_zero, Nat.sub_zero]
        rw [et]
        have gj : ∀ d ∈ ds, Gv (j + 1) d := fun d h => (gd d h).up (Nat.le_succ _)
        exact fin (List.forall_mem_cons.mpr ⟨nr_in gt, List.forall_mem_cons.mpr ⟨(nrT_app ds).nr fun d h => (List.mem_append.mp h).elim (gj d) fun h => by rw [List.mem_singleton.mp h]; exact .int _ _ (by decide), List.forall_mem_cons.mpr ⟨(nrT_take ds _).nr fun d h => gj d (List.mem_of_mem_take h), List.forall_mem_cons.mpr ⟨(nrT_rev ds).nr fun d h => gj d (List.mem_reverse.mp h), List.forall_mem_cons.mpr ⟨fl_t.nr, fun d hd => (nomatch hd)⟩⟩⟩⟩⟩) r0 r1 (N1.le (by omega))
      cases ds with
      | nil =>
        have ev := ev_nil
        refine ifS_false (fun Q2 q2 => ?_) ?_
        · clear back gt gd fin q
          walk_at "dl"
          exact Nat.zero_le _
        clear sh1 sh0 ev epd gt gd
        walk_at "dl"
        refine ifS_false (by walk_at "tst") ?_
        walk_at "dl"
        refine ifS_false (by walk_at "tst") ?_
        walk_at "dl"
        refine ifS_false (by walk_at "tst") ?_
        walk_at "dl"
        refine ⟨by decide, by decide, by decide, Nat.zero_le _, by decide, p, 5, n, rfl, hp, by omega, by decide, by decide, ⟨fun r s1 r0 r1 N1 => ?_⟩⟩
        have b := back s1 (N1.le (by omega)) r r0 r1
        clear back
        walk_at "dl"
        exact b
      | cons d0 ds0 =>
        obtain ⟨p0, ps0, e0, e1, rfl⟩ : ∃ p0 ps0, pd d0 = some p0 ∧ pdL ds0 = some ps0 ∧ ps = p0 :: ps0 := by
          rw [pdL] at epd
          cases h1 : pd d0 with
          | none => rw [h1] at epd; cases epd
          | some p0 =>
            cases h2 : pdL ds0 with
            | none => rw [h1, h2] at epd; cases epd
            | some ps0 => rw [h1, h2] at epd; cases epd; exact ⟨p0, ps0, rfl, rfl, rfl⟩
        clear epd
        have ev := ev_cons (ps := p0 :: ps0) (fun e => nomatch e)
        refine ifS_m (fun _ s' => Nxt s s' p (n + 1)) (fun Q2 q2 => ?_) (fun s1 N1 => ?_) (fun s1 N1 => ?_)
        · clear back gt gd fin q
          walk_at "dl"
          refine ⟨Nat.zero_le _, p, 4, n, rfl, hp, by omega, by decide, by decide, ⟨fun r s1 r0 r1 N1 => ?_⟩⟩
          walk_at "dl"
        · clear back sh1 sh0 ev e0 e1
          walk_at "dl"
          refine ⟨p, _, _, rfl, N1.pen, by omega, by show (1 : Int) ≤ (ds0.length : Int) + 1; omega, by show (ds0.length : Int) + 1 ≤ _; have : ds0.length + 1 ≤ 3 := hl; omega, ⟨fun r s2 r0 r1 N2 => ?_⟩⟩
          walk_at "dl"
          obtain ⟨m, rfl⟩ := Int.eq_ofNat_of_zero_le r0
          have hm : m < (d0 :: ds0).length := by show m < ds0.length + 1; omega
          obtain ⟨v, ev⟩ : ∃ v, (d0 :: ds0)[m]? = some v := ⟨_, List.getElem?_eq_getElem hm⟩
          have hvm := List.mem_of_getElem? ev
          have ha := DL.atI_nat ev
          have fv := (hd v hvm).frz
          rw [ha]
          walk_at "dl"
          refine ⟨p, _, v, rfl, hd v hvm, N2.pen, by omega, ⟨fun v' s3 nv N3 => ?_⟩⟩
          have na := nr_at ev (fun d h => (gd d h).up (Nat.le_succ _)) nv
          have r3 := q.out _ s3 na (((N1.trans N2).trans N3).le (by omega))
          have fv2 := nv.gv.gd.wu.frz s3
          clear q fin na ha
          walk_at "dl"
          have hl3 : ds0.length + 1 ≤ 3 := hl
          have c1 := cutD_len (d0 :: ds0) none (some (m : Int))
          have c2 := cutD_len (d0 :: ds0) (some ((m : Int) + 1)) none
          rw [List.length_cons] at c1 c2
          exact ⟨by decide, size_le (by omega), size_le (by rw [List.length_append]; show _ + 1 + _ ≤ _; omega)⟩
        · clear sh1 sh0 ev e0 e1 gt gd
          walk_at "dl"
          refine ifS_false (by walk_at "tst") ?_
          walk_at "dl"
          refine ifS_false (by walk_at "tst") ?_
          walk_at "dl"
          refine ifS_false (by walk_at "tst") ?_
          walk_at "dl"
          have hl3 : ds0.length + 1 ≤ 3 := hl
          refine ⟨by decide, by decide, size_le (by omega), Nat.zero_le _, by decide, p, 5, _, rfl, N1.pen, by omega, by decide, by decide, ⟨fun r s2 r0 r1 N2 => ?_⟩⟩
          have b := back s2 (N1.trans N2) r r0 r1
          clear back
          walk_at "dl"
          exact b
theorem ok_near (T : Txt K mg) (G__law_pick : Fn P w K mg base "_law_pick" 1 ["hand", "many"] spPck) : ∀ k, k ≤ 60 → Fn P w K mg base "_law_near" (k + 3) ["hand", "value"] (spNear k)
  | 0, _ => ok_nearN T G__law_pick 0 (by decide) (spI := spNo) (fun j e => by omega) (ok_near0 T)
  | k + 1, h => ok_nearN T G__law_pick (k + 1) h (fun j e => by cases e; rfl) (ok_near T G__law_pick k (by omega))
end Law

set_option Elab.async false
set_option linter.all false
set_option maxRecDepth 100000
set_option maxHeartbeats 4000000
namespace Law
open PySem PySem.Spec PyProof.Rows L2 DL VW
local macro_rules | `(tactic| walk_at "dl") => `(tactic| (try simp only [kOp1_e, kOp2_e, kTest_q1, kChain1_e, kChain2_e, kChain3_q1, kChain3_q2, dChain_e, kAnd_q1, kAnd_q2, kOr_q1, kOr_q2, kNot_e, kIf_q1, kIf_q2, kTru_k, kTruO_q1, kTruO_q2, kCons1_e, kCons2_e, kTup_e, kLst_e, kLstM_e, kFrz_e, kDrop_q1, kRetS_e, kIfS_e, kAsg_e, kGCons_e, kPart_q1, kSl1_e, kSl2_e, kSl3_e, kSub1_e, kSub2_e, kCB_e, kBM1_e, kBM2_e, kIt_q, kItO_q, kRng1_q1, kRng2_q1, kWhile_e, kLc1_e, kLc2_e, kLc2', kLc3_e, finF_e, finM_e, kAndE_q1, kAndE_q2, kOrE_q1, kOrE_q2, kNotE_q1, kNeg_q1, kCall_e, kCallK_e, kCallK2_e, dCallK_e, kMeth, kMeth2_e, kMade_e, kMake_e, kMakeK_e, kMakeK2_e, dMakeK_e, kFld, kSetFld_e, kSetFld2, kAugFld, kAugN1_e, kAugN2_e, kPair1_q1, kPair2_q1, kPair3_e, kDisp, dSeq_e, dAsg_e, dVar_k, kVar_q1, kVar_q2, dC_e, dOp_e, gNameD_e, gNilD_e, gConsD_q1, gConsD_q2, gTupD_q1, gifT_q, gifF_q, dTest_e, dTru_e, truD_q1, truD_q2, truD_q3, truD_q5, truD_q6, truD_q7, truD, truD_qs, dAnd_e, dOr_e, dNot_e, dAndE_e, dOrE_e, dNotE_e, dNeg_e, dIf_e, dRet_e, dRetN_e, dRetS_e, dNext_e, dDrop_e, dBreak_e, dCont_e, dCB_e, dCons_e, dNil_e, dIx_str, dIx_lst_q, dIx_tup_q, dIx_scr_q, kChr_q1, kChr_q2, dIx_re, kIxR_q1, kIxR_q2, kIxK_q, ixD_q1, ixD_q2, dSl_e, dSlR_str_q, dSlR_tup_q, dSlR_lst_q, dSlR_scr, dSlR_q1, dSlR_q2, dSlM, dPart_e, dNoPart_e, dI_q1, dI0_q1, dAdd_int_q, dAdd_str_q, dAdd_tup_q, dAdd_lst_q, dAdd_q1, dAdd_q2, dAdd_q3, dMul_int_q, dMul_q1, dMul_q2, dLtB_q1, dLtB_q2, dEq_k, kEqO_q1, kEqO_q2, kEqS_q1, dNe_k, dIs_q1, dIs_q2, isNonD_q1, isNonD, dIn_tup_q, dIn_lst_q, dIn_str_q, dIn_q1, scalEq_q1, scalEq_q2, scalEq_q3, scalEq_q4, scalEq_q5, scalEq_q6, scalEq_q7, scalEq_q8, scalEq, pdS, pd_q1, pd_q2, pd_q3, pd_q4, pd_q5, pd_q6, pd_q7, pd_q8, pdL_q1, pdL, pdL_ints, pdL_strs, eqv_nil, List.isEmpty_map, refL_lst_q, refL_dK_q, refL_ins_q, lstD_lst_q, lstD_scr_q, lstD_tup_q, lstD_str_q, lstD_int_q, lstD_re, lstW_lst_q, lstW_tup_q, lstW_str_q, lstW_int_q, lstW_re, seqD_tup_q, seqD_lst_q, seqD_scr_q, seqD_str_q, seqD_int_q, seqD_re, dictD, keyD_q1, keyD_q2, keyD, dLen_k, kLenO_q1, kLenO_q2, lenD_q1, lenD_tup, lenD_lst, lenD_scr, lenD_re, lenO_q, dAbs_q1, dMin2_q1, dMax2_q1, dListM, dListF_k, kSeqF_q1, kSeqF_q2, dTupF_k, dOrd_q1, dStr_q1, dLst_e, dLstM_e, dTup_e, gSubD_e, dSetR, dFld_e, dSetFld_e, dAugFld_e, dAugN, dIpAdd_q1, dBM_e, tyD_q1, tyD_q2, tyD_q4, tyD_q5, tyD, dAppend, dPop, dJoin, strsD_map, dMeth_e, dCall_e, dMake_e, dFrz_e, frzR_lst_q, frzR_dK_q, frzR_ins_q, frz_int_q, frz_str_q, frz_bl_q, frz_non_q, frz_tup_q, frz_lst_q, frz_scr_q, frz_re, er_none, atI_zero, atI_one, ixN_zero, ixN_one, dDisp_e, dPairs, keysD_q1, keysD, dLc_e, dLcM_e, dFor_e, wipeD_q1, wipeD_q2, dYes_q1, dIt_e, itemsD_q1, itemsD_q2, itemsD_q3, itemsD_q4, itemsD, dRng1_e, dRng2_e, startD_q1, up_same, up_up, er_up, Option.map_some, List.map_cons, List.map_nil, List.length_map, List.length_cons, List.length_nil, List.replicate_succ, List.replicate_zero, List.cons_append, List.nil_append, List.append_nil, getD_qs, getD_q0, set_qs, set_q0, Nat.reduceSub, Nat.reduceAdd, Nat.zero_add, Nat.sub_zero, Bool.not_true, Bool.not_false, if_true, if_false, Bool.true_eq_false, Bool.false_eq_true, reduceIte, true_and, and_true, beq_self_eq_true, Int.reduceEq, Int.reduceLT, Int.reduceLE, Int.reduceAdd, Int.reduceSub, Int.reduceNeg, Int.reduceMul, decide_true, decide_false, dEnS_q, kEnS1_q, kEnS2_q, gStarN_q, gStarD_q, dFmt_q, kFmt_q1, kFmt_q2, dJst_q, dJs_q1, dJs_q2, kJs_q, dSplitK_q, dFind_q1, dFind_q2, dIntF_q1, dIntF_q2, dMulT_q, dPar2_q1, kPar2_q1, dPar3_q1, kPar3_q1, dIsi_q1, kIsi_q1, tyOfD_q1, tyOfD_q2, tyOfD_q3, tyOfD_q4, tyOfD_q5, tyOfD_q6, tyOfD_q7, tyOfD_q8, tyOfO_q1, tyOfO_q2, tyOfO, isT_q1, isT_q2, isT_q3, isT_q4, isT_q5, isT_q6, isT_q7, isT_q8, tyN_bool, tyN_int, tyN_str, tyN_tuple, tyN_list, dRev_q1, kRev_q1, kRev_q2, kRev_q3, dRepl_q, kRepl_q, dReplAA_q, kReplAA_q, dMulS_q1, dSplit1_q, dJoin_lst, kJoinS_q, dEqE_q, kEqE_q, dIntS_q, dInKD_q, dIxKD_q, kMethX2_q, dMethX_q, kMethX, kRaise_q, dRaise_q, kCallX_q, dCallX_q, dTry_q, kEndsD_nx, isNonD_q1, isNonD, dFldE_q, kFldE, dIsk, dGet2_q, kGet1_q, kGet2_q, kGet3_q, kGetR_q, kGetX_q, isDK_q, dEnT_q, kEnT_q, dIskT_q, kIskT, dAddM_q, dTryX_q, dXfS_q, kXfS, isTf_non_bl, isTf_non_int, isTf_non_str, isTf_non_tup, isTf_non_lst, isTf_non_dct, isTf_bl_non, isTf_bl_str, isTf_bl_tup, isTf_bl_lst, isTf_bl_dct, isTf_int_non, isTf_int_bl, isTf_int_str, isTf_int_tup, isTf_int_lst, isTf_int_dct, isTf_str_non, isTf_str_bl, isTf_str_int, isTf_str_tup, isTf_str_lst, isTf_str_dct, isTf_tup_non, isTf_tup_bl, isTf_tup_int, isTf_tup_str, isTf_tup_lst, isTf_tup_dct, isTf_lst_non, isTf_lst_bl, isTf_lst_int, isTf_lst_str, isTf_lst_tup, isTf_lst_dct, isTf_dct_non, isTf_dct_bl, isTf_dct_int, isTf_dct_str, isTf_dct_tup, isTf_dct_lst, *]))
local macro_rules | `(tactic| walk_at "side") => `(tactic| first | omega | exact size_lt (by omega) | exact size_le (by omega) | exact mulS (by omega) (by omega) | exact mulS' (by omega) (by omega) | exact cdiv (by omega) (by omega) | exact shaped_ints _ | exact shaped_nil | assumption)
local macro_rules | `(tactic| walk_at "sides") => `(tactic| repeat ((with_reducible refine And.intro ?_ ?_); next => walk_at "side"))
local macro_rules | `(tactic| walk_at "if") => `(tactic| (refine ifS ?_; walk_at "dl"))
local macro_rules | `(tactic| walk_at "for") => `(tactic| (unfold dFor; walk_at "dl"; walk_at "sides"))
local macro_rules | `(tactic| walk_at "upf") => `(tactic| first | exact up_same | assumption | ((rw [up_ne (by first | assumption | exact Ne.symm (by assumption))]); walk_at "upf") | ((rw [er_ne (by first | assumption | exact Ne.symm (by assumption))]); walk_at "upf"))

local macro_rules | `(tactic| walk_at "tst") => `(tactic| (intro Q q; walk_at "dl"; all_goals assumption))
variable {P : Program} {w : World} {K : PySem.W.Frag} {mg : Str → Option Value} {base : Heap} {C CE fI : Addr}
/-! ### a text spoilt -/
theorem tl_cutA {z : Str} {k : Nat} : DL.tl (cutS z none (some (k : Int))) = (DL.tl z).take k := by
  show ((DL.tl z).drop (HT.sIx z.length 0 none)).take (HT.sIx z.length z.length (some (k : Int)) - HT.sIx z.length 0 none) = _
  rw [HT.sIx_none, HT.sIx_nat, List.drop_zero, Nat.sub_zero, len_tl]
  by_cases h : k ≤ (DL.tl z).length
  · rw [Nat.min_eq_left h]
  · rw [Nat.min_eq_right (by omega), List.take_of_length_le (Nat.le_refl _), List.take_of_length_le (by omega)]
theorem tl_cutB {z : Str} {k : Nat} : DL.tl (cutS z (some (k : Int)) none) = (DL.tl z).drop k := by
  show ((DL.tl z).drop (HT.sIx z.length 0 (some (k : Int)))).take (HT.sIx z.length z.length none - HT.sIx z.length 0 (some (k : Int))) = _
  rw [HT.sIx_none, HT.sIx_nat, len_tl]
  by_cases h : k ≤ (DL.tl z).length
  · rw [Nat.min_eq_left h, List.take_of_length_le (by rw [List.length_drop]; omega)]
  · rw [Nat.min_eq_right (by omega), List.drop_of_length_le (Nat.le_refl _), List.drop_of_length_le (by omega), List.take_nil]
theorem tl_cutM {z : Str} {k j : Nat} (h : k ≤ j) : DL.tl (cutS z (some (k : Int)) (some (j : Int))) = ((DL.tl z).drop k).take (j - k) := by
  show ((DL.tl z).drop (HT.sIx z.length 0 (some (k : Int)))).take (HT.sIx z.length z.length (some (j : Int)) - HT.sIx z.length 0 (some (k : Int))) = _
  rw [HT.sIx_nat, HT.sIx_nat, len_tl]
  by_cases h1 : k ≤ (DL.tl z).length
  · rw [Nat.min_eq_left h1]
    by_cases h2 : j ≤ (DL.tl z).length
    · rw [Nat.min_eq_left h2]
    · rw [Nat.min_eq_right (by omega), List.take_of_length_le (by rw [List.length_drop]; omega), List.take_of_length_le (by rw [List.length_drop]; omega)]
  · rw [Nat.min_eq_right (show (DL.tl z).length ≤ k by omega), List.drop_of_length_le (Nat.le_refl _), List.drop_of_length_le (by omega), List.take_nil, List.take_nil]

theorem lapp (a b : Str) : (a ++ b).length = a.length + b.length := by rw [len_tl, tl_app, List.length_append, ← len_tl, ← len_tl]
structure Le1 (y z : Str) : Prop where
  len : y.length ≤ z.length + 1
  pcs : pc (DL.tl y) ≤ pc (DL.tl z) + 1
theorem le1_of {y z : Str} {r : List Nat} (e : DL.tl y = r) (h1 : r.length ≤ (DL.tl z).length + 1) (h2 : pc r ≤ pc (DL.tl z) + 1) : Le1 y z := ⟨by rw [len_tl, len_tl, e]; exact h1, by rw [e]; exact h2⟩
theorem halves (l : List Nat) (k j : Nat) : (l.take k).length + (((l.drop k).take j).length + (l.drop (k + j)).length) = l.length ∧ pc (l.take k) + (pc ((l.drop k).take j) + pc (l.drop (k + j))) = pc l ∧ (l.drop k).length = ((l.drop k).take j).length + (l.drop (k + j)).length ∧ pc (l.drop k) = pc ((l.drop k).take j) + pc (l.drop (k + j)) ∧ ((l.drop k).take j).length ≤ j ∧ pc ((l.drop k).take j) ≤ j := by
  have e1 : l = l.take k ++ l.drop k := (List.take_append_drop k l).symm
  have e2 : l.drop k = (l.drop k).take j ++ l.drop (k + j) := by rw [← List.drop_drop]; exact (List.take_append_drop j _).symm
  have a1 := congrArg List.length e1
  have a2 := congrArg List.length e2
  have b1 := congrArg pc e1
  have b2 := congrArg pc e2
  rw [List.length_append] at a1 a2
  rw [pc_app] at b1 b2
  have c1 : ((l.drop k).take j).length ≤ j := by rw [List.length_take]; omega
  have c2 := pc_len ((l.drop k).take j)
  omega
theorem pc_rev (l : List Nat) : pc l.reverse = pc l := List.countP_reverse
theorem sp0 (z : Str) (c : Nat) {a : Int} (h : 0 ≤ a) : Le1 (cutS z none (some a) ++ ⟨#[c]⟩ ++ cutS z (some a) none) z := by
  obtain ⟨k, rfl⟩ := Int.eq_ofNat_of_zero_le h
  have g := halves (DL.tl z) k 0
  have c1 := pc_len [c]
  refine le1_of (by rw [tl_app, tl_app, tl_cutA, tl_cutB]) ?_ ?_
  · rw [List.length_append, List.length_append]; show _ + 1 + _ ≤ _; omega
  · rw [pc_app, pc_app]; show _ + pc [c] + _ ≤ _; have : [c].length = 1 := rfl; omega
theorem sp1 (z : Str) {a : Int} (h : 0 ≤ a) : Le1 (cutS z none (some a) ++ cutS z (some (a + 1)) none) z := by
  obtain ⟨k, rfl⟩ := Int.eq_ofNat_of_zero_le h
  have g := halves (DL.tl z) k 1
  rw [show ((k : Nat) : Int) + 1 = ((k + 1 : Nat) : Int) from rfl]
  refine le1_of (by rw [tl_app, tl_cutA, tl_cutB]) ?_ ?_
  · rw [List.length_append]; omega
  · rw [pc_app]; omega
theorem sp2 (z : Str) (c : Nat) {a : Int} (h : 0 ≤ a) : Le1 (cutS z none (some a) ++ ⟨#[c]⟩ ++ cutS z (some (a + 1)) none) z := by
  obtain ⟨k, rfl⟩ := Int.eq_ofNat_of_zero_le h
  have g := halves (DL.tl z) k 1
  have c1 := pc_len [c]
  rw [show ((k : Nat) : Int) + 1 = ((k + 1 : Nat) : Int) from rfl]
  refine le1_of (by rw [tl_app, tl_app, tl_cutA, tl_cutB]) ?_ ?_
  · rw [List.length_append, List.length_append]; show _ + 1 + _ ≤ _; omega
  · rw [pc_app, pc_app]; show _ + pc [c] + _ ≤ _; have : [c].length = 1 := rfl; omega
theorem sp3 (z : Str) {a : Int} (h : 0 ≤ a) : Le1 (cutS z none (some a) ++ cutS z (some a) (some (a + 1)) ++ cutS z (some a) none) z := by
  obtain ⟨k, rfl⟩ := Int.eq_ofNat_of_zero_le h
  have g := halves (DL.tl z) k 1
  rw [show ((k : Nat) : Int) + 1 = ((k + 1 : Nat) : Int) from rfl]
  refine le1_of (by rw [tl_app, tl_app, tl_cutA, tl_cutM (by omega), tl_cutB, show k + 1 - k = 1 by omega]) ?_ ?_
  · rw [List.length_append, List.length_append]; omega
  · rw [pc_app, pc_app]; omega
theorem sp4 (z : Str) {a : Int} (h : 0 ≤ a) : Le1 (cutS z none (some a) ++ revS (cutS z (some a) (some (a + 2))) ++ cutS z (some (a + 2)) none) z := by
  obtain ⟨k, rfl⟩ := Int.eq_ofNat_of_zero_le h
  have g := halves (DL.tl z) k 2
  have e : DL.tl (revS (cutS z (some ((k : Nat) : Int)) (some (((k + 2 : Nat) : Int))))) = ((DL.tl z).drop k |>.take 2).reverse := by
    show (DL.tl (cutS z (some ((k : Nat) : Int)) (some (((k + 2 : Nat) : Int))))).reverse = _
    rw [tl_cutM (by omega), show k + 2 - k = 2 by omega]
  rw [show ((k : Nat) : Int) + 2 = ((k + 2 : Nat) : Int) from rfl]
  refine le1_of (by rw [tl_app, tl_app, tl_cutA, e, tl_cutB]) ?_ ?_
  · rw [List.length_append, List.length_append, List.length_reverse]; omega
  · rw [pc_app, pc_app, pc_rev]; omega
theorem sp5 (z : Str) {a : Int} (h : 0 ≤ a) : Le1 (cutS z none (some a)) z := by
  obtain ⟨k, rfl⟩ := Int.eq_ofNat_of_zero_le h
  have g := halves (DL.tl z) k 0
  exact le1_of tl_cutA (by omega) (by omega)
def spSpo : Spd := fun ds s Q _ => ∃ (p : Addr) (n : Nat) (z : Str), ds = [.ref p, .str z] ∧ z.length ≤ 10000 ∧ Pen s p n ∧ n ≤ 10 ^ 7 ∧ Kp (∀ (y : Str) s', y.length ≤ z.length + 1 → pc (DL.tl y) ≤ pc (DL.tl z) + 1 → Nxt s s' p (n + 3) → Q (.str y) s')
theorem ok_spoilt (T : Txt K mg) (G__law_alphabet : Fn P w K mg base "_law_alphabet" 1 [] spAlpha) (G__law_pick : Fn P w K mg base "_law_pick" 1 ["hand", "many"] spPck) : Fn P w K mg base "_law_spoilt" 2 ["hand", "written"] spSpo := by
  refine fnOk T.d__law_spoilt sc__law_spoilt (fun ds s Q E h => ?_) (fun A f cdv Ar outer s H E hr => (dsc (dsset (i := 2) sc__law_spoilt.nd rfl (Or.inl rfl) (dop od_add (dfrz (dF0 G__law_alphabet (hr.mono (by omega)))) dstr))
  (dsc (dspar2 (i := 3) (j := 4) rfl sc__law_spoilt.nd rfl rfl (by decide) rfl rfl (dac (dfrz (dF G__law_pick (hr.mono (by omega)) (dac (dpv 0) (dac (dop od_add (dcallB cd_len T.b_len PySem.boot_len (dac (dpv 1) dan)) dint) dan)))) (dac (dfrz (dF G__law_pick (hr.mono (by omega)) (dac (dpv 0) (dac dint dan)))) dan)) (by rfl))
  (dsc (dsset (i := 5) sc__law_spoilt.nd rfl (Or.inl rfl) (dix (hu_of hr) (dpv 2) (dfrz (dF G__law_pick (hr.mono (by omega)) (dac (dpv 0) (dac (dcallB cd_len T.b_len PySem.boot_len (dac (dpv 2) dan)) dan))))))
  (dsc (dsif (dtcmp (od_eq hr.units) (dpv 4) dint (nomark _))
  (ds1 (dsret (dop od_add (dop od_add (dslice sl_d (dpv 1) dpn (dpo (dpv 3))) (dpv 5)) (dslice sl_d (dpv 1) (dpo (dpv 3)) dpn))))
  dsn)
  (dsc (dsif (dtcmp (od_eq hr.units) (dpv 4) dint (nomark _))
  (ds1 (dsret (dop od_add (dslice sl_d (dpv 1) dpn (dpo (dpv 3))) (dslice sl_d (dpv 1) (dpo (dop od_add (dpv 3) dint)) dpn))))
  dsn)
  (dsc (dsif (dtcmp (od_eq hr.units) (dpv 4) dint (nomark _))
  (ds1 (dsret (dop od_add (dop od_add (dslice sl_d (dpv 1) dpn (dpo (dpv 3))) (dpv 5)) (dslice sl_d (dpv 1) (dpo (dop od_add (dpv 3) dint)) dpn))))
  dsn)
  (dsc (dsif (dtcmp (od_eq hr.units) (dpv 4) dint (nomark _))
  (ds1 (dsret (dop od_add (dop od_add (dslice sl_d (dpv 1) dpn (dpo (dpv 3))) (dslice sl_d (dpv 1) (dpo (dpv 3)) (dpo (dop od_add (dpv 3) dint)))) (dslice sl_d (dpv 1) (dpo (dpv 3)) dpn))))
  dsn)
  (dsc (dsif (dtcmp (od_eq hr.units) (dpv 4) dint (nomark _))
  (ds1 (dsret (dop od_add (dop od_add (dslice sl_d (dpv 1) dpn (dpo (dpv 3))) (drev (dslice sl_d (dpv 1) (dpo (dpv 3)) (dpo (dop od_add (dpv 3) dint))))) (dslice sl_d (dpv 1) (dpo (dop od_add (dpv 3) dint)) dpn))))
  dsn)
  (ds1 (dsret (dslice sl_d (dpv 1) dpn (dpo (dpv 3)))))))))))))) (fun ds s Q E h => ?_)
  · obtain ⟨p, n, z, rfl, q⟩ := h
    rfl
  · obtain ⟨p, n, z, rfl, hz, hp, hn, q⟩ := h
    have hzs := size_le (n := z.length) (by omega)
    walk_at "dl"
    refine ⟨rfl, ⟨?_⟩⟩
    walk_at "dl"
    have hg : (zA ++ Str.ofString "()\" -+!0()\" ").length = 106 := by decide +kernel
    have hgs := size_le (n := (zA ++ Str.ofString "()\" -+!0()\" ").length) (by rw [hg]; decide)
    refine ⟨by decide +kernel, ?_⟩
    generalize zA ++ Str.ofString "()\" -+!0()\" " = g at hg hgs ⊢
    refine ⟨p, _, n, rfl, hp, by omega, by omega, by omega, ⟨fun at_ s1 a0 a1 N1 => ?_⟩⟩
    walk_at "dl"
    refine ⟨p, 6, _, rfl, N1.pen, by omega, by decide, by decide, ⟨fun way s2 v0 v1 N2 => ?_⟩⟩
    walk_at "dl"
    refine ⟨p, _, _, rfl, N2.pen, by omega, by omega, by omega, ⟨fun r s3 r0 r1 N3 => ?_⟩⟩
    walk_at "dl"
    refine ⟨by decide, ?_⟩
    refine chr_all (P := fun _ => True) (fun _ _ => trivial) r0 (by rw [← len_tl, hg]; exact r1) fun c _ => ?_
    have lc : (⟨#[c]⟩ : Str).length = 1 := rfl
    have l1 := cutS_length z none (some at_)
    have l2 := cutS_length z (some at_) none
    have l3 := cutS_length z (some (at_ + 1)) none
    have l4 := cutS_length z (some at_) (some (at_ + 1))
    have l5 := cutS_length z (some at_) (some (at_ + 2))
    have l6 := cutS_length z (some (at_ + 2)) none
    have fin : ∀ {y : Str}, y.length ≤ 2 * z.length + 3 → Le1 y z → Q (.str y) s3 := fun h h2 => q.out _ _ h2.len h2.pcs (((N1.trans N2).trans N3).le (by omega))
    clear q
    have w0 := Kp.mk (sp0 z c a0)
    have w1 := Kp.mk (sp1 z a0)
    have w2 := Kp.mk (sp2 z c a0)
    have w3 := Kp.mk (sp3 z a0)
    have w4 := Kp.mk (sp4 z a0)
    have w5 := Kp.mk (sp5 z a0)
    walk_at "dl"
    have l4' : (cutS z (some at_) (some (at_ + 1))).length ≤ 1 := by
      obtain ⟨kk, rfl⟩ := Int.eq_ofNat_of_zero_le a0
      rw [len_tl, show ((kk : Nat) : Int) + 1 = ((kk + 1 : Nat) : Int) from rfl, tl_cutM (by omega), List.length_take]
      omega
    have l5' : (cutS z (some at_) (some (at_ + 2))).length ≤ 2 := by
      obtain ⟨kk, rfl⟩ := Int.eq_ofNat_of_zero_le a0
      rw [len_tl, show ((kk : Nat) : Int) + 2 = ((kk + 2 : Nat) : Int) from rfl, tl_cutM (by omega), List.length_take]
      omega
    have l7 : (revS (cutS z (some at_) (some (at_ + 2)))).length ≤ 2 := by
      rw [len_tl, show DL.tl (revS (cutS z (some at_) (some (at_ + 2)))) = (DL.tl (cutS z (some at_) (some (at_ + 2)))).reverse from rfl, List.length_reverse, ← len_tl]
      exact l5'
    by_cases c0 : way = 0
    · have e0 : decide (way = 0) = true := decide_eq_true c0
      refine ifS_true (by walk_at "tst") ?_
      walk_at "dl"
      exact ⟨size_le (by omega), size_le (by rw [lapp]; omega), fin (by rw [lapp, lapp]; omega) w0.out⟩
    have e0 : decide (way = 0) = false := decide_eq_false c0
    refine ifS_false (by walk_at "tst") ?_
    clear e0
    walk_at "dl"
    by_cases c1 : way = 1
    · have e1 : decide (way = 1) = true := decide_eq_true c1
      refine ifS_true (by walk_at "tst") ?_
      walk_at "dl"
      exact ⟨size_le (by omega), fin (by rw [lapp]; omega) w1.out⟩
    have e1 : decide (way = 1) = false := decide_eq_false c1
    refine ifS_false (by walk_at "tst") ?_
    clear e1
    walk_at "dl"
    by_cases c2 : way = 2
    · have e2 : decide (way = 2) = true := decide_eq_true c2
      refine ifS_true (by walk_at "tst") ?_
      walk_at "dl"
      exact ⟨size_le (by omega), size_le (by rw [lapp]; omega), fin (by rw [lapp, lapp]; omega) w2.out⟩
    have e2 : decide (way = 2) = false := decide_eq_false c2
    refine ifS_false (by walk_at "tst") ?_
    clear e2
    walk_at "dl"
    by_cases c3 : way = 3
    · have e3 : decide (way = 3) = true := decide_eq_true c3
      refine ifS_true (by walk_at "tst") ?_
      walk_at "dl"
      exact ⟨size_le (by omega), size_le (by rw [lapp]; omega), fin (by rw [lapp, lapp]; omega) w3.out⟩
    have e3 : decide (way = 3) = false := decide_eq_false c3
    refine ifS_false (by walk_at "tst") ?_
    clear e3
    walk_at "dl"
    by_cases c4 : way = 4
    · have e4 : decide (way = 4) = true := decide_eq_true c4
      refine ifS_true (by walk_at "tst") ?_
      walk_at "dl"
      exact ⟨size_le (by omega), size_le (by omega), size_le (by rw [lapp]; omega), fin (by rw [lapp, lapp]; omega) w4.out⟩
    have e4 : decide (way = 4) = false := decide_eq_false c4
    refine ifS_false (by walk_at "tst") ?_
    clear e4
    walk_at "dl"
    exact fin (by omega) w5.out
end Law

set_option Elab.async false
set_option linter.all false
set_option maxRecDepth 100000
set_option maxHeartbeats 4000000
namespace Law
open PySem PySem.Spec PyProof.Rows L2 DL VW
local macro_rules | `(tactic| walk_at "dl") => `(tactic| (try simp only [kOp1_e, kOp2_e, kTest_q1, kChain1_e, kChain2_e, kChain3_q1, kChain3_q2, dChain_e, kAnd_q1, kAnd_q2, kOr_q1, kOr_q2, kNot_e, kIf_q1, kIf_q2, kTru_k, kTruO_q1, kTruO_q2, kCons1_e, kCons2_e, kTup_e, kLst_e, kLstM_e, kFrz_e, kDrop_q1, kRetS_e, kIfS_e, kAsg_e, kGCons_e, kPart_q1, kSl1_e, kSl2_e, kSl3_e, kSub1_e, kSub2_e, kCB_e, kBM1_e, kBM2_e, kIt_q, kItO_q, kRng1_q1, kRng2_q1, kWhile_e, kLc1_e, kLc2_e, kLc2', kLc3_e, finF_e, finM_e, kAndE_q1, kAndE_q2, kOrE_q1, kOrE_q2, kNotE_q1, kNeg_q1, kCall_e, kCallK_e, kCallK2_e, dCallK_e, kMeth, kMeth2_e, kMade_e, kMake_e, kMakeK_e, kMakeK2_e, dMakeK_e, kFld, kSetFld_e, kSetFld2, kAugFld, kAugN1_e, kAugN2_e, kPair1_q1, kPair2_q1, kPair3_e, kDisp, dSeq_e, dAsg_e, dVar_k, kVar_q1, kVar_q2, dC_e, dOp_e, gNameD_e, gNilD_e, gConsD_q1, gConsD_q2, gTupD_q1, gifT_q, gifF_q, dTest_e, dTru_e, truD_q1, truD_q2, truD_q3, truD_q5, truD_q6, truD_q7, truD, truD_qs, dAnd_e, dOr_e, dNot_e, dAndE_e, dOrE_e, dNotE_e, dNeg_e, dIf_e, dRet_e, dRetN_e, dRetS_e, dNext_e, dDrop_e, dBreak_e, dCont_e, dCB_e, dCons_e, dNil_e, dIx_str, dIx_lst_q, dIx_tup_q, dIx_scr_q, kChr_q1, kChr_q2, dIx_re, kIxR_q1, kIxR_q2, kIxK_q, ixD_q1, ixD_q2, dSl_e, dSlR_str_q, dSlR_tup_q, dSlR_lst_q, dSlR_scr, dSlR_q1, dSlR_q2, dSlM, dPart_e, dNoPart_e, dI_q1, dI0_q1, dAdd_int_q, dAdd_str_q, dAdd_tup_q, dAdd_lst_q, dAdd_q1, dAdd_q2, dAdd_q3, dMul_int_q, dMul_q1, dMul_q2, dLtB_q1, dLtB_q2, dEq_k, kEqO_q1, kEqO_q2, kEqS_q1, dNe_k, dIs_q1, dIs_q2, isNonD_q1, isNonD, dIn_tup_q, dIn_lst_q, dIn_str_q, dIn_q1, scalEq_q1, scalEq_q2, scalEq_q3, scalEq_q4, scalEq_q5, scalEq_q6, scalEq_q7, scalEq_q8, scalEq, pdS, pd_q1, pd_q2, pd_q3, pd_q4, pd_q5, pd_q6, pd_q7, pd_q8, pdL_q1, pdL, pdL_ints, pdL_strs, eqv_nil, List.isEmpty_map, refL_lst_q, refL_dK_q, refL_ins_q, lstD_lst_q, lstD_scr_q, lstD_tup_q, lstD_str_q, lstD_int_q, lstD_re, lstW_lst_q, lstW_tup_q, lstW_str_q, lstW_int_q, lstW_re, seqD_tup_q, seqD_lst_q, seqD_scr_q, seqD_str_q, seqD_int_q, seqD_re, dictD, keyD_q1, keyD_q2, keyD, dLen_k, kLenO_q1, kLenO_q2, lenD_q1, lenD_tup, lenD_lst, lenD_scr, lenD_re, lenO_q, dAbs_q1, dMin2_q1, dMax2_q1, dListM, dListF_k, kSeqF_q1, kSeqF_q2, dTupF_k, dOrd_q1, dStr_q1, dLst_e, dLstM_e, dTup_e, gSubD_e, dSetR, dFld_e, dSetFld_e, dAugFld_e, dAugN, dIpAdd_q1, dBM_e, tyD_q1, tyD_q2, tyD_q4, tyD_q5, tyD, dAppend, dPop, dJoin, strsD_map, dMeth_e, dCall_e, dMake_e, dFrz_e, frzR_lst_q, frzR_dK_q, frzR_ins_q, frz_int_q, frz_str_q, frz_bl_q, frz_non_q, frz_tup_q, frz_lst_q, frz_scr_q, frz_re, er_none, atI_zero, atI_one, ixN_zero, ixN_one, dDisp_e, dPairs, keysD_q1, keysD, dLc_e, dLcM_e, dFor_e, wipeD_q1, wipeD_q2, dYes_q1, dIt_e, itemsD_q1, itemsD_q2, itemsD_q3, itemsD_q4, itemsD, dRng1_e, dRng2_e, startD_q1, up_same, up_up, er_up, Option.map_some, List.map_cons, List.map_nil, List.length_map, List.length_cons, List.length_nil, List.replicate_succ, List.replicate_zero, List.cons_append, List.nil_append, List.append_nil, getD_qs, getD_q0, set_qs, set_q0, Nat.reduceSub, Nat.reduceAdd, Nat.zero_add, Nat.sub_zero, Bool.not_true, Bool.not_false, if_true, if_false, Bool.true_eq_false, Bool.false_eq_true, reduceIte, true_and, and_true, beq_self_eq_true, Int.reduceEq, Int.reduceLT, Int.reduceLE, Int.reduceAdd, Int.reduceSub, Int.reduceNeg, Int.reduceMul, decide_true, decide_false, dEnS_q, kEnS1_q, kEnS2_q, gStarN_q, gStarD_q, dFmt_q, kFmt_q1, kFmt_q2, dJst_q, dJs_q1, dJs_q2, kJs_q, dSplitK_q, dFind_q1, dFind_q2, dIntF_q1, dIntF_q2, dMulT_q, dPar2_q1, kPar2_q1, dPar3_q1, kPar3_q1, dIsi_q1, kIsi_q1, tyOfD_q1, tyOfD_q2, tyOfD_q3, tyOfD_q4, tyOfD_q5, tyOfD_q6, tyOfD_q7, tyOfD_q8, tyOfO_q1, tyOfO_q2, tyOfO, isT_q1, isT_q2, isT_q3, isT_q4, isT_q5, isT_q6, isT_q7, isT_q8, tyN_bool, tyN_int, tyN_str, tyN_tuple, tyN_list, dRev_q1, kRev_q1, kRev_q2, kRev_q3, dRepl_q, kRepl_q, dReplAA_q, kReplAA_q, dMulS_q1, dSplit1_q, dJoin_lst, kJoinS_q, dEqE_q, kEqE_q, dIntS_q, dInKD_q, dIxKD_q, kMethX2_q, dMethX_q, kMethX, kRaise_q, dRaise_q, kCallX_q, dCallX_q, dTry_q, kEndsD_nx, isNonD_q1, isNonD, dFldE_q, kFldE, dIsk, dGet2_q, kGet1_q, kGet2_q, kGet3_q, kGetR_q, kGetX_q, isDK_q, dEnT_q, kEnT_q, dIskT_q, kIskT, dAddM_q, dTryX_q, dXfS_q, kXfS, isTf_non_bl, isTf_non_int, isTf_non_str, isTf_non_tup, isTf_non_lst, isTf_non_dct, isTf_bl_non, isTf_bl_str, isTf_bl_tup, isTf_bl_lst, isTf_bl_dct, isTf_int_non, isTf_int_bl, isTf_int_str, isTf_int_tup, isTf_int_lst, isTf_int_dct, isTf_str_non, isTf_str_bl, isTf_str_int, isTf_str_tup, isTf_str_lst, isTf_str_dct, isTf_tup_non, isTf_tup_bl, isTf_tup_int, isTf_tup_str, isTf_tup_lst, isTf_tup_dct, isTf_lst_non, isTf_lst_bl, isTf_lst_int, isTf_lst_str, isTf_lst_tup, isTf_lst_dct, isTf_dct_non, isTf_dct_bl, isTf_dct_int, isTf_dct_str, isTf_dct_tup, isTf_dct_lst, *]))
local macro_rules | `(tactic| walk_at "side") => `(tactic| first | omega | exact size_lt (by omega) | exact size_le (by omega) | exact mulS (by omega) (by omega) | exact mulS' (by omega) (by omega) | exact cdiv (by omega) (by omega) | exact shaped_ints _ | exact shaped_nil | assumption)
local macro_rules | `(tactic| walk_at "sides") => `(tactic| repeat ((with_reducible refine And.intro ?_ ?_); next => walk_at "side"))
local macro_rules | `(tactic| walk_at "if") => `(tactic| (refine ifS ?_; walk_at "dl"))
local macro_rules | `(tactic| walk_at "for") => `(tactic| (unfold dFor; walk_at "dl"; walk_at "sides"))
local macro_rules | `(tactic| walk_at "upf") => `(tactic| first | exact up_same | assumption | ((rw [up_ne (by first | assumption | exact Ne.symm (by assumption))]); walk_at "upf") | ((rw [er_ne (by first | assumption | exact Ne.symm (by assumption))]); walk_at "upf"))

local macro_rules | `(tactic| walk_at "tst") => `(tactic| (intro Q q; walk_at "dl"; all_goals assumption))
variable {P : Program} {w : World} {K : PySem.W.Frag} {mg : Str → Option Value} {base : Heap} {C CE fI : Addr}
theorem d_tr : decide (Str.ofString "told" = Str.ofString "refused") = false := by decide +kernel
theorem d_rt : decide (Str.ofString "refused" = Str.ofString "told") = false := by decide +kernel
theorem d_tt : decide (Str.ofString "told" = Str.ofString "told") = true := by decide +kernel
theorem d_rr : decide (Str.ofString "refused" = Str.ofString "refused") = true := by decide +kernel
def spBeg : Spd := fun ds s Q _ => ∃ (z : Str) (d : DV) (r : List Nat), ds = [.str z] ∧ Gd d ∧ wr d = DL.tl z ++ r ∧ z.length ≤ 200 ∧ Kp (∀ s', (∀ a, s a ≠ none → s' a = s a) → Q (.bl true) s')
theorem ref_ok (q : Nat) : SeqAt.shaped (.tuple [.str (Str.ofString "refused"), .int (q : Int)]) = true ∧ PyData.eqv (.tuple [.str (Str.ofString "refused"), .int (q : Int)]) (.tuple [.str (Str.ofString "refused"), .int (q : Int)]) = true := by
  have e : PyData.canLay0 (.tuple [.str (Str.ofString "refused"), .int (q : Int)]) = true := by
    have e1 : okS (Str.ofString "refused") := by decide +kernel
    have e1' : PyData.strOk (Str.ofString "refused") = true := e1
    simp only [PyData.canLay0, PyData.canLayAll0, e1', Bool.and_true]
  refine ⟨?_, eqv_refl _ e⟩
  unfold SeqAt.shaped
  rw [e]
  simp [PyData.depth, PyData.depthAll]
theorem ok_beg (T : Txt K mg) (G__law_told : Fn P w K mg base "_law_told" 10 ["written"] spTold) (G_shown : FnDN nTk 101 P w K mg base "shown" 3 ["value"] (spSho 100)) : FnDN nTk 102 P w K mg base "_law_beginnings_right" 13 ["written"] spBeg := by
  refine fnOkDN T.d__law_beginnings_right sc__law_beginnings_right (fun ds s Q E h => ?_) (fun A f cdv Ar outer s H E hA hr => (dscN (dsforN PassesOwn.never rfl (drange1 T.b_range (dac (dop od_add (dcallB cd_len T.b_len PySem.boot_len (dac (dpv 0) dan)) dint) dan)) (fun _ _ => dgpat (pg_name (i := 1) sc__law_beginnings_right.nd rfl (Or.inl rfl)) (gmName 1) (patN 1)) (fun _ _ => (dscN (PSdN.of (dsset (i := 2) sc__law_beginnings_right.nd rfl (Or.inl rfl) (dfrz (dF G__law_told (hr.mono (by omega)) (dac (dslice sl_d (dpv 0) dpn (dpo (dpv 1))) dan)))))
  (ds1N (dsifN (PWN.pt (dporN (PTdN.of ((dpand (dtcmp (od_eq hr.units) (dix (hu_of hr) (dpv 2) dint) dstr (nomark _)) (dpand1 (dtcmp (od_ne hr.units) (dpv 2) (dtup (dac dstr (dac (dpv 1) dan))) (nomark _))))).pt) (dpor1N (PWN.pt (dpandN (PTdN.of (dtcmp (od_eq hr.units) (dix (hu_of hr) (dpv 2) dint) dstr (nomark _))) (dpand1N (dtcmpN (od_ne hr.units) (dfrzN (dFDN G_shown (hA.deeper _) (Deep.room (hA.deeper _) |>.mono (by omega)) (dacN (PDN.of (dix (hu_of hr) (dpv 2) dint)) danN))) (PDN.of (dslice sl_d (dpv 0) dpn (dpo (dpv 1)))) (nomark _))))))))
  (PSsdN.of (ds1 (dsret dbl)))
  (PSsdN.of dsn))))))
  (PSsdN.of (ds1 (dsret dbl))))) (fun ds s Q E h => ?_)
  · obtain ⟨z, d, r, rfl, q⟩ := h
    rfl
  · obtain ⟨z, d, r, rfl, hd, he, hz, q⟩ := h
    have hzs := size_le (n := z.length) (by omega)
    have dtr := d_tr
    have drt := d_rt
    have dtt := d_tt
    have drr := d_rr
    walk_at "dl"
    walk_at "sides"
    refine for_rng (fun i δ s' => ∃ (x1 x2 : Option DV), δ = [some (.str z), x1, x2] ∧ (∀ a, s a ≠ none → s' a = s a)) ⟨none, none, rfl, fun _ _ => rfl⟩ (fun i δ s' hi ⟨x1, x2, e1, hs⟩ => ?_) (fun δ s' ⟨x1, x2, e1, hs⟩ => ?_)
    · subst e1
      have hi2 : i ≤ z.length := by omega
      have hK := Kp.mk hs
      clear hs
      have e0 : (0 : Int) + (i : Int) = (i : Int) := Int.zero_add _
      walk_at "dl"
      have ec : DL.tl (cutS z none (some (i : Int))) = (DL.tl z).take i := tl_cutA
      have hw := walk_pre (l := (DL.tl z).take i) (r := (DL.tl z).drop i ++ r) hd (by rw [← List.append_assoc, List.take_append_drop]; exact he)
      have hli : ((DL.tl z).take i).length = i := by rw [List.length_take, ← len_tl]; omega
      have hlc : (cutS z none (some (i : Int))).length = i := by rw [len_tl, ec, hli]
      refine ⟨_, rfl, by omega, ⟨fun v s2 hv hwv hn hs2 => ?_, fun qq s2 hwq hs2 => ?_⟩⟩
      · have fz := hv.frz s2
        obtain ⟨m, hm, hmp⟩ := wu_dep hv
        have hp := pc_len (wr v)
        have hlw : (wr v).length = i := by rw [← hwv, ec, hli]
        have hm100 : Wv 100 v := hm.up (by omega)
        have es : S (wr v) = cutS z none (some (i : Int)) := ext_tl hwv.symm
        have hs3 : ∀ a, s a ≠ none → s2 a = s a := fun a ha => (hs2 a (by rw [hK.out a ha]; exact ha)).trans (hK.out a ha)
        have hK3 := Kp.mk hs3
        clear hs3 hs2 hK hwv hn hw ec he q
        walk_at "dl"
        refine ifS_false (fun Q2 q2 => ?_) ?_
        · walk_at "dl"
          refine ⟨v, rfl, hm100, by omega, ⟨?_⟩⟩
          rw [es]
          walk_at "dl"
        · walk_at "dl"
          exact ⟨_, _, rfl, hK3.out⟩
      · have eq : qq = i := by
          rw [ec] at hwq
          rcases hw with h | h
          · rw [h] at hwq; cases hwq
          · rw [h, hli] at hwq; cases hwq; rfl
        subst eq
        have hs3 : ∀ a, s a ≠ none → s2 a = s a := fun a ha => (hs2 a (by rw [hK.out a ha]; exact ha)).trans (hK.out a ha)
        have hK3 := Kp.mk hs3
        obtain ⟨sh1, sh2⟩ := ref_ok qq
        clear hs3 hs2 hK hwq hw ec he q
        walk_at "dl"
        refine ifS_false (fun Q2 q2 => ?_) ?_
        · walk_at "dl"
          exact by decide
        · walk_at "dl"
          exact ⟨_, _, rfl, hK3.out⟩
    · subst e1
      walk_at "dl"
      exact q.out _ hs
end Law

set_option Elab.async false
set_option linter.all false
set_option maxRecDepth 100000
set_option maxHeartbeats 4000000
namespace Law
open PySem PySem.Spec PyProof.Rows L2 DL VW
local macro_rules | `(tactic| walk_at "dl") => `(tactic| (try simp only [kOp1_e, kOp2_e, kTest_q1, kChain1_e, kChain2_e, kChain3_q1, kChain3_q2, dChain_e, kAnd_q1, kAnd_q2, kOr_q1, kOr_q2, kNot_e, kIf_q1, kIf_q2, kTru_k, kTruO_q1, kTruO_q2, kCons1_e, kCons2_e, kTup_e, kLst_e, kLstM_e, kFrz_e, kDrop_q1, kRetS_e, kIfS_e, kAsg_e, kGCons_e, kPart_q1, kSl1_e, kSl2_e, kSl3_e, kSub1_e, kSub2_e, kCB_e, kBM1_e, kBM2_e, kIt_q, kItO_q, kRng1_q1, kRng2_q1, kWhile_e, kLc1_e, kLc2_e, kLc2', kLc3_e, finF_e, finM_e, kAndE_q1, kAndE_q2, kOrE_q1, kOrE_q2, kNotE_q1, kNeg_q1, kCall_e, kCallK_e, kCallK2_e, dCallK_e, kMeth, kMeth2_e, kMade_e, kMake_e, kMakeK_e, kMakeK2_e, dMakeK_e, kFld, kSetFld_e, kSetFld2, kAugFld, kAugN1_e, kAugN2_e, kPair1_q1, kPair2_q1, kPair3_e, kDisp, dSeq_e, dAsg_e, dVar_k, kVar_q1, kVar_q2, dC_e, dOp_e, gNameD_e, gNilD_e, gConsD_q1, gConsD_q2, gTupD_q1, gifT_q, gifF_q, dTest_e, dTru_e, truD_q1, truD_q2, truD_q3, truD_q5, truD_q6, truD_q7, truD, truD_qs, dAnd_e, dOr_e, dNot_e, dAndE_e, dOrE_e, dNotE_e, dNeg_e, dIf_e, dRet_e, dRetN_e, dRetS_e, dNext_e, dDrop_e, dBreak_e, dCont_e, dCB_e, dCons_e, dNil_e, dIx_str, dIx_lst_q, dIx_tup_q, dIx_scr_q, kChr_q1, kChr_q2, dIx_re, kIxR_q1, kIxR_q2, kIxK_q, ixD_q1, ixD_q2, dSl_e, dSlR_str_q, dSlR_tup_q, dSlR_lst_q, dSlR_scr, dSlR_q1, dSlR_q2, dSlM, dPart_e, dNoPart_e, dI_q1, dI0_q1, dAdd_int_q, dAdd_str_q, dAdd_tup_q, dAdd_lst_q, dAdd_q1, dAdd_q2, dAdd_q3, dMul_int_q, dMul_q1, dMul_q2, dLtB_q1, dLtB_q2, dEq_k, kEqO_q1, kEqO_q2, kEqS_q1, dNe_k, dIs_q1, dIs_q2, isNonD_q1, isNonD, dIn_tup_q, dIn_lst_q, dIn_str_q, dIn_q1, scalEq_q1, scalEq_q2, scalEq_q3, scalEq_q4, scalEq_q5, scalEq_q6, scalEq_q7, scalEq_q8, scalEq, pdS, pd_q1, pd_q2, pd_q3, pd_q4, pd_q5, pd_q6, pd_q7, pd_q8, pdL_q1, pdL, pdL_ints, pdL_strs, eqv_nil, List.isEmpty_map, refL_lst_q, refL_dK_q, refL_ins_q, lstD_lst_q, lstD_scr_q, lstD_tup_q, lstD_str_q, lstD_int_q, lstD_re, lstW_lst_q, lstW_tup_q, lstW_str_q, lstW_int_q, lstW_re, seqD_tup_q, seqD_lst_q, seqD_scr_q, seqD_str_q, seqD_int_q, seqD_re, dictD, keyD_q1, keyD_q2, keyD, dLen_k, kLenO_q1, kLenO_q2, lenD_q1, lenD_tup, lenD_lst, lenD_scr, lenD_re, lenO_q, dAbs_q1, dMin2_q1, dMax2_q1, dListM, dListF_k, kSeqF_q1, kSeqF_q2, dTupF_k, dOrd_q1, dStr_q1, dLst_e, dLstM_e, dTup_e, gSubD_e, dSetR, dFld_e, dSetFld_e, dAugFld_e, dAugN, dIpAdd_q1, dBM_e, tyD_q1, tyD_q2, tyD_q4, tyD_q5, tyD, dAppend, dPop, dJoin, strsD_map, dMeth_e, dCall_e, dMake_e, dFrz_e, frzR_lst_q, frzR_dK_q, frzR_ins_q, frz_int_q, frz_str_q, frz_bl_q, frz_non_q, frz_tup_q, frz_lst_q, frz_scr_q, frz_re, er_none, atI_zero, atI_one, ixN_zero, ixN_one, dDisp_e, dPairs, keysD_q1, keysD, dLc_e, dLcM_e, dFor_e, wipeD_q1, wipeD_q2, dYes_q1, dIt_e, itemsD_q1, itemsD_q2, itemsD_q3, itemsD_q4, itemsD, dRng1_e, dRng2_e, startD_q1, up_same, up_up, er_up, Option.map_some, List.map_cons, List.map_nil, List.length_map, List.length_cons, List.length_nil, List.replicate_succ, List.replicate_zero, List.cons_append, List.nil_append, List.append_nil, getD_qs, getD_q0, set_qs, set_q0, Nat.reduceSub, Nat.reduceAdd, Nat.zero_add, Nat.sub_zero, Bool.not_true, Bool.not_false, if_true, if_false, Bool.true_eq_false, Bool.false_eq_true, reduceIte, true_and, and_true, beq_self_eq_true, Int.reduceEq, Int.reduceLT, Int.reduceLE, Int.reduceAdd, Int.reduceSub, Int.reduceNeg, Int.reduceMul, decide_true, decide_false, dEnS_q, kEnS1_q, kEnS2_q, gStarN_q, gStarD_q, dFmt_q, kFmt_q1, kFmt_q2, dJst_q, dJs_q1, dJs_q2, kJs_q, dSplitK_q, dFind_q1, dFind_q2, dIntF_q1, dIntF_q2, dMulT_q, dPar2_q1, kPar2_q1, dPar3_q1, kPar3_q1, dIsi_q1, kIsi_q1, tyOfD_q1, tyOfD_q2, tyOfD_q3, tyOfD_q4, tyOfD_q5, tyOfD_q6, tyOfD_q7, tyOfD_q8, tyOfO_q1, tyOfO_q2, tyOfO, isT_q1, isT_q2, isT_q3, isT_q4, isT_q5, isT_q6, isT_q7, isT_q8, tyN_bool, tyN_int, tyN_str, tyN_tuple, tyN_list, dRev_q1, kRev_q1, kRev_q2, kRev_q3, dRepl_q, kRepl_q, dReplAA_q, kReplAA_q, dMulS_q1, dSplit1_q, dJoin_lst, kJoinS_q, dEqE_q, kEqE_q, dIntS_q, dInKD_q, dIxKD_q, kMethX2_q, dMethX_q, kMethX, kRaise_q, dRaise_q, kCallX_q, dCallX_q, dTry_q, kEndsD_nx, isNonD_q1, isNonD, dFldE_q, kFldE, dIsk, isTf_non_bl, isTf_non_int, isTf_non_str, isTf_non_tup, isTf_non_lst, isTf_non_dct, isTf_bl_non, isTf_bl_str, isTf_bl_tup, isTf_bl_lst, isTf_bl_dct, isTf_int_non, isTf_int_bl, isTf_int_str, isTf_int_tup, isTf_int_lst, isTf_int_dct, isTf_str_non, isTf_str_bl, isTf_str_int, isTf_str_tup, isTf_str_lst, isTf_str_dct, isTf_tup_non, isTf_tup_bl, isTf_tup_int, isTf_tup_str, isTf_tup_lst, isTf_tup_dct, isTf_lst_non, isTf_lst_bl, isTf_lst_int, isTf_lst_str, isTf_lst_tup, isTf_lst_dct, isTf_dct_non, isTf_dct_bl, isTf_dct_int, isTf_dct_str, isTf_dct_tup, isTf_dct_lst, *]))
local macro_rules | `(tactic| walk_at "side") => `(tactic| first | omega | exact size_lt (by omega) | exact size_le (by omega) | exact mulS (by omega) (by omega) | exact mulS' (by omega) (by omega) | exact cdiv (by omega) (by omega) | exact shaped_ints _ | exact shaped_nil | assumption)
local macro_rules | `(tactic| walk_at "sides") => `(tactic| repeat ((with_reducible refine And.intro ?_ ?_); next => walk_at "side"))
local macro_rules | `(tactic| walk_at "if") => `(tactic| (refine ifS ?_; walk_at "dl"))
local macro_rules | `(tactic| walk_at "for") => `(tactic| (unfold dFor; walk_at "dl"; walk_at "sides"))
local macro_rules | `(tactic| walk_at "upf") => `(tactic| first | exact up_same | assumption | ((rw [up_ne (by first | assumption | exact Ne.symm (by assumption))]); walk_at "upf") | ((rw [er_ne (by first | assumption | exact Ne.symm (by assumption))]); walk_at "upf"))

local macro_rules | `(tactic| walk_at "tst") => `(tactic| (intro Q q; walk_at "dl"; all_goals assumption))
variable {P : Program} {w : World} {K : PySem.W.Frag} {mg : Str → Option Value} {base : Heap} {C CE fI : Addr}
structure It (d : DV) : Prop where
  gv : Gv 4 d
  len : (wr d).length ≤ 1313
  pcs : pc (wr d) ≤ 570
theorem it_vl {d : DV} (h : Vl 3 d) (hz : (wr d).length ≤ zV 3) : It d := by
  have h1 := vl_gv h
  have h2 : zV 3 = 1253 := rfl
  have h3 : cP 3 = 566 := rfl
  exact ⟨h1.1.up (by decide), by omega, by omega⟩
theorem it_nr {v d : DV} (h : Vl 3 v) (hz : (wr v).length ≤ zV 3) (n : Nr 4 v d) : It d := by
  have h1 := vl_gv h
  have h2 : zV 3 = 1253 := rfl
  have h3 : cP 3 = 566 := rfl
  have h4 := n.len
  have h5 := n.pcs
  exact ⟨n.gv, by omega, by omega⟩
theorem Pen.keep {s s' : Sto} {p : Addr} {n : Nat} (h : Pen s p n) (hs : ∀ a, s a ≠ none → s' a = s a) : Pen s' p n := by
  obtain ⟨ns, a, l, e, r⟩ := h.ex
  exact ⟨ns, a, l, (hs p (by rw [e]; exact fun z => nomatch z)).trans e, r⟩
theorem two_S (a b : DV) : Str.ofString "(" ++ S (wr a) ++ Str.ofString " " ++ S (wr b) ++ Str.ofString ")" = S (wr (.tup [a, b])) := ext_tl (by
  have e1 : DL.tl (Str.ofString "(") = [40] := t40
  have e2 : DL.tl (Str.ofString " ") = [32] := t32
  have e3 : DL.tl (Str.ofString ")") = [41] := t41
  rw [tl_app, tl_app, tl_app, tl_app, e1, e2, e3, tl_S, tl_S, tl_S]
  show 40 :: (wr a) ++ [32] ++ wr b ++ [41] = 40 :: ((wr a ++ 32 :: (wr b ++ [])) ++ [41])
  simp)
theorem one_S (a : DV) : Str.ofString "(" ++ S (wr a) ++ Str.ofString ")" = S (wr (.tup [a])) := ext_tl (by
  have e1 : DL.tl (Str.ofString "(") = [40] := t40
  have e3 : DL.tl (Str.ofString ")") = [41] := t41
  rw [tl_app, tl_app, e1, e3, tl_S, tl_S]
  show 40 :: (wr a) ++ [41] = 40 :: ((wr a ++ []) ++ [41])
  simp)
def spLaw : Spd := fun ds s Q _ => ∃ ns : List Int, ds = [.scr (ns.map DV.int)] ∧ ns.length ≤ 63 ∧ Kp (∀ s', Q (.bl true) s')
theorem ok_law {f : Addr} {fd : FuncData} (T : Txt K mg) (F : Fun K "law" "law" s_law f fd) (G__law_dealt : Fn P w K mg base "_law_dealt" 1 ["script"] spDealt) (G__law_pick : Fn P w K mg base "_law_pick" 1 ["hand", "many"] spPck) (G__law_alphabet : Fn P w K mg base "_law_alphabet" 1 [] spAlpha)
    (G__law_any_value : Fn P w K mg base "_law_any_value" 6 ["hand", "deep"] (spVal 3)) (G__law_near : Fn P w K mg base "_law_near" 6 ["hand", "value"] (spNear 3)) (G_shown : FnDN nTk 300 P w K mg base "shown" 3 ["value"] (spSho 299)) (G__law_spoilt : Fn P w K mg base "_law_spoilt" 2 ["hand", "written"] spSpo)
    (G__law_told : Fn P w K mg base "_law_told" 10 ["written"] spTold) (G__law_beginnings_right : FnDN nTk 102 P w K mg base "_law_beginnings_right" 13 ["written"] spBeg) : FnTk (· = callerA) nTk P w K mg base CX0 14 f fd ["script"] (lSp K spLaw) := by
  refine defOkT F sc_law (fun ds s Q E h => ?_) (fun A cdv Ar outer s H E hA hr => by
    subst hA
    have hgd : (callerA.deeper (envOfC "law" (defScope s_law) s.heap.objs.size f cdv)).guards = some [] := callerA_guards
    have hu65 : (callerA.deeper (envOfC "law" (defScope s_law) s.heap.objs.size f cdv)).units + 65 < cLine := by
      have := hr.un
      omega
    have hDp : Deep 300 (callerA.deeper (envOfC "law" (defScope s_law) s.heap.objs.size f cdv)) := Deep.deeper (j := 300) ⟨rfl, by decide, by decide⟩ _
    exact (dscN (PSdN.of (dsset (i := 1) sc_law.nd rfl (Or.inr rfl) (dF G__law_dealt (hr.mono (by omega)) (dac (dpv 0) dan))))
  (dscN (PSdN.of (dssetLc (i := 3) (own := [("turn", 2)]) rfl sc_law.nd rfl rfl (sw_true rfl rfl rfl (by decide +kernel)) (drange1 T.b_range (dac dint dan)) (blkOk_by (own := [("turn", 2)]) (N := n_law) (sc := defScope s_law) (by decide +kernel)) (gmName 2) (patN 2) (by decide) (fun _ _ _ _ _ => (pg_name (i := 2) sc_law.nd rfl (Or.inl rfl))) (fun _ _ _ _ _ => dtsn) (fun _ _ _ _ _ => (dfrz (dF G__law_any_value (hr.mono (by omega)) (dac (dpv 1) (dac dint dan)))))))
  (dscN (PSdN.of (dsset (i := 3) sc_law.nd rfl (Or.inl rfl) (dop od_add (dpv 3) (dlc (own := [("thing", 4)]) rfl sc_law.nd (diter (dpv 3)) (blkOk_by (own := [("thing", 4)]) (N := n_law) (sc := defScope s_law) (by decide +kernel)) (gmName 4) (patN 4) (by decide) (fun _ _ _ _ _ => (pg_name (i := 4) sc_law.nd rfl (Or.inl rfl))) (fun _ _ _ _ _ => dtsn) (fun _ _ _ _ _ => (dfrz (dF G__law_near (hr.mono (by omega)) (dac (dpv 1) (dac (dpv 4) dan)))))))))
  (dscN (dsforN PassesOwn.never rfl (diter (dpv 3)) (fun _ _ => dgpat (pg_name (i := 5) sc_law.nd rfl (Or.inl rfl)) (gmName 5) (patN 5)) (fun _ _ => (dscN (dsforN PassesOwn.never rfl (diter (dpv 3)) (fun _ _ => dgpat (pg_name (i := 6) sc_law.nd rfl (Or.inl rfl)) (gmName 6) (patN 6)) (fun _ _ => (ds1N (dsifN (dtcmpN (od_ne hr.units) (dcmpN (od_eq hr.units) (dfrzN (dFDN G_shown hDp (Deep.room hDp |>.mono (by omega)) (dacN (PDN.of (dpv 5)) danN))) (dfrzN (dFDN G_shown hDp (Deep.room hDp |>.mono (by omega)) (dacN (PDN.of (dpv 6)) danN))) (nomark _)) (PDN.of (dcmp (od_eq hr.units) (dcallB (cd_repr hgd hu65) T.b_repr (by decide +kernel) (dac (dpv 5) dan)) (dcallB (cd_repr hgd hu65) T.b_repr (by decide +kernel) (dac (dpv 6) dan)) (nomark _))) (nomark _))
  (PSsdN.of (ds1 (dsret dbl)))
  (PSsdN.of dsn)))))
  (dscN (dsifN (dtcmpN (od_ne hr.units) (dfrzN (dFDN G_shown hDp (Deep.room hDp |>.mono (by omega)) (dacN (PDN.of (dtup (dac (dpv 5) (dac (dix (hu_of hr) (dpv 3) dint) dan)))) danN))) (dopN od_add (dopN od_add (dopN od_add (dopN od_add (PDN.of dstr) (dfrzN (dFDN G_shown hDp (Deep.room hDp |>.mono (by omega)) (dacN (PDN.of (dpv 5)) danN)))) (PDN.of dstr)) (dfrzN (dFDN G_shown hDp (Deep.room hDp |>.mono (by omega)) (dacN (PDN.of (dix (hu_of hr) (dpv 3) dint)) danN)))) (PDN.of dstr)) (nomark _))
  (PSsdN.of (ds1 (dsret dbl)))
  (PSsdN.of dsn))
  (dscN (dsifN (dtcmpN (od_ne hr.units) (dfrzN (dFDN G_shown hDp (Deep.room hDp |>.mono (by omega)) (dacN (PDN.of (dtup (dac (dpv 5) dan))) danN))) (dopN od_add (dopN od_add (PDN.of dstr) (dfrzN (dFDN G_shown hDp (Deep.room hDp |>.mono (by omega)) (dacN (PDN.of (dpv 5)) danN)))) (PDN.of dstr)) (nomark _))
  (PSsdN.of (ds1 (dsret dbl)))
  (PSsdN.of dsn))
  (dscN (dsifN (dpnotN (dtruthN (dfrzN (dFDN G__law_beginnings_right (hDp.mono (by decide)) (Deep.room hDp |>.mono (by omega)) (dacN (dsliceN sl_d (dfrzN (dFDN G_shown hDp (Deep.room hDp |>.mono (by omega)) (dacN (PDN.of (dpv 5)) danN))) dpn (dpo dint)) danN)))))
  (PSsdN.of (ds1 (dsret dbl)))
  (PSsdN.of dsn))
  (dscN (dssetN (i := 7) sc_law.nd rfl (Or.inl rfl) (dfrzN (dFN (FnT.ofFn G__law_spoilt) (hr.mono (by omega)) (dacN (PDN.of (dpv 1)) (dacN (dfrzN (dFDN G_shown hDp (Deep.room hDp |>.mono (by omega)) (dacN (PDN.of (dpv 5)) danN))) danN)))))
  (dscN (PSdN.of (dsset (i := 8) sc_law.nd rfl (Or.inl rfl) (dfrz (dF G__law_told (hr.mono (by omega)) (dac (dpv 7) dan)))))
  (dscN (dsifN (PWN.pt (dpandN (PTdN.of (dtcmp (od_eq hr.units) (dix (hu_of hr) (dpv 8) dint) dstr (nomark _))) (dpand1N (dtcmpN (od_ne hr.units) (dfrzN (dFDN G_shown hDp (Deep.room hDp |>.mono (by omega)) (dacN (PDN.of (dix (hu_of hr) (dpv 8) dint)) danN))) (PDN.of (dpv 7)) (nomark _)))))
  (PSsdN.of (ds1 (dsret dbl)))
  (PSsdN.of dsn))
  (PSsdN.of (ds1 (dsif ((dpand (dtcmp (od_eq hr.units) (dix (hu_of hr) (dpv 8) dint) dstr (nomark _)) (dpand1 (dtcmp od_lt (dix (hu_of hr) (dpv 8) dint) (dcallB cd_len T.b_len PySem.boot_len (dac (dpv 7) dan)) (nomark _))))).pt
  (ds1 (dsfor PassesOwn.never rfl (drange1 T.b_range (dac dint dan)) (fun _ _ => dgpat (pg_name (i := 2) sc_law.nd rfl (Or.inl rfl)) (gmName 2) (patN 2)) (fun _ _ => (dsc (dsset (i := 10) sc_law.nd rfl (Or.inl rfl) (dbm PySem.F.plainAttrs_str PySem.F.slot_str_join PySem.F.type_str_join md_join dstr (dac (dlc (own := [("k", 9)]) rfl sc_law.nd (drange1 T.b_range (dac (dfrz (dF G__law_pick (hr.mono (by omega)) (dac (dpv 1) (dac dint dan)))) dan)) (blkOk_by (own := [("k", 9)]) (N := n_law) (sc := defScope s_law) (by decide +kernel)) (gmName 9) (patN 9) (by decide) (fun _ _ _ _ _ => (pg_name (i := 9) sc_law.nd rfl (Or.inl rfl))) (fun _ _ _ _ _ => dtsn) (fun _ _ _ _ _ => (dix (hu_of hr) (dfrz (dF0 G__law_alphabet (hr.mono (by omega)))) (dfrz (dF G__law_pick (hr.mono (by omega)) (dac (dpv 1) (dac dint dan))))))) dan)))
  (ds1 (dsif (dtcmp (od_ne hr.units) (dfrz (dF G__law_told (hr.mono (by omega)) (dac (dop od_add (dslice sl_d (dpv 7) dpn (dpo (dop od_add (dix (hu_of hr) (dpv 8) dint) dint))) (dpv 10)) dan))) (dpv 8) (nomark _))
  (ds1 (dsret dbl))
  dsn))))))
  dsn))))))))))))
  (PSsdN.of (ds1 (dsret dbl)))))))) (fun ds s Q E h => ?_)
  · obtain ⟨ns, rfl, q⟩ := h
    rfl
  · obtain ⟨ns, rfl, hl, q⟩ := h
    walk_at "dl"
    refine ⟨ns, rfl, hl, ⟨fun p hp => ?_⟩⟩
    have P0 : Pen (up s p (.lst (handL ns 0 0))) p 0 := ⟨⟨ns, 0, 0, up_same, hl, Int.le_refl _, Int.le_refl _⟩⟩
    generalize up s p (.lst (handL ns 0 0)) = s0 at P0
    walk_at "dl"
    walk_at "sides"
    have hc3 : cV 3 ≤ 9000 := by decide
    refine lc_rng (fun D i acc s' => (acc.length = i ∧ ∀ d ∈ acc, Vl 3 d ∧ (wr d).length ≤ zV 3) ∧ Nxt (up s0 D .hid) s' p (i * cV 3)) (fun D hD => ⟨⟨rfl, fun d h => (nomatch h)⟩, .refl ((P0.put hD).le (by omega))⟩) (fun D i acc s' hD hi ⟨⟨hal, hv⟩, N⟩ => ?_) (fun D acc s' hD ⟨⟨hal, hv⟩, N⟩ => ?_)
    · have hij : i * cV 3 ≤ 7 * cV 3 := Nat.mul_le_mul_right _ (by omega)
      walk_at "dl"
      refine ⟨p, i * cV 3, rfl, N.pen, by omega, ⟨fun d s3 hd hz N3 => ?_⟩⟩
      have fz := hd.frz s3
      walk_at "dl"
      refine ⟨size_lt (by omega), ⟨by simp [hal], fun e he => ?_⟩, (N.trans N3).le (Nat.le_of_eq (Nat.succ_mul ..).symm)⟩
      rcases List.mem_append.mp he with he | he
      · exact hv e he
      · rw [List.mem_singleton.mp he]; exact ⟨hd, hz⟩
    · unfold finF
      have N1 := Nxt.er P0 hD N
      have h6 : Int.toNat 6 * cV 3 ≤ 6 * 9000 := Nat.mul_le_mul_left _ hc3
      have hal6 : acc.length = 6 := hal
      generalize Int.toNat 6 * cV 3 = m0 at h6 N1
      generalize er s' D = s1 at N1
      clear N hal P0 hD hc3 hp
      walk_at "dl"
      refine lc_its (fun D i acc2 s' => (acc2.length = i ∧ ∀ d ∈ acc2, It d) ∧ Nxt (up s1 D .hid) s' p (m0 + i * 40)) (fun D hD => ⟨⟨rfl, fun d h => (nomatch h)⟩, .refl ((N1.pen.put hD).le (by omega))⟩) (fun _ _ _ _ _ _ => trivial) (fun D i d acc2 s' hD hi ⟨⟨hal, hv2⟩, N⟩ => ?_) (fun D acc2 s' hD ⟨⟨hal, hv2⟩, N⟩ => ?_)
      · have hi6 : i < 6 := by
          have := (List.getElem?_eq_some_iff.mp hi).1
          omega
        obtain ⟨hvd, hzd⟩ := hv d (List.mem_of_getElem? hi)
        walk_at "dl"
        refine ⟨p, _, d, rfl, hvd, N.pen, by omega, ⟨fun v' s3 hn N3 => ?_⟩⟩
        have fz := hn.gv.gd.wu.frz s3
        have hit := it_nr hvd hzd hn
        walk_at "dl"
        refine ⟨size_lt (by omega), ⟨by simp [hal], fun e he => ?_⟩, (N.trans N3).le (by rw [Nat.succ_mul]; omega)⟩
        rcases List.mem_append.mp he with he | he
        · exact hv2 e he
        · rw [List.mem_singleton.mp he]; exact hit
      · unfold finF
        have N2 := Nxt.er N1.pen hD N
        have hit : ∀ d ∈ acc ++ acc2, It d := fun d hd => (List.mem_append.mp hd).elim (fun h => it_vl (hv d h).1 (hv d h).2) (hv2 d)
        have hil : (acc ++ acc2).length = 12 := by rw [List.length_append, hal, hal6]
        have hne : ∃ d0 r0, acc ++ acc2 = d0 :: r0 := by
          cases e : acc ++ acc2 with
          | nil => rw [e] at hil; cases hil
          | cons d0 r0 => exact ⟨_, _, rfl⟩
        walk_at "dl"
        have e12 : Int.toNat 6 + Int.toNat 6 = 12 := rfl
        refine ⟨size_le (by rw [e12]; decide), ?_⟩
        obtain ⟨d0, r0, e0⟩ := hne
        rw [e0] at hit hil ⊢
        generalize er s' D = s2 at N2
        have P2 := N2.pen
        have hd0 := hit d0 List.mem_cons_self
        obtain ⟨m1, hm2, P2⟩ : ∃ m1, m1 ≤ 100000 ∧ Pen s2 p m1 := ⟨_, by omega, P2⟩
        clear N2 N hv2 hal hv hal6 hD e0
        refine for_its (fun i δ s' => ∃ x2 x5 x6 x7 x8 x9 x10 : Option DV, δ = [some (.scr (ns.map DV.int)), some (.ref p), x2, some (.lst (d0 :: r0)), none, x5, x6, x7, x8, x9, x10] ∧ Pen s' p (m1 + i * 40)) ⟨_, _, _, _, _, _, _, rfl, P2.le (by omega)⟩ (fun _ _ _ _ => trivial) (fun i one δ s3 hi ⟨x2, x5, x6, x7, x8, x9, x10, e1, P3⟩ => ?_) (fun δ s3 ⟨x2, x5, x6, x7, x8, x9, x10, e1, P3⟩ => ?_)
        · subst e1
          have hi12 : i < 12 := by
            have := (List.getElem?_eq_some_iff.mp hi).1
            omega
          have h1 := hit one (List.mem_of_getElem? hi)
          have w1 : Wv 299 one := h1.gv.wv.up (by decide)
          clear hi
          walk_at "dl"
          refine for_its (fun _ δ s' => ∃ y6 : Option DV, δ = [some (.scr (ns.map DV.int)), some (.ref p), x2, some (.lst (d0 :: r0)), none, some one, y6, x7, x8, x9, x10] ∧ s' = s3) ⟨_, rfl, rfl⟩ (fun _ _ _ _ => trivial) (fun j other δ s4 hj ⟨y6, e1, e2⟩ => ?_) (fun δ s4 ⟨y6, e1, e2⟩ => ?_)
          · subst e1 e2
            have h2 := hit other (List.mem_of_getElem? hj)
            have w2 : Wv 299 other := h2.gv.wv.up (by decide)
            have al := alike h1.gv.gd.wu h2.gv.gd.wu
            clear hj
            walk_at "dl"
            refine ifS_false (fun Q2 q2 => ?_) ?_
            · walk_at "dl"
              refine ⟨one, rfl, w1, by have := h1.len; omega, ⟨?_⟩⟩
              walk_at "dl"
              refine ⟨other, rfl, w2, by have := h2.len; omega, ⟨?_⟩⟩
              walk_at "dl"
              refine repr_gv h1.gv (by decide) (by have := h1.len; omega) ?_
              walk_at "dl"
              refine repr_gv h2.gv (by decide) (by have := h2.len; omega) ?_
              walk_at "dl"
            · walk_at "dl"
              exact ⟨_, rfl⟩
          · subst e1 e2
            have g2 : Gv 5 (.tup [one, d0]) := .tup _ _ fun d hd => by
              rcases List.mem_cons.mp hd with rfl | hd
              · exact h1.gv
              · rw [List.mem_singleton.mp hd]; exact hd0.gv
            have g1 : Gv 5 (.tup [one]) := .tup _ _ fun d hd => by rw [List.mem_singleton.mp hd]; exact h1.gv
            have c1 := two_S one d0
            have c2 := one_S one
            have w0 : Wv 299 d0 := hd0.gv.wv.up (by decide)
            have wt2 : Wv 299 (.tup [one, d0]) := g2.wv.up (by decide)
            have wt1 : Wv 299 (.tup [one]) := g1.wv.up (by decide)
            have l1 := h1.len
            have l0 := hd0.len
            have z1 := S_len (wr one)
            have z0 := S_len (wr d0)
            have zt2 : (wr (.tup [one, d0])).length ≤ 100000 := by
              have := wrT_le (m := 1313) (ds := [one, d0]) fun d hd => by
                rcases List.mem_cons.mp hd with rfl | hd
                · exact l1
                · rw [List.mem_singleton.mp hd]; exact l0
              have e : [one, d0].length = 2 := rfl
              omega
            have zt1 : (wr (.tup [one])).length ≤ 100000 := by
              have := wrT_le (m := 1313) (ds := [one]) fun d hd => by rw [List.mem_singleton.mp hd]; exact l1
              have e : [one].length = 1 := rfl
              omega
            clear hd0 g1 g2
            have q1 : (Str.ofString "(").length = 1 := by decide +kernel
            have q2 : (Str.ofString ")").length = 1 := by decide +kernel
            have q3 : (Str.ofString " ").length = 1 := by decide +kernel
            have a1 : (Str.ofString "(" ++ S (wr one)).length = 1 + (wr one).length := by rw [lapp, q1, z1]
            have a2 : (Str.ofString "(" ++ S (wr one) ++ Str.ofString " ").length = 1 + (wr one).length + 1 := by rw [lapp, a1, q3]
            have a3 : (Str.ofString "(" ++ S (wr one) ++ Str.ofString " " ++ S (wr d0)).length = 1 + (wr one).length + 1 + (wr d0).length := by rw [lapp, a2, z0]
            walk_at "dl"
            refine ifS_false (fun Q2 q2 => ?_) ?_
            · walk_at "dl"
              refine ⟨by decide, _, rfl, wt2, zt2, ⟨?_⟩⟩
              walk_at "dl"
              refine ⟨one, rfl, w1, by omega, ⟨?_⟩⟩
              walk_at "dl"
              refine ⟨size_le (by omega), size_le (by omega), d0, rfl, w0, by omega, ⟨?_⟩⟩
              walk_at "dl"
              exact ⟨size_le (by omega), size_le (by omega)⟩
            walk_at "dl"
            refine ifS_false (fun Q2 q2 => ?_) ?_
            · walk_at "dl"
              refine ⟨by decide, _, rfl, wt1, zt1, ⟨?_⟩⟩
              walk_at "dl"
              refine ⟨one, rfl, w1, by omega, ⟨?_⟩⟩
              walk_at "dl"
              exact ⟨size_le (by omega), size_le (by omega)⟩
            clear c1 c2 wt1 wt2 zt1 zt2 a1 a2 a3 q1 q2 q3 w0
            walk_at "dl"
            refine ifS_m (fun b s' => b = false ∧ ∀ a, s4 a ≠ none → s' a = s4 a) (fun Q2 q2 => ?_) (fun s5 M => nomatch M.1) (fun s5 M => ?_)
            · walk_at "dl"
              refine ⟨one, rfl, w1, by omega, ⟨?_⟩⟩
              walk_at "dl"
              have c200 : DL.tl (cutS (S (wr one)) none (some 200)) = (wr one).take 200 := by
                have := tl_cutA (z := S (wr one)) (k := 200)
                rw [tl_S (wr one)] at this
                exact this
              refine ⟨size_le (by omega), _, one, (wr one).drop 200, rfl, h1.gv.gd, by rw [c200]; exact (List.take_append_drop 200 (wr one)).symm, by rw [len_tl, c200, List.length_take]; omega, ⟨fun s' hs' => ?_⟩⟩
              have q3 := q2 false s' ⟨rfl, hs'⟩
              clear q2 hs' c200
              walk_at "dl"
            have P5 := P3.keep M.2
            clear M P3
            walk_at "dl"
            refine ⟨one, rfl, w1, by omega, ⟨?_⟩⟩
            walk_at "dl"
            refine ⟨p, _, S (wr one), rfl, by omega, P5, by omega, ⟨fun y s6 hy1 hy2 N6 => ?_⟩⟩
            rw [z1] at hy1
            rw [tl_S (wr one)] at hy2
            have P6 := N6.pen
            have h1p := h1.pcs
            have hsy := size_le (n := y.length) (by omega)
            have dtr := d_tr
            have drt := d_rt
            have dtt := d_tt
            have drr := d_rr
            clear N6 P5
            walk_at "dl"
            refine ⟨y, rfl, by omega, ⟨fun v s7 hv hwv hn hs7 => ?_, fun qq s7 hwq hs7 => ?_⟩⟩
            · have fz := hv.frz s7
              have P7 := P6.keep hs7
              obtain ⟨m, hm, hmp⟩ := wu_dep hv
              rw [← hwv] at hmp
              have hm9 : Wv 299 v := hm.up (by omega)
              have es : S (wr v) = y := ext_tl hwv.symm
              have hlw : (wr v).length = y.length := by rw [← hwv, ← len_tl]
              clear hs7 P6 hn hwv hmp hm
              walk_at "dl"
              refine ifS_false (fun Q2 q2 => ?_) ?_
              · walk_at "dl"
                refine ⟨v, rfl, hm9, by omega, ⟨?_⟩⟩
                rw [es]
                walk_at "dl"
              walk_at "dl"
              refine ifS_false (fun Q2 q2 => ?_) ?_
              · walk_at "dl"
              walk_at "dl"
              exact ⟨_, _, _, _, _, _, _, rfl, P7.le (by omega)⟩
            · have P7 := P6.keep hs7
              obtain ⟨sh1, sh2⟩ := ref_ok qq
              have hK := Kp.mk hwq
              clear hs7 P6 hwq
              walk_at "dl"
              refine ifS_false (fun Q2 q2 => ?_) ?_
              · walk_at "dl"
              walk_at "dl"
              by_cases hlt : qq < y.length
              · have elt : ltI (qq : Int) (y.length : Int) = true := decide_eq_true (by omega)
                refine ifS_true (fun Q2 q2 => ?_) ?_
                · walk_at "dl"
                walk_at "dl"
                have e3 : Int.toNat 3 = 3 := rfl
                refine ⟨by decide, ?_⟩
                refine for_rng (fun j δ s' => ∃ x2 x9 x10 : Option DV, δ = [some (.scr (ns.map DV.int)), some (.ref p), x2, some (.lst (d0 :: r0)), none, some one, y6, some (.str y), some (.tup [.str (Str.ofString "refused"), .int (qq : Int)]), x9, x10] ∧ Pen s' p (m1 + i * 40 + 3 + j * 10)) ⟨_, _, _, rfl, P7.le (by omega)⟩ (fun j δ s8 hj ⟨z2, z9, z10, e1, P8⟩ => ?_) (fun δ s8 ⟨z2, z9, z10, e1, P8⟩ => ?_)
                · subst e1
                  rw [e3] at hj
                  clear P7
                  walk_at "dl"
                  refine ⟨p, 9, _, rfl, P8, by omega, by decide, by decide, ⟨fun r s9 r0' r1' N9 => ?_⟩⟩
                  walk_at "dl"
                  walk_at "sides"
                  refine lc_rng (TxtW (DL.tl zA) s9 p _) (fun D hD => .zero N9.pen hD) (fun D k acc s' hD hk W => ?_) (fun D acc s' hD W => ?_)
                  · walk_at "dl"
                    refine ⟨rfl, ⟨?_⟩⟩
                    walk_at "dl"
                    refine ⟨p, 94, _, rfl, W.nx.pen, by omega, by decide, by decide, ⟨fun r2 s2' r20 r21 N2 => ?_⟩⟩
                    walk_at "dl"
                    refine ⟨by decide +kernel, ?_⟩
                    refine chr_all (P := fun c => c ∈ DL.tl zA) (ds := DL.tl zA) (fun _ h => h) r20 (by rw [show (DL.tl zA).length = 94 by decide +kernel]; exact r21) fun c hc => ?_
                    walk_at "dl"
                    exact ⟨size_lt (by rw [W.len]; omega), W.succ hc N2⟩
                  · obtain ⟨zs, rfl, hzl, hsum, hjl, hof, N2⟩ := W.fin N9.pen hD
                    have hrl : r.toNat ≤ 8 := by omega
                    unfold finF
                    generalize er s' D = s10 at N2 ⊢
                    have PA := N2.pen
                    clear N2 W N9 P8 hof
                    walk_at "dl"
                    have hq0 : (Str.ofString "").length = 0 := by decide +kernel
                    refine ⟨by rw [hq0]; omega, ?_⟩
                    generalize Txt.join (Str.ofString "") zs = bh at hjl ⊢
                    have ecut : DL.tl (cutS y none (some ((qq : Int) + 1))) = (DL.tl y).take (qq + 1) := tl_cutA (k := qq + 1)
                    have wcut : walk (DL.tl (cutS y none (some ((qq : Int) + 1)) ++ bh)) = some qq := by
                      rw [tl_app, ecut]
                      exact walk_cut hK.out (by rw [← len_tl]; exact hlt) _
                    have lcut : (cutS y none (some ((qq : Int) + 1))).length ≤ y.length := by rw [len_tl, ecut, List.length_take, ← len_tl]; omega
                    refine ifS_m (fun b s' => b = false ∧ Pen s' p (m1 + i * 40 + 3 + (j + 1) * 10)) (fun Q2 q2 => ?_) (fun s5 M => nomatch M.1) (fun s5 M => ?_)
                    · clear ecut hK
                      walk_at "dl"
                      refine ⟨size_le (by omega), _, rfl, by rw [lapp]; omega, ⟨fun v s11 hv hwv hn hs11 => ?_, fun q3 s11 hwq hs11 => ?_⟩⟩
                      · rw [wcut] at hn; cases hn
                      · rw [wcut] at hwq
                        cases hwq
                        have q3 := q2 false s11 ⟨rfl, (PA.keep hs11).le (by omega)⟩
                        clear q2 hs11 wcut
                        walk_at "dl"
                    · have PB := M.2
                      clear M ecut wcut
                      walk_at "dl"
                      exact ⟨_, _, _, rfl⟩
                · subst e1
                  walk_at "dl"
                  exact ⟨_, _, _, _, _, _, _, rfl, P8.le (by omega)⟩
              · have elt : ltI (qq : Int) (y.length : Int) = false := decide_eq_false (by omega)
                refine ifS_false (fun Q2 q2 => ?_) ?_
                · walk_at "dl"
                walk_at "dl"
                exact ⟨_, _, _, _, _, _, _, rfl, P7.le (by omega)⟩
        · subst e1
          walk_at "dl"
          exact q.out _
end Law

set_option Elab.async false
set_option linter.all false
set_option maxRecDepth 100000
set_option maxHeartbeats 4000000
namespace Law
open PySem PySem.Spec PyProof.Rows L2 DL
variable {P : Program} {w : World} {K : PySem.W.Frag} {mg : Str → Option Value} {base : Heap} {C CE fI : Addr}
theorem ofOk {Ok : Around → Prop} {n : Nat} {CX : CXT} {k : Nat} {f : Addr} {fd : FuncData} {ps : List Str} {sp : Sp} (F : FnOk P w K mg base CX k f fd ps sp) : FnTk Ok n P w K mg base CX k f fd ps sp :=
  ⟨F.len, fun A outer s H args us vs Q E _ _ hr e0 b r h => F.run A outer s H args us vs Q E hr e0 b r h⟩
/-- the base's __init__ as the class hands it out -/
def fclsB (K : PySem.W.Frag) (b i : String) : Bool := match PySem.W.findCls K (.type b) (.type "type") "__init__" with
  | some (.val (.builtin s)) => decide (s = i)
  | _ => false
theorem fclsB_ok {K : PySem.W.Frag} {b i : String} (h : fclsB K b i = true) : PySem.W.findCls K (.type b) (.type "type") "__init__" = some (.val (.builtin i)) := by
  unfold fclsB at h
  split at h
  · rename_i s e
    rw [e, of_decide_eq_true h]
  · cases h
theorem ty_VE : typeOf (.type "ValueError") = pure (.type "type") := by kernel_rfl
theorem ok_xinit {f : Addr} {fd : FuncData} (T : TxN K mg CE) (FX : Fun K "__init__" "NoValue.__init__" s_NoValue___init__ f fd) (vV : PySem.W.findCls K (.type "ValueError") (.type "type") "__init__" = some (.val (.builtin "ValueError.__init__"))) :
    FnOk P w K mg base CX0 1 f fd ["self", "at"] (DL.spInit K "ValueError.__new__" bmVE "at") :=
  initOk FX sc_NoValue___init__ fun cdv A outer s H E =>
    pss_cons (ps_expr (pe_xinit PySem.F.excBase_ValueError ty_VE (by decide +kernel) (by decide +kernel) PyProof.Rows.Boot.«ValueError» rfl T.b_ValueError vV (pa_cons (pe_var rfl (Or.inl rfl)) (pa_cons pe_str pa_nil))))
      (pss_one (ps_oxs PySem.F.store_ValueError (pe_var rfl (Or.inl rfl)) (pe_var rfl (Or.inl rfl))))
theorem zf_mk {f : Addr} {fd : FuncData} (T : TxN K mg CE) (FX : Fun K "__init__" "NoValue.__init__" s_NoValue___init__ f fd) (vV : PySem.W.findCls K (.type "ValueError") (.type "type") "__init__" = some (.val (.builtin "ValueError.__init__"))) (ZK : XF K CE f) : XZ P w K mg base CE :=
  ⟨ZK.ox, ZK.no, f, fd, "at", ok_xinit T FX vV, ZK.ini, ZK.tyI, FX.binds fun _ _ _ _ _ _ us hl => match us, hl with | [_, _], _ => rfl⟩
end Law

set_option Elab.async false
set_option linter.all false
set_option maxRecDepth 100000
set_option maxHeartbeats 4000000
namespace Law
open PySem PySem.Spec PyProof.Rows L2 DL
/-! ### the head -/
def fnL : List He.DefD := [
  ⟨("quoted", none), "quoted", "quoted", defArgs s_quoted, defBody s_quoted, defScope s_quoted, [], []⟩,
  ⟨("shown", none), "shown", "shown", defArgs s_shown, defBody s_shown, defScope s_shown, [], []⟩,
  ⟨("_law_dealt", none), "_law_dealt", "_law_dealt", defArgs s__law_dealt, defBody s__law_dealt, defScope s__law_dealt, [], []⟩,
  ⟨("_law_pick", none), "_law_pick", "_law_pick", defArgs s__law_pick, defBody s__law_pick, defScope s__law_pick, [], []⟩,
  ⟨("_law_alphabet", none), "_law_alphabet", "_law_alphabet", defArgs s__law_alphabet, defBody s__law_alphabet, defScope s__law_alphabet, [], []⟩,
  ⟨("_law_long_number", none), "_law_long_number", "_law_long_number", defArgs s__law_long_number, defBody s__law_long_number, defScope s__law_long_number, [], []⟩,
  ⟨("_law_any_text", none), "_law_any_text", "_law_any_text", defArgs s__law_any_text, defBody s__law_any_text, defScope s__law_any_text, [], []⟩,
  ⟨("_law_any_value", none), "_law_any_value", "_law_any_value", defArgs s__law_any_value, defBody s__law_any_value, defScope s__law_any_value, [], []⟩,
  ⟨("_law_spoilt", none), "_law_spoilt", "_law_spoilt", defArgs s__law_spoilt, defBody s__law_spoilt, defScope s__law_spoilt, [], []⟩,
  ⟨("_law_near", none), "_law_near", "_law_near", defArgs s__law_near, defBody s__law_near, defScope s__law_near, [], []⟩,
  ⟨("_law_told", none), "_law_told", "_law_told", defArgs s__law_told, defBody s__law_told, defScope s__law_told, [], []⟩,
  ⟨("_law_beginnings_right", none), "_law_beginnings_right", "_law_beginnings_right", defArgs s__law_beginnings_right, defBody s__law_beginnings_right, defScope s__law_beginnings_right, [], []⟩,
  ⟨("law", none), "law", "law", defArgs s_law, defBody s_law, defScope s_law, [], []⟩,
  ⟨("Reader", some "sign"), "sign", "Reader.sign", defArgs s_Reader_sign, defBody s_Reader_sign, defScope s_Reader_sign, [], []⟩,
  ⟨("Reader", some "figures"), "figures", "Reader.figures", defArgs s_Reader_figures, defBody s_Reader_figures, defScope s_Reader_figures, [], []⟩,
  ⟨("Reader", some "number"), "number", "Reader.number", defArgs s_Reader_number, defBody s_Reader_number, defScope s_Reader_number, [], []⟩,
  ⟨("Reader", some "quoted_text"), "quoted_text", "Reader.quoted_text", defArgs s_Reader_quoted_text, defBody s_Reader_quoted_text, defScope s_Reader_quoted_text, [], []⟩,
  ⟨("Reader", some "single"), "single", "Reader.single", defArgs s_Reader_single, defBody s_Reader_single, defScope s_Reader_single, [], []⟩,
  ⟨("Reader", some "closed"), "closed", "Reader.closed", defArgs s_Reader_closed, defBody s_Reader_closed, defScope s_Reader_closed, [], []⟩,
  ⟨("Reader", some "whole"), "whole", "Reader.whole", defArgs s_Reader_whole, defBody s_Reader_whole, defScope s_Reader_whole, [], []⟩,
  ⟨("Reader", some "value_alone"), "value_alone", "Reader.value_alone", defArgs s_Reader_value_alone, defBody s_Reader_value_alone, defScope s_Reader_value_alone, [], []⟩,
  ⟨("is_text_sign", none), "is_text_sign", "is_text_sign", defArgs s_is_text_sign, defBody s_is_text_sign, defScope s_is_text_sign, [], []⟩,
  ⟨("read", none), "read", "read", defArgs s_read, defBody s_read, defScope s_read, [], []⟩,
  ⟨("Reader", some "refuse"), "refuse", "Reader.refuse", defArgs s_Reader_refuse, defBody s_Reader_refuse, defScope s_Reader_refuse, [], []⟩,
  ⟨("Reader", some "__init__"), "__init__", "Reader.__init__", defArgs s_Reader___init__, defBody s_Reader___init__, defScope s_Reader___init__, [], []⟩,
  ⟨("NoValue", some "__init__"), "__init__", "NoValue.__init__", defArgs s_NoValue___init__, defBody s_NoValue___init__, defScope s_NoValue___init__, [], []⟩]
def faL : List He.Fa := [.glo "quoted", .glo "shown", .glo "_law_dealt", .glo "_law_pick", .glo "_law_alphabet", .glo "_law_long_number", .glo "_law_any_text", .glo "_law_any_value", .glo "_law_spoilt", .glo "_law_near", .glo "_law_told", .glo "_law_beginnings_right", .glo "law", .free "len", .free "abs", .free "range", .free "list", .free "tuple", .free "str", .free "int", .free "bool", .free "isinstance", .free "repr", .str "QUOTE" "\"", .cls "Reader", .glo "Reader", .glo "NoValue", .noat "Reader" "text", .noat "Reader" "at", .meth "Reader" "sign", .meth "Reader" "figures", .meth "Reader" "number", .meth "Reader" "quoted_text", .meth "Reader" "single", .meth "Reader" "closed", .meth "Reader" "whole", .meth "Reader" "value_alone", .glo "is_text_sign", .glo "read", .meth "Reader" "refuse", .free "ord", .str "FIGURES" "0123456789", .int "MOST_FIGURES" 40, .glo "PLAIN", .free "ValueError", .mkr "Reader"]
def exL (K : PySem.W.Frag) : Bool := tkB nTk K "QUOTE" "\"" && (kdB K (He.ga K "PLAIN") [(.inr "-", .non), (.inr "+", .bl true), (.inr "!", .bl false)] && (xcB K (He.ga K "NoValue") (He.ma K (He.ga K "NoValue") "__init__") "ValueError.__new__" "ValueError" bmVE "at" && (fclsB K "ValueError" "ValueError.__init__")))
def dsL : List (Str × List Key) := [("PLAIN", [.inr "-", .inr "+", .inr "!"])]
abbrev RL : PySem.W.OpenRow := PySem.W.OpenLaw.row PySem.Challenge.rw_eventledger_k03_whole_writings_begin_and
abbrev hkL : PySem.W.Hook := hookT nTk 6 faL fnL exL dsL
def obL (s : PySem.W.SharedT) : ((He.AlD × Bool) × List (List Int)) × Bool := (obH 6 faL fnL exL (dsL.map (·.1)) (HandSHeadRun.getT s), decide (nTk ≤ s.toks))
theorem obL_eq (s : PySem.W.SharedT) : obL s = hkL.obs s.abs := Prod.ext (obH_eq (HandSHeadRun.getT_eq s)) rfl
theorem runL (w : World) : HandSHeadRun.RunEq RL (PySem.W.view RL.prog [23]) hkL obL 3000 ["__name__", "NoValue", "FIGURES", "MOST_FIGURES", "PLAIN", "QUOTE", "quoted", "shown", "is_text_sign", "Reader", "read", "_law_dealt", "_law_pick", "_law_alphabet", "_law_long_number", "_law_any_text", "_law_any_value", "_law_spoilt", "_law_near", "_law_told", "_law_beginnings_right"] w := PySem.W.byRow2 "special-get-raises" (P := fun w => HandSHeadRun.RunEq RL (PySem.W.view RL.prog [23]) hkL obL 3000 ["__name__", "NoValue", "FIGURES", "MOST_FIGURES", "PLAIN", "QUOTE", "quoted", "shown", "is_text_sign", "Reader", "read", "_law_dealt", "_law_pick", "_law_alphabet", "_law_long_number", "_law_any_text", "_law_any_value", "_law_spoilt", "_law_near", "_law_told", "_law_beginnings_right"] w) (fun w => by
  intro os
  kernel_rfl) (fun w => by
  intro os
  kernel_rfl) w
section
variable {P : Program} {w : World} {K : PySem.W.Frag} {h : Heap} {mg : Str → Option Value} {base : Heap}
theorem thTxt (X : K.In h) (G : h.Ns mainGlobals mg) (c : SaysB faL fnL exL K) (ch : ∀ p ∈ dsL, kdH K (He.ga K p.1) = p.2.map (keyH w)) : Txt K mg := ⟨
  (defAt_of X G (c.1.def_ 0 rfl) (c.1.fact 0 rfl) fun _ _ _ _ _ _ us hl => match us, hl with | [_], _ => rfl),
  (defAt_of X G (c.1.def_ 1 rfl) (c.1.fact 1 rfl) fun _ _ _ _ _ _ us hl => match us, hl with | [_], _ => rfl),
  (defAt_of X G (c.1.def_ 2 rfl) (c.1.fact 2 rfl) fun _ _ _ _ _ _ us hl => match us, hl with | [_], _ => rfl),
  (defAt_of X G (c.1.def_ 3 rfl) (c.1.fact 3 rfl) fun _ _ _ _ _ _ us hl => match us, hl with | [_, _], _ => rfl),
  (defAt_of X G (c.1.def_ 4 rfl) (c.1.fact 4 rfl) fun _ _ _ _ _ _ us hl => match us, hl with | [], _ => rfl),
  (defAt_of X G (c.1.def_ 5 rfl) (c.1.fact 5 rfl) fun _ _ _ _ _ _ us hl => match us, hl with | [_], _ => rfl),
  (defAt_of X G (c.1.def_ 6 rfl) (c.1.fact 6 rfl) fun _ _ _ _ _ _ us hl => match us, hl with | [_, _], _ => rfl),
  (defAt_of X G (c.1.def_ 7 rfl) (c.1.fact 7 rfl) fun _ _ _ _ _ _ us hl => match us, hl with | [_, _], _ => rfl),
  (defAt_of X G (c.1.def_ 8 rfl) (c.1.fact 8 rfl) fun _ _ _ _ _ _ us hl => match us, hl with | [_, _], _ => rfl),
  (defAt_of X G (c.1.def_ 9 rfl) (c.1.fact 9 rfl) fun _ _ _ _ _ _ us hl => match us, hl with | [_, _], _ => rfl),
  (defAt_of X G (c.1.def_ 10 rfl) (c.1.fact 10 rfl) fun _ _ _ _ _ _ us hl => match us, hl with | [_], _ => rfl),
  (defAt_of X G (c.1.def_ 11 rfl) (c.1.fact 11 rfl) fun _ _ _ _ _ _ us hl => match us, hl with | [_], _ => rfl),
  (defAt_of X G (c.1.def_ 12 rfl) (c.1.fact 12 rfl) fun _ _ _ _ _ _ us hl => match us, hl with | [_], _ => rfl),
  (tk_ok X G (He.ba c.2).1),
  (He.free_ok X G (c.1.fact 13 rfl)),
  (He.free_ok X G (c.1.fact 14 rfl)),
  (He.free_ok X G (c.1.fact 15 rfl)),
  (He.free_ok X G (c.1.fact 16 rfl)),
  (He.free_ok X G (c.1.fact 17 rfl)),
  (He.free_ok X G (c.1.fact 18 rfl)),
  (He.free_ok X G (c.1.fact 19 rfl)),
  (He.free_ok X G (c.1.fact 20 rfl)),
  (He.free_ok X G (c.1.fact 21 rfl)),
  (He.free_ok X G (c.1.fact 22 rfl)),
  (He.str_ok X G (c.1.fact 23 rfl))⟩
theorem thTxR (X : K.In h) (G : h.Ns mainGlobals mg) (c : SaysB faL fnL exL K) (ch : ∀ p ∈ dsL, kdH K (He.ga K p.1) = p.2.map (keyH w)) : TxR P w K mg (He.ga K "Reader") (He.ga K "NoValue") := ⟨
  (He.cls_ok (c.1.fact 24 rfl)),
  (He.glo_ok X G (c.1.fact 25 rfl)),
  (He.glo_ok X G (c.1.fact 26 rfl)),
  (He.noat_ok (c.1.fact 27 rfl)),
  (He.noat_ok (c.1.fact 28 rfl)),
  (methAt_of (c.1.def_ 13 rfl) (c.1.fact 29 rfl) fun _ _ _ _ _ _ us hl => match us, hl with | [_], _ => rfl),
  (methAt_of (c.1.def_ 14 rfl) (c.1.fact 30 rfl) fun _ _ _ _ _ _ us hl => match us, hl with | [_], _ => rfl),
  (methAt_of (c.1.def_ 15 rfl) (c.1.fact 31 rfl) fun _ _ _ _ _ _ us hl => match us, hl with | [_], _ => rfl),
  (methAt_of (c.1.def_ 16 rfl) (c.1.fact 32 rfl) fun _ _ _ _ _ _ us hl => match us, hl with | [_], _ => rfl),
  (methAt_of (c.1.def_ 17 rfl) (c.1.fact 33 rfl) fun _ _ _ _ _ _ us hl => match us, hl with | [_], _ => rfl),
  (methAt_of (c.1.def_ 18 rfl) (c.1.fact 34 rfl) fun _ _ _ _ _ _ us hl => match us, hl with | [_, _, _], _ => rfl),
  (methAt_of (c.1.def_ 19 rfl) (c.1.fact 35 rfl) fun _ _ _ _ _ _ us hl => match us, hl with | [_], _ => rfl),
  (methAt_of (c.1.def_ 20 rfl) (c.1.fact 36 rfl) fun _ _ _ _ _ _ us hl => match us, hl with | [_], _ => rfl),
  (defAt_of X G (c.1.def_ 21 rfl) (c.1.fact 37 rfl) fun _ _ _ _ _ _ us hl => match us, hl with | [_], _ => rfl),
  (defAt_of X G (c.1.def_ 22 rfl) (c.1.fact 38 rfl) fun _ _ _ _ _ _ us hl => match us, hl with | [_], _ => rfl),
  (methAt_of (c.1.def_ 23 rfl) (c.1.fact 39 rfl) fun _ _ _ _ _ _ us hl => match us, hl with | [_], _ => rfl),
  (He.free_ok X G (c.1.fact 13 rfl)),
  (He.free_ok X G (c.1.fact 40 rfl)),
  (He.free_ok X G (c.1.fact 17 rfl)),
  (He.free_ok X G (c.1.fact 19 rfl)),
  (He.str_ok X G (c.1.fact 41 rfl)),
  (He.int_ok X G (c.1.fact 42 rfl)),
  (He.str_ok X G (c.1.fact 23 rfl)),
  ⟨⟨He.ga K "PLAIN", _, He.glo_ok X G (c.1.fact 43 rfl), kd_ok (kvs := [(.inr "-", .non), (.inr "+", .bl true), (.inr "!", .bl false)]) (He.ba (He.ba c.2).2).1 (ch ("PLAIN", [.inr "-", .inr "+", .inr "!"]) (by simp [dsL])), fun s H => (.cons ⟨rfl, .non⟩ (.cons ⟨rfl, .bl true⟩ (.cons ⟨rfl, .bl false⟩ .nil)))⟩⟩⟩
theorem thTxN (X : K.In h) (G : h.Ns mainGlobals mg) (c : SaysB faL fnL exL K) (ch : ∀ p ∈ dsL, kdH K (He.ga K p.1) = p.2.map (keyH w)) : TxN K mg (He.ga K "NoValue") := ⟨
  (He.free_ok X G (c.1.fact 44 rfl)),
  (He.glo_ok X G (c.1.fact 26 rfl))⟩
theorem facts {fl : Addr} (X : K.In h) (G : h.Ns mainGlobals mg) (hfa : mg ("law" : Str) = some (.ref fl)) (c : SaysB faL fnL exL K) (ch : ∀ p ∈ dsL, kdH K (He.ga K p.1) = p.2.map (keyH w)) :
    ∃ fd : FuncData, (∀ (s : Shared) (v : Value), BindsTo s fd ⟨[v], []⟩ [("script", v)]) ∧ ∀ base : Heap, K.In base → base.Ns mainGlobals mg → FnTk (· = callerA) nTk P w K mg base CX0 14 fl fd ["script"] (lSp K spLaw) := by
  have hTxt := thTxt X G c ch
  have hTxR := thTxR (P := P) X G c ch
  have hTxN := thTxN X G c ch
  obtain ⟨fd, F⟩ := c.1.def_ 12 rfl
  have e := hfa.symm.trans (He.glo_ok X G (c.1.fact 12 rfl))
  cases e
  have b := FunD.bindsA (ps := ["script"]) F fun _ _ _ _ _ _ us hl => match us, hl with | [_], _ => rfl
  obtain ⟨fd0, FI⟩ := c.1.def_ 24 rfl
  obtain ⟨fdX, FX⟩ := c.1.def_ 25 rfl
  have M : Mk K (He.ga K "Reader") _ := He.mkr_ok (c.1.fact 45 rfl)
  have ZK : XF K (He.ga K "NoValue") (He.ma K (He.ga K "NoValue") "__init__") := xcB_ok (He.ba (He.ba (He.ba c.2).2).2).1
  have vV : PySem.W.findCls K (.type "ValueError") (.type "type") "__init__" = some (.val (.builtin "ValueError.__init__")) := fclsB_ok (He.ba (He.ba (He.ba c.2).2).2).2
  refine ⟨fd, fun s v => b s [v] rfl, fun base _ _ => ?_⟩
  exact by
    have gpk := ok_pick (P := P) (w := w) (base := base) hTxt
    have glo := ok_long (P := P) (w := w) (base := base) hTxt gpk
    have gan := ok_any (P := P) (w := w) (base := base) hTxt (ok_alpha hTxt) gpk
    have gva := ok_value (P := P) (w := w) (base := base) hTxt gpk glo gan 3
    have gne := ok_near (P := P) (w := w) (base := base) hTxt gpk 3 (by decide)
    have gsh := ok_shown (P := P) (w := w) (base := base) hTxt (ok_quoted hTxt)
    have ZF : XZ P w K mg base (He.ga K "NoValue") := zf_mk hTxN (fun_of FX) vV ZK
    have gsi := ok_sign (P := P) (w := w) (base := base) hTxR
    have gre := ok_refuse (P := P) (w := w) (base := base) hTxR ZF
    have gfi := ok_figures (P := P) (w := w) (base := base) hTxR gsi
    have gnu := ok_number (P := P) (w := w) (base := base) hTxR gsi gfi
    have gqt := ok_qt (P := P) (w := w) (base := base) hTxR (ok_isT hTxR) gsi gre
    have gsg := ok_single (P := P) (w := w) (base := base) hTxR gsi gnu gqt gre
    have gal := ok_alone (P := P) (w := w) (base := base) hTxR gsi gsg
    have gcl := ok_closed (P := P) (w := w) (base := base) hTxR gsi
    have gwh := ok_whole (P := P) (w := w) (base := base) hTxR gsi gal gcl gre
    have MK : RdMk P w K mg base (He.ga K "Reader") := rd_mk2 hTxR M (fun_of FI) (FI.bindsN fun _ _ _ _ _ _ us hl => match us, hl with | [_, _], _ => rfl)
    have grd := ok_read (P := P) (w := w) (base := base) hTxR ZF MK gwh
    have gto := ok_told (P := P) (w := w) (base := base) hTxt hTxN ZK grd
    have gsp := ok_spoilt (P := P) (w := w) (base := base) hTxt (ok_alpha hTxt) gpk
    have gbe := ok_beg (P := P) (w := w) (base := base) hTxt gto (gsh 100)
    exact ok_law hTxt (fun_of F) (ok_dealt hTxt) gpk (ok_alpha hTxt) gva gne (gsh 299) gsp gto gbe
end
end Law
open PySem PySem.W PySem.Calls PyProof.Rows
theorem PySem.Challenge.cw_eventledger_k03_whole_writings_begin_and_holds : PySem.Challenge.rw_eventledger_k03_whole_writings_begin_and.Holds := by
  w_on; o_law
  refine HandSHeadRun.head_tk (l := PySem.Challenge.rw_eventledger_k03_whole_writings_begin_and) (q := view (OpenLaw.row PySem.Challenge.rw_eventledger_k03_whole_writings_begin_and).prog [23]) (H := Law.hkL) (ob := Law.obL) (M := 3000) (n := Law.nTk) (m := 63) (loose := ["__name__", "NoValue", "FIGURES", "MOST_FIGURES", "PLAIN", "QUOTE", "quoted", "shown", "is_text_sign", "Reader", "read", "_law_dealt", "_law_pick", "_law_alphabet", "_law_long_number", "_law_any_text", "_law_any_value", "_law_spoilt", "_law_near", "_law_told", "_law_beginnings_right"]) (d := HandSHeadRun.topDef (OpenLaw.row PySem.Challenge.rw_eventledger_k03_whole_writings_begin_and).prog 23) DL.hookT_tok Law.obL_eq
    (by kernel_rfl) (fun s => by kernel_rfl) Law.runL (by kernel_rfl) (by kernel_rfl) (by kernel_rfl) (by rfl) (by first | assumption | decide +kernel) (by decide +kernel) ⟨rfl, rfl, rfl, rfl, rfl, by decide +kernel⟩ ?hw rfl (by kernel_rfl) rfl ?hc
  case hw => w_witness2
  case hc =>
    refine DL.walk_ofT (l := PySem.Challenge.rw_eventledger_k03_whole_writings_begin_and) (m := 63) (k := 14) (x := "script") rfl (by decide) ⟨rfl, by decide, by decide⟩ ?F
    intro w mg fa h Y G hmg0
    obtain ⟨K, KX, c⟩ := Y
    have hmg : mg ("law" : PySem.Str) = some (.ref fa) := by
      have e : (HandSHeadRun.topDef (OpenLaw.row PySem.Challenge.rw_eventledger_k03_whole_writings_begin_and).prog 23).name = ("law" : PySem.Str) := by kernel_rfl
      rw [← e]
      exact hmg0
    obtain ⟨fd, hb, hF⟩ := Law.facts (P := (PySem.Challenge.rw_eventledger_k03_whole_writings_begin_and).prog) (w := w) KX G hmg c.1 c.2
    exact ⟨K, fd, DL.lSp K Law.spLaw, KX, hb, fun H a ns hl hO hS => DL.law_of hO hS ⟨ns, rfl, hl, ⟨fun _ => rfl⟩⟩, hF⟩

