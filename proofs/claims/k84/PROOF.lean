import PyProof.Rows.All
import Wide.All
import OpenK.AllK
import Wide.FinOn
import HandS.ForMost
import HandS.ForExc
import HandS.Walk
import HandS.CallSlots
import HandS.Star
import HandS.IsInst
import HandS.EndBits
import HandS.Text
import HandS.List
import HandS.TupAny
import HandS.TupMul
import HandS.Deep
import HandS.Wide
import HandS.WideBits
import HandS.RaiseMore
import HandS.StrMore
import HandS.Iter
import HandS.Zip0
import KE.GoesEnum
import KE.GoesMore
import HandS.Set
import HandS.SetFor
import HandS.Strs
import KE.GoesRaise
import KE.KUnpackStar
import HandS.ExcIs
import HandS.ExcOwn
import PyProof.ReprRoads
import PyProof.StrOps2
import PySem.Challenge.RW_openlimit_k84_texts_of_recipes
set_option Elab.async false
set_option linter.all false
set_option maxRecDepth 100000
/-! A second layer over HandS: mirrors. A def's body is matched by a total Lean function over data (MV) and a store of
changeable lists; PM says that an expression does what its mirror does. -/
namespace MR
open PySem L2

/-- data of the mirrors: what does not change is held by value, what changes stands in a store -/
inductive MV where
  | non
  | bl (b : Bool)
  | int (i : Int)
  | str (s : Str)
  | ty (n : String)
  | gl (x : Str)
  | tup (xs : List MV)
  | lst (xs : List MV)
  | obj (k : Nat)
  | scr (ns : List Int)

inductive MO where
  | lst (xs : List MV)

abbrev Sto := List MO
abbrev MEnv := List (Option MV)

inductive Res (α : Type) where
  | ok (a : α) (st : Sto)
  | exc (c : Str) (st : Sto)
  | bad

def Res.post {α : Type} (r : Res α) (P : α → Sto → Prop) (E : Str → Sto → Prop) : Prop := match r with
  | .ok a st => P a st
  | .exc c st => E c st
  | .bad => False
def Res.bind {α β : Type} (r : Res α) (f : α → Sto → Res β) : Res β := match r with
  | .ok a st => f a st
  | .exc c st => .exc c st
  | .bad => .bad
theorem Res.post_bind {α β : Type} {r : Res α} {f : α → Sto → Res β} {P : β → Sto → Prop} {E : Str → Sto → Prop} :
    (r.bind f).post P E ↔ r.post (fun a st => (f a st).post P E) E := by
  cases r <;> exact Iff.rfl
theorem Res.post.mono {α : Type} {r : Res α} {P P' : α → Sto → Prop} {E E' : Str → Sto → Prop} (h : r.post P E)
    (hp : ∀ a st, P a st → P' a st) (he : ∀ c st, E c st → E' c st) : r.post P' E' := by
  cases r with
  | ok a st => exact hp a st h
  | exc c st => exact he c st h
  | bad => exact h

/-- where the store's objects stand (by their numbers), and what is fenced off: lists that are being made -/
structure Ad where
  ix : List Addr
  fn : List Addr
def Ad.has (A : Ad) (a : Addr) : Prop := a ∈ A.ix ∨ a ∈ A.fn

/-- what is written of the module -/
structure Gm where
  K : PySem.W.Frag
  mg : Str → Option Value
abbrev gmOf (X : Cx) : Gm := ⟨X.K, X.mg⟩

/-- a list (a tuple) that is read by value: tracked outside the store, or written -/
def FzL (G : Gm) (A : Ad) (H : Hp) (a : Addr) (xs : List V) : Prop := (Rd H a (.lst xs) ∧ ¬ A.has a) ∨ SqL G.K (fun _ => none) a xs
def FzT (G : Gm) (A : Ad) (H : Hp) (a : Addr) (xs : List V) : Prop := (Rd H a (.tup xs) ∧ ¬ A.has a) ∨ SqT G.K (fun _ => none) a xs
theorem rd_empty {a : Addr} {u : HO} (h : Rd (fun _ => none) a u) : False := by
  rcases h with h | ⟨_, h⟩ <;> cases h
theorem FzL.sq {G : Gm} {A : Ad} {H : Hp} {a : Addr} {xs : List V} (h : FzL G A H a xs) : SqL G.K H a xs := by
  rcases h with h | h
  · exact .inl h.1
  · rcases h with h | h
    · exact (rd_empty h).elim
    · exact .inr h
theorem FzT.sq {G : Gm} {A : Ad} {H : Hp} {a : Addr} {xs : List V} (h : FzT G A H a xs) : SqT G.K H a xs := by
  rcases h with h | h
  · exact .inl h.1
  · rcases h with h | h
    · exact (rd_empty h).elim
    · exact .inr h

mutual
inductive Rep (G : Gm) (A : Ad) (H : Hp) : V → MV → Prop
  | non : Rep G A H .non .non
  | bl (b : Bool) : Rep G A H (.bl b) (.bl b)
  | int (i : Int) : Rep G A H (.int i) (.int i)
  | str (s : Str) : Rep G A H (.str s) (.str s)
  | ty (n : String) : Rep G A H (.ty n) (.ty n)
  | gl {x : Str} {f : Addr} : G.mg x = some (.ref f) → Rep G A H (.ref f) (.gl x)
  | tup {a : Addr} {vs : List V} {ms : List MV} : FzT G A H a vs → RepAll G A H vs ms → Rep G A H (.ref a) (.tup ms)
  | lst {a : Addr} {vs : List V} {ms : List MV} : H a = some (.lst vs) → ¬ A.has a → RepAll G A H vs ms → Rep G A H (.ref a) (.lst ms)
  | obj {a : Addr} {k : Nat} : A.ix[k]? = some a → Rep G A H (.ref a) (.obj k)
  | scr {a : Addr} {ns : List Int} : FzL G A H a (ns.map V.int) → Rep G A H (.ref a) (.scr ns)
inductive RepAll (G : Gm) (A : Ad) (H : Hp) : List V → List MV → Prop
  | nil : RepAll G A H [] []
  | cons {v : V} {vs : List V} {m : MV} {ms : List MV} : Rep G A H v m → RepAll G A H vs ms → RepAll G A H (v :: vs) (m :: ms)
end

inductive ObjR (G : Gm) (A : Ad) (H : Hp) (a : Addr) : MO → Prop
  | lst {vs : List V} {ms : List MV} : H a = some (.lst vs) → RepAll G A H vs ms → ObjR G A H a (.lst ms)

/-- the store stands in the heap, its k-th object at A.ix[k] -/
structure SR (G : Gm) (A : Ad) (H : Hp) (st : Sto) : Prop where
  len : A.ix.length = st.length
  nd : (A.ix ++ A.fn).Nodup
  ob : ∀ (k : Nat) (a : Addr) (o : MO), A.ix[k]? = some a → st[k]? = some o → ObjR G A H a o
  ft : ∀ b, b ∈ A.fn → ∃ o, H b = some o
theorem SR.at {G : Gm} {A : Ad} {H : Hp} {st : Sto} (s : SR G A H st) {k : Nat} {o : MO} (h : st[k]? = some o) : ∃ a, A.ix[k]? = some a ∧ ObjR G A H a o := by
  have h1 : k < A.ix.length := by rw [s.len]; exact (List.getElem?_eq_some_iff.mp h).1
  exact ⟨A.ix[k], List.getElem?_eq_getElem h1, s.ob k _ o (List.getElem?_eq_getElem h1) h⟩
theorem SR.tracked {G : Gm} {A : Ad} {H : Hp} {st : Sto} (s : SR G A H st) {a : Addr} (h : A.has a) : ∃ o, H a = some o := by
  rcases h with h | h
  · obtain ⟨k, hk, e⟩ := List.mem_iff_getElem.mp h
    have h2 : k < st.length := by rw [← s.len]; exact hk
    have q := s.ob k a (st[k]) (by rw [List.getElem?_eq_getElem hk, e]) (List.getElem?_eq_getElem h2)
    generalize st[k] = o at q
    cases q with
    | lst h _ => exact ⟨_, h⟩
  · exact s.ft a h
theorem SR.new_out {G : Gm} {A : Ad} {H : Hp} {st : Sto} (s : SR G A H st) {p : Addr} (h : H p = none) : ¬ A.has p := fun m => by
  obtain ⟨o', e⟩ := s.tracked m
  rw [h] at e; cases e

/-- later: what the store does not hold stands as it was; the store's new objects are new; the fence stands -/
structure Ext (A : Ad) (H : Hp) (A' : Ad) (H' : Hp) : Prop where
  pre : ∃ B, A'.ix = A.ix ++ B
  fen : A'.fn = A.fn
  keep : ∀ b o, ¬ A.has b → H b = some o → H' b = some o
  new : ∀ p, A'.has p → A.has p ∨ H p = none
  fk : ∀ b, b ∈ A.fn → H' b = H b
theorem Ext.refl (A : Ad) (H : Hp) : Ext A H A H := ⟨⟨[], by simp⟩, rfl, fun _ _ _ h => h, fun _ h => .inl h, fun _ _ => rfl⟩
theorem Ext.at {A A' : Ad} {H H' : Hp} (e : Ext A H A' H') {k : Nat} {a : Addr} (h : A.ix[k]? = some a) : A'.ix[k]? = some a := by
  obtain ⟨B, q⟩ := e.pre
  rw [q, List.getElem?_append_left (List.getElem?_eq_some_iff.mp h).1]
  exact h
theorem Ext.out {A A' : Ad} {H H' : Hp} (e : Ext A H A' H') {a : Addr} {o : HO} (h : H a = some o) (n : ¬ A.has a) : ¬ A'.has a := fun m => by
  rcases e.new a m with z | z
  · exact n z
  · rw [h] at z; cases z
theorem Ext.trans {A A1 A2 : Ad} {H H1 H2 : Hp} (a : Ext A H A1 H1) (b : Ext A1 H1 A2 H2) : Ext A H A2 H2 where
  pre := by
    obtain ⟨B, q⟩ := a.pre
    obtain ⟨C, q'⟩ := b.pre
    exact ⟨B ++ C, by rw [q', q]; simp⟩
  fen := b.fen.trans a.fen
  keep := fun c o n h => b.keep c o (a.out h n) (a.keep c o n h)
  new := fun p m => by
    rcases b.new p m with z | z
    · exact a.new p z
    · cases q : H p with
      | none => exact .inr rfl
      | some o =>
        by_cases hp : A.has p
        · exact .inl hp
        · rw [a.keep p o hp q] at z; cases z
  fk := fun c m => (b.fk c (by rw [a.fen]; exact m)).trans (a.fk c m)
/-- later, with more fences perhaps -/
structure ExtW (A : Ad) (H : Hp) (A' : Ad) (H' : Hp) : Prop where
  pre : ∃ B, A'.ix = A.ix ++ B
  keep : ∀ b o, ¬ A.has b → H b = some o → H' b = some o
  new : ∀ p, A'.has p → A.has p ∨ H p = none
theorem Ext.w {A A' : Ad} {H H' : Hp} (e : Ext A H A' H') : ExtW A H A' H' := ⟨e.pre, e.keep, e.new⟩
theorem ExtW.at {A A' : Ad} {H H' : Hp} (e : ExtW A H A' H') {k : Nat} {a : Addr} (h : A.ix[k]? = some a) : A'.ix[k]? = some a := by
  obtain ⟨B, q⟩ := e.pre
  rw [q, List.getElem?_append_left (List.getElem?_eq_some_iff.mp h).1]
  exact h
theorem ExtW.out {A A' : Ad} {H H' : Hp} (e : ExtW A H A' H') {a : Addr} {o : HO} (h : H a = some o) (n : ¬ A.has a) : ¬ A'.has a := fun m => by
  rcases e.new a m with z | z
  · exact n z
  · rw [h] at z; cases z
theorem ExtW.trans {A A1 A2 : Ad} {H H1 H2 : Hp} (a : ExtW A H A1 H1) (b : ExtW A1 H1 A2 H2) : ExtW A H A2 H2 where
  pre := by
    obtain ⟨B, q⟩ := a.pre
    obtain ⟨C, q'⟩ := b.pre
    exact ⟨B ++ C, by rw [q', q]; simp⟩
  keep := fun c o n h => b.keep c o (a.out h n) (a.keep c o n h)
  new := fun p m => by
    rcases b.new p m with z | z
    · exact a.new p z
    · cases q : H p with
      | none => exact .inr rfl
      | some o =>
        by_cases hp : A.has p
        · exact .inl hp
        · rw [a.keep p o hp q] at z; cases z
theorem ExtW.fence {A A' : Ad} {H H' : Hp} {d : Addr} (e : ExtW A H A' H') (hd : H d = none) : ExtW A H ⟨A'.ix, d :: A'.fn⟩ H' :=
  ⟨e.pre, e.keep, fun p m => by
    rcases m with m | m
    · exact e.new p (.inl m)
    · rcases List.mem_cons.mp m with m | m
      · rw [m]; exact .inr hd
      · exact e.new p (.inr m)⟩
/-- a new object that the store does not hold -/
theorem Ext.laid {G : Gm} {A : Ad} {H : Hp} {st : Sto} {p : Addr} {o : HO} (s : SR G A H st) (h : H p = none) : Ext A H A (upd H p o) :=
  ⟨⟨[], by simp⟩, rfl, fun b u _ e => by rw [upd_ne (ne_of_none e h)]; exact e, fun _ m => .inl m, fun b m => upd_ne fun z => by
    obtain ⟨u, e⟩ := s.ft b m
    rw [z, h] at e; cases e⟩
abbrev Ad.more (A : Ad) (p : Addr) : Ad := ⟨A.ix ++ [p], A.fn⟩
/-- a new object of the store -/
theorem Ext.made {G : Gm} {A : Ad} {H : Hp} {st : Sto} {p : Addr} {o : HO} (s : SR G A H st) (h : H p = none) : Ext A H (A.more p) (upd H p o) :=
  ⟨⟨[p], rfl⟩, rfl, fun b u _ e => by rw [upd_ne (ne_of_none e h)]; exact e, fun q m => by
    rcases m with m | m
    · rcases List.mem_append.mp m with m | m
      · exact .inl (.inl m)
      · rw [List.mem_singleton.mp m]; exact .inr h
    · exact .inl (.inr m), fun b m => upd_ne fun z => by
    obtain ⟨u, e⟩ := s.ft b m
    rw [z, h] at e; cases e⟩
/-- an object of the store is changed -/
theorem Ext.set {G : Gm} {A : Ad} {H : Hp} {st : Sto} {p : Addr} {o : HO} (s : SR G A H st) (h : p ∈ A.ix) : Ext A H A (upd H p o) :=
  ⟨⟨[], by simp⟩, rfl, fun b u n e => by rw [upd_ne (fun z => n (by rw [z]; exact .inl h))]; exact e, fun _ m => .inl m, fun b m => upd_ne fun z => by
    subst z
    exact (List.nodup_append.mp s.nd).2.2 b h b m rfl⟩

section
variable {G : Gm} {A A' : Ad} {H H' : Hp}
theorem FzL.extW {a : Addr} {xs : List V} (e : ExtW A H A' H') (h : FzL G A H a xs) : FzL G A' H' a xs := by
  rcases h with ⟨h, n⟩ | h
  · rcases h with h | ⟨o, h⟩
    · exact .inl ⟨.inl (e.keep a _ n h), e.out h n⟩
    · exact .inl ⟨.inr ⟨o, e.keep a _ n h⟩, e.out h n⟩
  · exact .inr h
theorem FzT.extW {a : Addr} {xs : List V} (e : ExtW A H A' H') (h : FzT G A H a xs) : FzT G A' H' a xs := by
  rcases h with ⟨h, n⟩ | h
  · rcases h with h | ⟨o, h⟩
    · exact .inl ⟨.inl (e.keep a _ n h), e.out h n⟩
    · exact .inl ⟨.inr ⟨o, e.keep a _ n h⟩, e.out h n⟩
  · exact .inr h
mutual
theorem Rep.extW (e : ExtW A H A' H') : ∀ {v : V} {m : MV}, Rep G A H v m → Rep G A' H' v m
  | _, _, .non => .non
  | _, _, .bl b => .bl b
  | _, _, .int i => .int i
  | _, _, .str s => .str s
  | _, _, .ty n => .ty n
  | _, _, .gl h => .gl h
  | _, _, .tup h r => .tup (h.extW e) (RepAll.extW e r)
  | _, _, .lst h n r => .lst (e.keep _ _ n h) (e.out h n) (RepAll.extW e r)
  | _, _, .obj h => .obj (e.at h)
  | _, _, .scr h => .scr (h.extW e)
theorem RepAll.extW (e : ExtW A H A' H') : ∀ {vs : List V} {ms : List MV}, RepAll G A H vs ms → RepAll G A' H' vs ms
  | _, _, .nil => .nil
  | _, _, .cons r rs => .cons (Rep.extW e r) (RepAll.extW e rs)
end
theorem FzL.ext {a : Addr} {xs : List V} (e : Ext A H A' H') (h : FzL G A H a xs) : FzL G A' H' a xs := h.extW e.w
theorem FzT.ext {a : Addr} {xs : List V} (e : Ext A H A' H') (h : FzT G A H a xs) : FzT G A' H' a xs := h.extW e.w
theorem Rep.ext (e : Ext A H A' H') {v : V} {m : MV} (h : Rep G A H v m) : Rep G A' H' v m := h.extW e.w
theorem RepAll.ext (e : Ext A H A' H') {vs : List V} {ms : List MV} (h : RepAll G A H vs ms) : RepAll G A' H' vs ms := h.extW e.w
theorem RepAll.length {vs : List V} {ms : List MV} : RepAll G A H vs ms → vs.length = ms.length := by
  intro h
  induction vs generalizing ms with
  | nil => cases h; rfl
  | cons v vs ih =>
    cases h with
    | cons r rs => rw [List.length_cons, List.length_cons, ih rs]
theorem RepAll.append {vs vs' : List V} {ms ms' : List MV} (h : RepAll G A H vs ms) (h' : RepAll G A H vs' ms') : RepAll G A H (vs ++ vs') (ms ++ ms') := by
  induction vs generalizing ms with
  | nil => cases h; exact h'
  | cons v vs ih =>
    cases h with
    | cons r rs => exact .cons r (ih rs)
theorem RepAll.at {vs : List V} {ms : List MV} (h : RepAll G A H vs ms) {i : Nat} {m : MV} (hm : ms[i]? = some m) : ∃ v, vs[i]? = some v ∧ Rep G A H v m := by
  induction vs generalizing ms i with
  | nil => cases h; simp at hm
  | cons v vs ih =>
    cases h with
    | cons r rs =>
      cases i with
      | zero => simp at hm; subst hm; exact ⟨v, rfl, r⟩
      | succ i => simpa using ih rs (i := i) (by simpa using hm)
theorem RepAll.at' {vs : List V} {ms : List MV} (h : RepAll G A H vs ms) {i : Nat} {v : V} (hv : vs[i]? = some v) : ∃ m, ms[i]? = some m ∧ Rep G A H v m := by
  have hl := h.length
  have h1 : i < ms.length := by rw [← hl]; exact (List.getElem?_eq_some_iff.mp hv).1
  obtain ⟨v', e, r⟩ := h.at (List.getElem?_eq_getElem h1)
  rw [hv] at e; cases e
  exact ⟨_, List.getElem?_eq_getElem h1, r⟩
theorem RepAll.take {vs : List V} {ms : List MV} (h : RepAll G A H vs ms) (n : Nat) : RepAll G A H (vs.take n) (ms.take n) := by
  induction vs generalizing ms n with
  | nil => cases h; simp; exact .nil
  | cons v vs ih =>
    cases h with
    | cons r rs =>
      cases n with
      | zero => exact .nil
      | succ n => exact .cons r (ih rs n)
theorem RepAll.drop {vs : List V} {ms : List MV} (h : RepAll G A H vs ms) (n : Nat) : RepAll G A H (vs.drop n) (ms.drop n) := by
  induction vs generalizing ms n with
  | nil => cases h; simp; exact .nil
  | cons v vs ih =>
    cases h with
    | cons r rs =>
      cases n with
      | zero => exact .cons r rs
      | succ n => exact ih rs n
theorem RepAll.set {vs : List V} {ms : List MV} (h : RepAll G A H vs ms) (n : Nat) {v : V} {m : MV} (r : Rep G A H v m) : RepAll G A H (vs.set n v) (ms.set n m) := by
  induction vs generalizing ms n with
  | nil => cases h; simp; exact .nil
  | cons w vs ih =>
    cases h with
    | cons r' rs =>
      cases n with
      | zero => exact .cons r rs
      | succ n => exact .cons r' (ih rs n)
theorem RepAll.map_of {α : Type} {f : α → V} {g : α → MV} (h : ∀ a, Rep G A H (f a) (g a)) : ∀ l : List α, RepAll G A H (l.map f) (l.map g)
  | [] => .nil
  | a :: l => .cons (h a) (RepAll.map_of h l)
theorem RepAll.repl {v : V} {m : MV} (r : Rep G A H v m) : ∀ n : Nat, RepAll G A H (List.replicate n v) (List.replicate n m)
  | 0 => .nil
  | n + 1 => .cons r (RepAll.repl r n)
theorem ObjR.ext_other {a : Addr} {o : MO} (e : Ext A H A' H') (h : ObjR G A H a o) (k : H' a = H a) : ObjR G A' H' a o := by
  cases h with
  | lst h r => exact .lst (k.trans h) (r.ext e)

/-- the store in the heap, one more object not of the store laid -/
theorem SR.ext_same {st : Sto} (s : SR G A H st) (e : Ext A H A H') (k : ∀ a ∈ A.ix, H' a = H a) : SR G A H' st :=
  ⟨s.len, s.nd, fun i a o ha ho => (s.ob i a o ha ho).ext_other e (k a (List.mem_of_getElem? ha)), fun b m => by rw [e.fk b m]; exact s.ft b m⟩
theorem SR.laid {st : Sto} (s : SR G A H st) {p : Addr} {o : HO} (h : H p = none) : SR G A (upd H p o) st :=
  s.ext_same (Ext.laid s h) fun a ha => upd_ne fun z => by
    obtain ⟨o', e⟩ := s.tracked (.inl ha)
    rw [z, h] at e; cases e
/-- a new list of the store -/
theorem SR.made {st : Sto} (s : SR G A H st) {p : Addr} {vs : List V} {ms : List MV} (h : H p = none) (r : RepAll G A H vs ms) : SR G (A.more p) (upd H p (.lst vs)) (st ++ [.lst ms]) where
  len := by simp [s.len]
  nd := by
    have h1 := List.nodup_append.mp s.nd
    have hp := s.new_out h
    show ((A.ix ++ [p]) ++ A.fn).Nodup
    rw [List.nodup_append]
    refine ⟨?_, h1.2.1, fun a ha b hb e => ?_⟩
    · rw [List.nodup_append]
      refine ⟨h1.1, by simp, fun a ha b hb e => ?_⟩
      rw [List.mem_singleton.mp hb] at e
      subst e
      exact hp (.inl ha)
    · subst e
      rcases List.mem_append.mp ha with ha | ha
      · exact h1.2.2 a ha a hb rfl
      · rw [List.mem_singleton.mp ha] at hb
        exact hp (.inr hb)
  ob := fun k a o ha ho => by
    have e : Ext A H (A.more p) (upd H p (.lst vs)) := Ext.made s h
    have ha : (A.ix ++ [p])[k]? = some a := ha
    by_cases hk : k < A.ix.length
    · rw [List.getElem?_append_left hk] at ha
      rw [List.getElem?_append_left (by rw [← s.len]; exact hk)] at ho
      refine (s.ob k a o ha ho).ext_other e (upd_ne fun z => ?_)
      exact s.new_out h (.inl (by rw [← z]; exact List.mem_of_getElem? ha))
    · have hk' : k = A.ix.length := by
        have := (List.getElem?_eq_some_iff.mp ha).1
        simp at this
        omega
      subst hk'
      simp at ha
      rw [s.len] at ho
      simp at ho
      subst ha
      subst ho
      exact .lst upd_same (r.ext e)
  ft := fun b m => by
    obtain ⟨o, e⟩ := s.ft b m
    exact ⟨o, by rw [upd_ne (fun z => by rw [z, h] at e; cases e)]; exact e⟩
theorem SR.obj_ne {st : Sto} (s : SR G A H st) {i j : Nat} {a : Addr} (h : A.ix[i]? = some a) (h' : A.ix[j]? = some a) : i = j := by
  obtain ⟨h1, e1⟩ := List.getElem?_eq_some_iff.mp h
  obtain ⟨h2, e2⟩ := List.getElem?_eq_some_iff.mp h'
  exact (List.getElem_inj (List.nodup_append.mp s.nd).1).mp (e1.trans e2.symm)
/-- a list of the store changed -/
theorem SR.set {st : Sto} (s : SR G A H st) {k : Nat} {a : Addr} {vs : List V} {ms : List MV} (h : A.ix[k]? = some a) (r : RepAll G A H vs ms) : SR G A (upd H a (.lst vs)) (st.set k (.lst ms)) where
  len := by simp [s.len]
  nd := s.nd
  ob := fun j b o hb ho => by
    have e : Ext A H A (upd H a (.lst vs)) := Ext.set s (List.mem_of_getElem? h)
    by_cases hj : j = k
    · subst hj
      rw [h] at hb; cases hb
      have hl : j < st.length := by rw [← s.len]; exact (List.getElem?_eq_some_iff.mp h).1
      rw [List.getElem?_set_self hl] at ho
      cases ho
      exact .lst upd_same (r.ext e)
    · rw [List.getElem?_set_ne (Ne.symm hj)] at ho
      exact (s.ob j b o hb ho).ext_other e (upd_ne fun z => hj (s.obj_ne (by rw [← z]; exact hb) h))
  ft := fun b m => by
    obtain ⟨o, e⟩ := s.ft b m
    exact ⟨o, by rw [(Ext.set (o := .lst vs) s (List.mem_of_getElem? h)).fk b m]; exact e⟩
/-! ### the fence: a list that is being made -/
abbrev Ad.fence (A : Ad) (d : Addr) : Ad := ⟨A.ix, d :: A.fn⟩
theorem FzL.fence {d a : Addr} {xs : List V} (h : FzL G A H a xs) (hd : H d = none) (k : ∀ b o, b ≠ d → H b = some o → H' b = some o) : FzL G (A.fence d) H' a xs := by
  have ne : ∀ o, H a = some o → a ≠ d := fun o e z => by rw [z, hd] at e; cases e
  have no : ∀ o, H a = some o → ¬ A.has a → ¬ (A.fence d).has a := fun o e n m => by
    rcases m with m | m
    · exact n (.inl m)
    · rcases List.mem_cons.mp m with m | m
      · exact ne o e m
      · exact n (.inr m)
  rcases h with ⟨h | ⟨o, h⟩, n⟩ | h
  · exact .inl ⟨.inl (k a _ (ne _ h) h), no _ h n⟩
  · exact .inl ⟨.inr ⟨o, k a _ (ne _ h) h⟩, no _ h n⟩
  · exact .inr h
theorem FzT.fence {d a : Addr} {xs : List V} (h : FzT G A H a xs) (hd : H d = none) (k : ∀ b o, b ≠ d → H b = some o → H' b = some o) : FzT G (A.fence d) H' a xs := by
  have ne : ∀ o, H a = some o → a ≠ d := fun o e z => by rw [z, hd] at e; cases e
  have no : ∀ o, H a = some o → ¬ A.has a → ¬ (A.fence d).has a := fun o e n m => by
    rcases m with m | m
    · exact n (.inl m)
    · rcases List.mem_cons.mp m with m | m
      · exact ne o e m
      · exact n (.inr m)
  rcases h with ⟨h | ⟨o, h⟩, n⟩ | h
  · exact .inl ⟨.inl (k a _ (ne _ h) h), no _ h n⟩
  · exact .inl ⟨.inr ⟨o, k a _ (ne _ h) h⟩, no _ h n⟩
  · exact .inr h
section
variable {d : Addr} (hd : H d = none) (k : ∀ b o, b ≠ d → H b = some o → H' b = some o)
include hd k
mutual
theorem Rep.fence : ∀ {v : V} {m : MV}, Rep G A H v m → Rep G (A.fence d) H' v m
  | _, _, .non => .non
  | _, _, .bl b => .bl b
  | _, _, .int i => .int i
  | _, _, .str s => .str s
  | _, _, .ty n => .ty n
  | _, _, .gl h => .gl h
  | _, _, .tup h r => .tup (h.fence hd k) (RepAll.fence r)
  | _, _, @Rep.lst _ _ _ a vs ms h n r => .lst (k a _ (fun z => by rw [z, hd] at h; cases h) h) (fun m => by
      rcases m with m | m
      · exact n (.inl m)
      · rcases List.mem_cons.mp m with m | m
        · rw [m, hd] at h; cases h
        · exact n (.inr m)) (RepAll.fence r)
  | _, _, .obj h => .obj h
  | _, _, .scr h => .scr (h.fence hd k)
theorem RepAll.fence : ∀ {vs : List V} {ms : List MV}, RepAll G A H vs ms → RepAll G (A.fence d) H' vs ms
  | _, _, .nil => .nil
  | _, _, .cons r rs => .cons (Rep.fence r) (RepAll.fence rs)
end
end
/-- the fence goes -/
theorem FzL.unfence {d a : Addr} {xs : List V} (h : FzL G (A.fence d) H a xs) : FzL G A H a xs := by
  rcases h with ⟨h, n⟩ | h
  · exact .inl ⟨h, fun m => n (m.elim .inl fun z => .inr (List.mem_cons_of_mem _ z))⟩
  · exact .inr h
theorem FzT.unfence {d a : Addr} {xs : List V} (h : FzT G (A.fence d) H a xs) : FzT G A H a xs := by
  rcases h with ⟨h, n⟩ | h
  · exact .inl ⟨h, fun m => n (m.elim .inl fun z => .inr (List.mem_cons_of_mem _ z))⟩
  · exact .inr h
mutual
theorem Rep.unfence {d : Addr} : ∀ {v : V} {m : MV}, Rep G (A.fence d) H v m → Rep G A H v m
  | _, _, .non => .non
  | _, _, .bl b => .bl b
  | _, _, .int i => .int i
  | _, _, .str s => .str s
  | _, _, .ty n => .ty n
  | _, _, .gl h => .gl h
  | _, _, .tup h r => .tup h.unfence (RepAll.unfence r)
  | _, _, .lst h n r => .lst h (fun m => n (m.elim .inl fun z => .inr (List.mem_cons_of_mem _ z))) (RepAll.unfence r)
  | _, _, .obj h => .obj h
  | _, _, .scr h => .scr h.unfence
theorem RepAll.unfence {d : Addr} : ∀ {vs : List V} {ms : List MV}, RepAll G (A.fence d) H vs ms → RepAll G A H vs ms
  | _, _, .nil => .nil
  | _, _, .cons r rs => .cons (Rep.unfence r) (RepAll.unfence rs)
end
theorem SR.fence {st : Sto} {d : Addr} (s : SR G A H st) (hd : H d = none) (o : HO) : SR G (A.fence d) (upd H d o) st where
  len := s.len
  nd := by
    have h1 := List.nodup_append.mp s.nd
    have hp := s.new_out hd
    show (A.ix ++ d :: A.fn).Nodup
    rw [List.nodup_append]
    refine ⟨h1.1, List.nodup_cons.mpr ⟨fun m => hp (.inr m), h1.2.1⟩, fun a ha b hb e => ?_⟩
    subst e
    rcases List.mem_cons.mp hb with m | m
    · exact hp (.inl (by rw [← m]; exact ha))
    · exact h1.2.2 a ha a m rfl
  ob := fun i a u ha hu => by
    have q := s.ob i a u ha hu
    cases q with
    | lst h r => exact .lst (by rw [upd_ne (fun z => by rw [z, hd] at h; cases h)]; exact h) (r.fence hd fun b o n e => by rw [upd_ne n]; exact e)
  ft := fun b m => by
    rcases List.mem_cons.mp m with m | m
    · subst m; exact ⟨o, upd_same⟩
    · obtain ⟨u, e⟩ := s.ft b m
      exact ⟨u, by rw [upd_ne (fun z => by rw [z, hd] at e; cases e)]; exact e⟩
theorem SR.unfence {st : Sto} {d : Addr} (s : SR G (A.fence d) H st) : SR G A H st where
  len := s.len
  nd := by
    have h1 := List.nodup_append.mp s.nd
    rw [List.nodup_append]
    exact ⟨h1.1, (List.nodup_cons.mp h1.2.1).2, fun a ha b hb e => h1.2.2 a ha b (List.mem_cons_of_mem _ hb) e⟩
  ob := fun i a u ha hu => by
    have q := s.ob i a u ha hu
    cases q with
    | lst h r => exact .lst h r.unfence
  ft := fun b m => s.ft b (List.mem_cons_of_mem _ m)
theorem fence_ne {d a : Addr} (n : ¬ (A.fence d).has a) : a ≠ d := fun z => n (.inr (by rw [z]; exact List.mem_cons_self))
theorem FzL.grow {d a : Addr} {xs : List V} (o : HO) (h : FzL G (A.fence d) H a xs) : FzL G (A.fence d) (upd H d o) a xs := by
  rcases h with ⟨h | ⟨u, h⟩, n⟩ | h
  · exact .inl ⟨.inl (by rw [upd_ne (fence_ne n)]; exact h), n⟩
  · exact .inl ⟨.inr ⟨u, by rw [upd_ne (fence_ne n)]; exact h⟩, n⟩
  · exact .inr h
theorem FzT.grow {d a : Addr} {xs : List V} (o : HO) (h : FzT G (A.fence d) H a xs) : FzT G (A.fence d) (upd H d o) a xs := by
  rcases h with ⟨h | ⟨u, h⟩, n⟩ | h
  · exact .inl ⟨.inl (by rw [upd_ne (fence_ne n)]; exact h), n⟩
  · exact .inl ⟨.inr ⟨u, by rw [upd_ne (fence_ne n)]; exact h⟩, n⟩
  · exact .inr h
mutual
theorem Rep.grow {d : Addr} (o : HO) : ∀ {v : V} {m : MV}, Rep G (A.fence d) H v m → Rep G (A.fence d) (upd H d o) v m
  | _, _, .non => .non
  | _, _, .bl b => .bl b
  | _, _, .int i => .int i
  | _, _, .str s => .str s
  | _, _, .ty n => .ty n
  | _, _, .gl h => .gl h
  | _, _, .tup h r => .tup (h.grow o) (RepAll.grow o r)
  | _, _, .lst h n r => .lst (by rw [upd_ne (fence_ne n)]; exact h) n (RepAll.grow o r)
  | _, _, .obj h => .obj h
  | _, _, .scr h => .scr (h.grow o)
theorem RepAll.grow {d : Addr} (o : HO) : ∀ {vs : List V} {ms : List MV}, RepAll G (A.fence d) H vs ms → RepAll G (A.fence d) (upd H d o) vs ms
  | _, _, .nil => .nil
  | _, _, .cons r rs => .cons (Rep.grow o r) (RepAll.grow o rs)
end
/-- the fenced list grows -/
theorem SR.grow {st : Sto} {d : Addr} (s : SR G (A.fence d) H st) (o : HO) : SR G (A.fence d) (upd H d o) st where
  len := s.len
  nd := s.nd
  ob := fun i a u ha hu => by
    have q := s.ob i a u ha hu
    have h1 := List.nodup_append.mp s.nd
    have ne : a ≠ d := fun z => h1.2.2 a (List.mem_of_getElem? ha) d List.mem_cons_self z
    cases q with
    | lst h r => exact .lst (by rw [upd_ne ne]; exact h) (r.grow o)
  ft := fun b m => by
    by_cases e : b = d
    · subst e; exact ⟨o, upd_same⟩
    · obtain ⟨u, q⟩ := s.ft b m
      exact ⟨u, by rw [upd_ne e]; exact q⟩
end

/-- the slots of a frame -/
structure EnvR (G : Gm) (A : Ad) (H : Hp) (σ : St) (env : MEnv) : Prop where
  len : σ.length = env.length
  get : ∀ (i : Nat) (m : MV), env[i]? = some (some m) → ∃ v, σ[i]? = some (some v) ∧ Rep G A H v m
theorem EnvR.ext {G : Gm} {A A' : Ad} {H H' : Hp} {σ : St} {env : MEnv} (e : Ext A H A' H') (h : EnvR G A H σ env) : EnvR G A' H' σ env :=
  ⟨h.len, fun i m hm => let ⟨v, a, r⟩ := h.get i m hm; ⟨v, a, r.ext e⟩⟩
theorem EnvR.set {G : Gm} {A : Ad} {H : Hp} {σ : St} {env : MEnv} (h : EnvR G A H σ env) (i : Nat) {v : V} {m : MV} (r : Rep G A H v m) : EnvR G A H (σ.set i (some v)) (env.set i (some m)) := by
  refine ⟨by simp [h.len], fun j m' hj => ?_⟩
  by_cases e : i = j
  · subst e
    have hl : i < env.length := by
      have := (List.getElem?_eq_some_iff.mp hj).1
      simpa using this
    rw [List.getElem?_set_self hl] at hj
    cases hj
    exact ⟨v, List.getElem?_set_self (by rw [h.len]; exact hl), r⟩
  · rw [List.getElem?_set_ne e] at hj
    obtain ⟨w, a, q⟩ := h.get j m' hj
    exact ⟨w, by rw [List.getElem?_set_ne e]; exact a, q⟩
theorem EnvR.fence {G : Gm} {A : Ad} {H : Hp} {σ : St} {env : MEnv} {d : Addr} (o : HO) (hd : H d = none) (h : EnvR G A H σ env) : EnvR G (A.fence d) (upd H d o) σ env :=
  ⟨h.len, fun i m hm => let ⟨v, a, r⟩ := h.get i m hm; ⟨v, a, r.fence hd fun b u n e => by rw [upd_ne n]; exact e⟩⟩
theorem EnvR.grow {G : Gm} {A : Ad} {H : Hp} {σ : St} {env : MEnv} {d : Addr} (o : HO) (h : EnvR G (A.fence d) H σ env) : EnvR G (A.fence d) (upd H d o) σ env :=
  ⟨h.len, fun i m hm => let ⟨v, a, r⟩ := h.get i m hm; ⟨v, a, r.grow o⟩⟩
theorem SR.fence_out {G : Gm} {A : Ad} {H : Hp} {st : Sto} {d : Addr} (s : SR G (A.fence d) H st) : ¬ A.has d := fun m => by
  have h1 := List.nodup_append.mp s.nd
  rcases m with m | m
  · exact h1.2.2 d m d List.mem_cons_self rfl
  · exact (List.nodup_cons.mp h1.2.1).1 m
/-- behind the fence a part was evaluated -/
theorem Ext.unfence {G : Gm} {A A' : Ad} {H H' : Hp} {st : Sto} {d : Addr} (s : SR G (A'.fence d) H' st) (e : Ext (A.fence d) H (A'.fence d) H') : Ext A H A' H' where
  pre := e.pre
  fen := (List.cons.inj e.fen).2
  keep := fun b o n h => by
    by_cases z : b = d
    · rw [z, e.fk d List.mem_cons_self, ← z]; exact h
    · exact e.keep b o (fun m => by
        rcases m with m | m
        · exact n (.inl m)
        · rcases List.mem_cons.mp m with m | m
          · exact z m
          · exact n (.inr m)) h
  new := fun p m => by
    rcases e.new p (m.elim .inl fun z => .inr (List.mem_cons_of_mem _ z)) with q | q
    · rcases q with q | q
      · exact .inl (.inl q)
      · rcases List.mem_cons.mp q with q | q
        · subst q; exact (s.fence_out m).elim
        · exact .inl (.inr q)
    · exact .inr q
  fk := fun b m => e.fk b (List.mem_cons_of_mem _ m)
/-- the list that is being made, new since A1 H1, has grown -/
theorem Ext.grown {G : Gm} {A1 A : Ad} {H1 H : Hp} {st : Sto} {d : Addr} (o : HO) (s : SR G A1 H1 st) (hd : H1 d = none) (e : Ext A1 H1 A H) : Ext A1 H1 A (upd H d o) where
  pre := e.pre
  fen := e.fen
  keep := fun b u n h => by rw [upd_ne (fun z => by rw [z, hd] at h; cases h)]; exact e.keep b u n h
  new := e.new
  fk := fun b m => by
    obtain ⟨u, h⟩ := s.ft b m
    rw [upd_ne (fun z => by rw [z, hd] at h; cases h)]; exact e.fk b m
end MR

/-! readings of mirrors; the judgements PM (expressions), PMT (tests), PMA (arguments); the rules that need no data of their own -/
namespace MR
open PySem L2

abbrev ME := MEnv → Sto → Res MV
abbrev MT := MEnv → Sto → Res Bool
abbrev MA := MEnv → Sto → Res (List MV)

def okP (G : Gm) (A : Ad) (H : Hp) (Q : VK) : MV → Sto → Prop := fun m st => ∀ A' H' v, Ext A H A' H' → SR G A' H' st → Rep G A' H' v m → Q v H'
def okT (G : Gm) (A : Ad) (H : Hp) (Q : Bool → Hp → Prop) : Bool → Sto → Prop := fun b st => ∀ A' H', Ext A H A' H' → SR G A' H' st → Q b H'
def okA (G : Gm) (A : Ad) (H : Hp) (Q : List V → Hp → Prop) : List MV → Sto → Prop := fun ms st => ∀ A' H' vs, Ext A H A' H' → SR G A' H' st → RepAll G A' H' vs ms → Q vs H'
def exP (G : Gm) (A : Ad) (H : Hp) (W : XK) : Str → Sto → Prop := fun c st => ∀ A' H' C, Ext A H A' H' → SR G A' H' st → G.mg c = some (.ref C) → W (.ref C) none H'

section
variable {G : Gm} {A A' : Ad} {H H' : Hp}
theorem okP.ext {Q : VK} (e : Ext A H A' H') {m : MV} {st : Sto} (h : okP G A H Q m st) : okP G A' H' Q m st := fun B I v f s r => h B I v (e.trans f) s r
theorem okT.ext {Q : Bool → Hp → Prop} (e : Ext A H A' H') {m : Bool} {st : Sto} (h : okT G A H Q m st) : okT G A' H' Q m st := fun B I f s => h B I (e.trans f) s
theorem okA.ext {Q : List V → Hp → Prop} (e : Ext A H A' H') {m : List MV} {st : Sto} (h : okA G A H Q m st) : okA G A' H' Q m st := fun B I v f s r => h B I v (e.trans f) s r
theorem exP.ext {W : XK} (e : Ext A H A' H') {c : Str} {st : Sto} (h : exP G A H W c st) : exP G A' H' W c st := fun B I C f s r => h B I C (e.trans f) s r
end

def tE (G : Gm) (W : WX) (m : ME) : TE := fun σ H Q => ∃ A env st, SR G A H st ∧ EnvR G A H σ env ∧ (m env st).post (okP G A H Q) (exP G A H (WE W σ))
def tT (G : Gm) (W : WX) (m : MT) : TT := fun σ H Q => ∃ A env st, SR G A H st ∧ EnvR G A H σ env ∧ (m env st).post (okT G A H Q) (exP G A H (WE W σ))
def tA (G : Gm) (W : WX) (m : MA) : TA := fun σ H Q => ∃ A env st, SR G A H st ∧ EnvR G A H σ env ∧ (m env st).post (okA G A H Q) (exP G A H (WE W σ))

abbrev PM (X : Cx) (W : WX) (e : Expr) (m : ME) : Prop := PE X e (tE (gmOf X) W m)
abbrev PMT (X : Cx) (W : WX) (e : Expr) (m : MT) : Prop := PT X e (tT (gmOf X) W m)
abbrev PMW (X : Cx) (W : WX) (e : Expr) (m : MT) : Prop := PW X e (tT (gmOf X) W m)
abbrev PMA (X : Cx) (W : WX) (es : List Expr) (m : MA) : Prop := PA X es (tA (gmOf X) W m)

section
variable {X : Cx} {e : Expr} {es : List Expr}
theorem PE_imp {t t' : TE} (h : PE X e t) (i : ∀ σ H Q, t' σ H Q → t σ H Q) : PE X e t' := ⟨fun pins s σ H Q I q => h.run pins s σ H Q I (i σ H Q q)⟩
theorem PT_imp {t t' : TT} (h : PT X e t) (i : ∀ σ H Q, t' σ H Q → t σ H Q) : PT X e t' := ⟨fun pins s σ H Q I q => h.run pins s σ H Q I (i σ H Q q)⟩
theorem PW_imp {t t' : TT} (h : PW X e t) (i : ∀ σ H Q, t' σ H Q → t σ H Q) : PW X e t' := ⟨fun w pins s σ H Q I q => h.run w pins s σ H Q I (i σ H Q q)⟩
theorem PA_imp {t t' : TA} (h : PA X es t) (i : ∀ σ H Q, t' σ H Q → t σ H Q) : PA X es t' := ⟨fun p pins s σ H Q I q => h.run p pins s σ H Q I (i σ H Q q)⟩
end

section
variable {G : Gm} {W : WX} {A A0 : Ad} {H H0 : Hp} {σ : St} {env : MEnv} {st : Sto}
/-- into a part: what the part gives is told from its own ground -/
theorem inE {m : ME} {Q : VK} (s : SR G A H st) (r : EnvR G A H σ env) (e0 : Ext A0 H0 A H) (h : (m env st).post (okP G A H Q) (exP G A0 H0 (WE W σ))) : tE G W m σ H Q :=
  ⟨A, env, st, s, r, h.mono (fun _ _ q => q) fun _ _ q => q.ext e0⟩
theorem inT {m : MT} {Q : Bool → Hp → Prop} (s : SR G A H st) (r : EnvR G A H σ env) (e0 : Ext A0 H0 A H) (h : (m env st).post (okT G A H Q) (exP G A0 H0 (WE W σ))) : tT G W m σ H Q :=
  ⟨A, env, st, s, r, h.mono (fun _ _ q => q) fun _ _ q => q.ext e0⟩
theorem inA {m : MA} {Q : List V → Hp → Prop} (s : SR G A H st) (r : EnvR G A H σ env) (e0 : Ext A0 H0 A H) (h : (m env st).post (okA G A H Q) (exP G A0 H0 (WE W σ))) : tA G W m σ H Q :=
  ⟨A, env, st, s, r, h.mono (fun _ _ q => q) fun _ _ q => q.ext e0⟩
end

/-! ### constants and names -/
def mC (m : MV) : ME := fun _ st => .ok m st
def mVar (i : Nat) : ME := fun env st => match env[i]? with
  | some (some m) => .ok m st
  | _ => .bad
section
variable {X : Cx} {W : WX} {pos : Pos}
theorem pm_C {e : Expr} {v : V} {m : MV} (h : PE X e (tC v)) (r : ∀ A H, Rep (gmOf X) A H v m) : PM X W e (mC m) :=
  PE_imp h fun σ H Q ⟨A, env, st, s, _, q⟩ => q A H v (Ext.refl A H) s (r A H)
theorem pm_int {i : Int} {j : Nat} : PM X W (.Constant (.int i) j pos) (mC (.int i)) := pm_C pe_int fun _ _ => (.int i)
theorem pm_bl {b : Bool} {j : Nat} : PM X W (.Constant (.bool b) j pos) (mC (.bl b)) := pm_C pe_bl fun _ _ => (.bl b)
theorem pm_non {j : Nat} : PM X W (.Constant .none j pos) (mC .non) := pm_C pe_non fun _ _ => .non
theorem pm_str {x : Str} {j : Nat} : PM X W (.Constant (.str x) j pos) (mC (.str x)) := pm_C pe_str fun _ _ => (.str x)
theorem pm_var {x : Str} (i : Nat) (hN : X.N[i]? = some x := by rfl) (hv : Vis X.env.scope x := by first | exact Or.inl rfl | exact Or.inr (Or.inl rfl) | exact Or.inr (Or.inr rfl)) (hd : (x == ("__debug__" : Str)) = false := by decide)
    (hcd : (x == ("__classdict__" : Str)) = false := by decide) : PM X W (.Name x pos) (mVar i) :=
  PE_imp (pe_var hN hv hd hcd) fun σ H Q ⟨A, env, st, s, r, q⟩ => by
    unfold mVar at q
    split at q
    · rename_i m e
      obtain ⟨v, e1, r1⟩ := r.get i m e
      exact ⟨v, e1, q A H v (Ext.refl A H) s r1⟩
    · exact q.elim
/-- a module's constant -/
theorem pm_glob {x : Str} {v : V} {u : Value} {m : MV} (hm : X.mg x = some u) (r : RelV v u) (q : ∀ A H, Rep (gmOf X) A H v m) (hg : Gl X x := by rfl) (hd : (x == ("__debug__" : Str)) = false := by decide) : PM X W (.Name x pos) (mC m) :=
  pm_C (pe_glob hg hm r hd) q
/-- a def or class of the module -/
theorem pm_fn {x : Str} {f : Addr} (hm : X.mg x = some (.ref f)) (hg : Gl X x := by rfl) (hd : (x == ("__debug__" : Str)) = false := by decide) : PM X W (.Name x pos) (mC (.gl x)) :=
  pm_C (pe_glob (v := .ref f) hg hm rfl hd) fun _ _ => .gl hm
/-- a built-in type -/
theorem pm_ty {x : Str} {n : String} (hm : X.mg x = none) (hv : bootBuiltins x = some (.type n)) (hg : Gl X x := by rfl) (hn : x ≠ "__name__" := by decide) (hd : (x == ("__debug__" : Str)) = false := by decide) : PM X W (.Name x pos) (mC (.ty n)) :=
  pm_C (pe_bltn (v := .ty n) hg hm hv rfl hn hd) fun _ _ => .ty n
end

/-! ### operators by values -/
abbrev G2 := MV → MV → Sto → Res MV
def OpM (G : Gm) (r : R2) (g : G2) : Prop := ∀ (A : Ad) (H : Hp) (st : Sto) (x y : V) (mx my : MV) (Q : VK) (E : Str → Sto → Prop), SR G A H st → Rep G A H x mx → Rep G A H y my → (g mx my st).post (okP G A H Q) E → (∀ c st, g mx my st ≠ .exc c st) → r x y H Q
def noExc (r : Res MV) : Res MV := match r with
  | .exc _ _ => .bad
  | r => r
theorem noExc_ne {r : Res MV} (c : Str) (st : Sto) : noExc r ≠ .exc c st := by
  cases r <;> intro h <;> cases h
def m2 (g : G2) (a b : ME) : ME := fun env st => (a env st).bind fun x st1 => (b env st1).bind fun y st2 => noExc (g x y st2)
def m1 (g : MV → Sto → Res MV) (a : ME) : ME := fun env st => (a env st).bind fun x st1 => noExc (g x st1)
/-- by values, all in all -/
def Op2 (G : Gm) (r : R2) (g : G2) : Prop := ∀ {A : Ad} {H : Hp} {st : Sto} {x y : V} {mx my : MV} {Q : VK} {m : MV} {st' : Sto}, SR G A H st → Rep G A H x mx → Rep G A H y my → g mx my st = .ok m st' → okP G A H Q m st' → r x y H Q
def Op1 (G : Gm) (r : V → Hp → VK → Prop) (g : MV → Sto → Res MV) : Prop := ∀ {A : Ad} {H : Hp} {st : Sto} {x : V} {mx : MV} {Q : VK} {m : MV} {st' : Sto}, SR G A H st → Rep G A H x mx → g mx st = .ok m st' → okP G A H Q m st' → r x H Q
def OpN (G : Gm) (r : List V → Hp → VK → Prop) (g : List MV → Sto → Res MV) : Prop := ∀ {A : Ad} {H : Hp} {st : Sto} {xs : List V} {ms : List MV} {Q : VK} {m : MV} {st' : Sto}, SR G A H st → RepAll G A H xs ms → g ms st = .ok m st' → okP G A H Q m st' → r xs H Q
def OpMt (G : Gm) (r : V → List V → Hp → VK → Prop) (g : MV → List MV → Sto → Res MV) : Prop := ∀ {A : Ad} {H : Hp} {st : Sto} {x : V} {mx : MV} {xs : List V} {ms : List MV} {Q : VK} {m : MV} {st' : Sto}, SR G A H st → Rep G A H x mx → RepAll G A H xs ms → g mx ms st = .ok m st' → okP G A H Q m st' → r x xs H Q
theorem post_noExc {r : Res MV} {P : MV → Sto → Prop} {E : Str → Sto → Prop} (h : (noExc r).post P E) : ∃ m st, r = .ok m st ∧ P m st := by
  cases r with
  | ok m st => exact ⟨m, st, rfl, h⟩
  | exc c st => exact h.elim
  | bad => exact h.elim

section
variable {X : Cx} {W : WX} {pos : Pos} {a b c : Expr} {ma mb mc : ME}
/-- two parts in a row, then an operation by values -/
theorem two {r : R2} {g : G2} (hr : Op2 (gmOf X) r g) {σ : St} {H : Hp} {Q : VK} (h : tE (gmOf X) W (m2 g ma mb) σ H Q) : tOp r (tE (gmOf X) W ma) (tE (gmOf X) W mb) σ H Q := by
  obtain ⟨A, env, st, s, q, h⟩ := h
  unfold m2 at h
  rw [Res.post_bind] at h
  refine inE s q (Ext.refl A H) (h.mono (fun mx st1 h1 A1 H1 x e1 s1 r1 => ?_) fun _ _ z => z)
  rw [Res.post_bind] at h1
  refine inE s1 (q.ext e1) e1 (h1.mono (fun my st2 h2 A2 H2 y e2 s2 r2 => ?_) fun _ _ z => z)
  obtain ⟨m, st', e, k⟩ := post_noExc h2
  exact hr s2 (r1.ext e2) r2 e (okP.ext (e1.trans e2) k)
theorem pm_bin {op : Operator} {r : R2} {g : G2} (ho : OpR X (binaryOp op) r) (hr : Op2 (gmOf X) r g) (ha : PM X W a ma) (hb : PM X W b mb) : PM X W (.BinOp a op b pos) (m2 g ma mb) :=
  PE_imp (pe_op ho ha hb) fun _ _ _ h => two hr h
theorem pm_cmp {op : CmpOp} {r : R2} {g : G2} (ho : OpR X (compareOp op) r) (hr : Op2 (gmOf X) r g) (ha : PM X W a ma) (hb : PM X W b mb) (hm : behindInMarks op b = false := by first | exact nomark _ | rfl) : PM X W (.Compare a [op] [b] pos) (m2 g ma mb) :=
  PE_imp (pe_cmpR ho ha hb hm) fun _ _ _ h => two hr h
theorem pm_ix {r : R2} {g : G2} (ho : IxR X r) (hr : Op2 (gmOf X) r g) (ha : PM X W a ma) (hb : PM X W b mb) (hs : PlainIx b := by exact fun _ _ => rfl) : PM X W (.Subscript a b pos) (m2 g ma mb) :=
  PE_imp (pe_ix ho ha hb hs) fun _ _ _ h => two hr h
theorem pm_un {op : UnaryOp} {r : V → Hp → VK → Prop} {g : MV → Sto → Res MV} (ho : UnR X (unaryOp op) r) (hr : Op1 (gmOf X) r g) (ha : PM X W a ma) : PM X W (.UnaryOp op a pos) (m1 g ma) :=
  PE_imp (pe_un ho ha) fun σ H Q ⟨A, env, st, s, q, h⟩ => by
    unfold m1 at h
    rw [Res.post_bind] at h
    refine inE s q (Ext.refl A H) (h.mono (fun mx st1 h1 A1 H1 x e1 s1 r1 => ?_) fun _ _ z => z)
    obtain ⟨m, st', e, k⟩ := post_noExc h1
    exact hr s1 r1 e (k.ext e1)

/-! ### and, or, not; tests -/
def toB (m : MV) (st : Sto) : Res Bool := match m with
  | .bl b => .ok b st
  | _ => .bad
/-- a value that is a bool, as a test -/
def mB (a : ME) : MT := fun env st => (a env st).bind toB
def mAndT (a b : MT) : MT := fun env st => (a env st).bind fun x st1 => if x = true then b env st1 else .ok false st1
def mOrT (a b : MT) : MT := fun env st => (a env st).bind fun x st1 => if x = true then .ok true st1 else b env st1
def mNotT (a : MT) : MT := fun env st => (a env st).bind fun x st1 => .ok (!x) st1
def mAnd (a b : ME) : ME := fun env st => (a env st).bind fun x st1 => (toB x st1).bind fun x st1 => if x = true then b env st1 else .ok (.bl false) st1
def mOr (a b : ME) : ME := fun env st => (a env st).bind fun x st1 => (toB x st1).bind fun x st1 => if x = true then .ok (.bl true) st1 else b env st1
def mNot (a : ME) : ME := fun env st => (a env st).bind fun x st1 => (toB x st1).bind fun x st1 => .ok (.bl (!x)) st1
def mIf (c : MT) (a b : ME) : ME := fun env st => (c env st).bind fun x st1 => if x = true then a env st1 else b env st1
theorem post_toB {m : MV} {st : Sto} {P : Bool → Sto → Prop} {E : Str → Sto → Prop} (h : (toB m st).post P E) : ∃ b, m = .bl b ∧ P b st := by
  unfold toB at h
  split at h
  · exact ⟨_, rfl, h⟩
  · exact h.elim
theorem tB_of {σ : St} {H : Hp} {Q : Bool → Hp → Prop} (h : tT (gmOf X) W (mB ma) σ H Q) : tB (tE (gmOf X) W ma) σ H Q := by
  obtain ⟨A, env, st, s, q, h⟩ := h
  unfold mB at h
  rw [Res.post_bind] at h
  refine inE s q (Ext.refl A H) (h.mono (fun mx st1 h1 A1 H1 x e1 s1 r1 => ?_) fun _ _ z => z)
  obtain ⟨b, e, k⟩ := post_toB h1
  subst e
  cases r1
  exact ⟨b, rfl, k A1 H1 e1 s1⟩
theorem pmt_val (ha : PM X W a ma) (he : ∀ whole, isTrue a X.env whole = (do let v ← whole; standAt a.pos; holding [v] (truthy v)) := by intro _; rfl) : PMT X W a (mB ma) :=
  PT_imp (pt_val ha he) fun _ _ _ h => tB_of h
theorem pmt_cmp {op : CmpOp} {r : R2} {g : G2} (ho : OpR X (compareOp op) r) (hr : Op2 (gmOf X) r g) (ha : PM X W a ma) (hb : PM X W b mb) (hm : behindInMarks op b = false := by first | exact nomark _ | rfl) : PMT X W (.Compare a [op] [b] pos) (mB (m2 g ma mb)) :=
  PT_imp (pt_cmpR ho ha hb hm) fun σ H Q h => two (ma := ma) (mb := mb) (W := W) (g := g) hr (by
    obtain ⟨A, env, st, s, q, h⟩ := h
    unfold mB at h
    rw [Res.post_bind] at h
    refine inE s q (Ext.refl A H) (h.mono (fun mx st1 h1 A1 H1 x e1 s1 r1 => ?_) fun _ _ z => z)
    obtain ⟨b, e, k⟩ := post_toB h1
    subst e
    cases r1
    exact ⟨b, rfl, k A1 H1 e1 s1⟩)
variable {ta tb : MT} {rest : List Expr}
theorem in2T {σ : St} {H : Hp} {Q : Bool → Hp → Prop} (h : tT (gmOf X) W (mAndT ta tb) σ H Q) : tAnd (tT (gmOf X) W ta) (tT (gmOf X) W tb) σ H Q := by
  obtain ⟨A, env, st, s, q, h⟩ := h
  unfold mAndT at h
  rw [Res.post_bind] at h
  refine inT s q (Ext.refl A H) (h.mono (fun b st1 h1 A1 H1 e1 s1 => ?_) fun _ _ z => z)
  cases b with
  | true => exact inT s1 (q.ext e1) e1 (h1.mono (fun b st2 h2 => h2.ext e1) fun _ _ z => z)
  | false => exact h1 A1 H1 e1 s1
theorem in2O {σ : St} {H : Hp} {Q : Bool → Hp → Prop} (h : tT (gmOf X) W (mOrT ta tb) σ H Q) : tOr (tT (gmOf X) W ta) (tT (gmOf X) W tb) σ H Q := by
  obtain ⟨A, env, st, s, q, h⟩ := h
  unfold mOrT at h
  rw [Res.post_bind] at h
  refine inT s q (Ext.refl A H) (h.mono (fun b st1 h1 A1 H1 e1 s1 => ?_) fun _ _ z => z)
  cases b with
  | false => exact inT s1 (q.ext e1) e1 (h1.mono (fun b st2 h2 => h2.ext e1) fun _ _ z => z)
  | true => exact h1 A1 H1 e1 s1
theorem pmw_and1 (ha : PMT X W a ta) : PMW X W (.BoolOp .And [a] pos) ta := pw_and1 ha
theorem pmw_or1 (ha : PMT X W a ta) : PMW X W (.BoolOp .Or [a] pos) ta := pw_or1 ha
theorem pmw_and (ha : PMT X W a ta) (hb : PMW X W (.BoolOp .And (b :: rest) pos) tb) : PMW X W (.BoolOp .And (a :: b :: rest) pos) (mAndT ta tb) := PW_imp (pw_and ha hb) fun _ _ _ h => in2T h
theorem pmw_or (ha : PMT X W a ta) (hb : PMW X W (.BoolOp .Or (b :: rest) pos) tb) : PMW X W (.BoolOp .Or (a :: b :: rest) pos) (mOrT ta tb) := PW_imp (pw_or ha hb) fun _ _ _ h => in2O h
theorem pmt_not (ha : PMT X W a ta) : PMT X W (.UnaryOp .Not a pos) (mNotT ta) := PT_imp (pt_not ha) fun σ H Q ⟨A, env, st, s, q, h⟩ => by
  unfold mNotT at h
  rw [Res.post_bind] at h
  exact inT s q (Ext.refl A H) (h.mono (fun b st1 h1 A1 H1 e1 s1 => h1 A1 H1 e1 s1) fun _ _ z => z)
theorem pm_one {op : PySem.BoolOp} (ha : PM X W a ma) : PM X W (.BoolOp op [a] pos) ma := pe_one ha
theorem pm_and (ha : PM X W a ma) (hb : PM X W (.BoolOp .And (b :: rest) pos) mb) : PM X W (.BoolOp .And (a :: b :: rest) pos) (mAnd ma mb) := PE_imp (pe_and ha hb) fun σ H Q ⟨A, env, st, s, q, h⟩ => by
  unfold mAnd at h
  rw [Res.post_bind] at h
  refine inE s q (Ext.refl A H) (h.mono (fun x st1 h1 A1 H1 v e1 s1 r1 => ?_) fun _ _ z => z)
  rw [Res.post_bind] at h1
  obtain ⟨c, e, k⟩ := post_toB h1
  subst e
  cases r1
  refine ⟨c, rfl, ?_⟩
  cases c with
  | true => exact inE s1 (q.ext e1) e1 (Res.post.mono k (fun b st2 h2 => h2.ext e1) fun _ _ z => z)
  | false => exact k A1 H1 _ e1 s1 (.bl false)
theorem pm_or (ha : PM X W a ma) (hb : PM X W (.BoolOp .Or (b :: rest) pos) mb) : PM X W (.BoolOp .Or (a :: b :: rest) pos) (mOr ma mb) := PE_imp (pe_or ha hb) fun σ H Q ⟨A, env, st, s, q, h⟩ => by
  unfold mOr at h
  rw [Res.post_bind] at h
  refine inE s q (Ext.refl A H) (h.mono (fun x st1 h1 A1 H1 v e1 s1 r1 => ?_) fun _ _ z => z)
  rw [Res.post_bind] at h1
  obtain ⟨c, e, k⟩ := post_toB h1
  subst e
  cases r1
  refine ⟨c, rfl, ?_⟩
  cases c with
  | false => exact inE s1 (q.ext e1) e1 (Res.post.mono k (fun b st2 h2 => h2.ext e1) fun _ _ z => z)
  | true => exact k A1 H1 _ e1 s1 (.bl true)
theorem pm_not (ha : PM X W a ma) : PM X W (.UnaryOp .Not a pos) (mNot ma) := PE_imp (pe_not ha) fun σ H Q ⟨A, env, st, s, q, h⟩ => by
  unfold mNot at h
  rw [Res.post_bind] at h
  refine inE s q (Ext.refl A H) (h.mono (fun x st1 h1 A1 H1 v e1 s1 r1 => ?_) fun _ _ z => z)
  rw [Res.post_bind] at h1
  obtain ⟨c, e, k⟩ := post_toB h1
  subst e
  cases r1
  exact ⟨c, rfl, k A1 H1 _ e1 s1 (.bl (!c))⟩
theorem pm_if {tc : MT} (hc : PMT X W c tc) (ha : PM X W a ma) (hb : PM X W b mb) : PM X W (.IfExp c a b pos) (mIf tc ma mb) := PE_imp (pe_ifExp hc ha hb) fun σ H Q ⟨A, env, st, s, q, h⟩ => by
  unfold mIf at h
  rw [Res.post_bind] at h
  refine inT s q (Ext.refl A H) (h.mono (fun x st1 h1 A1 H1 e1 s1 => ?_) fun _ _ z => z)
  cases x with
  | true => exact inE s1 (q.ext e1) e1 (Res.post.mono h1 (fun b st2 h2 => h2.ext e1) fun _ _ z => z)
  | false => exact inE s1 (q.ext e1) e1 (Res.post.mono h1 (fun b st2 h2 => h2.ext e1) fun _ _ z => z)
/-- a < b < c -/
def mChain (g g' : G2) (a b c : ME) : ME := fun env st => (a env st).bind fun x st1 => (b env st1).bind fun y st2 => (noExc (g x y st2)).bind fun z st3 => (toB z st3).bind fun k st4 => if k = true then (c env st4).bind fun w st5 => noExc (g' y w st5) else .ok (.bl false) st4
theorem chainE {r r' : R2} {g g' : G2} (hr : Op2 (gmOf X) r g) (hr' : Op2 (gmOf X) r' g') {σ : St} {H : Hp} {Q : VK} (h : tE (gmOf X) W (mChain g g' ma mb mc) σ H Q) : tChain r r' (tE (gmOf X) W ma) (tE (gmOf X) W mb) (tE (gmOf X) W mc) σ H Q := by
  obtain ⟨A, env, st, s, q, h⟩ := h
  unfold mChain at h
  rw [Res.post_bind] at h
  refine inE s q (Ext.refl A H) (h.mono (fun mx st1 h1 A1 H1 x e1 s1 r1 => ?_) fun _ _ z => z)
  rw [Res.post_bind] at h1
  refine inE s1 (q.ext e1) e1 (h1.mono (fun my st2 h2 A2 H2 y e2 s2 r2 => ?_) fun _ _ z => z)
  rw [Res.post_bind] at h2
  obtain ⟨m, st', e, k⟩ := post_noExc h2
  refine hr s2 (r1.ext e2) r2 e (fun A3 H3 z e3 s3 r3 => ?_)
  rw [Res.post_bind] at k
  obtain ⟨b, eb, k⟩ := post_toB k
  subst eb
  cases r3
  refine ⟨b, rfl, ?_⟩
  have e03 := (e1.trans e2).trans e3
  cases b with
  | false => exact k A3 H3 _ e03 s3 (.bl false)
  | true =>
    have k : ((mc env st').bind fun w st5 => noExc (g' my w st5)).post _ _ := k
    rw [Res.post_bind] at k
    show tE (gmOf X) W mc σ H3 _
    refine inE s3 (q.ext e03) e03 (k.mono (fun mw st5 h5 A5 H5 w e5 s5 r5 => ?_) fun _ _ z => z)
    obtain ⟨m5, st6, e6, k6⟩ := post_noExc h5
    exact hr' s5 ((r2.ext e3).ext e5) r5 e6 (okP.ext (e03.trans e5) k6)
theorem pm_chain {op op' : CmpOp} {r r' : R2} {g g' : G2} (ho : OpR X (compareOp op) r) (ho' : OpR X (compareOp op') r') (hr : Op2 (gmOf X) r g) (hr' : Op2 (gmOf X) r' g') (ha : PM X W a ma) (hb : PM X W b mb) (hc : PM X W c mc)
    (hm : lastMarks [op, op'] [b, c] = false := by with_unfolding_all rfl) : PM X W (.Compare a [op, op'] [b, c] pos) (mChain g g' ma mb mc) :=
  PE_imp (pe_chain ho ho' ha hb hc hm) fun _ _ _ h => chainE hr hr' h
theorem tTest_of {t : TE} {m : ME} (i : ∀ σ H Q, tE (gmOf X) W m σ H Q → t σ H Q) {σ : St} {H : Hp} {Q : Bool → Hp → Prop} (h : tT (gmOf X) W (mB m) σ H Q) : tTest t σ H Q := by
  refine i σ H _ ?_
  obtain ⟨A, env, st, s, q, h⟩ := h
  unfold mB at h
  rw [Res.post_bind] at h
  refine inE s q (Ext.refl A H) (h.mono (fun mx st1 h1 A1 H1 x e1 s1 r1 => ?_) fun _ _ z => z)
  obtain ⟨b, e, k⟩ := post_toB h1
  subst e
  cases r1
  exact ⟨b, rfl, k A1 H1 e1 s1⟩
theorem pmt_chain {op op' : CmpOp} {r r' : R2} {g g' : G2} (ho : OpR X (compareOp op) r) (ho' : OpR X (compareOp op') r') (hr : Op2 (gmOf X) r g) (hr' : Op2 (gmOf X) r' g') (ha : PM X W a ma) (hb : PM X W b mb) (hc : PM X W c mc)
    (hm : lastMarks [op, op'] [b, c] = false := by with_unfolding_all rfl) : PMT X W (.Compare a [op, op'] [b, c] pos) (mB (mChain g g' ma mb mc)) :=
  PT_imp (pt_chain ho ho' ha hb hc hm) fun _ _ _ h => tTest_of (fun _ _ _ q => chainE hr hr' q) h
/-! ### arguments, displays, calls -/
def aNil : MA := fun _ st => .ok [] st
def aCons (a : ME) (r : MA) : MA := fun env st => (a env st).bind fun x st1 => (r env st1).bind fun xs st2 => .ok (x :: xs) st2
/-- the items of a list or a tuple -/
def itemsOf (m : MV) (st : Sto) : Option (List MV) := match m with
  | .tup xs => some xs
  | .lst xs => some xs
  | .obj k => match st[k]? with
    | some (.lst xs) => some xs
    | _ => none
  | _ => none
def aStar (a : ME) (r : MA) : MA := fun env st => (a env st).bind fun x st1 => match itemsOf x st1 with
  | some ys => (r env st1).bind fun xs st2 => .ok (ys ++ xs) st2
  | none => .bad
theorem items_rep {G : Gm} {A : Ad} {H : Hp} {st : Sto} {v : V} {m : MV} {xs : List MV} (s : SR G A H st) (r : Rep G A H v m) (h : itemsOf m st = some xs) :
    ∃ a vs, v = .ref a ∧ (SqT G.K H a vs ∨ SqL G.K H a vs) ∧ RepAll G A H vs xs := by
  cases r with
  | tup h1 h2 => cases h; exact ⟨_, _, rfl, .inl h1.sq, h2⟩
  | lst h1 h2 h3 => cases h; exact ⟨_, _, rfl, .inr (SqL.of h1), h3⟩
  | @obj a k h1 =>
    simp only [itemsOf] at h
    split at h
    · rename_i ys e
      cases h
      cases s.ob k a _ h1 e with
      | lst h2 h3 => exact ⟨_, _, rfl, .inr (SqL.of h2), h3⟩
    · cases h
  | non => cases h
  | bl => cases h
  | int => cases h
  | str => cases h
  | ty => cases h
  | gl => cases h
  | scr => cases h
variable {es : List Expr} {mr : MA}
theorem pma_nil : PMA X W [] aNil := PA_imp pa_nil fun σ H Q ⟨A, env, st, s, q, h⟩ => h A H [] (Ext.refl A H) s .nil
theorem pma_cons (ha : PM X W a ma) (hr : PMA X W es mr) (hs : starEach (a :: es) X.env = (false, eval a X.env) :: starEach es X.env := by rfl) : PMA X W (a :: es) (aCons ma mr) :=
  PA_imp (pa_cons ha hr hs) fun σ H Q ⟨A, env, st, s, q, h⟩ => by
    unfold aCons at h
    rw [Res.post_bind] at h
    refine inE s q (Ext.refl A H) (h.mono (fun mx st1 h1 A1 H1 x e1 s1 r1 => ?_) fun _ _ z => z)
    rw [Res.post_bind] at h1
    refine inA s1 (q.ext e1) e1 (h1.mono (fun my st2 h2 A2 H2 y e2 s2 r2 => ?_) fun _ _ z => z)
    exact h2 A2 H2 _ (e1.trans e2) s2 (.cons (r1.ext e2) r2)
theorem pma_star {p : Pos} (ha : PM X W a ma) (hr : PMA X W es mr) (hs : starEach (.Starred a p :: es) X.env = (true, eval a X.env) :: starEach es X.env := by rfl) : PMA X W (.Starred a p :: es) (aStar ma mr) :=
  PA_imp (StX.pa_star ha hr hs) fun σ H Q ⟨A, env, st, s, q, h⟩ => by
    unfold aStar at h
    rw [Res.post_bind] at h
    refine inE s q (Ext.refl A H) (h.mono (fun mx st1 h1 A1 H1 x e1 s1 r1 => ?_) fun _ _ z => z)
    cases hi : itemsOf mx st1 with
    | none => rw [hi] at h1; exact h1.elim
    | some ys =>
      rw [hi] at h1
      obtain ⟨p, vs, ev, sq, rv⟩ := items_rep s1 r1 hi
      refine ⟨p, vs, ev, sq, ?_⟩
      have h1 : ((mr env st1).bind fun xs st2 => Res.ok (ys ++ xs) st2).post _ _ := h1
      rw [Res.post_bind] at h1
      refine inA s1 (q.ext e1) e1 (h1.mono (fun my st2 h2 A2 H2 y e2 s2 r2 => ?_) fun _ _ z => z)
      exact h2 A2 H2 _ (e1.trans e2) s2 ((rv.ext e2).append r2)
/-- (a, b, ..) -/
def mTup (r : MA) : ME := fun env st => (r env st).bind fun xs st1 => if xs.length ≤ 16777216 then .ok (.tup xs) st1 else .bad
/-- [a, b, ..] that never changes; one that may change -/
def mLst (r : MA) : ME := fun env st => (r env st).bind fun xs st1 => if xs.length ≤ 16777216 then .ok (.lst xs) st1 else .bad
def mLstN (r : MA) : ME := fun env st => (r env st).bind fun xs st1 => if xs.length ≤ 16777216 then .ok (.obj st1.length) (st1 ++ [.lst xs]) else .bad
theorem line_of {n : Nat} (h : n ≤ 16777216) : n ≤ sizeLine := by rw [sizeLine_eq]; exact h
theorem of_line {n : Nat} (h : n ≤ sizeLine) : n ≤ 16777216 := by rw [sizeLine_eq] at h; exact h
/-- a new tuple, a new list outside the store, a new list of the store -/
theorem fin_tup {G : Gm} {A : Ad} {H : Hp} {st : Sto} {Q : VK} {vs : List V} {ms : List MV} (s : SR G A H st) (r : RepAll G A H vs ms) (k : okP G A H Q (.tup ms) st) : ∀ p, H p = none → Q (.ref p) (upd H p (.tup vs)) := fun p hp =>
  k A _ _ (Ext.laid s hp) (s.laid hp) (.tup (.inl ⟨.inl upd_same, s.new_out hp⟩) (r.ext (Ext.laid s hp)))
theorem fin_lst {G : Gm} {A : Ad} {H : Hp} {st : Sto} {Q : VK} {vs : List V} {ms : List MV} (s : SR G A H st) (r : RepAll G A H vs ms) (k : okP G A H Q (.lst ms) st) : ∀ p, H p = none → Q (.ref p) (upd H p (.lst vs)) := fun p hp =>
  k A _ _ (Ext.laid s hp) (s.laid hp) (.lst upd_same (s.new_out hp) (r.ext (Ext.laid s hp)))
theorem fin_lstN {G : Gm} {A : Ad} {H : Hp} {st : Sto} {Q : VK} {vs : List V} {ms : List MV} (s : SR G A H st) (r : RepAll G A H vs ms) (k : okP G A H Q (.obj st.length) (st ++ [.lst ms])) : ∀ p, H p = none → Q (.ref p) (upd H p (.lst vs)) := fun p hp =>
  k (A.more p) _ _ (Ext.made s hp) (s.made hp r) (.obj (by rw [← s.len]; simp))
theorem post_ite {α : Type} {c : Prop} [Decidable c] {a : Res α} {P : α → Sto → Prop} {E : Str → Sto → Prop} (h : (if c then a else .bad).post P E) : c ∧ a.post P E := by
  by_cases hc : c
  · rw [if_pos hc] at h; exact ⟨hc, h⟩
  · rw [if_neg hc] at h; exact h.elim
theorem pm_tup {x1 : Nat} (h : PMA X W es mr) : PM X W (.Tuple es x1 pos) (mTup mr) := PE_imp (pe_tup h) fun σ H Q ⟨A, env, st, s, q, h⟩ => by
  unfold mTup at h
  rw [Res.post_bind] at h
  refine inA s q (Ext.refl A H) (h.mono (fun mx st1 h1 A1 H1 x e1 s1 r1 => ?_) fun _ _ z => z)
  obtain ⟨hl, k⟩ := post_ite h1
  exact ⟨by rw [r1.length]; exact line_of hl, fin_tup s1 r1 (okP.ext e1 k)⟩
theorem pm_lst (h : PMA X W es mr) : PM X W (.List es pos) (mLst mr) := PE_imp (pe_lst h) fun σ H Q ⟨A, env, st, s, q, h⟩ => by
  unfold mLst at h
  rw [Res.post_bind] at h
  refine inA s q (Ext.refl A H) (h.mono (fun mx st1 h1 A1 H1 x e1 s1 r1 => ?_) fun _ _ z => z)
  obtain ⟨hl, k⟩ := post_ite h1
  exact ⟨by rw [r1.length]; exact line_of hl, fin_lst s1 r1 (okP.ext e1 k)⟩
theorem pm_lstN (h : PMA X W es mr) : PM X W (.List es pos) (mLstN mr) := PE_imp (pe_lst h) fun σ H Q ⟨A, env, st, s, q, h⟩ => by
  unfold mLstN at h
  rw [Res.post_bind] at h
  refine inA s q (Ext.refl A H) (h.mono (fun mx st1 h1 A1 H1 x e1 s1 r1 => ?_) fun _ _ z => z)
  obtain ⟨hl, k⟩ := post_ite h1
  exact ⟨by rw [r1.length]; exact line_of hl, fin_lstN s1 r1 (okP.ext e1 k)⟩
/-- a call of a builtin by values -/
def mCall (g : List MV → Sto → Res MV) (r : MA) : ME := fun env st => (r env st).bind fun xs st1 => noExc (g xs st1)
theorem callE {r : List V → Hp → VK → Prop} {g : List MV → Sto → Res MV} (hr : OpN (gmOf X) r g) {σ : St} {H : Hp} {Q : VK} (h : tE (gmOf X) W (mCall g mr) σ H Q) : tCB r (tA (gmOf X) W mr) σ H Q := by
  obtain ⟨A, env, st, s, q, h⟩ := h
  unfold mCall at h
  rw [Res.post_bind] at h
  refine inA s q (Ext.refl A H) (h.mono (fun mx st1 h1 A1 H1 x e1 s1 r1 => ?_) fun _ _ z => z)
  obtain ⟨m, st', e, k⟩ := post_noExc h1
  exact hr s1 r1 e (okP.ext e1 k)
theorem pm_callB {x : Str} {id : String} {p : Pos} {r : List V → Hp → VK → Prop} {g : List MV → Sto → Res MV} (hc : CallR X (.builtin id) r) (hr : OpN (gmOf X) r g) (hm : X.mg x = none) (hv : bootBuiltins x = some (.builtin id)) (ha : PMA X W (a :: es) mr)
    (hg : Gl X x := by rfl) (hn : x ≠ "__name__" := by decide) (hdb : (x == ("__debug__" : Str)) = false := by decide)
    (he : starEach (a :: es) X.env = (false, eval a X.env) :: starEach es X.env := by rfl) (hpl : (backTo pos (starEach es X.env)).any (·.1) = false := by rfl) : PM X W (.Call (.Name x p) (a :: es) [] pos) (mCall g mr) :=
  PE_imp (pe_callB hc hg hm hv ha hn hdb he hpl) fun _ _ _ h => callE hr h
theorem pm_callTy {x : Str} {T : String} {p : Pos} {r : List V → Hp → VK → Prop} {g : List MV → Sto → Res MV} (hc : CallR X (.type T) r) (hr : OpN (gmOf X) r g) (hm : X.mg x = none) (hv : bootBuiltins x = some (.type T)) (ha : PMA X W (a :: es) mr)
    (hg : Gl X x := by rfl) (hn : x ≠ "__name__" := by decide) (hdb : (x == ("__debug__" : Str)) = false := by decide)
    (he : starEach (a :: es) X.env = (false, eval a X.env) :: starEach es X.env := by rfl) (hpl : (backTo pos (starEach es X.env)).any (·.1) = false := by rfl) : PM X W (.Call (.Name x p) (a :: es) [] pos) (mCall g mr) :=
  PE_imp (pe_callTy hc hg hm hv ha hn hdb he hpl) fun _ _ _ h => callE hr h
/-- o.m(..), m a method of a built-in type T -/
def mMeth (g : MV → List MV → Sto → Res MV) (o : ME) (r : MA) : ME := fun env st => (o env st).bind fun x st1 => (r env st1).bind fun xs st2 => noExc (g x xs st2)
/-- the method's own type: told of the receiver ahead of the arguments -/
def OpTy (G : Gm) (T : String) (c : MV → Sto → Bool) : Prop := ∀ {A : Ad} {H : Hp} {st : Sto} {v : V} {m : MV}, SR G A H st → Rep G A H v m → c m st = true → tyV G.K T v H
def mMethT (c : MV → Sto → Bool) (g : MV → List MV → Sto → Res MV) (o : ME) (r : MA) : ME := fun env st => (o env st).bind fun x st1 => if c x st1 = true then (r env st1).bind fun xs st2 => noExc (g x xs st2) else .bad
theorem pm_bm {name : Str} {apos cpos : Pos} {T id : String} {r : V → List V → Hp → VK → Prop} {c : MV → Sto → Bool} {g : MV → List MV → Sto → Res MV} {o : Expr} {mo : ME}
    (pa : PlainAttrs T) (slot : Slot T name id) (hty : typeOf (.builtin id) = pure (.type "method_descriptor")) (hm : MtR X id r) (hc : OpTy (gmOf X) T c) (hr : OpMt (gmOf X) r g) (ho : PM X W o mo) (ha : PMA X W (a :: es) mr)
    (hbase : attributeBase o name X.env (eval o X.env) = eval o X.env := by rfl)
    (hfew : ((backTo cpos (starEach (a :: es) X.env)).all (fun x => !x.1) && (backToKw cpos (keywordEach [] X.env)).all (fun x => x.1.isSome)
      && decide ((a :: es).length + ([] : List Keyword).length + (if ([] : List Keyword).isEmpty then 0 else 1) < 30)) = true := by rfl)
    (hline : (apos.endLine == cpos.line) = true := by rfl) (hs : starEach (a :: es) X.env = (false, eval a X.env) :: starEach es X.env := by rfl) (hplain : (backTo cpos (starEach es X.env)).any (·.1) = false := by rfl) :
    PM X W (.Call (.Attribute o name apos) (a :: es) [] cpos) (mMethT c g mo mr) :=
  PE_imp (pe_bm pa slot hty hm ho ha hbase hfew hline hs hplain) fun σ H Q ⟨A, env, st, s, q, h⟩ => by
    unfold mMethT at h
    rw [Res.post_bind] at h
    refine inE s q (Ext.refl A H) (h.mono (fun mx st1 h1 A1 H1 x e1 s1 r1 => ?_) fun _ _ z => z)
    obtain ⟨hl, h1⟩ := post_ite h1
    refine ⟨hc s1 r1 hl, ?_⟩
    rw [Res.post_bind] at h1
    refine inA s1 (q.ext e1) e1 (h1.mono (fun my st2 h2 A2 H2 y e2 s2 r2 => ?_) fun _ _ z => z)
    obtain ⟨m, st', e, k⟩ := post_noExc h2
    exact hr s2 (r1.ext e2) r2 e (okP.ext (e1.trans e2) k)
theorem pm_bm0 {name : Str} {apos cpos : Pos} {T id : String} {r : V → List V → Hp → VK → Prop} {c : MV → Sto → Bool} {g : MV → List MV → Sto → Res MV} {o : Expr} {mo : ME}
    (pa : PlainAttrs T) (slot : Slot T name id) (hty : typeOf (.builtin id) = pure (.type "method_descriptor")) (hm : MtR X id r) (hc : OpTy (gmOf X) T c) (hr : OpMt (gmOf X) r g) (ho : PM X W o mo)
    (hbase : attributeBase o name X.env (eval o X.env) = eval o X.env := by rfl) (hline : (apos.endLine == cpos.line) = true := by rfl) :
    PM X W (.Call (.Attribute o name apos) [] [] cpos) (mMethT c g mo aNil) :=
  PE_imp (pe_bm0 pa slot hty hm ho hbase hline) fun σ H Q ⟨A, env, st, s, q, h⟩ => by
    unfold mMethT at h
    rw [Res.post_bind] at h
    refine inE s q (Ext.refl A H) (h.mono (fun mx st1 h1 A1 H1 x e1 s1 r1 => ?_) fun _ _ z => z)
    obtain ⟨hl, h1⟩ := post_ite h1
    refine ⟨hc s1 r1 hl, ?_⟩
    obtain ⟨m, st', e, k⟩ := post_noExc h1
    exact hr s1 r1 .nil e (okP.ext e1 k)
/-! ### slices -/
abbrev MOp := MEnv → Sto → Res (Option Int)
def oNone : MOp := fun _ st => .ok none st
def oSome (a : ME) : MOp := fun env st => (a env st).bind fun x st1 => match x with
  | .int i => .ok (some i) st1
  | _ => .bad
def tO (G : Gm) (W : WX) (m : MOp) : TO := fun σ H Q => ∃ A env st, SR G A H st ∧ EnvR G A H σ env ∧ (m env st).post (fun o st' => ∀ A' H', Ext A H A' H' → SR G A' H' st' → Q o H') (exP G A H (WE W σ))
abbrev PMO (X : Cx) (W : WX) (e : Option Expr) (m : MOp) : Prop := PO X e (tO (gmOf X) W m)
theorem PO_imp {e : Option Expr} {t t' : TO} (h : PO X e t) (i : ∀ σ H Q, t' σ H Q → t σ H Q) : PO X e t' := ⟨fun pins s σ H Q I q => h.run pins s σ H Q I (i σ H Q q)⟩
theorem pmo_none : PMO X W none oNone := PO_imp po_none fun σ H Q ⟨A, env, st, s, q, h⟩ => h A H (Ext.refl A H) s
theorem pmo_some (ha : PM X W a ma) : PMO X W (some a) (oSome ma) := PO_imp (po_some ha) fun σ H Q ⟨A, env, st, s, q, h⟩ => by
  unfold oSome at h
  rw [Res.post_bind] at h
  refine inE s q (Ext.refl A H) (h.mono (fun mx st1 h1 A1 H1 x e1 s1 r1 => ?_) fun _ _ z => z)
  split at h1
  · cases r1
    exact ⟨_, rfl, h1 A1 H1 e1 s1⟩
  · exact h1.elim
abbrev GSl := MV → Option Int → Option Int → Sto → Res MV
def mSl (g : GSl) (a : ME) (lo hi : MOp) : ME := fun env st => (a env st).bind fun x st1 => (lo env st1).bind fun l st2 => (hi env st2).bind fun u st3 => noExc (g x l u st3)
def OpSl (G : Gm) (r : V → Option Int → Option Int → Hp → VK → Prop) (g : GSl) : Prop := ∀ {A : Ad} {H : Hp} {st : Sto} {x : V} {mx : MV} {l u : Option Int} {Q : VK} {m : MV} {st' : Sto}, SR G A H st → Rep G A H x mx → g mx l u st = .ok m st' → okP G A H Q m st' → r x l u H Q
theorem inO {G : Gm} {A A0 : Ad} {H H0 : Hp} {σ : St} {env : MEnv} {st : Sto} {m : MOp} {Q : Option Int → Hp → Prop} (s : SR G A H st) (r : EnvR G A H σ env) (e0 : Ext A0 H0 A H) (h : (m env st).post (fun o st' => ∀ A' H', Ext A H A' H' → SR G A' H' st' → Q o H') (exP G A0 H0 (WE W σ))) : tO G W m σ H Q :=
  ⟨A, env, st, s, r, h.mono (fun _ _ q => q) fun _ _ q => q.ext e0⟩
theorem pm_sl {r : V → Option Int → Option Int → Hp → VK → Prop} {g : GSl} {lo hi : Option Expr} {ml mh : MOp} {p2 : Pos} (hs : SlR X r) (hr : OpSl (gmOf X) r g) (ha : PM X W a ma) (hl : PMO X W lo ml) (hh : PMO X W hi mh) :
    PM X W (.Subscript a (.Slice lo hi none p2) pos) (mSl g ma ml mh) := PE_imp (pe_slice hs ha hl hh) fun σ H Q ⟨A, env, st, s, q, h⟩ => by
  unfold mSl at h
  rw [Res.post_bind] at h
  refine inE s q (Ext.refl A H) (h.mono (fun mx st1 h1 A1 H1 x e1 s1 r1 => ?_) fun _ _ z => z)
  rw [Res.post_bind] at h1
  refine inO s1 (q.ext e1) e1 (h1.mono (fun l st2 h2 A2 H2 e2 s2 => ?_) fun _ _ z => z)
  rw [Res.post_bind] at h2
  have e02 := e1.trans e2
  refine inO s2 (q.ext e02) e02 (h2.mono (fun u st3 h3 A3 H3 e3 s3 => ?_) fun _ _ z => z)
  obtain ⟨m, st', e, k⟩ := post_noExc h3
  exact hr s3 ((r1.ext e2).ext e3) e (okP.ext (e02.trans e3) k)
end
end MR

/-! Promises of defs that also know that no repr runs around them (guards), and the end of a law over such a promise.
Why: HandS' own promise (FnOk) says nothing of the guards, and repr of a tuple or a list asks for them. -/
namespace MR
open PySem L2

/-- nothing of what runs around is a repr -/
abbrev NoG (A : Around) : Prop := A.guards = some []

/-- as FnOk, where no repr runs -/
structure FnG (P : Program) (w : World) (K : PySem.W.Frag) (mg : Str → Option Value) (base : Heap) (k : Nat) (f : Addr) (fd : FuncData) (ps : List Str) (sp : Sp) : Prop where
  len : ∀ vs H Q E, sp vs H Q E → vs.length = ps.length
  run : ∀ (A : Around) (outer : List Env) (s : Shared) (H : Hp) (args : Args) (us : List Value) (vs : List V) (Q : VK) (E : XK), Room k A → NoG A → Env0 P w K mg base A outer s H → BindsTo s fd args (ps.zip us) → Vals vs us → sp vs H Q E →
    codeAny (model P w) A (.call (.ref f) args) (CR (L2.CX P w) outer P w H s Q E) s

theorem FnG.mono {P : Program} {w : World} {K : PySem.W.Frag} {mg : Str → Option Value} {base : Heap} {j k : Nat} {f : Addr} {fd : FuncData} {ps : List Str} {sp : Sp} (F : FnG P w K mg base j f fd ps sp) (h : j ≤ k) : FnG P w K mg base k f fd ps sp :=
  { len := F.len, run := fun A outer s H args us vs Q E hr => F.run A outer s H args us vs Q E (hr.mono h) }
theorem FnG.of {P : Program} {w : World} {K : PySem.W.Frag} {mg : Str → Option Value} {base : Heap} {k : Nat} {f : Addr} {fd : FuncData} {ps : List Str} {sp : Sp} (F : FnOk P w K mg base (L2.CX P w) k f fd ps sp) : FnG P w K mg base k f fd ps sp :=
  { len := F.len, run := fun A outer s H args us vs Q E hr _ => F.run A outer s H args us vs Q E hr }

/-- a def of the text by its body -/
theorem fn_ofG {P : Program} {w : World} {K : PySem.W.Frag} {mg : Str → Option Value} {base : Heap} {x qual : Str} {st : Stmt} {f : Addr} {fd : FuncData} {N ps : List Str} {k : Nat} {sp : Sp} (F : Fun K x qual st f fd) (S : FnScope N ps (defScope st))
    (len : ∀ vs H Q E, sp vs H Q E → vs.length = ps.length)
    (body : ∀ (cdv : Value) (A : Around) (outer : List Env) (s : Shared) (H : Hp) (vs : List V) (Q : VK) (E : XK), NoG A → Room k (A.deeper (PyProof.Rows.envOfC qual (defScope st) s.heap.objs.size f cdv)) → sp vs H Q E →
      ∃ t, PSs (cxOf (L2.CX P w) P w K mg base N qual (defScope st) f cdv A outer s H E) (defBody st) t ∧ t { nx := fun _ H' => Q .non H', rt := Q } (start N vs) H) : FnG P w K mg base (k + 1) f fd ps sp := by
  obtain ⟨oc, od, kV, doc, pm, an, cdv, ct, osl, rfl, look, code⟩ := F.ex
  constructor
  · exact len
  intro A outer s H args us vs Q E room noG e0 binds rv hsp
  have hlen := len _ _ _ _ hsp
  have inK : K.In s.heap := e0.mod.kin.keeps fun b o e => (e0.bs b o e).1
  have noL : s.heap.NoLimit := e0.mod.nolimit.keeps fun b o e => (e0.bs b o e).1
  have kinds : ∀ y ∈ ps.zip us, (defScope st).names.lookup y.1 = some .local ∨ ((defScope st).names.lookup y.1 = some .cell ∧ ((cellsFrom (s.heap.objs.size + 1) (defScope st).names []).lookup y.1).isSome = true) := by
    rintro ⟨n, v⟩ hy
    rcases S.par n (List.of_mem_zip hy).1 with q | q
    · left; exact q
    · right; exact ⟨q, PySem.W.cellsFrom_some _ _ _ (.inl q)⟩
  apply codeAny_call_function room.depth (inK _ _ look) rfl S.co S.gen rfl (PySem.W.codeRec_of inK code) (binds _ _ _ _ _)
  apply PySem.wpAny_newFunctionEnv_cells S.kind kinds
  intro env he s1 ic
  subst he
  refine ⟨noL.keeps ic.toInCall.keep, codeAny_func ?_⟩
  obtain ⟨t, pt, qt⟩ := body cdv A outer s H vs Q E noG (room.deeper _) hsp
  have inv := inv_start (CX := L2.CX P w) (E := E) (cd := cdv) (qual := qual) (f := f) S room.hd e0 hlen rv ic
  refine wpAny_mono (pt.run [] s1 (start N vs) H _ inv qt) ?_ fun _ _ z => z
  intro fl s' hs
  cases fl with
  | ret u =>
    obtain ⟨v, _, H', J, r, q⟩ := hs
    exact ⟨v, H', J.os, J.bare, J.base, J.hok, r, q⟩
  | next =>
    obtain ⟨_, H', J, q⟩ := hs
    exact ⟨.non, H', J.os, J.bare, J.base, J.hok, rfl, q⟩
  | brk => exact hs.elim fun _ z => z.elim fun _ z => z.2.elim
  | cont => exact hs.elim fun _ z => z.elim fun _ z => z.2.elim
/-- f(e, ..) over such a promise; what is raised is wished for at the caller's slots -/
theorem pe_callG {X : Cx} {k : Nat} {f : Addr} {fd : FuncData} {ps : List Str} {sp : Sp} {E : L2.St → XK} {x : Str} {p pos : Pos} {e : Expr} {es : List Expr} {t : TA} (F : FnG X.prog X.w X.K X.mg X.base k f fd ps sp) (room : Room k X.A) (gd : NoG X.A)
    (hg : Gl X x) (hm : X.mg x = some (.ref f)) (hk : PySem.W.keepIn X.K (.ref f) = true) (hb : Binds X.K fd ps []) (hx : ∀ σ, PassesAt (L2.CX X.prog X.w) X σ (E σ))
    (ha : PA X (e :: es) t) (hdb : (x == ("__debug__" : Str)) = false := by decide) (he : starEach (e :: es) X.env = (false, eval e X.env) :: starEach es X.env := by rfl) (hpl : (backTo pos (starEach es X.env)).any (·.1) = false := by rfl) :
    PE X (.Call (.Name x p) (e :: es) [] pos) (tCallS sp E t) := by
  constructor
  intro pins s σ H Q I h
  apply PySem.wpAny_Call_Name_kw
  apply ld_glob I hg hm _ hdb
  refine PySem.W.callWith_K (h₀ := X.base) I.ok.mod.kin hk (wpAny_mono (ha.run pos pins s σ H _ I h) ?_ fun _ _ z => z) he hpl
  rintro us s1 ⟨vs, H1, J, r, q⟩
  refine ⟨J.kIn, ?_⟩
  have len : us.length = ps.length := r.length.symm.trans (F.len _ _ _ _ q)
  have b := hb s1 us J.kIn (by rw [List.append_nil]; exact len)
  rw [List.append_nil] at b
  apply wpAny_call
  refine codeAny_mono (F.run X.A X.stack s1 H1 ⟨us, []⟩ us vs Q (E σ) room gd J.env0 b r q) ?_
  intro res s2 hq
  cases res with
  | ok fl =>
    cases fl with
    | ret u => exact J.after hq
    | next => exact hq.elim
    | brk => exact hq.elim
    | cont => exact hq.elim
  | error err => exact hx σ pins H1 s1 err s2 J hq

/-- the heap in which the script alone is tracked, frozen -/
def scriptHp (a : Addr) (o : Obj) (ns : List Int) : Hp := fun b => if b = a then some (.frz o (.lst (ns.map V.int))) else none

/-- what is needed of an abstract heap at the law's entry -/
structure Entry (P : Program) (w : World) (K : PySem.W.Frag) (h : Heap) (a : Addr) (o : Obj) (ns : List Int) (H : Hp) : Prop where
  only : Only H
  scr : SqL K H a (ns.map V.int)
  ok : HOk P w H h
  at_a : ∀ b, H b ≠ none → b = a ∧ K.lookup a = none

theorem entry_of {P : Program} {w : World} {K : PySem.W.Frag} {h : Heap} {a : Addr} {vs : List Value} {ns : List Int} (inK : K.In h) (ha : h.get? a = some { cls := .type "list", data := .seq vs.toArray }) (hi : PyProof.Rows.IntsAre vs ns) (hl : ns.length ≤ sizeLine) :
    ∃ H, Entry P w K h a { cls := .type "list", data := .seq vs.toArray } ns H := by
  have lens := hi.length
  have rv := vals_ints hi
  cases hk : K.lookup a with
  | some o =>
    have same := inK a o hk
    rw [ha] at same
    cases same
    refine ⟨fun _ => none, fun _ => .inl rfl, .inr ⟨_, vs.toArray, _, hk, rfl, rfl, rfl, ?_, ?_⟩, fun b u z => (by cases z), fun b z => absurd rfl z⟩
    · rw [List.size_toArray, lens]; exact hl
    · simpa using rv
  | none =>
    refine ⟨scriptHp a { cls := .type "list", data := .seq vs.toArray } ns, fun b => ?_, .inl (.inr ⟨_, if_pos rfl⟩), fun b u z => ?_, fun b z => ⟨?_, hk⟩⟩
    · by_cases e : b = a
      · right; exact ⟨_, _, if_pos e⟩
      · left; exact if_neg e
    · by_cases e : b = a
      · subst e
        have z := (if_pos rfl).symm.trans z
        cases z
        refine ⟨ha, ?_, vs, _, rv, ha⟩
        rw [List.length_map]; exact hl
      · have z := (if_neg e).symm.trans z
        cases z
    · by_cases e : b = a
      · exact e
      · exact absurd (if_neg e) z

theorem law_callG {P : Program} {w : World} {K : PySem.W.Frag} {mg mb : Str → Option Value} {k : Nat} {fa a : Addr} {fd : FuncData} {x : Str} {sp : Sp} {s1 : Shared} {vs : List Value} {ns : List Int}
    (inK : K.In s1.heap) (hns : s1.heap.Ns mainGlobals mg) (hb : s1.heap.Ns builtinsNs mb) (hbb : ∀ x : Str, x ≠ "__name__" → mb x = bootBuiltins x) (noL : s1.heap.NoLimit) (hg : s1.gens = #[])
    (ha : s1.heap.get? a = some { cls := .type "list", data := .seq vs.toArray }) (hi : PyProof.Rows.IntsAre vs ns) (hl : ns.length ≤ sizeLine) (room : Room k callerA)
    (F : ∀ base : Heap, K.In base → base.Ns mainGlobals mg → FnG P w K mg base k fa fd [x] sp) (bind : ∀ (s : Shared) (u : Value), BindsTo s fd ⟨[u], []⟩ [(x, u)])
    (hsp : ∀ H : Hp, Only H → SqL K H a (ns.map V.int) → sp [.ref a] H (fun v _ => v = .bl true) fun _ _ _ => False) :
    codeAny (model P w) callerA (.call (.ref fa) ⟨[.ref a], []⟩) (fun r s' => r = .ok (.ret (.bool true)) ∧ OldK s1.heap s'.heap ∧ s'.os = s1.os ∧ PyProof.Rows.AllBare s'.gens) s1 := by
  obtain ⟨H, en⟩ := entry_of (P := P) (w := w) inK ha hi hl
  have low : ∀ {b : Addr} {o : Obj}, s1.heap.get? b = some o → H b = none → (hidT s1.heap H).get? b = some o := fun e n => hidT_get e n
  have dictLow : ∀ {b : Addr} {o : Obj} {es : Array DictEntry} {ep : Nat}, s1.heap.get? b = some o → o.data = .dict es ep → H b = none := by
    intro b o es ep e d
    apply Classical.byContradiction
    intro n
    obtain ⟨rfl, _⟩ := en.at_a b n
    rw [ha] at e
    cases e
    cases d
  have nsLow : ∀ {b : Addr} {m : Str → Option Value}, s1.heap.Ns b m → (hidT s1.heap H).Ns b m := by
    rintro b m ⟨o, es, ep, e, d, r⟩
    exact ⟨o, es, ep, low e (dictLow e d), d, r⟩
  have kLow : K.In (hidT s1.heap H) := by
    intro b o e
    apply low (inK b o e)
    apply Classical.byContradiction
    intro n
    obtain ⟨rfl, z⟩ := en.at_a b n
    rw [z] at e
    cases e
  have limLow : (hidT s1.heap H).NoLimit := by
    obtain ⟨mc, h1, h2⟩ := noL
    exact ⟨mc, nsLow h1, h2⟩
  have e0 : Env0 P w K mg (hidT s1.heap H) callerA [] s1 H := ⟨rfl, ⟨kLow, nsLow hns, ⟨mb, nsLow hb, hbb⟩, limLow⟩, fun b o e => of_hidT e, Nat.le_of_eq (hidT_size _ _), trivial, fun b m => absurd (show b ∈ ([] : List Addr) from m) (by simp), en.ok, .of_eq hg⟩
  have main := (F _ kLow (nsLow hns)).run callerA [] s1 H ⟨[.ref a], []⟩ [.ref a] [.ref a] _ _ room rfl e0 (bind s1 (.ref a)) (.cons rfl .nil) (hsp H en.only en.scr)
  refine codeAny_mono main fun r s' q => ?_
  cases r with
  | error e =>
    obtain ⟨_, _, _, _, _, _, _, _, _, _, _, _, z⟩ := q
    exact z.elim
  | ok fl =>
    cases fl with
    | ret u =>
      obtain ⟨v, H', os, bare, un, ok', rel, rfl⟩ := q
      obtain rfl : u = Value.bool true := rel
      refine ⟨rfl, OldK.of_keep fun b o e => ?_, os, bare⟩
      rcases en.only b with z | ⟨ob, xs, z⟩
      · exact un.keep b o e z (fun m => absurd (show b ∈ ([] : List Addr) from m) (by simp)) (by simp)
      · have e1 := (en.ok b _ z).1
        have e2 := (ok' b _ (un.frzs b ob _ z)).1
        rw [e] at e1
        cases e1
        exact e2
    | next => exact q.elim
    | brk => exact q.elim
    | cont => exact q.elim

/-- the end of a law's walk over such a promise (as L2's walk_of) -/
theorem walk_ofG {l : PySem.W.OpenLaw} {n k : Nat} {q : Program} {loose : List Str} {XP : (Str → Option Value) → Heap → Prop} {YP : World → Heap → Prop} {d : PySem.DefRec} {K : PySem.Params → PySem.W.Frag} {sp : World → Sp} {x : Str}
    (hn : l.most = some n) (hn2 : n ≤ sizeLine) (hdf : d.params.defaults = []) (room : Room k callerA)
    (hY : ∀ (w : World) (h : Heap), YP w h → (K w.params).In h)
    (F : ∀ (w : World) (mg : Str → Option Value) (fa : Addr) (h : Heap), (K w.params).In h → h.Ns mainGlobals mg → mg d.name = some (.ref fa) →
      ∃ fd : FuncData, (∀ (s : Shared) (u : Value), BindsTo s fd ⟨[u], []⟩ [(x, u)]) ∧ ∀ base : Heap, (K w.params).In base → base.Ns mainGlobals mg → FnG l.prog w (K w.params) mg base k fa fd [x] (sp w))
    (hsp : ∀ (w : World) (H : Hp) (a : Addr) (ns : List Int), ns.length ≤ n → Only H → SqL (K w.params) H a (ns.map V.int) → sp w [.ref a] H (fun v _ => v = .bl true) fun _ _ _ => False) :
    PySem.W.WalkO q loose XP YP l.row.toRowW d [] (fun f vs => PySem.call f vs) :=
  Att.attach_call hn hdf fun w s0 s1 mg mb fa o pm cd doc a vs ns G Y ho hd hcd hmg hobj hints hlen hg => by
    obtain ⟨fd, bind, FF⟩ := F w mg fa _ (hY w _ Y) G.T.g hmg
    exact law_callG (hY w _ Y) G.T.g G.T.b G.T.builtins G.T.nolimit hg hobj hints (Nat.le_trans hlen hn2) room FF bind fun H hO hS => hsp w H a ns hlen hO hS
end MR

/-! mirrors of statements, loops, comprehensions, defs -/
namespace MR
open PySem L2

/-! ### the call of a def -/
abbrev FM := List MV → Sto → Res MV
def spM (G : Gm) (n : Nat) (f : FM) : Sp := fun vs H Q E => ∃ A st ms, SR G A H st ∧ RepAll G A H vs ms ∧ ms.length = n ∧ (f ms st).post (okP G A H Q) (exP G A H E)
/-- the def x of the module does what f says -/
structure FnM (P : Program) (w : World) (K : PySem.W.Frag) (mg : Str → Option Value) (base : Heap) (k : Nat) (x : Str) (n : Nat) (f : FM) : Prop where
  ex : ∃ a fd ps, mg x = some (.ref a) ∧ PySem.W.keepIn K (.ref a) = true ∧ Binds K fd ps [] ∧ FnG P w K mg base k a fd ps (spM ⟨K, mg⟩ n f)
theorem FnM.mono {P : Program} {w : World} {K : PySem.W.Frag} {mg : Str → Option Value} {base : Heap} {j k : Nat} {x : Str} {n : Nat} {f : FM} (F : FnM P w K mg base j x n f) (h : j ≤ k) : FnM P w K mg base k x n f := by
  obtain ⟨a, fd, ps, h1, h2, h3, h4⟩ := F.ex
  exact ⟨a, fd, ps, h1, h2, h3, h4.mono h⟩
def mFn (n : Nat) (f : FM) (r : MA) : ME := fun env st => (r env st).bind fun xs st1 => if xs.length = n then f xs st1 else .bad
/-- what a call of a def lets out is wished for -/
abbrev Lets (X : Cx) (W : WX) : Prop := ∀ σ, PassesAt (L2.CX X.prog X.w) X σ (WE W σ)
theorem lets_of {X : Cx} {W : WX} (tk : Takes X W) : Lets X W := fun σ => passAt tk σ
def W0 : WX := fun _ _ _ _ => False
theorem lets0 {X : Cx} : Lets X W0 := fun σ pins H s e s' I c => by
  obtain ⟨_, _, _, _, _, _, _, _, _, _, _, _, z⟩ := c
  exact z.elim
section
variable {X : Cx} {W : WX} {pos : Pos} {a : Expr} {es : List Expr} {mr : MA}
theorem pm_fn_call {x : Str} {p : Pos} {k n : Nat} {f : FM} (F : FnM X.prog X.w X.K X.mg X.base k x n f) (hr : Room k X.A) (gd : NoG X.A) (tk : Lets X W) (ha : PMA X W (a :: es) mr) (hg : Gl X x := by rfl) (hdb : (x == ("__debug__" : Str)) = false := by decide)
    (he : starEach (a :: es) X.env = (false, eval a X.env) :: starEach es X.env := by rfl) (hpl : (backTo pos (starEach es X.env)).any (·.1) = false := by rfl) : PM X W (.Call (.Name x p) (a :: es) [] pos) (mFn n f mr) := by
  obtain ⟨c, fd, ps, h1, h2, h3, h4⟩ := F.ex
  refine PE_imp (pe_callG (E := WE W) h4 hr gd hg h1 h2 h3 tk ha hdb he hpl) fun σ H Q ⟨A, env, st, s, q, h⟩ => ?_
  unfold mFn at h
  rw [Res.post_bind] at h
  refine inA s q (Ext.refl A H) (h.mono (fun mx st1 h1 A1 H1 x e1 s1 r1 => ?_) fun _ _ z => z)
  obtain ⟨hl, k⟩ := post_ite h1
  exact ⟨A1, st1, mx, s1, r1, hl, k.mono (fun _ _ q => q.ext e1) fun _ _ q => q.ext e1⟩
end

/-! ### statements -/
inductive Flw where
  | nx (env : MEnv) (st : Sto)
  | rt (m : MV) (st : Sto)
  | bk (env : MEnv) (st : Sto)
  | ct (env : MEnv) (st : Sto)
  | exc (c : Str) (env : MEnv) (st : Sto)
  | bad
abbrev MS := MEnv → Sto → Flw
def stP (G : Gm) (A : Ad) (H : Hp) (P : St → Hp → Prop) (env : MEnv) (st : Sto) : Prop := ∀ A' H' σ', Ext A H A' H' → SR G A' H' st → EnvR G A' H' σ' env → P σ' H'
def exS (G : Gm) (A : Ad) (H : Hp) (W : WX) (c : Str) (env : MEnv) (st : Sto) : Prop := ∀ A' H' σ' C, Ext A H A' H' → SR G A' H' st → EnvR G A' H' σ' env → G.mg c = some (.ref C) → W (.ref C) none σ' H'
def Flw.post (f : Flw) (G : Gm) (A : Ad) (H : Hp) (W : WX) (D : Ends) : Prop := match f with
  | .nx env st => stP G A H D.nx env st
  | .rt m st => okP G A H D.rt m st
  | .bk env st => stP G A H D.bk env st
  | .ct env st => stP G A H D.ct env st
  | .exc c env st => exS G A H W c env st
  | .bad => False
section
variable {G : Gm} {A A' : Ad} {H H' : Hp} {W : WX}
theorem stP.ext {P : St → Hp → Prop} {env : MEnv} {st : Sto} (e : Ext A H A' H') (h : stP G A H P env st) : stP G A' H' P env st := fun B I σ f s r => h B I σ (e.trans f) s r
theorem exS.ext {env : MEnv} {st : Sto} {c : Str} (e : Ext A H A' H') (h : exS G A H W c env st) : exS G A' H' W c env st := fun B I σ C f s r => h B I σ C (e.trans f) s r
theorem Flw.post.ext {f : Flw} {D : Ends} (e : Ext A H A' H') (h : f.post G A H W D) : f.post G A' H' W D := by
  cases f with
  | nx env st => exact stP.ext e h
  | rt m st => exact okP.ext e h
  | bk env st => exact stP.ext e h
  | ct env st => exact stP.ext e h
  | exc c env st => exact exS.ext e h
  | bad => exact h
end
def tS (G : Gm) (W : WX) (m : MS) : TS := fun D σ H => ∃ A env st, SR G A H st ∧ EnvR G A H σ env ∧ (m env st).post G A H W D
abbrev PMS (X : Cx) (W : WX) (s : Stmt) (m : MS) : Prop := PS X s (tS (gmOf X) W m)
abbrev PMSs (X : Cx) (W : WX) (s : List Stmt) (m : MS) : Prop := PSs X s (tS (gmOf X) W m)
section
variable {X : Cx}
theorem PS_imp {s : Stmt} {t t' : TS} (h : PS X s t) (i : ∀ D σ H, t' D σ H → t D σ H) : PS X s t' := ⟨fun pins s σ H D I q => h.run pins s σ H D I (i D σ H q)⟩
theorem PSs_imp {s : List Stmt} {t t' : TS} (h : PSs X s t) (i : ∀ D σ H, t' D σ H → t D σ H) : PSs X s t' := ⟨fun pins s σ H D I q => h.run pins s σ H D I (i D σ H q)⟩
end
theorem inS {G : Gm} {W : WX} {A A0 : Ad} {H H0 : Hp} {σ : St} {env : MEnv} {st : Sto} {m : MS} {D : Ends} (s : SR G A H st) (r : EnvR G A H σ env) (e0 : Ext A0 H0 A H) (h : (m env st).post G A0 H0 W D) : tS G W m D σ H :=
  ⟨A, env, st, s, r, h.ext e0⟩
/-- an expression within a statement -/
def bindE {α : Type} (r : Res α) (env : MEnv) (f : α → Sto → Flw) : Flw := match r with
  | .ok a st => f a st
  | .exc c st => .exc c env st
  | .bad => .bad
theorem post_bindE {α : Type} {r : Res α} {env : MEnv} {f : α → Sto → Flw} {G : Gm} {A : Ad} {H : Hp} {W : WX} {D : Ends} (h : (bindE r env f).post G A H W D) : r.post (fun a st => (f a st).post G A H W D) (fun c st => exS G A H W c env st) := by
  cases r <;> exact h
theorem exP_of {G : Gm} {A : Ad} {H : Hp} {W : WX} {env : MEnv} {σ : St} (q : EnvR G A H σ env) {c : Str} {st : Sto} (h : exS G A H W c env st) : exP G A H (WE W σ) c st := fun A' H' C e s m => h A' H' σ C e s (q.ext e) m
def sNext : MS := fun env st => .nx env st
def sSeq (a b : MS) : MS := fun env st => match a env st with
  | .nx env' st' => b env' st'
  | r => r
def sSet (i : Nat) (a : ME) : MS := fun env st => bindE (a env st) env fun m st' => .nx (env.set i (some m)) st'
def sExpr (a : ME) : MS := fun env st => bindE (a env st) env fun _ st' => .nx env st'
def sRet (a : ME) : MS := fun env st => bindE (a env st) env fun m st' => .rt m st'
def sRetN : MS := fun _ st => .rt .non st
def sIf (c : MT) (a b : MS) : MS := fun env st => bindE (c env st) env fun k st' => if k = true then a env st' else b env st'
def sBreak : MS := fun env st => .bk env st
def sCont : MS := fun env st => .ct env st
def sRaise (x : Str) : MS := fun env st => .exc x env st
section
variable {X : Cx} {W : WX} {pos : Pos} {a c : Expr} {ma : ME} {mc : MT} {s : Stmt} {rest s1 s2 : List Stmt} {m1 m2 : MS}
theorem pms_nil : PMSs X W [] sNext := PSs_imp pss_nil fun D σ H ⟨A, env, st, s, q, h⟩ => h A H σ (Ext.refl A H) s q
theorem pms_cons (h1 : PMS X W s m1) (h2 : PMSs X W rest m2) : PMSs X W (s :: rest) (sSeq m1 m2) := PSs_imp (pss_cons h1 h2) fun D σ H ⟨A, env, st, s, q, h⟩ => by
  refine ⟨A, env, st, s, q, ?_⟩
  unfold sSeq at h
  cases e : m1 env st with
  | nx env' st' => rw [e] at h; exact fun A1 H1 σ1 e1 s1 q1 => inS s1 q1 e1 h
  | rt m st' => rw [e] at h; exact h
  | bk env' st' => rw [e] at h; exact h
  | ct env' st' => rw [e] at h; exact h
  | exc c env' st' => rw [e] at h; exact h
  | bad => rw [e] at h; exact h
theorem pms_one (h1 : PMS X W s m1) : PMSs X W [s] m1 := pss_one h1
theorem pms_set {x : Str} {pos' : Pos} (i : Nat) (hN : X.N.Nodup) (he : PM X W a ma) (hi : X.N[i]? = some x := by rfl) (hx : Loc X.env.scope x := by first | exact .inl rfl | exact .inr rfl) (hs : swapsWith a (some (.Name x pos')) pos.line X.env = pure false := by rfl)
    (hf : X.fn x = true ∨ X.env.scope.names.lookup x = some .local := by first | exact .inl rfl | exact .inr rfl | assumption) : PMS X W (.Assign [.Name x pos'] a pos) (sSet i ma) :=
  PS_imp (ps_set hN hi hx he hs hf) fun D σ H ⟨A, env, st, s, q, h⟩ => by
    refine inE s q (Ext.refl A H) ((post_bindE h).mono (fun mx st1 h1 A1 H1 x e1 s1 r1 => ?_) fun _ _ z => exP_of q z)
    exact h1 A1 H1 _ e1 s1 ((q.ext e1).set i r1)
theorem pms_expr (he : PM X W a ma) (hs : swapsWith a none pos.line X.env = pure false := by rfl) : PMS X W (.Expr a pos) (sExpr ma) := PS_imp (ps_expr he hs) fun D σ H ⟨A, env, st, s, q, h⟩ =>
  inE s q (Ext.refl A H) ((post_bindE h).mono (fun mx st1 h1 A1 H1 x e1 s1 r1 => h1 A1 H1 _ e1 s1 (q.ext e1)) fun _ _ z => exP_of q z)
theorem pms_ret (he : PM X W a ma) : PMS X W (.Return (some a) pos) (sRet ma) := PS_imp (ps_ret he) fun D σ H ⟨A, env, st, s, q, h⟩ =>
  inE s q (Ext.refl A H) ((post_bindE h).mono (fun mx st1 h1 A1 H1 x e1 s1 r1 => h1 A1 H1 _ e1 s1 r1) fun _ _ z => exP_of q z)
theorem pms_retN : PMS X W (.Return none pos) sRetN := PS_imp ps_retN fun D σ H ⟨A, env, st, s, q, h⟩ => h A H .non (Ext.refl A H) s .non
theorem pms_if (hc : PMT X W c mc) (h1 : PMSs X W s1 m1) (h2 : PMSs X W s2 m2) : PMS X W (.If c s1 s2 pos) (sIf mc m1 m2) := PS_imp (ps_if hc h1 h2) fun D σ H ⟨A, env, st, s, q, h⟩ => by
  refine inT s q (Ext.refl A H) ((post_bindE h).mono (fun b st1 h1 A1 H1 e1 s1 => ?_) fun _ _ z => exP_of q z)
  cases b with
  | true => exact inS s1 (q.ext e1) e1 h1
  | false => exact inS s1 (q.ext e1) e1 h1
theorem pms_break : PMS X W (.Break pos) sBreak := PS_imp ps_break fun D σ H ⟨A, env, st, s, q, h⟩ => h A H σ (Ext.refl A H) s q
theorem pms_cont : PMS X W (.Continue pos) sCont := PS_imp ps_continue fun D σ H ⟨A, env, st, s, q, h⟩ => h A H σ (Ext.refl A H) s q
theorem pms_raise {x : Str} {C : Addr} {t : St → Hp → XK → Prop} (hc : X.calm = true) (tk : Takes X W) (hC : X.mg x = some (.ref C)) (he : PMk X a (fun _ H Q => Q (.ref C) none H)) : PMS X W (.Raise (some a) none pos) (sRaise x) :=
  PS_imp (ps_raise hc tk he) fun D σ H ⟨A, env, st, s, q, h⟩ => h A H σ C (Ext.refl A H) s q hC
end

/-! ### targets -/
abbrev MTg := MV → MEnv → Sto → Option (MEnv × Sto)
def tG (G : Gm) (g : MTg) : TG := fun v σ H Q => ∃ A env st m, SR G A H st ∧ EnvR G A H σ env ∧ Rep G A H v m ∧ ∃ env' st', g m env st = some (env', st') ∧ stP G A H Q env' st'
abbrev PMG (X : Cx) (e : Expr) (g : MTg) : Prop := PG X e (tG (gmOf X) g)
abbrev MTgs := List MV → MEnv → Sto → Option (MEnv × Sto)
def tGs (G : Gm) (g : MTgs) : TGs := fun vs σ H Q => ∃ A env st ms, SR G A H st ∧ EnvR G A H σ env ∧ RepAll G A H vs ms ∧ ∃ env' st', g ms env st = some (env', st') ∧ stP G A H Q env' st'
abbrev PMGs (X : Cx) (es : List Expr) (g : MTgs) : Prop := PGs X es (tGs (gmOf X) g)
section
variable {X : Cx} {e : Expr} {es : List Expr} {g : MTg} {gs : MTgs} {pos : Pos}
theorem PG_imp {t t' : TG} (h : PG X e t) (i : ∀ v σ H Q, t' v σ H Q → t v σ H Q) : PG X e t' := ⟨fun pins s σ H v u Q I r q => h.run pins s σ H v u Q I r (i v σ H Q q)⟩
theorem PGs_imp {t t' : TGs} (h : PGs X es t) (i : ∀ v σ H Q, t' v σ H Q → t v σ H Q) : PGs X es t' := ⟨fun pins s σ H v u Q I r q => h.run pins s σ H v u Q I r (i v σ H Q q)⟩
def gN (i : Nat) : MTg := fun m env st => some (env.set i (some m), st)
theorem pmg_name {x : Str} (i : Nat) (hN : X.N.Nodup) (hi : X.N[i]? = some x := by rfl) (hx : Loc X.env.scope x := by first | exact .inl rfl | exact .inr rfl) (hf : X.fn x = true ∨ X.env.scope.names.lookup x = some .local := by first | exact .inl rfl | exact .inr rfl | assumption) : PMG X (.Name x pos) (gN i) :=
  PG_imp (pg_name hN hi hx hf) fun v σ H Q ⟨A, env, st, m, s, q, r, env', st', e1, k⟩ => by
    cases e1
    exact k A H _ (Ext.refl A H) s (q.set i r)
def gNilM : MTgs := fun ms env st => match ms with
  | [] => some (env, st)
  | _ => none
def gConsM (g : MTg) (gs : MTgs) : MTgs := fun ms env st => match ms with
  | m :: r => (g m env st).bind fun p => gs r p.1 p.2
  | [] => none
theorem pmgs_nil : PMGs X [] gNilM := PGs_imp pgs_nil fun v σ H Q ⟨A, env, st, m, s, q, r, env', st', e1, k⟩ => by
  cases r with
  | nil => cases e1; exact ⟨rfl, k A H _ (Ext.refl A H) s q⟩
  | cons _ _ => cases e1
theorem pmgs_cons (h1 : PMG X e g) (h2 : PMGs X es gs) (hst : (assignEach (e :: es) X.env).map (·.2) = assign e X.env :: (assignEach es X.env).map (·.2) := by rfl) : PMGs X (e :: es) (gConsM g gs) :=
  PGs_imp (pgs_cons h1 h2 hst) fun v σ H Q ⟨A, env, st, m, s, q, r, env', st', e1, k⟩ => by
    cases r with
    | nil => cases e1
    | @cons v vs m ms r rs =>
      have e1 : (g m env st).bind (fun p => gs ms p.1 p.2) = some (env', st') := e1
      cases eg : g m env st with
      | none => rw [eg] at e1; cases e1
      | some p =>
        rw [eg] at e1
        obtain ⟨env1, st1⟩ := p
        refine ⟨v, vs, rfl, A, env, st, m, s, q, r, env1, st1, eg, fun A1 H1 σ1 x1 s1 q1 => ?_⟩
        exact ⟨A1, env1, st1, ms, s1, q1, rs.ext x1, env', st', e1, k.ext x1⟩
/-- a, b, .. of a tuple -/
def gT (n : Nat) (gs : MTgs) : MTg := fun m env st => match m with
  | .tup xs => if xs.length = n then gs xs env st else none
  | _ => none
theorem pmg_tup {k n : Nat} (h : PMGs X es gs) (hc : X.calm = true := by rfl) (hn : (assignEach es X.env).length = n := by rfl) (hst : (assignEach es X.env).findIdx? (·.1) = none := by rfl) : PMG X (.Tuple es k pos) (gT n gs) :=
  PG_imp (pg_tup hc h hn hst) fun v σ H Q ⟨A, env, st, m, s, q, r, env', st', e1, k⟩ => by
    cases r with
    | @tup a vs ms h1 h2 =>
      have e1 : (if ms.length = n then gs ms env st else none) = some (env', st') := e1
      by_cases hl : ms.length = n
      · rw [if_pos hl] at e1
        exact ⟨a, vs, rfl, h1.sq, by rw [h2.length]; exact hl, A, env, st, ms, s, q, h2, env', st', e1, k⟩
      · rw [if_neg hl] at e1; cases e1
    | _ => cases e1
def sAsg (g : MTg) (a : ME) : MS := fun env st => bindE (a env st) env fun m st' => match g m env st' with
  | some (env', st'') => .nx env' st''
  | none => .bad
theorem pms_asg {W : WX} {tg a : Expr} {ma : ME} (he : PM X W a ma) (hg : PMG X tg g) (hs : swapsWithSole [tg] a pos.line X.env = pure false := by rfl) (hw : swappedStores [tg] a X.env = pure none := by rfl)
    (h1 : (assignEach [tg] X.env).map (·.2) = [assign tg X.env] := by rfl) : PMS X W (.Assign [tg] a pos) (sAsg g ma) :=
  PS_imp (ps_asg he hg hs hw h1) fun D σ H ⟨A, env, st, s, q, h⟩ => by
    refine inE s q (Ext.refl A H) ((post_bindE h).mono (fun mx st1 h1 A1 H1 x e1 s1 r1 => ?_) fun _ _ z => exP_of q z)
    cases eg : g mx env st1 with
    | none => rw [eg] at h1; exact h1.elim
    | some p =>
      rw [eg] at h1
      exact ⟨A1, env, st1, mx, s1, q.ext e1, r1, p.1, p.2, by rw [eg], stP.ext e1 h1⟩
end

/-! ### what is walked -/
/-- J gives ys, one by one, as long as what is not the store's stands -/
def ItM (G : Gm) (A0 : Ad) (H0 : Hp) (J : It) (ys : List MV) : Prop := ∀ A H st, ExtW A0 H0 A H → SR G A H st →
  (∀ i, i < ys.length → J.go i H) ∧ J.stop ys.length H ∧ ∀ i x H', i < ys.length → J.yld i H x H' → Ext A H A H' ∧ SR G A H' st ∧ ∃ m, ys[i]? = some m ∧ Rep G A H' x m
def tI (G : Gm) (W : WX) (m : MA) : TI := fun σ H R => ∃ A env st, SR G A H st ∧ EnvR G A H σ env ∧ (m env st).post (fun ys st' => ∀ A' H' J, Ext A H A' H' → SR G A' H' st' → ItM G A' H' J ys → R J H') (exP G A H (WE W σ))
abbrev PMI (X : Cx) (W : WX) (tg it : Expr) (m : MA) : Prop := PI X tg it (tI (gmOf X) W m)
theorem PI_imp {X : Cx} {tg it : Expr} {t t' : TI} (h : PI X tg it t) (i : ∀ σ H R, t' σ H R → t σ H R) : PI X tg it t' := ⟨fun pins s σ H R I q => h.run pins s σ H R I (i σ H R q)⟩
theorem ItM.ext {G : Gm} {A A' : Ad} {H H' : Hp} {J : It} {ys : List MV} (e : Ext A H A' H') (h : ItM G A H J ys) : ItM G A' H' J ys := fun B I st x s => h B I st (e.w.trans x) s
theorem ItM.walk {G : Gm} {A0 : Ad} {H0 : Hp} {J : It} {ys : List MV} (h : ItM G A0 H0 J ys) : Walk J ys.length (fun H => ∃ A st, ExtW A0 H0 A H ∧ SR G A H st)
    (fun i H x H' => ∀ A st, ExtW A0 H0 A H → SR G A H st → Ext A H A H' ∧ SR G A H' st ∧ ∃ m, ys[i]? = some m ∧ Rep G A H' x m) where
  goes := fun i H hi ⟨A, st, e, s⟩ => (h A H st e s).1 i hi
  stops := fun H ⟨A, st, e, s⟩ => (h A H st e s).2.1
  yields := fun i H x H' hi _ y A st e s => (h A H st e s).2.2 i x H' hi y
/-- the items of a tuple or of a list that does not change -/
def frozen (m : MV) : Option (List MV) := match m with
  | .tup xs => some xs
  | .lst xs => some xs
  | _ => none
def iSeq (a : ME) : MA := fun env st => (a env st).bind fun m st' => match frozen m with
  | some xs => .ok xs st'
  | none => .bad
theorem itm_list {G : Gm} {A : Ad} {H : Hp} {a : Addr} {vs : List V} {ms : List MV} (h : H a = some (.lst vs)) (n : ¬ A.has a) (r : RepAll G A H vs ms) : ItM G A H (Itl G.K a) ms := fun B I st e s => by
  have h1 : I a = some (.lst vs) := e.keep a _ n h
  have r1 := r.extW e
  have hl := r.length
  refine ⟨fun i hi => ?_, ⟨vs, SqL.of h1, by omega⟩, fun i x H' hi y => ?_⟩
  · have h2 : i < vs.length := by omega
    exact ⟨vs, vs[i], SqL.of h1, List.getElem?_eq_getElem h2⟩
  · obtain ⟨rfl, y⟩ := y
    obtain ⟨m, e1, r2⟩ := r1.at' (y vs (SqL.of h1))
    exact ⟨Ext.refl _ _, s, m, e1, r2⟩
theorem itm_tup {G : Gm} {A : Ad} {H : Hp} {a : Addr} {vs : List V} {ms : List MV} (h : FzT G A H a vs) (r : RepAll G A H vs ms) : ItM G A H (Itt G.K a) ms := fun B I st e s => by
  have h1 : SqT G.K I a vs := (h.extW e).sq
  have r1 := r.extW e
  have hl := r.length
  refine ⟨fun i hi => ?_, ⟨vs, h1, by omega⟩, fun i x H' hi y => ?_⟩
  · have h2 : i < vs.length := by omega
    exact ⟨vs, vs[i], h1, List.getElem?_eq_getElem h2⟩
  · obtain ⟨rfl, y⟩ := y
    obtain ⟨m, e1, r2⟩ := r1.at' (y vs h1)
    exact ⟨Ext.refl _ _, s, m, e1, r2⟩
theorem PI_or {X : Cx} {tg it : Expr} {t t' u : TI} (h : PI X tg it t) (h' : PI X tg it t') (i : ∀ σ H R, u σ H R → t σ H R ∨ t' σ H R) : PI X tg it u := ⟨fun pins s σ H R I q => by
  rcases i σ H R q with q | q
  · exact h.run pins s σ H R I q
  · exact h'.run pins s σ H R I q⟩
/-- for x in e, e a list or a tuple, as its value tells -/
def iSq (K : PySem.W.Frag) (te : TE) : TI := fun σ H R => te σ H fun x H1 => ∃ a, x = .ref a ∧ (((∃ xs, SqL K H1 a xs) ∧ R (Itl K a) H1) ∨ ((∃ xs, SqT K H1 a xs) ∧ R (Itt K a) H1))
theorem pi_sq {X : Cx} {tg l : Expr} {tl : TE} (hl : PE X l tl) : PI X tg l (iSq X.K tl) := by
  refine ⟨fun pins s σ H R I h => ?_⟩
  refine thn (hl.run pins s σ H _ I h) fun v s1 ⟨x, H1, I1, r1, a, ex, q⟩ => ?_
  subst ex
  cases r1
  rcases q with ⟨⟨xs, hq⟩, q⟩ | ⟨⟨xs, hq⟩, q⟩
  · obtain ⟨its, rv, p, hz⟩ := I1.list hq
    refine wpAny_pyIter_list p.isList ?_
    refine ⟨s1.heap.objs.size, [s1.heap.objs.size], _, _, H1, rfl, I1.kept (t' := s1.toks) fun b o e => Heap.get?_push_of_some _ e, turn_list a _, ⟨_, Heap.get?_push_size _ rfl, rfl, rfl⟩, fun b hb => ?_, q⟩
    rw [List.mem_singleton.mp hb]
    exact I1.fpOk (Nat.le_refl _) (I1.hok.fresh (Nat.le_refl _))
  · obtain ⟨its, rv, p, hz⟩ := I1.tuple hq
    refine wpAny_pyIter_tuple (show s1.heap.IsTuple a its.toArray from p) ?_
    refine ⟨s1.heap.objs.size, [s1.heap.objs.size], _, _, H1, rfl, I1.kept (t' := s1.toks) fun b o e => Heap.get?_push_of_some _ e, turn_tuple a _, ⟨_, Heap.get?_push_size _ rfl, rfl, rfl⟩, fun b hb => ?_, q⟩
    rw [List.mem_singleton.mp hb]
    exact I1.fpOk (Nat.le_refl _) (I1.hok.fresh (Nat.le_refl _))
section
variable {X : Cx} {W : WX} {tg it : Expr} {ma : ME}
theorem pmi_seq (ha : PM X W it ma) : PMI X W tg it (iSeq ma) := PI_imp (pi_sq ha) fun σ H R ⟨A, env, st, s, q, h⟩ => by
  unfold iSeq at h
  rw [Res.post_bind] at h
  refine inE s q (Ext.refl A H) (h.mono (fun mx st1 h1 A1 H1 x e1 s1 r1 => ?_) fun _ _ z => z)
  cases r1 with
  | @tup a vs ms f r => exact ⟨a, rfl, .inr ⟨⟨vs, f.sq⟩, h1 A1 H1 _ e1 s1 (itm_tup f r)⟩⟩
  | @lst a vs ms f n r => exact ⟨a, rfl, .inl ⟨⟨vs, SqL.of f⟩, h1 A1 H1 _ e1 s1 (itm_list f n r)⟩⟩
  | _ => exact h1.elim
/-- a text, sign by sign -/
def iTxt (a : ME) : MA := fun env st => (a env st).bind fun m st' => match m with
  | .str z => .ok (z.cps.toList.map fun c => .str ⟨#[c]⟩) st'
  | _ => .bad
theorem pmi_txt (ha : PM X W it ma) : PMI X W tg it (iTxt ma) := PI_imp (pi_str ha) fun σ H R ⟨A, env, st, s, q, h⟩ => by
  unfold iTxt at h
  rw [Res.post_bind] at h
  refine inE s q (Ext.refl A H) (h.mono (fun mx st1 h1 A1 H1 x e1 s1 r1 => ?_) fun _ _ z => z)
  cases r1 with
  | str z =>
    refine ⟨z, rfl, h1 A1 H1 _ e1 s1 fun B I st e s => ?_⟩
    have w := walk_str (z := z)
    have hl : (z.cps.toList.map fun c => MV.str ⟨#[c]⟩).length = z.cps.size := by simp
    rw [hl]
    refine ⟨fun i hi => w.goes i I hi trivial, w.stops I trivial, fun i x H' hi y => ?_⟩
    obtain ⟨rfl, c, ec, ex⟩ := w.yields i I x H' hi trivial y
    subst ex
    refine ⟨Ext.refl _ _, s, .str ⟨#[c]⟩, ?_, .str _⟩
    rw [List.getElem?_map]
    have : z.cps.toList[i]? = some c := by simpa using ec
    rw [this]
    rfl
  | _ => exact h1.elim
/-- range(n), range(a, b) -/
def rngL (lo : Int) (n : Nat) : List MV := (List.range n).map fun (i : Nat) => .int (lo + (i : Int))
def iRng (r : MA) : MA := fun env st => (r env st).bind fun xs st' => match xs with
  | [.int n] => if -1000000000 ≤ n ∧ n ≤ 1000000000 then .ok (rngL 0 n.toNat) st' else .bad
  | _ => .bad
def iRng2 (r : MA) : MA := fun env st => (r env st).bind fun xs st' => match xs with
  | [.int a, .int b] => if (-1000000000 ≤ a ∧ a ≤ 1000000000) ∧ (-1000000000 ≤ b ∧ b ≤ 1000000000) then .ok (rngL a (b - a).toNat) st' else .bad
  | _ => .bad
theorem itm_rng {G : Gm} {A : Ad} {H : Hp} {lo : Int} {n : Nat} : ItM G A H (Itr lo n) (rngL lo n) := fun B I st e s => by
  have w := walk_range (lo := lo) (n := n)
  have hl : (rngL lo n).length = n := by simp [rngL]
  rw [hl]
  refine ⟨fun i hi => w.goes i I hi trivial, w.stops I trivial, fun i x H' hi y => ?_⟩
  obtain ⟨rfl, ex⟩ := w.yields i I x H' hi trivial y
  subst ex
  refine ⟨Ext.refl _ _, s, .int (lo + i), ?_, .int _⟩
  simp [rngL, List.getElem?_range hi]
variable {mr : MA} {a b : Expr} {p pos : Pos}
theorem pmi_rng (hm : X.mg "range" = none) (ha : PMA X W [a] mr) (hg : Gl X "range" := by rfl) (hs : starEach [a] X.env = [(false, eval a X.env)] := by rfl) : PMI X W tg (.Call (.Name "range" p) [a] [] pos) (iRng mr) :=
  PI_imp (pi_range1 hg hm ha hs) fun σ H R ⟨A, env, st, s, q, h⟩ => by
    unfold iRng at h
    rw [Res.post_bind] at h
    refine inA s q (Ext.refl A H) (h.mono (fun mx st1 h1 A1 H1 x e1 s1 r1 => ?_) fun _ _ z => z)
    split at h1
    · obtain ⟨hl, k⟩ := post_ite h1
      cases r1 with
      | cons r rs =>
        cases rs
        cases r
        exact ⟨_, rfl, by omega, by omega, k A1 H1 _ e1 s1 itm_rng⟩
    · exact h1.elim
end

/-! ### for -/
def forM (g : MTg) (body : MS) : List MV → MEnv → Sto → Flw
  | [], env, st => .nx env st
  | y :: ys, env, st => match g y env st with
    | none => .bad
    | some (env1, st1) => match body env1 st1 with
      | .nx env2 st2 => forM g body ys env2 st2
      | .ct env2 st2 => forM g body ys env2 st2
      | .bk env2 st2 => .nx env2 st2
      | .rt m st2 => .rt m st2
      | .exc c env2 st2 => .exc c env2 st2
      | .bad => .bad
def sFor (mi : MA) (g : MTg) (body : MS) : MS := fun env st => bindE (mi env st) env fun ys st1 => forM g body ys env st1
theorem pms_for {X : Cx} {W : WX} {tg it : Expr} {mi : MA} {g : MTg} {body : List Stmt} {mb : MS} {pos : Pos} (hp : PassesOwn (model X.prog X.w) X.A X.env X.xe) (hi : PMI X W tg it mi) (hg : PMG X tg g) (hb : PMSs X W body mb) (hc : X.calm = true := by rfl)
    (hs : ∀ x, foldedSetIterable it X.env x = pure x := by intro _; rfl) : PMS X W (.For tg it body [] pos) (sFor mi g mb) :=
  PS_imp (ps_for hp hc hi hg hb hs) fun D σ H ⟨A, env, st, s, q, h⟩ => by
    refine ⟨A, env, st, s, q, (post_bindE h).mono (fun ys st1 h1 A1 H1 J e1 s1 it => ?_) fun _ _ z => exP_of q z⟩
    refine for_it it.walk (fun i σ' H' => ∃ A' env' st', Ext A1 H1 A' H' ∧ SR (gmOf X) A' H' st' ∧ EnvR (gmOf X) A' H' σ' env' ∧ (forM g mb (ys.drop i) env' st').post (gmOf X) A' H' W D)
      ⟨A1, env, st1, Ext.refl _ _, s1, q.ext e1, Flw.post.ext e1 h1⟩ (fun i σ' H' _ ⟨A', env', st', x', s', _, _⟩ => ⟨A', st', x'.w, s'⟩) (fun i x σ' H' H2 hlt ⟨A', env', st', x', s', q', h'⟩ y => ?_) (fun σ' H' ⟨A', env', st', x', s', q', h'⟩ => ?_)
    · obtain ⟨x2, s2, m, em, r2⟩ := y A' st' x'.w s'
      have ed : ys.drop i = m :: ys.drop (i + 1) := by
        rw [List.drop_eq_getElem_cons hlt]
        rw [List.getElem?_eq_getElem hlt] at em
        rw [Option.some.inj em]
      rw [ed] at h'
      unfold forM at h'
      cases eg : g m env' st' with
      | none => rw [eg] at h'; exact h'.elim
      | some p =>
        obtain ⟨env1, st2⟩ := p
        rw [eg] at h'
        refine ⟨A', env', st', m, s2, q'.ext x2, r2, env1, st2, eg, fun A3 H3 σ3 x3 s3 q3 => ?_⟩
        refine ⟨A3, env1, st2, s3, q3, ?_⟩
        have x13 := (x'.trans x2).trans x3
        have go : ∀ {env2 : MEnv} {st4 : Sto}, (forM g mb (ys.drop (i + 1)) env2 st4).post (gmOf X) A' H' W D → stP (gmOf X) A3 H3 (fun σ' H' => ∃ A' env' st', Ext A1 H1 A' H' ∧ SR (gmOf X) A' H' st' ∧ EnvR (gmOf X) A' H' σ' env' ∧ (forM g mb (ys.drop (i + 1)) env' st').post (gmOf X) A' H' W D) env2 st4 :=
          fun {env2 st4} hh A4 H4 σ4 x4 s4 q4 => ⟨A4, env2, st4, x13.trans x4, s4, q4, hh.ext ((x2.trans x3).trans x4)⟩
        have h' : Flw.post (match mb env1 st2 with
          | .nx env2 st2 => forM g mb (ys.drop (i + 1)) env2 st2
          | .ct env2 st2 => forM g mb (ys.drop (i + 1)) env2 st2
          | .bk env2 st2 => .nx env2 st2
          | .rt m st2 => .rt m st2
          | .exc c env2 st2 => .exc c env2 st2
          | .bad => .bad) (gmOf X) A' H' W D := h'
        cases eb : mb env1 st2 with
        | nx env2 st4 => rw [eb] at h'; exact go h'
        | ct env2 st4 => rw [eb] at h'; exact go h'
        | bk env2 st4 => rw [eb] at h'; exact stP.ext (x2.trans x3) h'
        | rt m st4 => rw [eb] at h'; exact okP.ext (x2.trans x3) h'
        | exc c env2 st4 => rw [eb] at h'; exact exS.ext (x2.trans x3) h'
        | bad => rw [eb] at h'; exact h'
    · rw [List.drop_length] at h'
      exact h' A' H' σ' (Ext.refl _ _) s' q'
end MR

/-! mirrors of comprehensions and of whole defs -/
namespace MR
open PySem L2

/-! ### comprehensions -/
def wipeM (env : MEnv) : List Nat → MEnv
  | [] => env
  | v :: vs => (wipeM env vs).set v none
theorem EnvR.drop1 {G : Gm} {A : Ad} {H : Hp} {σ : St} {env : MEnv} (h : EnvR G A H σ env) (i : Nat) : EnvR G A H (σ.set i none) (env.set i none) := by
  refine ⟨by simp [h.len], fun j m' hj => ?_⟩
  by_cases e : i = j
  · subst e
    by_cases hl : i < env.length
    · rw [List.getElem?_set_self hl] at hj; cases hj
    · rw [List.getElem?_eq_none (by simpa using hl)] at hj; cases hj
  · rw [List.getElem?_set_ne e] at hj
    obtain ⟨w, a, q⟩ := h.get j m' hj
    exact ⟨w, by rw [List.getElem?_set_ne e]; exact a, q⟩
theorem EnvR.wipe {G : Gm} {A : Ad} {H : Hp} {σ : St} {env : MEnv} (h : EnvR G A H σ env) : ∀ vs : List Nat, EnvR G A H (L2.wipe σ vs) (wipeM env vs)
  | [] => h
  | v :: vs => (EnvR.wipe h vs).drop1 v
theorem wipe_set {σ : St} {i : Nat} {x : Option V} : ∀ {vs : List Nat}, i ∈ vs → wipe (σ.set i x) vs = wipe σ vs
  | [], h => by cases h
  | v :: vs, h => by
    unfold wipe
    by_cases e : i ∈ vs
    · rw [wipe_set e]
    · have e2 : i = v := by
        rcases List.mem_cons.mp h with h | h
        · exact h
        · exact absurd h e
      subst e2
      have z : ∀ {us : List Nat} {τ : St}, i ∉ us → wipe (τ.set i x) us = (wipe τ us).set i x := by
        intro us
        induction us with
        | nil => intro τ _; rfl
        | cons u us ih =>
          intro τ hn
          have h1 : i ≠ u := fun q => hn (by rw [q]; exact List.mem_cons_self)
          have h2 : i ∉ us := fun q => hn (List.mem_cons_of_mem _ q)
          show (wipe (τ.set i x) us).set u Option.none = ((wipe τ us).set u Option.none).set i x
          rw [ih h2]
          exact List.set_comm _ _ h1
      rw [z e, List.set_set]
theorem wipe_wipe {σ : St} : ∀ {us vs : List Nat}, (∀ i ∈ us, i ∈ vs) → wipe (wipe σ us) vs = wipe σ vs
  | [], vs, _ => rfl
  | u :: us, vs, h => by
    show wipe ((wipe σ us).set u Option.none) vs = wipe σ vs
    rw [wipe_set (h u List.mem_cons_self)]
    exact wipe_wipe fun i m => h i (List.mem_cons_of_mem _ m)
/-- the targets of a comprehension: a name, or names in a tuple -/
inductive Tgt where
  | nm (i : Nat)
  | tp (is : List Nat)
def Tgt.slots : Tgt → List Nat
  | .nm i => [i]
  | .tp is => is
def gNames : List Nat → TGs
  | [] => gNil
  | i :: is => gCons (gName i) (gNames is)
def Tgt.tg (K : PySem.W.Frag) : Tgt → TG
  | .nm i => gName i
  | .tp is => gTup K is.length (gNames is)
def setAll : List Nat → List MV → MEnv → MEnv
  | i :: is, m :: ms, env => setAll is ms (env.set i (some m))
  | _, _, env => env
def Tgt.bind : Tgt → MV → MEnv → Option MEnv
  | .nm i, m, env => some (env.set i (some m))
  | .tp is, .tup ms, env => if ms.length = is.length then some (setAll is ms env) else none
  | _, _, _ => none
theorem names_ok {G : Gm} {A : Ad} {H : Hp} : ∀ {is : List Nat} {vs : List V} {ms : List MV} {σ : St} {env : MEnv} {Q : St → Hp → Prop} {own : List Nat}, RepAll G A H vs ms → ms.length = is.length → EnvR G A H σ env → (∀ i ∈ is, i ∈ own) →
    (∀ σ', EnvR G A H σ' (setAll is ms env) → wipe σ' own = wipe σ own → Q σ' H) → gNames is vs σ H Q
  | [], _, _, σ, env, Q, own, r, hl, q, _, k => by
    cases r with
    | nil => exact ⟨rfl, k σ q rfl⟩
    | cons _ _ => cases hl
  | i :: is, _, _, σ, env, Q, own, r, hl, q, hs, k => by
    cases r with
    | nil => cases hl
    | @cons v vs m ms r rs =>
      refine ⟨v, vs, rfl, names_ok (own := own) rs (by simpa using hl) (q.set i r) (fun j m => hs j (List.mem_cons_of_mem _ m)) fun σ' q' w => k σ' q' (w.trans (wipe_set (hs i List.mem_cons_self)))⟩
theorem Tgt.ok {G : Gm} {A : Ad} {H : Hp} {t : Tgt} {v : V} {m : MV} {σ : St} {env env' : MEnv} {Q : St → Hp → Prop} {own : List Nat} (r : Rep G A H v m) (q : EnvR G A H σ env) (e : t.bind m env = some env') (hs : ∀ i ∈ t.slots, i ∈ own)
    (k : ∀ σ', EnvR G A H σ' env' → wipe σ' own = wipe σ own → Q σ' H) : t.tg G.K v σ H Q := by
  cases t with
  | nm i => cases e; exact k _ (q.set i r) (wipe_set (hs i List.mem_cons_self))
  | tp is =>
    cases r with
    | @tup a vs ms f r =>
      have e : (if ms.length = is.length then some (setAll is ms env) else none) = some env' := e
      by_cases hl : ms.length = is.length
      · rw [if_pos hl] at e
        cases e
        exact ⟨a, vs, rfl, f.sq, by rw [r.length]; exact hl, names_ok r hl q hs k⟩
      · rw [if_neg hl] at e; cases e
    | _ => cases e
def compM (t : Tgt) (tst : MT) (elt : ME) : List MV → MEnv → List MV → Sto → Res (List MV)
  | [], _, acc, st => .ok acc st
  | y :: ys, env, acc, st => match t.bind y env with
    | none => .bad
    | some env1 => match tst env1 st with
      | .ok true st1 => match elt env1 st1 with
        | .ok v st2 => if acc.length < 16777216 then compM t tst elt ys env (acc ++ [v]) st2 else .bad
        | _ => .bad
      | .ok false st1 => compM t tst elt ys env acc st1
      | _ => .bad
def tYesM : MT := fun _ st => .ok true st
def mLc (mi : MA) (own : List Nat) (t : Tgt) (tst : MT) (elt : ME) : ME := fun env st => (mi env st).bind fun ys st1 => (compM t tst elt ys (wipeM env own) [] st1).bind fun zs st2 => .ok (.lst zs) st2
theorem compM_noexc {t : Tgt} {tst : MT} {elt : ME} : ∀ {ys : List MV} {env : MEnv} {acc : List MV} {st : Sto} {c : Str} {st' : Sto}, compM t tst elt ys env acc st ≠ .exc c st'
  | [], env, acc, st, c, st', h => by cases h
  | y :: ys, env, acc, st, c, st', h => by
    unfold compM at h
    split at h
    · cases h
    · split at h
      · split at h
        · split at h
          · exact compM_noexc h
          · cases h
        · cases h
      · exact compM_noexc h
      · cases h
theorem post_ok {α : Type} {r : Res α} {a : α} {st : Sto} {P : α → Sto → Prop} {E : Str → Sto → Prop} (e : r = .ok a st) (h : P a st) : r.post P E := by rw [e]; exact h
section
variable {X : Cx} {W : WX} {tg it elt : Expr} {ifs : List Expr} {scope : Scope} {pos : Pos} {mi : MA} {mt : MT} {me : ME}
theorem pmts_nil : PTs X [] (tT (gmOf X) W tYesM) := ⟨fun pins s σ H Q I ⟨A, env, st, sr, q, h⟩ => pts_nil.run pins s σ H Q I (h A H (Ext.refl A H) sr)⟩
theorem pmts_one {c : Expr} (h : PMT X W c mt) : PTs X [c] (tT (gmOf X) W mt) := pts_one h
theorem lcE {vs : List Nat} {t : Tgt} (hsub : ∀ i ∈ t.slots, i ∈ vs) {σ : St} {H : Hp} {Q : VK} (h : tE (gmOf X) W (mLc mi vs t mt me) σ H Q) : tLc (tI (gmOf X) W mi) (t.tg X.K) (tT (gmOf X) W0 mt) (tE (gmOf X) W0 me) vs σ H Q := by
    obtain ⟨A, env, st, s, q, h⟩ := h
    unfold mLc at h
    rw [Res.post_bind] at h
    refine ⟨A, env, st, s, q, h.mono (fun ys st1 h1 A1 H1 J e1 s1 itm D hD => ?_) fun _ _ z => z⟩
    rw [Res.post_bind] at h1
    refine lc_it itm.walk (fun i H' => ∃ A' st' acc accV, Ext A1 H1 A' H' ∧ SR (gmOf X) (A'.fence D) H' st' ∧ H' D = some (.lst accV) ∧ RepAll (gmOf X) (A'.fence D) H' accV acc ∧
        ∃ zs st2, compM t mt me (ys.drop i) (wipeM env vs) acc st' = .ok zs st2 ∧ okP (gmOf X) A1 H1 Q (.lst zs) st2) ?_ (fun i H' _ ⟨A', st', acc, accV, x', s', _⟩ => ⟨A', st', x'.w, s'.unfence⟩) (fun i x H' H2 hlt ⟨A', st', acc, accV, x', s', hDv, ra, zs, st2, ec, k⟩ y => ?_) (fun H' ⟨A', st', acc, accV, x', s', hDv, ra, zs, st2, ec, k⟩ => ?_)
    · refine ⟨A1, st1, [], [], Ext.grown _ s1 hD (Ext.refl A1 H1), s1.fence hD _, upd_same, .nil, ?_⟩
      cases hr : compM t mt me ys (wipeM env vs) [] st1 with
      | ok zs st2 =>
        rw [hr] at h1
        exact ⟨zs, st2, by rw [List.drop_zero]; exact hr, okP.ext e1 h1⟩
      | exc c st2 => exact (compM_noexc hr).elim
      | bad => rw [hr] at h1; exact h1.elim
    · obtain ⟨x2, s2, m, em, r2⟩ := y (A'.fence D) st' (x'.w.fence hD) s'
      have ed : ys.drop i = m :: ys.drop (i + 1) := by
        rw [List.drop_eq_getElem_cons hlt]
        rw [List.getElem?_eq_getElem hlt] at em
        rw [Option.some.inj em]
      rw [ed] at ec
      unfold compM at ec
      cases eb : t.bind m (wipeM env vs) with
      | none => rw [eb] at ec; cases ec
      | some env1 =>
        rw [eb] at ec
        have q2 : EnvR (gmOf X) (A'.fence D) H2 (wipe σ vs) (wipeM env vs) := by
          have q1 := (q.ext e1)
          refine EnvR.wipe ⟨q1.len, fun j mj hj => ?_⟩ vs
          obtain ⟨v, a, r⟩ := q1.get j mj hj
          exact ⟨v, a, (r.extW (x'.w.fence hD)).ext x2⟩
        refine Tgt.ok (own := vs) r2 q2 eb hsub fun σ2 q3 hw => ⟨by rw [hw]; exact wipe_wipe fun _ m => m, ?_⟩
        have hD2 : H2 D = some (.lst accV) := (x2.fk D List.mem_cons_self).trans hDv
        have ec : (match mt env1 st' with
          | .ok true st1 => (match me env1 st1 with
            | .ok v st2 => if acc.length < 16777216 then compM t mt me (ys.drop (i + 1)) (wipeM env vs) (acc ++ [v]) st2 else .bad
            | _ => .bad)
          | .ok false st1 => compM t mt me (ys.drop (i + 1)) (wipeM env vs) acc st1
          | _ => .bad) = Res.ok zs st2 := ec
        cases et : mt env1 st' with
        | exc c st3 => rw [et] at ec; cases ec
        | bad => rw [et] at ec; cases ec
        | ok b st3 =>
          rw [et] at ec
          refine ⟨A'.fence D, env1, st', s2, q3, post_ok et fun A3 H3 x3 s3 => ?_⟩
          have fA3 : A3 = (⟨A3.ix, A'.fn⟩ : Ad).fence D := by
            obtain ⟨ix, fn⟩ := A3
            have : fn = D :: A'.fn := x3.fen
            subst this
            rfl
          have hD3 : H3 D = some (.lst accV) := (x3.fk D List.mem_cons_self).trans hD2
          have ra3 : RepAll (gmOf X) A3 H3 accV acc := (ra.ext x2).ext x3
          cases b with
          | false =>
            rw [fA3] at x3 s3 ra3
            exact ⟨_, st3, acc, accV, x'.trans (Ext.unfence s3 (x2.trans x3)), s3, hD3, ra3, zs, st2, ec, k⟩
          | true =>
            have ec : (match me env1 st3 with
              | .ok v st2 => if acc.length < 16777216 then compM t mt me (ys.drop (i + 1)) (wipeM env vs) (acc ++ [v]) st2 else .bad
              | _ => .bad) = Res.ok zs st2 := ec
            cases ee : me env1 st3 with
            | exc c st4 => rw [ee] at ec; cases ec
            | bad => rw [ee] at ec; cases ec
            | ok v st4 =>
              rw [ee] at ec
              have ec : (if acc.length < 16777216 then compM t mt me (ys.drop (i + 1)) (wipeM env vs) (acc ++ [v]) st4 else .bad) = Res.ok zs st2 := ec
              by_cases hl : acc.length < 16777216
              · rw [if_pos hl] at ec
                show tE (gmOf X) W0 me σ2 H3 _
                refine ⟨A3, env1, st3, s3, q3.ext x3, post_ok ee fun A4 H4 vv x4 s4 r4 => ?_⟩
                have fA4 : A4 = (⟨A4.ix, A'.fn⟩ : Ad).fence D := by
                  obtain ⟨ix, fn⟩ := A4
                  have : fn = D :: A'.fn := x4.fen.trans x3.fen
                  subst this
                  rfl
                have hD4 : H4 D = some (.lst accV) := (x4.fk D (by rw [x3.fen]; exact List.mem_cons_self)).trans hD3
                have ra4 := ra3.ext x4
                have x24 := (x2.trans x3).trans x4
                rw [fA4] at x24 s4 ra4 r4
                refine ⟨accV, hD4, by rw [ra4.length, sizeLine_eq]; exact hl, _, st4, acc ++ [v], accV ++ [vv], Ext.grown _ s1 hD (x'.trans (Ext.unfence s4 x24)), s4.grow _, upd_same, (ra4.append (.cons r4 .nil)).grow _, zs, st2, ec, k⟩
              · rw [if_neg hl] at ec; cases ec
    · rw [List.drop_length] at ec
      cases ec
      exact k A' H' _ x' s'.unfence (.lst hDv s'.fence_out ra.unfence)
theorem pm_lc {own : List (Str × Nat)} {t : Tgt} (hN : X.N.Nodup) (hi : PMI X W tg it mi) (ok : BlkOk X.N X.env.scope scope own)
    (hg : ∀ (s : Shared) (H : Hp) (C : Addr) (cl : List (Str × Addr)) (fp : List Addr), PG (X.blk s H scope (compEnvC scope cl C X.env) fp) tg (t.tg X.K))
    (ht : ∀ (s : Shared) (H : Hp) (C : Addr) (cl : List (Str × Addr)) (fp : List Addr), PTs (X.blk s H scope (compEnvC scope cl C X.env) fp) ifs (tT (gmOf X) W0 mt))
    (he : ∀ (s : Shared) (H : Hp) (C : Addr) (cl : List (Str × Addr)) (fp : List Addr), PM (X.blk s H scope (compEnvC scope cl C X.env) fp) W0 elt me)
    (hsub : ∀ i ∈ t.slots, i ∈ own.map (·.2) := by decide) (hc : X.calm = true := by rfl) (hs : ∀ x, foldedSetIterable it X.env x = pure x := by intro _; rfl) :
    PM X W (.ListComp elt [⟨tg, it, ifs, 0⟩] scope pos) (mLc mi (own.map (·.2)) t mt me) :=
  PE_imp (pe_lc hc hN hi ok hg ht he hs) fun σ H Q h => lcE hsub h
end

/-! ### defs -/
def defM (n : Nat) (body : MS) : FM := fun args st => match body (args.map some ++ List.replicate (n - args.length) none) st with
  | .nx _ st' => .ok .non st'
  | .rt m st' => .ok m st'
  | .exc c _ st' => .exc c st'
  | _ => .bad
theorem EnvR.start {G : Gm} {A : Ad} {H : Hp} {vs : List V} {ms : List MV} (r : RepAll G A H vs ms) (n : Nat) : EnvR G A H (vs.map some ++ List.replicate (n - vs.length) none) (ms.map some ++ List.replicate (n - ms.length) none) := by
  have hl := r.length
  refine ⟨by simp [hl], fun i m hm => ?_⟩
  by_cases hi : i < ms.length
  · rw [List.getElem?_append_left (by simpa using hi)] at hm
    rw [List.getElem?_map] at hm
    cases e : ms[i]? with
    | none => rw [e] at hm; cases hm
    | some m' =>
      rw [e] at hm
      cases hm
      obtain ⟨v, ev, rv⟩ := r.at e
      refine ⟨v, ?_, rv⟩
      rw [List.getElem?_append_left (by rw [List.length_map, hl]; exact hi), List.getElem?_map, ev]
      rfl
  · rw [List.getElem?_append_right (by simpa using Nat.le_of_not_lt hi)] at hm
    obtain ⟨h1, e⟩ := List.getElem?_eq_some_iff.mp hm
    rw [List.getElem_replicate] at e
    cases e
section
variable {P : Program} {w : World} {K : PySem.W.Frag} {mg : Str → Option Value} {base : Heap}
/-- a def of the text, by its body -/
theorem fn_mirrorG {x qual : Str} {st : Stmt} {f : Addr} {fd : FuncData} {N ps : List Str} {k : Nat} {body : MS} (F : Fun K x qual st f fd) (S : FnScope N ps (defScope st))
    (h : ∀ (cdv : Value) (A : Around) (outer : List Env) (s : Shared) (H : Hp) (E : XK), NoG A → Room k (A.deeper (PyProof.Rows.envOfC qual (defScope st) s.heap.objs.size f cdv)) →
      Takes (cxOf (L2.CX P w) P w K mg base N qual (defScope st) f cdv A outer s H E) (fun c d _ H => E c d H) → PMSs (cxOf (L2.CX P w) P w K mg base N qual (defScope st) f cdv A outer s H E) (fun c d _ H => E c d H) (defBody st) body) :
    FnG P w K mg base (k + 1) f fd ps (spM ⟨K, mg⟩ ps.length (defM N.length body)) :=
  fn_ofG F S (fun vs H Q E ⟨A, s, ms, sr, r, hl, _⟩ => r.length.trans hl) fun cdv A outer s H vs Q E gd hr hsp => by
    obtain ⟨A1, st1, ms, sr, r, hl, hp⟩ := hsp
    have tk : Takes (cxOf (L2.CX P w) P w K mg base N qual (defScope st) f cdv A outer s H E) (fun c d _ H => E c d H) := takes_of rfl rfl rfl rfl
    refine ⟨_, h cdv A outer s H E gd hr tk, A1, _, st1, sr, EnvR.start r N.length, ?_⟩
    unfold defM at hp
    cases eb : body (ms.map some ++ List.replicate (N.length - ms.length) none) st1 with
    | nx env st' =>
      rw [eb] at hp
      exact fun A' H' σ' e s' q' => hp A' H' .non e s' .non
    | rt m st' =>
      rw [eb] at hp
      exact hp
    | bk env st' => rw [eb] at hp; exact hp.elim
    | ct env st' => rw [eb] at hp; exact hp.elim
    | exc c env st' =>
      rw [eb] at hp
      exact fun A' H' σ' C e s' q' hC => hp A' H' C e s' hC
    | bad => rw [eb] at hp; exact hp.elim
theorem fn_mirror {x qual : Str} {st : Stmt} {f : Addr} {fd : FuncData} {N ps : List Str} {k : Nat} {body : MS} (F : Fun K x qual st f fd) (S : FnScope N ps (defScope st)) (hx : mg x = some (.ref f)) (hb : Binds K fd ps [])
    (h : ∀ (cdv : Value) (A : Around) (outer : List Env) (s : Shared) (H : Hp) (E : XK), NoG A → Room k (A.deeper (PyProof.Rows.envOfC qual (defScope st) s.heap.objs.size f cdv)) →
      Takes (cxOf (L2.CX P w) P w K mg base N qual (defScope st) f cdv A outer s H E) (fun c d _ H => E c d H) → PMSs (cxOf (L2.CX P w) P w K mg base N qual (defScope st) f cdv A outer s H E) (fun c d _ H => E c d H) (defBody st) body) :
    FnM P w K mg base (k + 1) x ps.length (defM N.length body) := ⟨f, fd, ps, hx, F.kp, hb, fn_mirrorG F S h⟩
end
end MR

/-! built-in operations by values -/
namespace MR
open PySem L2

abbrev sizeL : Nat := 16777216
theorem line_ok {n : Nat} (h : n ≤ sizeL) : n ≤ sizeLine := line_of h
section
variable {G : Gm} {A : Ad} {H : Hp} {st : Sto}
theorem fin0 {Q : VK} {v : V} {m : MV} (s : SR G A H st) (r : Rep G A H v m) (k : okP G A H Q m st) : Q v H := k A H v (Ext.refl A H) s r
theorem Rep.int_inv {x : V} {i : Int} (h : Rep G A H x (.int i)) : x = .int i := by cases h; rfl
theorem Rep.str_inv {x : V} {i : Str} (h : Rep G A H x (.str i)) : x = .str i := by cases h; rfl
theorem Rep.bl_inv {x : V} {i : Bool} (h : Rep G A H x (.bl i)) : x = .bl i := by cases h; rfl
theorem Rep.non_inv {x : V} (h : Rep G A H x .non) : x = .non := by cases h; rfl

/-- a list's items, in the store or not -/
def listOf (m : MV) (st : Sto) : Option (List MV) := match m with
  | .lst xs => some xs
  | .obj k => match st[k]? with
    | some (.lst xs) => some xs
    | _ => none
  | _ => none
theorem listOf_rep {v : V} {m : MV} {xs : List MV} (s : SR G A H st) (r : Rep G A H v m) (h : listOf m st = some xs) : ∃ a vs, v = .ref a ∧ H a = some (.lst vs) ∧ RepAll G A H vs xs := by
  cases r with
  | lst h1 h2 h3 => cases h; exact ⟨_, _, rfl, h1, h3⟩
  | @obj a k h1 =>
    simp only [listOf] at h
    split at h
    · rename_i ys e
      cases h
      cases s.ob k a _ h1 e with
      | lst h2 h3 => exact ⟨_, _, rfl, h2, h3⟩
    · cases h
  | _ => cases h
def strsOf : List MV → Option (List Str)
  | [] => some []
  | .str x :: r => (strsOf r).map (x :: ·)
  | _ :: _ => none
theorem strsOf_rep : ∀ {ms : List MV} {vs : List V} {ys : List Str}, RepAll G A H vs ms → strsOf ms = some ys → vs = ys.map V.str
  | [], _, _, h, e => by cases h; cases e; rfl
  | m :: ms, _, ys, h, e => by
    cases h with
    | @cons v vs m ms r rs =>
      cases m with
      | str x =>
        have e : (strsOf ms).map (x :: ·) = some ys := e
        cases e1 : strsOf ms with
        | none => rw [e1] at e; cases e
        | some zs =>
          rw [e1] at e
          cases e
          rw [strsOf_rep rs e1, r.str_inv]
          rfl
      | _ => cases e
def boolsOf : List MV → Option (List Bool)
  | [] => some []
  | .bl x :: r => (boolsOf r).map (x :: ·)
  | _ :: _ => none
theorem boolsOf_rep : ∀ {ms : List MV} {vs : List V} {ys : List Bool}, RepAll G A H vs ms → boolsOf ms = some ys → vs = ys.map V.bl
  | [], _, _, h, e => by cases h; cases e; rfl
  | m :: ms, _, ys, h, e => by
    cases h with
    | @cons v vs m ms r rs =>
      cases m with
      | bl x =>
        have e : (boolsOf ms).map (x :: ·) = some ys := e
        cases e1 : boolsOf ms with
        | none => rw [e1] at e; cases e
        | some zs =>
          rw [e1] at e
          cases e
          rw [boolsOf_rep rs e1, r.bl_inv]
          rfl
      | _ => cases e

/-! data at any depth -/
mutual
def toD : MV → Option PyData
  | .non => some .none
  | .bl b => some (.bool b)
  | .int i => some (.int i)
  | .str x => some (.str x)
  | .tup xs => (toDs xs).map .tuple
  | .lst xs => (toDs xs).map .list
  | .ty _ => none
  | .gl _ => none
  | .obj _ => none
  | .scr _ => none
def toDs : List MV → Option (List PyData)
  | [] => some []
  | x :: xs => (toD x).bind fun d => (toDs xs).map (d :: ·)
end
mutual
theorem Rep.dp : ∀ (m : MV) {v : V} {d : PyData}, Rep G A H v m → toD m = some d → Dp G.K H v d
  | .non, _, _, h, e => by cases h; cases e; exact .non
  | .bl b, _, _, h, e => by cases h; cases e; exact .bl b
  | .int i, _, _, h, e => by cases h; cases e; exact .int i
  | .str x, _, _, h, e => by cases h; cases e; exact .str x
  | .tup xs, _, d, h, e => by
    cases h with
    | tup f r =>
      simp only [toD] at e
      cases e1 : toDs xs with
      | none => rw [e1] at e; cases e
      | some ds => rw [e1] at e; cases e; exact .tup f.sq (RepAll.dp xs r e1)
  | .lst xs, _, d, h, e => by
    cases h with
    | lst f n r =>
      simp only [toD] at e
      cases e1 : toDs xs with
      | none => rw [e1] at e; cases e
      | some ds => rw [e1] at e; cases e; exact .lst (SqL.of f) (RepAll.dp xs r e1)
  | .ty _, _, _, _, e => by cases e
  | .gl _, _, _, _, e => by cases e
  | .obj _, _, _, _, e => by cases e
  | .scr _, _, _, _, e => by cases e
theorem RepAll.dp : ∀ (ms : List MV) {vs : List V} {ds : List PyData}, RepAll G A H vs ms → toDs ms = some ds → DpAll G.K H vs ds
  | [], _, _, h, e => by cases h; cases e; exact .nil
  | m :: ms, _, ds, h, e => by
    cases h with
    | cons r rs =>
      simp only [toDs] at e
      cases e1 : toD m with
      | none => rw [e1] at e; cases e
      | some d =>
        rw [e1] at e
        cases e2 : toDs ms with
        | none => rw [e2] at e; cases e
        | some es => rw [e2] at e; cases e; exact .cons (Rep.dp m r e1) (RepAll.dp ms rs e2)
end
def topD (m : MV) (st : Sto) : Option PyData := match m with
  | .obj k => match st[k]? with
    | some (.lst xs) => (toDs xs).map .list
    | _ => none
  | m => toD m
theorem Rep.top {m : MV} {v : V} {d : PyData} (s : SR G A H st) (r : Rep G A H v m) (h : topD m st = some d) : Dp G.K H v d := by
  cases m with
  | obj k =>
    cases r with
    | @obj a k h1 =>
      simp only [topD] at h
      split at h
      · rename_i ys e
        cases e1 : toDs ys with
        | none => rw [e1] at h; cases h
        | some ds =>
          rw [e1] at h
          cases h
          cases s.ob k a _ h1 e with
          | lst h2 h3 => exact .lst (SqL.of h2) (RepAll.dp ys h3 e1)
      · cases h
  | _ => exact Rep.dp _ r h
end

/-! ### operators -/
def gAdd : G2 := fun a b st => match a, b with
  | .int i, .int j => .ok (.int (i + j)) st
  | .str x, .str y => if x.length + y.length ≤ 16777216 then .ok (.str (x ++ y)) st else .bad
  | .tup xs, .tup ys => if xs.length + ys.length ≤ 16777216 then .ok (.tup (xs ++ ys)) st else .bad
  | a, b => match listOf a st, listOf b st with
    | some xs, some ys => if xs.length + ys.length ≤ 16777216 then .ok (.lst (xs ++ ys)) st else .bad
    | _, _ => .bad
abbrev rAddM (K : PySem.W.Frag) : R2 := fun x y H Q => (rI0 fun i j => .int (i + j)) x y H Q ∨ ((∃ i j, x = .str i ∧ y = .str j ∧ i.length + j.length ≤ sizeLine ∧ Q (.str (i ++ j)) H) ∨ (rCatA K x y H Q ∨ rCat x y H Q))
theorem opAdd {X : Cx} : OpR X (binaryOp .Add) (rAddM X.K) := op_add.or (op_add_str.or (op_catA.or op_cat))
theorem ite_ok {α : Type} {c : Prop} [Decidable c] {a : Res α} {m : α} {st : Sto} (h : (if c then a else .bad) = .ok m st) : c ∧ a = .ok m st := by
  by_cases hc : c
  · rw [if_pos hc] at h; exact ⟨hc, h⟩
  · rw [if_neg hc] at h; cases h
theorem o2Add {G : Gm} : Op2 G (rAddM G.K) gAdd := by
  intro A H st x y mx my Q m st' s rx ry h k
  unfold gAdd at h
  split at h
  · cases h
    exact .inl ⟨_, _, rx.int_inv, ry.int_inv, fin0 s (.int _) k⟩
  · obtain ⟨hl, h⟩ := ite_ok h
    cases h
    exact .inr (.inl ⟨_, _, rx.str_inv, ry.str_inv, line_of hl, fin0 s (.str _) k⟩)
  · obtain ⟨hl, h⟩ := ite_ok h
    cases h
    cases rx with
    | @tup a vs ms f r =>
      cases ry with
      | @tup b ws ns f' r' =>
        have hl' : vs.length + ws.length ≤ sizeLine := by rw [r.length, r'.length]; exact line_of hl
        refine .inr (.inr (.inl ⟨a, b, vs, ws, rfl, rfl, f.sq, f'.sq, hl', fun e => ?_, fun e e' => ?_, fun e e' => ?_⟩))
        · subst e
          cases r
          exact fin0 s (.tup f' r') k
        · subst e'
          cases r'
          rw [List.append_nil] at k
          exact fin0 s (.tup f r) k
        · exact fin_tup s (r.append r') k
  · split at h
    · rename_i xs ys e1 e2
      obtain ⟨hl, h⟩ := ite_ok h
      cases h
      obtain ⟨a, vs, rfl, h1, r1⟩ := listOf_rep s rx e1
      obtain ⟨b, ws, rfl, h2, r2⟩ := listOf_rep s ry e2
      exact .inr (.inr (.inr ⟨a, b, vs, ws, rfl, rfl, h1, h2, by rw [r1.length, r2.length]; exact line_of hl, fin_lst s (r1.append r2) k⟩))
    · cases h
/-- an operator of two ints -/
def gI (C : Int → Int → Bool) (g : Int → Int → MV) : G2 := fun a b st => match a, b with
  | .int i, .int j => if C i j = true then .ok (g i j) st else .bad
  | _, _ => .bad
theorem o2I {G : Gm} {C : Int → Int → Prop} {c : Int → Int → Bool} {f : Int → Int → V} {g : Int → Int → MV} (hc : ∀ i j, c i j = true → C i j) (hr : ∀ A H i j, Rep G A H (f i j) (g i j)) : Op2 G (rI C f) (gI c g) := by
  intro A H st x y mx my Q m st' s rx ry h k
  unfold gI at h
  split at h
  · obtain ⟨hl, h⟩ := ite_ok h
    cases h
    exact ⟨_, _, rx.int_inv, ry.int_inv, hc _ _ hl, fin0 s (hr A H _ _) k⟩
  · cases h
theorem o2I0 {G : Gm} {f : Int → Int → V} {g : Int → Int → MV} (hr : ∀ A H i j, Rep G A H (f i j) (g i j)) : Op2 G (rI0 f) (gI (fun _ _ => true) g) := by
  intro A H st x y mx my Q m st' s rx ry h k
  unfold gI at h
  split at h
  · obtain ⟨hl, h⟩ := ite_ok h
    cases h
    exact ⟨_, _, rx.int_inv, ry.int_inv, fin0 s (hr A H _ _) k⟩
  · cases h
def gSub : G2 := gI (fun _ _ => true) fun i j => .int (i - j)
def gMod : G2 := gI (fun _ j => decide (0 < j)) fun i j => .int (i % j)
def gDiv : G2 := gI (fun _ j => decide (0 < j ∧ j.natAbs.log2 < 9000)) fun i j => .int (i / j)
def gPow : G2 := gI (fun i j => decide (0 ≤ j ∧ j ≤ 1000 ∧ i.natAbs.log2 < 1000)) fun i j => .int (i ^ j.toNat)
theorem o2Sub {G : Gm} : Op2 G (rI0 fun i j => .int (i - j)) gSub := o2I0 fun _ _ _ _ => .int _
theorem o2Mod {G : Gm} : Op2 G (rI (fun _ j => 0 < j) fun i j => .int (i % j)) gMod := o2I (fun _ _ h => of_decide_eq_true h) fun _ _ _ _ => .int _
theorem o2Div {G : Gm} : Op2 G (rI CDivW fun i j => .int (i / j)) gDiv := o2I (fun _ _ h => of_decide_eq_true h) fun _ _ _ _ => .int _
def CPowM (i j : Int) : Prop := 0 ≤ j ∧ j ≤ 1000 ∧ i.natAbs.log2 < 1000
theorem opPow {X : Cx} : OpR X (binaryOp .Pow) (rI CPowM fun i j => .int (i ^ j.toNat)) := opI fun i j _ _ _ _ _ hc q => by
  obtain ⟨h1, h2, h3⟩ := hc
  refine PyProof.Rows.pow_int h1 ?_ q
  have b : Builtin.Int.intBits i ≤ i.natAbs.log2 + 1 := by
    unfold Builtin.Int.intBits
    split <;> omega
  have b1 : (Builtin.Int.intBits i : Int) ≤ 1001 := by omega
  have b2 : (0 : Int) ≤ Builtin.Int.intBits i := by omega
  calc (Builtin.Int.intBits i : Int) * j ≤ 1001 * 1000 := Int.mul_le_mul b1 h2 h1 (by decide)
    _ ≤ 2 ^ 27 := by decide
theorem o2Pow {G : Gm} : Op2 G (rI CPowM fun i j => .int (i ^ j.toNat)) gPow := o2I (fun _ _ h => of_decide_eq_true h) fun _ _ _ _ => .int _
/-- *: ints, and what is repeated -/
def mulOk (i j : Int) : Bool := decide (((-(2 ^ 64) < i ∧ i < 2 ^ 64) ∨ (-(2 ^ 64) < j ∧ j < 2 ^ 64)) ∨ i.natAbs.log2 + j.natAbs.log2 < 1000000)
def gMul : G2 := fun a b st => match a, b with
  | .int i, .int j => if mulOk i j = true then .ok (.int (i * j)) st else .bad
  | a, .int k => match listOf a st with
    | some xs => if (-(2 ^ 63) ≤ k ∧ k < 2 ^ 63) ∧ xs.length * k.toNat ≤ 16777216 then .ok (.lst (List.replicate k.toNat xs).flatten) st else .bad
    | none => .bad
  | _, _ => .bad
abbrev rMulM : R2 := fun x y H Q => (rI CMul fun i j => .int (i * j)) x y H Q ∨ ((rI CMulW fun i j => .int (i * j)) x y H Q ∨ rRep x y H Q)
theorem opMul {X : Cx} : OpR X (binaryOp .Mult) rMulM := op_mul.or (op_mulW.or op_rep)
theorem RepAll.flat {G : Gm} {A : Ad} {H : Hp} {vs : List V} {ms : List MV} (r : RepAll G A H vs ms) : ∀ n : Nat, RepAll G A H (List.replicate n vs).flatten (List.replicate n ms).flatten
  | 0 => .nil
  | n + 1 => by
    rw [List.replicate_succ, List.replicate_succ, List.flatten_cons, List.flatten_cons]
    exact r.append (RepAll.flat r n)
theorem o2Mul {G : Gm} : Op2 G rMulM gMul := by
  intro A H st x y mx my Q m st' s rx ry h k
  unfold gMul at h
  split at h
  · obtain ⟨hl, h⟩ := ite_ok h
    cases h
    rcases of_decide_eq_true hl with q | q
    · exact .inl ⟨_, _, rx.int_inv, ry.int_inv, q, fin0 s (.int _) k⟩
    · exact .inr (.inl ⟨_, _, rx.int_inv, ry.int_inv, q, fin0 s (.int _) k⟩)
  · split at h
    · rename_i xs e1
      obtain ⟨hl, h⟩ := ite_ok h
      cases h
      obtain ⟨a, vs, rfl, h1, r1⟩ := listOf_rep s rx e1
      exact .inr (.inr ⟨a, _, vs, rfl, ry.int_inv, h1, hl.1.1, hl.1.2, by rw [r1.length]; exact line_of hl.2, fin_lst s (r1.flat _) k⟩)
    · cases h
  · cases h
def gNeg : MV → Sto → Res MV := fun a st => match a with
  | .int i => .ok (.int (-i)) st
  | _ => .bad
theorem o1Neg {G : Gm} : Op1 G (rU fun i => .int (-i)) gNeg := by
  intro A H st x mx Q m st' s rx h k
  unfold gNeg at h
  split at h
  · cases h
    exact ⟨_, rx.int_inv, fin0 s (.int _) k⟩
  · cases h
/-! ### comparisons -/
def gEq : G2 := fun a b st => match topD a st, topD b st with
  | some d, some e => if (SeqAt.shaped d && SeqAt.shaped e) = true then .ok (.bl (PyData.eqv d e)) st else .bad
  | _, _ => .bad
def gNe : G2 := fun a b st => match topD a st, topD b st with
  | some d, some e => if (SeqAt.shaped d && SeqAt.shaped e) = true then .ok (.bl (!PyData.eqv d e)) st else .bad
  | _, _ => .bad
theorem o2Eq {G : Gm} : Op2 G (rEqD G.K) gEq := by
  intro A H st x y mx my Q m st' s rx ry h k
  unfold gEq at h
  split at h
  · rename_i d e h1 h2
    obtain ⟨hl, h⟩ := ite_ok h
    cases h
    rw [Bool.and_eq_true] at hl
    exact ⟨d, e, rx.top s h1, ry.top s h2, hl.1, hl.2, fin0 s (.bl _) k⟩
  · cases h
theorem o2Ne {G : Gm} : Op2 G (rNeD G.K) gNe := by
  intro A H st x y mx my Q m st' s rx ry h k
  unfold gNe at h
  split at h
  · rename_i d e h1 h2
    obtain ⟨hl, h⟩ := ite_ok h
    cases h
    rw [Bool.and_eq_true] at hl
    exact ⟨d, e, rx.top s h1, ry.top s h2, hl.1, hl.2, fin0 s (.bl _) k⟩
  · cases h
/-- an order: ints, texts -/
def gOrd (f : Int → Int → Bool) (g : Str → Str → Bool) : G2 := fun a b st => match a, b with
  | .int i, .int j => .ok (.bl (f i j)) st
  | .str i, .str j => .ok (.bl (g i j)) st
  | _, _ => .bad
abbrev rOrd (f : Int → Int → Bool) (g : Str → Str → Bool) : R2 := fun x y H Q => (rI0 fun i j => .bl (f i j)) x y H Q ∨ ∃ i j, x = .str i ∧ y = .str j ∧ Q (.bl (g i j)) H
theorem o2Ord {G : Gm} {f : Int → Int → Bool} {g : Str → Str → Bool} : Op2 G (rOrd f g) (gOrd f g) := by
  intro A H st x y mx my Q m st' s rx ry h k
  unfold gOrd at h
  split at h
  · cases h
    exact .inl ⟨_, _, rx.int_inv, ry.int_inv, fin0 s (.bl _) k⟩
  · cases h
    exact .inr ⟨_, _, rx.str_inv, ry.str_inv, fin0 s (.bl _) k⟩
  · cases h
abbrev sLt (i j : Str) : Bool := decide (i.cps.toList < j.cps.toList)
def gLt : G2 := gOrd (fun i j => decide (i < j)) fun i j => sLt i j
def gLe : G2 := gOrd (fun i j => decide (i ≤ j)) fun i j => !sLt j i
def gGt : G2 := gOrd (fun i j => decide (j < i)) fun i j => sLt j i
def gGe : G2 := gOrd (fun i j => decide (j ≤ i)) fun i j => !sLt i j
section
variable {X : Cx}
theorem opLt : OpR X (compareOp .Lt) (rOrd (fun i j => decide (i < j)) fun i j => sLt i j) := op_lt.or op_lt_str
theorem opLe : OpR X (compareOp .LtE) (rOrd (fun i j => decide (i ≤ j)) fun i j => !sLt j i) := op_le.or op_le_str
theorem opGt : OpR X (compareOp .Gt) (rOrd (fun i j => decide (j < i)) fun i j => sLt j i) := op_gt.or op_gt_str
theorem opGe : OpR X (compareOp .GtE) (rOrd (fun i j => decide (j ≤ i)) fun i j => !sLt i j) := op_ge.or op_ge_str
end
theorem o2Lt {G : Gm} : Op2 G (rOrd (fun i j => decide (i < j)) fun i j => sLt i j) gLt := o2Ord
theorem o2Le {G : Gm} : Op2 G (rOrd (fun i j => decide (i ≤ j)) fun i j => !sLt j i) gLe := o2Ord
theorem o2Gt {G : Gm} : Op2 G (rOrd (fun i j => decide (j < i)) fun i j => sLt j i) gGt := o2Ord
theorem o2Ge {G : Gm} : Op2 G (rOrd (fun i j => decide (j ≤ i)) fun i j => !sLt i j) gGe := o2Ord
/-- in: a sign in a text, a flat value in a list or a tuple -/
def flatM : MV → Bool
  | .non => true
  | .bl _ => true
  | .int _ => true
  | .str _ => true
  | _ => false
def toFlat : MV → V
  | .non => .non
  | .bl b => .bl b
  | .int i => .int i
  | .str x => .str x
  | _ => .non
def memM (x : MV) (xs : List MV) : Bool := xs.any fun y => eqV (toFlat y) (toFlat x)
def isInM (a b : MV) (st : Sto) : Option Bool := match a, b with
  | .str x, .str z => if x.cps.size = 1 then some (decide (x.cps.getD 0 0 ∈ z.cps.toList)) else none
  | x, m => match itemsOf m st with
    | some xs => if flatM x && xs.all flatM then some (memM x xs) else none
    | none => none
def gIn : G2 := fun a b st => match isInM a b st with
  | some b => .ok (.bl b) st
  | none => .bad
def gNotIn : G2 := fun a b st => match isInM a b st with
  | some b => .ok (.bl (!b)) st
  | none => .bad
section
variable {G : Gm} {A : Ad} {H : Hp} {st : Sto}
theorem Rep.flat {v : V} {m : MV} (r : Rep G A H v m) (h : flatM m = true) : v = toFlat m ∧ flatV v = true := by
  cases r <;> first | exact ⟨rfl, rfl⟩ | cases h
theorem RepAll.flats {vs : List V} {ms : List MV} (r : RepAll G A H vs ms) (h : ms.all flatM = true) : vs = ms.map toFlat ∧ vs.all flatV = true := by
  induction vs generalizing ms with
  | nil => cases r; exact ⟨rfl, rfl⟩
  | cons v vs ih =>
    cases r with
    | cons r rs =>
      rw [List.all_cons, Bool.and_eq_true] at h
      obtain ⟨e1, f1⟩ := r.flat h.1
      obtain ⟨e2, f2⟩ := ih rs h.2
      exact ⟨by rw [List.map_cons, ← e1, ← e2], by rw [List.all_cons, f1, f2]; rfl⟩
end
abbrev rInM (K : PySem.W.Frag) : R2 := fun x y H Q => (∃ (c : Nat) (z : Str), x = .str ⟨#[c]⟩ ∧ y = .str z ∧ Q (.bl (decide (c ∈ z.cps.toList))) H) ∨ rIn K false x y H Q
abbrev rNotInM (K : PySem.W.Frag) : R2 := fun x y H Q => (∃ (c : Nat) (z : Str), x = .str ⟨#[c]⟩ ∧ y = .str z ∧ Q (.bl (!decide (c ∈ z.cps.toList))) H) ∨ rIn K true x y H Q
theorem opIn {X : Cx} : OpR X (compareOp .In) (rInM X.K) := op_in_sign.or op_in_seq
theorem opNotIn {X : Cx} : OpR X (compareOp .NotIn) (rNotInM X.K) := op_notIn_sign.or op_notIn_seq
theorem one_sign {x : Str} (h : x.cps.size = 1) : x = ⟨#[x.cps.getD 0 0]⟩ := by
  obtain ⟨⟨l⟩⟩ := x
  simp at h
  obtain ⟨c, rfl⟩ := List.length_eq_one_iff.mp h
  rfl
theorem isIn_two {G : Gm} {A : Ad} {H : Hp} {st : Sto} {x y : V} {mx my : MV} {b : Bool} (s : SR G A H st) (rx : Rep G A H x mx) (ry : Rep G A H y my) (h : isInM mx my st = some b) :
    (∃ (c : Nat) (z : Str), x = .str ⟨#[c]⟩ ∧ y = .str z ∧ b = decide (c ∈ z.cps.toList)) ∨ ∃ p xs, y = .ref p ∧ (SqL G.K H p xs ∨ SqT G.K H p xs) ∧ flatV x = true ∧ xs.all flatV = true ∧ b = inV x xs := by
  unfold isInM at h
  split at h
  · rename_i x z
    by_cases hc : x.cps.size = 1
    · rw [if_pos hc] at h
      cases h
      exact .inl ⟨_, z, by rw [rx.str_inv]; exact congrArg V.str (one_sign hc), ry.str_inv, rfl⟩
    · rw [if_neg hc] at h; cases h
  · split at h
    · rename_i xs e
      by_cases hc : (flatM mx && xs.all flatM) = true
      · rw [if_pos hc] at h
        cases h
        rw [Bool.and_eq_true] at hc
        obtain ⟨p, vs, rfl, sq, rv⟩ := items_rep s ry e
        obtain ⟨e1, f1⟩ := rx.flat hc.1
        obtain ⟨e2, f2⟩ := rv.flats hc.2
        refine .inr ⟨p, vs, rfl, sq.symm, f1, f2, ?_⟩
        rw [e2, e1]
        simp [memM, inV, List.any_map, Function.comp_def]
      · rw [if_neg hc] at h; cases h
    · cases h
theorem o2In {G : Gm} : Op2 G (rInM G.K) gIn := by
  intro A H st x y mx my Q m st' s rx ry h k
  unfold gIn at h
  split at h
  · rename_i b e
    cases h
    rcases isIn_two s rx ry e with ⟨c, z, h1, h2, h3⟩ | ⟨p, xs, h1, h2, h3, h4, h5⟩
    · exact .inl ⟨c, z, h1, h2, by rw [← h3]; exact fin0 s (.bl _) k⟩
    · exact .inr ⟨p, xs, h1, h2, h3, h4, by rw [if_neg (by simp), ← h5]; exact fin0 s (.bl _) k⟩
  · cases h
theorem o2NotIn {G : Gm} : Op2 G (rNotInM G.K) gNotIn := by
  intro A H st x y mx my Q m st' s rx ry h k
  unfold gNotIn at h
  split at h
  · rename_i b e
    cases h
    rcases isIn_two s rx ry e with ⟨c, z, h1, h2, h3⟩ | ⟨p, xs, h1, h2, h3, h4, h5⟩
    · exact .inl ⟨c, z, h1, h2, by rw [← h3]; exact fin0 s (.bl _) k⟩
    · exact .inr ⟨p, xs, h1, h2, h3, h4, by rw [if_pos (by simp), ← h5]; exact fin0 s (.bl _) k⟩
  · cases h
/-- is None, is not None -/
def isNonM : MV → Bool
  | .non => true
  | _ => false
def gIs : G2 := fun a b st => match b with
  | .non => .ok (.bl (isNonM a)) st
  | _ => .bad
def gIsNot : G2 := fun a b st => match b with
  | .non => .ok (.bl (!isNonM a)) st
  | _ => .bad
theorem rep_non {G : Gm} {A : Ad} {H : Hp} {v : V} {m : MV} (r : Rep G A H v m) : decide (v = .non) = isNonM m := by
  cases r <;> first | rfl | exact decide_eq_false (by intro z; cases z)
theorem o2Is {G : Gm} : Op2 G (fun x y H Q => y = .non ∧ Q (.bl (decide (x = .non))) H) gIs := by
  intro A H st x y mx my Q m st' s rx ry h k
  unfold gIs at h
  split at h
  · cases h
    exact ⟨ry.non_inv, by rw [rep_non rx]; exact fin0 s (.bl _) k⟩
  · cases h
theorem o2IsNot {G : Gm} : Op2 G (fun x y H Q => y = .non ∧ Q (.bl (!decide (x = .non))) H) gIsNot := by
  intro A H st x y mx my Q m st' s rx ry h k
  unfold gIsNot at h
  split at h
  · cases h
    exact ⟨ry.non_inv, by rw [rep_non rx]; exact fin0 s (.bl _) k⟩
  · cases h
end MR

/-! subscripts, slices, calls and methods of built-ins by values -/
namespace MR
open PySem L2

section
variable {G : Gm} {A : Ad} {H : Hp} {st : Sto}
theorem RepAll.atI {vs : List V} {ms : List MV} (r : RepAll G A H vs ms) {i : Int} {m : MV} (h : atI ms i = some m) : ∃ v, L2.atI vs i = some v ∧ Rep G A H v m := by
  unfold L2.atI at h ⊢
  rw [r.length]
  cases e : ixN ms.length i with
  | none => rw [e] at h; cases h
  | some j =>
    rw [e] at h
    exact r.at h
end
/-! ### subscripts -/
def scrAt (ns : List Int) (i : Int) : Option MV := (atI ns i).map .int
def gIx : G2 := fun a b st => match a, b with
  | .str z, .int i => if z.length ≤ 16777216 then (match atI z.cps.toList i with
    | some c => .ok (.str ⟨#[c]⟩) st
    | none => .bad) else .bad
  | .scr ns, .int i => match atI ns i with
    | some n => .ok (.int n) st
    | none => .bad
  | m, .int i => match itemsOf m st with
    | some xs => (match atI xs i with
      | some x => .ok x st
      | none => .bad)
    | none => .bad
  | _, _ => .bad
theorem atI_map {α β : Type} (f : α → β) (xs : List α) (i : Int) : atI (xs.map f) i = (atI xs i).map f := by
  unfold atI
  rw [List.length_map]
  cases ixN xs.length i <;> simp
theorem o2Ix {G : Gm} : Op2 G (rIx G.K) gIx := by
  intro A H st x y mx my Q m st' s rx ry h k
  unfold gIx at h
  split at h
  · obtain ⟨hl, h⟩ := ite_ok h
    split at h
    · rename_i c e
      cases h
      exact .inr (.inr ⟨_, _, c, rx.str_inv, ry.int_inv, line_of hl, e, fin0 s (.str _) k⟩)
    · cases h
  · split at h
    · rename_i n e
      cases h
      cases rx with
      | @scr a ns f =>
        refine .inl ⟨a, _, _, .int n, rfl, ry.int_inv, f.sq, ?_, fin0 s (.int _) k⟩
        rw [atI_map, e]
        rfl
    · cases h
  · split at h
    · rename_i xs e
      split at h
      · rename_i z ez
        cases h
        obtain ⟨p, vs, rfl, sq, rv⟩ := items_rep s rx e
        obtain ⟨v, ev, rz⟩ := rv.atI ez
        rcases sq with sq | sq
        · exact .inr (.inl ⟨p, vs, _, v, rfl, ry.int_inv, sq, ev, fin0 s rz k⟩)
        · exact .inl ⟨p, vs, _, v, rfl, ry.int_inv, sq, ev, fin0 s rz k⟩
      · cases h
    · cases h
  · cases h
/-! ### slices -/
def cutM (xs : List MV) (lo hi : Option Int) : List MV := (xs.drop (HT.sIx xs.length 0 lo)).take (HT.sIx xs.length xs.length hi - HT.sIx xs.length 0 lo)
theorem cut_rep {G : Gm} {A : Ad} {H : Hp} {vs : List V} {ms : List MV} (r : RepAll G A H vs ms) (lo hi : Option Int) : RepAll G A H (cutV vs lo hi) (cutM ms lo hi) := by
  unfold cutV cutM
  rw [r.length]
  exact (r.drop _).take _
theorem cut_all {G : Gm} {A : Ad} {H : Hp} {vs : List V} {ms : List MV} (r : RepAll G A H vs ms) {lo hi : Option Int} (e : HT.sIx vs.length 0 lo = 0 ∧ HT.sIx vs.length vs.length hi = vs.length) : cutM ms lo hi = ms := by
  unfold cutM
  rw [← r.length, e.1, e.2, r.length]
  simp
def gSlice : GSl := fun a lo hi st => match a with
  | .str z => if z.length ≤ 16777216 then .ok (.str (cutS z lo hi)) st else .bad
  | .tup xs => .ok (.tup (cutM xs lo hi)) st
  | m => match listOf m st with
    | some xs => .ok (.lst (cutM xs lo hi)) st
    | none => .bad
theorem SlR.or {X : Cx} {r r' : V → Option Int → Option Int → Hp → VK → Prop} (h : SlR X r) (h' : SlR X r') : SlR X (fun x lo hi H Q => r x lo hi H Q ∨ r' x lo hi H Q) := by
  intro pins s σ H x v vl vu lo hi sl Q I rx hs pl pu q
  rcases q with q | q
  · exact h pins s σ H x v vl vu lo hi sl Q I rx hs pl pu q
  · exact h' pins s σ H x v vl vu lo hi sl Q I rx hs pl pu q
abbrev rSlM (K : PySem.W.Frag) : V → Option Int → Option Int → Hp → VK → Prop := fun x lo hi H Q => rSlS x lo hi H Q ∨ (rSlA K x lo hi H Q ∨ rSlL K x lo hi H Q)
theorem opSlice {X : Cx} : SlR X (rSlM X.K) := SlR.or sl_str (SlR.or sl_tupA sl_list)
theorem oSlice {G : Gm} : OpSl G (rSlM G.K) gSlice := by
  intro A H st x mx lo hi Q m st' s rx h k
  unfold gSlice at h
  split at h
  · obtain ⟨hl, h⟩ := ite_ok h
    cases h
    exact .inl ⟨_, rx.str_inv, line_of hl, fin0 s (.str _) k⟩
  · cases h
    cases rx with
    | @tup a vs ms f r =>
      refine .inr (.inl ⟨a, vs, rfl, f.sq, fun e => ?_, fun _ => fin_tup s (cut_rep r lo hi) k⟩)
      rw [cut_all r e] at k
      exact fin0 s (.tup f r) k
  · split at h
    · rename_i xs e
      cases h
      obtain ⟨a, vs, rfl, h1, r1⟩ := listOf_rep s rx e
      exact .inr (.inr ⟨a, vs, rfl, SqL.of h1, fin_lst s (cut_rep r1 lo hi) k⟩)
    · cases h
/-! ### calls -/
def gLen : List MV → Sto → Res MV := fun ms st => match ms with
  | [.str z] => if z.length ≤ 16777216 then .ok (.int z.length) st else .bad
  | [.scr ns] => .ok (.int ns.length) st
  | [m] => match itemsOf m st with
    | some xs => .ok (.int xs.length) st
    | none => .bad
  | _ => .bad
theorem oLen {G : Gm} : OpN G (fun xs H Q => ∃ x n, xs = [x] ∧ LenV G.K x H n ∧ Q (.int n) H) gLen := by
  intro A H st xs ms Q m st' s r h k
  unfold gLen at h
  split at h
  · obtain ⟨hl, h⟩ := ite_ok h
    cases h
    cases r with
    | cons r rs =>
      cases rs
      exact ⟨_, _, rfl, by rw [r.str_inv]; exact ⟨line_of hl, rfl⟩, fin0 s (.int _) k⟩
  · cases h
    cases r with
    | cons r rs =>
      cases rs
      cases r with
      | scr f => exact ⟨_, _, rfl, .inl ⟨_, f.sq, rfl⟩, by rw [List.length_map]; exact fin0 s (.int _) k⟩
  · split at h
    · rename_i xs e
      cases h
      cases r with
      | cons r rs =>
        cases rs
        obtain ⟨p, vs, rfl, sq, rv⟩ := items_rep s r e
        refine ⟨_, vs.length, rfl, ?_, by rw [rv.length]; exact fin0 s (.int _) k⟩
        rcases sq with sq | sq
        · exact .inr ⟨vs, sq, rfl⟩
        · exact .inl ⟨vs, sq, rfl⟩
    · cases h
  · cases h
def gAll : List MV → Sto → Res MV := fun ms st => match ms with
  | [m] => match (listOf m st).bind boolsOf with
    | some bs => .ok (.bl (bs.all id)) st
    | none => .bad
  | _ => .bad
def gAny : List MV → Sto → Res MV := fun ms st => match ms with
  | [m] => match (listOf m st).bind boolsOf with
    | some bs => .ok (.bl (bs.any id)) st
    | none => .bad
  | _ => .bad
theorem bools_rep {G : Gm} {A : Ad} {H : Hp} {st : Sto} {m : MV} {v : V} {bs : List Bool} (s : SR G A H st) (r : Rep G A H v m) (h : (listOf m st).bind boolsOf = some bs) : ∃ a, v = .ref a ∧ SqL G.K H a (bs.map V.bl) := by
  cases e : listOf m st with
  | none => rw [e] at h; cases h
  | some xs =>
    rw [e] at h
    obtain ⟨a, vs, rfl, h1, r1⟩ := listOf_rep s r e
    exact ⟨a, rfl, by rw [← boolsOf_rep r1 h]; exact SqL.of h1⟩
theorem oAll {G : Gm} : OpN G (rAll G.K) gAll := by
  intro A H st xs ms Q m st' s r h k
  unfold gAll at h
  split at h
  · split at h
    · rename_i bs e
      cases h
      cases r with
      | cons r rs =>
        cases rs
        obtain ⟨a, rfl, h1⟩ := bools_rep s r e
        exact ⟨a, bs, rfl, h1, fin0 s (.bl _) k⟩
    · cases h
  · cases h
theorem oAny {G : Gm} : OpN G (rAny G.K) gAny := by
  intro A H st xs ms Q m st' s r h k
  unfold gAny at h
  split at h
  · split at h
    · rename_i bs e
      cases h
      cases r with
      | cons r rs =>
        cases rs
        obtain ⟨a, rfl, h1⟩ := bools_rep s r e
        exact ⟨a, bs, rfl, h1, fin0 s (.bl _) k⟩
    · cases h
  · cases h
/-- tuple(xs), list(xs) -/
def gTuple : List MV → Sto → Res MV := fun ms st => match ms with
  | [m] => match itemsOf m st with
    | some xs => .ok (.tup xs) st
    | none => .bad
  | _ => .bad
theorem items_cases {G : Gm} {A : Ad} {H : Hp} {st : Sto} {v : V} {m : MV} {xs : List MV} (s : SR G A H st) (r : Rep G A H v m) (h : itemsOf m st = some xs) :
    ∃ a vs, v = .ref a ∧ RepAll G A H vs xs ∧ (FzT G A H a vs ∨ SqL G.K H a vs) := by
  cases r with
  | tup h1 h2 => cases h; exact ⟨_, _, rfl, h2, .inl h1⟩
  | lst h1 h2 h3 => cases h; exact ⟨_, _, rfl, h3, .inr (SqL.of h1)⟩
  | @obj a k h1 =>
    simp only [itemsOf] at h
    split at h
    · rename_i ys e
      cases h
      cases s.ob k a _ h1 e with
      | lst h2 h3 => exact ⟨_, _, rfl, h3, .inr (SqL.of h2)⟩
    · cases h
  | _ => cases h
theorem oTuple {G : Gm} : OpN G (fun xs H Q => ∃ p ys, xs = [.ref p] ∧ ((SqL G.K H p ys ∧ ∀ l, H l = none → Q (.ref l) (upd H l (.tup ys))) ∨ (SqT G.K H p ys ∧ Q (.ref p) H))) gTuple := by
  intro A H st xs ms Q m st' s r h k
  unfold gTuple at h
  split at h
  · split at h
    · rename_i xs e
      cases h
      cases r with
      | cons r rs =>
        cases rs
        obtain ⟨a, vs, rfl, rv, q⟩ := items_cases s r e
        rcases q with q | q
        · exact ⟨a, vs, rfl, .inr ⟨q.sq, fin0 s (.tup q rv) k⟩⟩
        · exact ⟨a, vs, rfl, .inl ⟨q, fin_tup s rv k⟩⟩
    · cases h
  · cases h
def gList : List MV → Sto → Res MV := fun ms st => match ms with
  | [m] => match itemsOf m st with
    | some xs => .ok (.lst xs) st
    | none => .bad
  | _ => .bad
def gListN : List MV → Sto → Res MV := fun ms st => match ms with
  | [m] => match itemsOf m st with
    | some xs => .ok (.obj st.length) (st ++ [.lst xs])
    | none => .bad
  | _ => .bad
theorem oList {G : Gm} : OpN G (fun xs H Q => ∃ p ys, xs = [.ref p] ∧ (SqL G.K H p ys ∨ SqT G.K H p ys) ∧ ∀ l, H l = none → Q (.ref l) (upd H l (.lst ys))) gList := by
  intro A H st xs ms Q m st' s r h k
  unfold gList at h
  split at h
  · split at h
    · rename_i xs e
      cases h
      cases r with
      | cons r rs =>
        cases rs
        obtain ⟨a, vs, rfl, sq, rv⟩ := items_rep s r e
        exact ⟨a, vs, rfl, sq.symm, fin_lst s rv k⟩
    · cases h
  · cases h
theorem oListN {G : Gm} : OpN G (fun xs H Q => ∃ p ys, xs = [.ref p] ∧ (SqL G.K H p ys ∨ SqT G.K H p ys) ∧ ∀ l, H l = none → Q (.ref l) (upd H l (.lst ys))) gListN := by
  intro A H st xs ms Q m st' s r h k
  unfold gListN at h
  split at h
  · split at h
    · rename_i xs e
      cases h
      cases r with
      | cons r rs =>
        cases rs
        obtain ⟨a, vs, rfl, sq, rv⟩ := items_rep s r e
        exact ⟨a, vs, rfl, sq.symm, fin_lstN s rv k⟩
    · cases h
  · cases h
def gAbs : List MV → Sto → Res MV := fun ms st => match ms with
  | [.int i] => .ok (.int (if i < 0 then -i else i)) st
  | _ => .bad
theorem oAbs {G : Gm} : OpN G (fun xs H Q => ∃ i, xs = [.int i] ∧ Q (.int (if i < 0 then -i else i)) H) gAbs := by
  intro A H st xs ms Q m st' s r h k
  unfold gAbs at h
  split at h
  · cases h
    cases r with
    | cons r rs => cases rs; exact ⟨_, by rw [r.int_inv], fin0 s (.int _) k⟩
  · cases h
def gMax : List MV → Sto → Res MV := fun ms st => match ms with
  | [.int i, .int j] => .ok (.int (if j > i then j else i)) st
  | _ => .bad
def gMin : List MV → Sto → Res MV := fun ms st => match ms with
  | [.int i, .int j] => .ok (.int (if j < i then j else i)) st
  | _ => .bad
theorem oMax {G : Gm} : OpN G (fun xs H Q => ∃ i j, xs = [.int i, .int j] ∧ Q (.int (if j > i then j else i)) H) gMax := by
  intro A H st xs ms Q m st' s r h k
  unfold gMax at h
  split at h
  · cases h
    cases r with
    | cons r rs =>
      cases rs with
      | cons r2 rs => cases rs; exact ⟨_, _, by rw [r.int_inv, r2.int_inv], fin0 s (.int _) k⟩
  · cases h
theorem oMin {G : Gm} : OpN G (fun xs H Q => ∃ i j, xs = [.int i, .int j] ∧ Q (.int (if j < i then j else i)) H) gMin := by
  intro A H st xs ms Q m st' s r h k
  unfold gMin at h
  split at h
  · cases h
    cases r with
    | cons r rs =>
      cases rs with
      | cons r2 rs => cases rs; exact ⟨_, _, by rw [r.int_inv, r2.int_inv], fin0 s (.int _) k⟩
  · cases h
/-- int(x), str(x) -/
def gInt : List MV → Sto → Res MV := fun ms st => match ms with
  | [.int i] => .ok (.int i) st
  | [.bl k] => .ok (.int (if k then 1 else 0)) st
  | [.str a] => if a.length ≤ 640 then (match PySem.intText? a with
    | some n => .ok (.int n) st
    | none => .bad) else .bad
  | _ => .bad
abbrev rIntM : List V → Hp → VK → Prop := fun xs H Q => ((∃ i, xs = [.int i] ∧ Q (.int i) H) ∨ ∃ k, xs = [.bl k] ∧ Q (.int (if k then 1 else 0)) H) ∨ ∃ a n, xs = [.str a] ∧ PySem.intText? a = some n ∧ a.length ≤ 640 ∧ Q (.int n) H
theorem opInt {X : Cx} : CallR X (.type "int") rIntM := CallR.or call_int1 call_int_str
theorem oInt {G : Gm} : OpN G rIntM gInt := by
  intro A H st xs ms Q m st' s r h k
  unfold gInt at h
  split at h
  · cases h
    cases r with
    | cons r rs => cases rs; exact .inl (.inl ⟨_, by rw [r.int_inv], fin0 s (.int _) k⟩)
  · cases h
    cases r with
    | cons r rs => cases rs; exact .inl (.inr ⟨_, by rw [r.bl_inv], fin0 s (.int _) k⟩)
  · obtain ⟨hl, h⟩ := ite_ok h
    split at h
    · rename_i n e
      cases h
      cases r with
      | cons r rs => cases rs; exact .inr ⟨_, n, by rw [r.str_inv], e, hl, fin0 s (.int _) k⟩
    · cases h
  · cases h
def gStr : List MV → Sto → Res MV := fun ms st => match ms with
  | [.int i] => if i.natAbs.log2 < 1920 then .ok (.str (toString i)) st else .bad
  | [.str a] => .ok (.str a) st
  | _ => .bad
abbrev rStrM : List V → Hp → VK → Prop := fun xs H Q => (∃ i, xs = [.int i] ∧ i.natAbs.log2 < 1920 ∧ Q (.str (toString i)) H) ∨ ∃ a, xs = [.str a] ∧ Q (.str a) H
theorem opStr {X : Cx} : CallR X (.type "str") rStrM := CallR.or call_str_int SkE.call_str_str
theorem oStr {G : Gm} : OpN G rStrM gStr := by
  intro A H st xs ms Q m st' s r h k
  unfold gStr at h
  split at h
  · obtain ⟨hl, h⟩ := ite_ok h
    cases h
    cases r with
    | cons r rs => cases rs; exact .inl ⟨_, by rw [r.int_inv], hl, fin0 s (.str _) k⟩
  · cases h
    cases r with
    | cons r rs => cases rs; exact .inr ⟨_, by rw [r.str_inv], fin0 s (.str _) k⟩
  · cases h
/-- isinstance(x, T) -/
def tyName (m : MV) (st : Sto) : Option String := match m with
  | .non => some "NoneType"
  | .bl _ => some "bool"
  | .int _ => some "int"
  | .str _ => some "str"
  | .tup _ => some "tuple"
  | .lst _ => some "list"
  | .scr _ => some "list"
  | .obj k => match st[k]? with
    | some (.lst _) => some "list"
    | none => none
  | _ => none
def gIsi : List MV → Sto → Res MV := fun ms st => match ms with
  | [x, .ty c] => match (tyName x st).bind fun t => kitB t c with
    | some b => .ok (.bl b) st
    | none => .bad
  | _ => .bad
theorem tyx_sqL {K : PySem.W.Frag} {H : Hp} {a : Addr} {xs : List V} (h : SqL K H a xs) : TyX K H (.ref a) (.type "list") := by
  rcases h with (h | ⟨o, h⟩) | ⟨o, its, n, h1, h2, _⟩
  · exact .base (.lst h)
  · exact .base (.frz h)
  · exact .kList h1 h2
theorem tyx_sqT {K : PySem.W.Frag} {H : Hp} {a : Addr} {xs : List V} (h : SqT K H a xs) : TyX K H (.ref a) (.type "tuple") := by
  rcases h with (h | ⟨o, h⟩) | ⟨o, its, n, h1, h2, _⟩
  · exact .base (.tup h)
  · exact .fTuple h
  · exact .kTuple h1 h2
theorem tyName_rep {G : Gm} {A : Ad} {H : Hp} {st : Sto} {v : V} {m : MV} {t : String} (s : SR G A H st) (r : Rep G A H v m) (h : tyName m st = some t) : TyX G.K H v (.type t) := by
  cases r with
  | non => cases h; exact .base .non
  | bl b => cases h; exact .base (.bl b)
  | int i => cases h; exact .base (.int i)
  | str x => cases h; exact .base (.str x)
  | tup f r => cases h; exact tyx_sqT f.sq
  | lst f n r => cases h; exact tyx_sqL (SqL.of f)
  | scr f => cases h; exact tyx_sqL f.sq
  | @obj a k h1 =>
    simp only [tyName] at h
    split at h
    · rename_i ys e
      cases h
      cases s.ob k a _ h1 e with
      | lst h2 h3 => exact tyx_sqL (SqL.of h2)
    · cases h
  | ty n => cases h
  | gl h1 => cases h
theorem oIsi {G : Gm} : OpN G (rIsi G.K) gIsi := by
  intro A H st xs ms Q m st' s r h k
  unfold gIsi at h
  split at h
  · rename_i x c
    split at h
    · rename_i b e
      cases h
      cases e1 : tyName x st with
      | none => rw [e1] at e; cases e
      | some t =>
        rw [e1] at e
        cases r with
        | cons r rs =>
          cases rs with
          | cons r2 rs =>
            cases rs
            cases r2
            exact ⟨_, .ty c, _, .type c, b, rfl, .ty c, tyName_rep s r e1, kit_ty e, fin0 s (.bl _) k⟩
    · cases h
  · cases h
/-! ### methods -/
def isStr (m : MV) (_ : Sto) : Bool := match m with
  | .str _ => true
  | _ => false
def isLst (m : MV) (st : Sto) : Bool := (listOf m st).isSome
theorem oIsStr {G : Gm} : OpTy G "str" isStr := by
  intro A H st v m s r h
  cases r with
  | str x => exact rfl
  | _ => cases h
theorem oIsLst {G : Gm} : OpTy G "list" isLst := by
  intro A H st v m s r h
  unfold isLst at h
  obtain ⟨xs, e⟩ := Option.isSome_iff_exists.mp h
  obtain ⟨a, vs, rfl, h1, r1⟩ := listOf_rep s r e
  exact .inl ⟨rfl, vs, SqL.of h1⟩
def gSplit : MV → List MV → Sto → Res MV := fun x ms st => match x, ms with
  | .str a, [.str b] => if b.length ≠ 0 ∧ a.length + 2 ≤ 16777216 then .ok (.lst ((Txt.split a b).map .str)) st else .bad
  | _, _ => .bad
theorem RepAll.strs {G : Gm} {A : Ad} {H : Hp} (ys : List Str) : RepAll G A H (ys.map V.str) (ys.map MV.str) := RepAll.map_of (fun a => .str a) ys
theorem oSplit {G : Gm} : OpMt G (fun x xs H Q => ∃ a b, x = .str a ∧ xs = [.str b] ∧ (b.length == 0) = false ∧ a.length + 2 ≤ sizeLine ∧ rNewStrs (Txt.split a b) H Q) gSplit := by
  intro A H st x mx xs ms Q m st' s rx r h k
  unfold gSplit at h
  split at h
  · obtain ⟨hl, h⟩ := ite_ok h
    cases h
    cases r with
    | cons r rs =>
      cases rs
      refine ⟨_, _, rx.str_inv, by rw [r.str_inv], beq_false_of_ne hl.1, line_of hl.2, fin_lst s (RepAll.strs _) k⟩
  · cases h
def gJoin : MV → List MV → Sto → Res MV := fun x ms st => match x, ms with
  | .str a, [m] => match (itemsOf m st).bind strsOf with
    | some ys => if (ys.map (·.length)).sum + ys.length * a.length ≤ 16777216 then .ok (.str (Txt.join a ys)) st else .bad
    | none => .bad
  | _, _ => .bad
theorem oJoin {G : Gm} : OpMt G (fun x xs H Q => ∃ a p, ∃ ys : List Str, x = .str a ∧ xs = [.ref p] ∧ (SqL G.K H p (ys.map V.str) ∨ SqT G.K H p (ys.map V.str)) ∧
    (ys.map (·.length)).sum + ys.length * a.length ≤ 16777216 ∧ Q (.str (Txt.join a ys)) H) gJoin := by
  intro A H st x mx xs ms Q m st' s rx r h k
  unfold gJoin at h
  split at h
  · rename_i a m0
    split at h
    · rename_i ys e
      obtain ⟨hl, h⟩ := ite_ok h
      cases h
      cases e1 : itemsOf m0 st with
      | none => rw [e1] at e; cases e
      | some zs =>
        rw [e1] at e
        cases r with
        | cons r rs =>
          cases rs
          obtain ⟨p, vs, rfl, sq, rv⟩ := items_rep s r e1
          refine ⟨_, p, ys, rx.str_inv, rfl, ?_, hl, fin0 s (.str _) k⟩
          rw [← strsOf_rep rv e]
          exact sq.symm
    · cases h
  · cases h
def gAppend : MV → List MV → Sto → Res MV := fun x ms st => match x, ms with
  | .obj k, [m] => match st[k]? with
    | some (.lst xs) => if xs.length < 16777216 then .ok .non (st.set k (.lst (xs ++ [m]))) else .bad
    | none => .bad
  | _, _ => .bad
theorem oAppend {G : Gm} : OpMt G rAppend gAppend := by
  intro A H st x mx xs ms Q m st' s rx r h k
  unfold gAppend at h
  split at h
  · rename_i j m0
    split at h
    · rename_i ys e
      obtain ⟨hl, h⟩ := ite_ok h
      cases h
      cases rx with
      | @obj a j h1 =>
        cases r with
        | @cons v vs0 _ _ r rs =>
          cases rs
          cases s.ob j a _ h1 e with
          | @lst vs _ h2 h3 =>
            have hl' : vs.length < sizeLine := by rw [h3.length]; exact (by rw [sizeLine_eq]; exact hl)
            exact ⟨a, vs, v, rfl, rfl, h2, hl', k A _ .non (Ext.set s (List.mem_of_getElem? h1)) (s.set h1 (h3.append (.cons r .nil))) .non⟩
    · cases h
  · cases h
/-! ### o[i] = v -/
def setAt (m : MV) (i : Int) (x : MV) (st : Sto) : Option Sto := match m with
  | .obj k => match st[k]? with
    | some (.lst xs) => (ixN xs.length i).map fun j => st.set k (.lst (xs.set j x))
    | none => none
  | _ => none
def sSetIx (o i e : ME) : MS := fun env st => bindE (e env st) env fun v st1 => bindE (noExc (o env st1)) env fun m st2 => bindE (noExc (i env st2)) env fun n st3 => match n with
  | .int j => match setAt m j v st3 with
    | some st4 => .nx env st4
    | none => .bad
  | _ => .bad
theorem post_noExcE {r : Res MV} {env : MEnv} {f : MV → Sto → Flw} {G : Gm} {A : Ad} {H : Hp} {W : WX} {D : Ends} (h : (bindE (noExc r) env f).post G A H W D) : ∃ m st, r = .ok m st ∧ (f m st).post G A H W D := by
  cases r with
  | ok m st => exact ⟨m, st, rfl, h⟩
  | exc c st => exact h.elim
  | bad => exact h.elim
section
variable {X : Cx} {W : WX} {pos pos2 : Pos}
theorem pms_setix {o i e : Expr} {mo mi me : ME} (he : PM X W e me) (ho : PM X W o mo) (hi : PM X W i mi)
    (hs : swapsWithSole [.Subscript o i pos] e pos2.line X.env = pure false := by rfl) (hw : swappedStores [.Subscript o i pos] e X.env = pure none := by rfl)
    (h1 : (assignEach [.Subscript o i pos] X.env).map (·.2) = [assign (.Subscript o i pos) X.env] := by rfl)
    (ha : ∀ v, assign (.Subscript o i pos) X.env v = (do
      let ov ← holding [v] (eval o X.env)
      let iv ← holding [v, ov] (eval i X.env)
      standAt pos
      holding [v, ov, iv] (setItem ov iv v)
      release [v, ov, iv] []) := by intro _; rfl) : PMS X W (.Assign [.Subscript o i pos] e pos2) (sSetIx mo mi me) :=
  PS_imp (ps_asg he (pg_sub ho hi set_list ha) hs hw h1) fun D σ H ⟨A, env, st, s, q, h⟩ => by
    refine inE s q (Ext.refl A H) ((post_bindE h).mono (fun mx st1 h1 A1 H1 x e1 s1 r1 => ?_) fun _ _ z => exP_of q z)
    obtain ⟨m, st2, eo, h2⟩ := post_noExcE h1
    refine inE s1 (q.ext e1) (Ext.refl A1 H1) (post_ok eo fun A2 H2 y e2 s2 r2 => ?_)
    obtain ⟨n, st3, ei, h3⟩ := post_noExcE h2
    refine inE s2 ((q.ext e1).ext e2) (Ext.refl A2 H2) (post_ok ei fun A3 H3 z e3 s3 r3 => ?_)
    split at h3
    · rename_i j
      split at h3
      · rename_i st4 es
        unfold setAt at es
        split at es
        · rename_i kk
          split at es
          · rename_i xs ek
            have r23 := r2.ext e3
            cases r23 with
            | @obj a _ hk =>
              cases s3.ob kk a _ hk ek with
              | @lst vs _ hH hr =>
                cases ej : ixN xs.length j with
                | none => rw [ej] at es; cases es
                | some jj =>
                  rw [ej] at es
                  cases es
                  refine ⟨a, vs, j, jj, rfl, r3.int_inv, hH, by rw [hr.length]; exact ej, ?_⟩
                  have e4 : Ext A3 H3 A3 (upd H3 a (.lst (vs.set jj x))) := Ext.set s3 (List.mem_of_getElem? hk)
                  exact h3 A3 _ σ (((e1.trans e2).trans e3).trans e4) (s3.set hk (hr.set jj ((r1.ext e2).ext e3))) ((((q.ext e1).ext e2).ext e3).ext e4)
          · cases es
        · cases es
      · exact h3.elim
    · exact h3.elim
end
end MR

/-! zip and enumerate over what can be walked (tuples, lists, texts): by the kit's iterators of any kind (Draws) -/
namespace MR
open PySem L2
open PyProof.Rows (Call_)

/-- what an iterator at it over one source gives: n items, as long as Ok stands -/
structure SrcOk (P : Program) (w : World) (K : PySem.W.Frag) (it : Addr) (far : List Addr) (tn : Nat → Heap → Prop) (n : Nat) (Ok : Hp → Prop) (yv : Nat → V → Prop) : Prop where
  obj : ∀ i h, tn i h → ∃ o, h.get? it = some o ∧ ∀ v, o.data ≠ .cell v
  keep : ∀ i h h', tn i h → (∀ o, h.get? it = some o → h'.get? it = some o) → tn i h'
  draw : ∀ (X : Cx), X.prog = P → X.w = w → X.K = K → X.calm = true → ∀ (pins : List (Addr × Obj)) (s : Shared) (σ : L2.St) (H : Hp), Inv X pins σ H s → Ok H →
    ∃ (Pu : Nat → Value → Prop) (St : Nat → Heap → Prop), Draws P w X.A.in1 it (it :: far) n Pu St ∧ (∀ i, tn i s.heap → St i s.heap) ∧ (∀ i h', St i h' → tn i h') ∧ ∀ i u, Pu i u → ∃ x, RelV x u ∧ yv i x
/-- the value x can be walked -/
structure Starts (X : Cx) (x : V) (n : Nat) (Ok : Hp → Prop) (yv : Nat → V → Prop) : Prop where
  run : ∀ (pins : List (Addr × Obj)) (s : Shared) (σ : L2.St) (H : Hp) (u : Value), Inv X pins σ H s → RelV x u → Ok H → ∃ (o : Obj) (Hh : Heap → Prop) (far : List Addr), Begins u o Hh ∧ Hh s.heap ∧ (∀ b ∈ far, b < s.heap.objs.size) ∧
    ∀ it, it ∉ far → ∃ tn : Nat → Heap → Prop, (∀ h, h.get? it = some o → tn 0 h) ∧ SrcOk X.prog X.w X.K it far tn n Ok yv

theorem starts_tup {X : Cx} {a : Addr} {xs : List V} : Starts X (.ref a) xs.length (fun H => SqT X.K H a xs) (fun i v => xs[i]? = some v) where
  run := fun pins s σ H u I r hq => by
    cases r
    obtain ⟨its, rv, p, hz⟩ := I.tuple hq
    have pt : s.heap.IsTuple a its.toArray := p
    have la : a < s.heap.objs.size := by obtain ⟨o, e, _⟩ := id pt; exact Heap.lt_size e
    refine ⟨_, _, [a], begins_tuple a its.toArray, pt, fun b hb => by rw [List.mem_singleton.mp hb]; exact la, fun it hit => ⟨fun i h => h.IsTupleIter it a i, fun h e => ⟨_, e, rfl, rfl⟩, ?_⟩⟩
    refine ⟨fun i h st => ?_, fun i h h' st k => st.at fun o e => k o e, ?_⟩
    · obtain ⟨o, e, c, d⟩ := st
      exact ⟨o, e, fun v z => by rw [d] at z; cases z⟩
    · intro X' hP hw hK hc pins' s' σ' H' I' hq'
      rw [← hP, ← hw]
      rw [← hK] at hq'
      obtain ⟨its', rv', p', _⟩ := I'.tuple hq'
      have pt' : s'.heap.IsTuple a its'.toArray := p'
      have hsz : its'.toArray.size = xs.length := by rw [List.size_toArray]; exact rv'.length.symm
      rw [← hsz]
      refine ⟨_, _, Draws.tuple (show X'.A.in1.handled = none from I'.ok.hd hc) it a (fun z => hit (by rw [z]; exact List.mem_cons_self)) its'.toArray, fun i st => ⟨st, pt'⟩, fun i h' st => st.1, fun i u hu => ?_⟩
      have hu' : its'[i]? = some u := by simpa using hu
      have hi : i < xs.length := by rw [rv'.length]; exact (List.getElem?_eq_some_iff.mp hu').1
      obtain ⟨u2, e2, r2⟩ := rv'.get (List.getElem?_eq_getElem hi)
      rw [hu'] at e2
      cases e2
      exact ⟨_, r2, List.getElem?_eq_getElem hi⟩
theorem starts_list {X : Cx} {a : Addr} {xs : List V} : Starts X (.ref a) xs.length (fun H => SqL X.K H a xs) (fun i v => xs[i]? = some v) where
  run := fun pins s σ H u I r hq => by
    cases r
    obtain ⟨its, rv, p, hz⟩ := I.list hq
    have pt : s.heap.IsList a its.toArray := p.isList
    have la : a < s.heap.objs.size := p.lt
    refine ⟨_, _, [a], begins_list a its.toArray, pt, fun b hb => by rw [List.mem_singleton.mp hb]; exact la, fun it hit => ⟨fun i h => h.IsListIter it a i, fun h e => ⟨_, e, rfl, rfl⟩, ?_⟩⟩
    refine ⟨fun i h st => ?_, fun i h h' st k => st.at fun o e => k o e, ?_⟩
    · obtain ⟨o, e, c, d⟩ := st
      exact ⟨o, e, fun v z => by rw [d] at z; cases z⟩
    · intro X' hP hw hK hc pins' s' σ' H' I' hq'
      rw [← hP, ← hw]
      rw [← hK] at hq'
      obtain ⟨its', rv', p', _⟩ := I'.list hq'
      have hsz : its'.toArray.size = xs.length := by rw [List.size_toArray]; exact rv'.length.symm
      rw [← hsz]
      refine ⟨_, _, Draws.list (show X'.A.in1.handled = none from I'.ok.hd hc) it a (fun z => hit (by rw [z]; exact List.mem_cons_self)) its'.toArray, fun i st => ⟨st, p'.isList⟩, fun i h' st => st.1, fun i u hu => ?_⟩
      have hu' : its'[i]? = some u := by simpa using hu
      have hi : i < xs.length := by rw [rv'.length]; exact (List.getElem?_eq_some_iff.mp hu').1
      obtain ⟨u2, e2, r2⟩ := rv'.get (List.getElem?_eq_getElem hi)
      rw [hu'] at e2
      cases e2
      exact ⟨_, r2, List.getElem?_eq_getElem hi⟩
theorem starts_text {X : Cx} {z : Str} : Starts X (.str z) z.cps.size (fun _ => True) (fun i v => ∃ c, z.cps[i]? = some c ∧ v = .str ⟨#[c]⟩) where
  run := fun pins s σ H u I r _ => by
    obtain ⟨t, rfl⟩ := r
    refine ⟨_, _, [], begins_text z t, trivial, (fun b hb => by cases hb), fun it _ => ⟨fun i h => h.IsStrIter it (strIterType z) z t i, fun h e => ⟨_, e, rfl, rfl⟩, ?_⟩⟩
    refine ⟨fun i h st => ?_, fun i h h' st k => let ⟨o, ho, r⟩ := st; ⟨o, k o ho, r⟩, ?_⟩
    · obtain ⟨o, e, c, d⟩ := st
      exact ⟨o, e, fun v z => by rw [d] at z; cases z⟩
    · intro X' hP hw hK hc pins' s' σ' H' I' _
      rw [← hP, ← hw]
      exact ⟨_, _, Draws.text (show X'.A.in1.handled = none from I'.ok.hd hc) it z t, fun i st => st, fun i h' st => st, fun i u ⟨c, t', e, eu⟩ => ⟨.str ⟨#[c]⟩, by rw [eu]; exact ⟨t', rfl⟩, c, e, rfl⟩⟩

/-! ### zip(a, b) -/
def ItP2 (n1 n2 : Nat) (Ok1 Ok2 : Hp → Prop) (yv1 yv2 : Nat → V → Prop) : It :=
  ⟨fun i H => Ok1 H ∧ Ok2 H ∧ i < n1 ∧ i < n2, fun i H v H' => ∃ T x y, v = .ref T ∧ H T = none ∧ H' = upd H T (.tup [x, y]) ∧ yv1 i x ∧ yv2 i y, fun i H => Ok1 H ∧ Ok2 H ∧ i ≤ n1 ∧ i ≤ n2 ∧ (i = n1 ∨ i = n2)⟩
theorem turn_zip2 {P : Program} {w : World} {K : PySem.W.Frag} {elts : List Expr} {kk : Nat} {tpos : Pos} {z TI TO i1 i2 : Addr} {far1 far2 : List Addr} {tn1 tn2 : Nat → Heap → Prop} {n1 n2 : Nat} {Ok1 Ok2 : Hp → Prop} {yv1 yv2 : Nat → V → Prop}
    (D : ZipSep2 z TI TO i1 i2 (i1 :: far1) (i2 :: far2)) (S1 : SrcOk P w K i1 far1 tn1 n1 Ok1 yv1) (S2 : SrcOk P w K i2 far2 tn2 n2 Ok2 yv2) :
    Turn P w K (.Tuple elts kk tpos) (ItP2 n1 n2 Ok1 Ok2 yv1 yv2) [z, TI, TO, i1, i2] z (fun i h => IsZip h z TI TO .none ∧ IsPair h TI (.ref i1) (.ref i2) ∧ (∃ x y, IsPair h TO x y) ∧ tn1 i h ∧ tn2 i h) where
  mem := by simp
  obj := fun i h st c hc => by
    obtain ⟨hz, hTI, ⟨x, y, hTO⟩, h1, h2⟩ := st
    have e' : c = z ∨ c = TI ∨ c = TO ∨ c = i1 ∨ c = i2 := by simpa using hc
    rcases e' with q | q | q | q | q
    · rw [q]; exact ⟨_, hz, fun v q => nomatch q⟩
    · rw [q]; exact ⟨_, hTI, fun v q => nomatch q⟩
    · rw [q]; exact ⟨_, hTO, fun v q => nomatch q⟩
    · rw [q]; exact S1.obj i h h1
    · rw [q]; exact S2.obj i h h2
  keep := fun i h h' st k => by
    obtain ⟨hz, hTI, ⟨x, y, hTO⟩, h1, h2⟩ := st
    exact ⟨k z (by simp) _ hz, k TI (by simp) _ hTI, ⟨x, y, k TO (by simp) _ hTO⟩, S1.keep i h h' h1 fun o q => k i1 (by simp) o q, S2.keep i h h' h2 fun o q => k i2 (by simp) o q⟩
  item := by
    intro X hP hw hK hc i pins s σ H E I hf st hg
    subst hP hw hK
    obtain ⟨hz, hTI, ⟨x0, y0, hTO⟩, h1, h2⟩ := st
    obtain ⟨ok1, ok2, l1, l2⟩ := hg
    obtain ⟨P1, St1, D1, a1, b1, v1⟩ := S1.draw X rfl rfl rfl hc pins s σ H I ok1
    obtain ⟨P2, St2, D2, a2, b2, v2⟩ := S2.draw X rfl rfl rfl hc pins s σ H I ok2
    have hzl : z < s.heap.objs.size := Heap.lt_size hz
    refine wpAny_pyNext_zipD2_item D D1 D2 hz hTI hTO (a1 i h1) (a2 i h2) l1 l2 fun u u2 h' tk p1 p2 z' TO' h1' h2' hT hsz hk => ?_
    obtain ⟨x, ru, y1⟩ := v1 i u p1
    obtain ⟨y, ru2, y2⟩ := v2 i u2 p2
    refine ⟨_, rfl, wpAny_letOwnedTupleGo_zip (s := { s with heap := h', toks := tk }) z' fun h'' z'' sb => ?_⟩
    have hT2 : h''.get? s.heap.objs.size = some { cls := .type "tuple", data := .seq #[u, u2] } := (sb.2 _ (Nat.ne_of_gt hzl)).trans hT
    have new : ObjOk X.prog X.w (upd H s.heap.objs.size (.tup [x, y])) h'' s.heap.objs.size (.tup [x, y]) :=
      ⟨by show 2 ≤ sizeLine; decide, [u, u2], .cons ru (.cons ru2 .nil), ⟨_, hT2, rfl, _, rfl⟩⟩
    have I1 : Inv X pins σ (upd H s.heap.objs.size (.tup [x, y])) { s with heap := h'', toks := tk } :=
      I.turnedNew (t' := tk) (ch := [z, TI, TO, i1, i2]) (fun c o hb q => (sb.2 c (fun q' => hb (by simp [q']))).trans (hk c o (fun q' => hb (by simp [q'])) (fun q' => hb (by simp [q'])) (fun q' => hb (by simp [q'])) (fun q' => hb (by simp [q'])) q)) hf (Nat.le_refl _) new
    refine ⟨.ref s.heap.objs.size, _, I1, rfl, ⟨_, x, y, rfl, I.hok.fresh (Nat.le_refl _), rfl, y1, y2⟩, ⟨z'', ?_, ⟨u, u2, ?_⟩, ?_, ?_⟩, fun c hcm => ?_⟩
    · exact (sb.2 _ D.TIz).trans (hk _ _ D.TIz D.TITO D.TIi1 D.TIi2 hTI)
    · exact (sb.2 _ D.TOz).trans TO'
    · exact b1 _ _ (D1.over h1' sb D.zf1)
    · exact b2 _ _ (D2.over h2' sb D.zf2)
    · have hlt : c < s.heap.objs.size := by
        have e' : c = z ∨ c = TI ∨ c = TO ∨ c = i1 ∨ c = i2 := by simpa using hcm
        rcases e' with q | q | q | q | q
        · rw [q]; exact hzl
        · rw [q]; exact Heap.lt_size hTI
        · rw [q]; exact Heap.lt_size hTO
        · rw [q]; obtain ⟨_, e1, _⟩ := S1.obj i _ h1; exact Heap.lt_size e1
        · rw [q]; obtain ⟨_, e2, _⟩ := S2.obj i _ h2; exact Heap.lt_size e2
      rw [upd_ne (Nat.ne_of_lt hlt)]
      exact (hf c hcm).1
  done := by
    intro X hP hw hK hc i pins s σ H E I hf st hg
    subst hP hw hK
    obtain ⟨hz, hTI, ⟨x0, y0, hTO⟩, h1, h2⟩ := st
    obtain ⟨ok1, ok2, l1, l2, he⟩ := hg
    obtain ⟨P1, St1, D1, a1, b1, v1⟩ := S1.draw X rfl rfl rfl hc pins s σ H I ok1
    obtain ⟨P2, St2, D2, a2, b2, v2⟩ := S2.draw X rfl rfl rfl hc pins s σ H I ok2
    exact wpAny_pyNext_zipD2_end D D1 D2 hz hTI hTO (a1 i h1) (a2 i h2) l1 l2 he fun h' tk hk => ⟨rfl, I.turnedL (t' := tk) (ch := [z, TI, TO, i1, i2]) (fun c o hb q =>
      hk c o (fun q' => hb (by simp [q'])) (fun q' => hb (by simp [q'])) (fun q' => hb (by simp [q'])) (fun q' => hb (by simp [q'])) q) hf⟩
  self := fun A i s Q E st h => wpAny_pyIter_zip st.1 h
def iZip2 (X : Cx) (ta : TA) : TI := fun σ H R => ta σ H fun vs H1 => ∃ x y n1 n2 Ok1 Ok2 yv1 yv2, vs = [x, y] ∧ Starts X x n1 Ok1 yv1 ∧ Starts X y n2 Ok2 yv2 ∧ Ok1 H1 ∧ Ok2 H1 ∧ R (ItP2 n1 n2 Ok1 Ok2 yv1 yv2) H1
theorem pi_zip2 {X : Cx} {e e2 : Expr} {ta : TA} {p pos tpos : Pos} {elts : List Expr} {kk : Nat} (hg : Gl X "zip") (hm : X.mg "zip" = none) (ha : PA X [e, e2] ta)
    (hs : starEach [e, e2] X.env = (false, eval e X.env) :: starEach [e2] X.env := by rfl) (hpl : (backTo pos (starEach [e2] X.env)).any (·.1) = false := by rfl) :
    PI X (.Tuple elts kk tpos) (.Call (.Name "zip" p) [e, e2] [] pos) (iZip2 X ta) := by
  refine ⟨fun pins s σ H R I h => ?_⟩
  refine Call_ (ld_blt I hg hm PyProof.Rows.boot_zip (PyProof.Rows.callWith_type1 (thn (ha.run pos pins s σ H _ I h) fun us s1 ⟨vs, H1, I1, r1, q1⟩ => ?_) hs hpl))
  obtain ⟨x, y, n1, n2, Ok1, Ok2, yv1, yv2, ex, S1, S2, ok1, ok2, q⟩ := q1
  subst ex
  cases r1 with
  | cons r rr =>
    cases rr with
    | cons r' rr =>
      cases rr
      obtain ⟨o1, Hh1, far1, B1, hh1, lt1, mk1⟩ := S1.run pins s1 σ H1 _ I1 r ok1
      obtain ⟨o2, Hh2, far2, B2, hh2, lt2, mk2⟩ := S2.run pins s1 σ H1 _ I1 r' ok2
      refine zip_begins2 B1 B2 hh1 hh2 fun h' hz hTI hTO h1 h2 hsz hk => wpAny_pyIter_zip hz ?_
      obtain ⟨tn1, s01, T1⟩ := mk1 s1.heap.objs.size fun m => Nat.lt_irrefl _ (lt1 _ m)
      obtain ⟨tn2, s02, T2⟩ := mk2 (s1.heap.objs.size + 1) fun m => Nat.not_succ_lt_self (lt2 _ m)
      have I2 : Inv X pins σ H1 { s1 with heap := h' } := I1.kept (t' := s1.toks) hk
      refine ⟨s1.heap.objs.size + 4, [s1.heap.objs.size + 4, s1.heap.objs.size + 2, s1.heap.objs.size + 3, s1.heap.objs.size, s1.heap.objs.size + 1], _, _, H1, rfl, I2, turn_zip2 (zip_sep2 lt1 lt2) T1 T2, ⟨hz, hTI, ⟨_, _, hTO⟩, s01 _ h1, s02 _ h2⟩, fun c hcm => ?_, q⟩
      have e' : c = s1.heap.objs.size + 4 ∨ c = s1.heap.objs.size + 2 ∨ c = s1.heap.objs.size + 3 ∨ c = s1.heap.objs.size ∨ c = s1.heap.objs.size + 1 := by simpa using hcm
      have hle : s1.heap.objs.size ≤ c := by
        rcases e' with z | z | z | z | z
        · rw [z]; exact Nat.le_add_right _ _
        · rw [z]; exact Nat.le_add_right _ _
        · rw [z]; exact Nat.le_add_right _ _
        · rw [z]; exact Nat.le_refl _
        · rw [z]; exact Nat.le_add_right _ _
      exact I1.fpOk hle (I1.hok.fresh hle)

/-! ### enumerate(a) -/
def ItE1 (n : Nat) (Ok : Hp → Prop) (yv : Nat → V → Prop) : It :=
  ⟨fun i H => Ok H ∧ i < n, fun i H v H' => ∃ T x, v = .ref T ∧ H T = none ∧ H' = upd H T (.tup [.int (i : Nat), x]) ∧ yv i x, fun i H => Ok H ∧ i = n⟩
theorem turn_enum1 {P : Program} {w : World} {K : PySem.W.Frag} {elts : List Expr} {kk : Nat} {tpos : Pos} {e it : Addr} {far : List Addr} {tn : Nat → Heap → Prop} {n : Nat} {Ok : Hp → Prop} {yv : Nat → V → Prop}
    (hei : e ≠ it) (hef : e ∉ far) (S1 : SrcOk P w K it far tn n Ok yv) :
    Turn P w K (.Tuple elts kk tpos) (ItE1 n Ok yv) [e, it] e (fun i h => (∃ old, IsEnum h e it ((i : Nat) : Int) old) ∧ tn i h) where
  mem := by simp
  obj := fun i h st b hb => by
    obtain ⟨⟨old, he⟩, h1⟩ := st
    have e' : b = e ∨ b = it := by simpa using hb
    rcases e' with z | z
    · rw [z]; exact ⟨_, he, fun v q => nomatch q⟩
    · rw [z]; exact S1.obj i h h1
  keep := fun i h h' st k => let ⟨⟨old, he⟩, hi⟩ := st; ⟨⟨old, k e (by simp) _ he⟩, S1.keep i h h' hi fun o q => k it (by simp) o q⟩
  item := by
    intro X hP hw hK hc i pins s σ H E I hf st hg
    subst hP hw hK
    obtain ⟨⟨old, he⟩, h1⟩ := st
    obtain ⟨ok, hlt⟩ := hg
    obtain ⟨P1, St1, D1, a1, b1, v1⟩ := S1.draw X rfl rfl rfl hc pins s σ H I ok
    have hel : e < s.heap.objs.size := Heap.lt_size he
    have hil : it < s.heap.objs.size := by obtain ⟨_, q, _⟩ := S1.obj i _ h1; exact Heap.lt_size q
    have hefp : e ∉ it :: far := fun m => by
      rcases List.mem_cons.mp m with q | q
      · exact hei q
      · exact hef q
    refine wpAny_pyNext_enum_itemD D1 he (a1 i h1) hlt hei hefp fun u h' tk p ho st' hT hsz hk => ?_
    obtain ⟨x, ru, y1⟩ := v1 i u p
    refine ⟨_, rfl, wpAny_letOwnedTupleGo_enum (s := { s with heap := h', toks := tk + 1 }) ho fun h'' he' sb => ?_⟩
    have hT2 : h''.get? s.heap.objs.size = some { cls := .type "tuple", data := .seq #[.int i tk, u] } := (sb.2 _ (Nat.ne_of_gt hel)).trans hT
    have new : ObjOk X.prog X.w (upd H s.heap.objs.size (.tup [.int (i : Nat), x])) h'' s.heap.objs.size (.tup [.int (i : Nat), x]) :=
      ⟨by show 2 ≤ sizeLine; decide, [.int i tk, u], .cons ⟨_, rfl⟩ (.cons ru .nil), ⟨_, hT2, rfl, _, rfl⟩⟩
    have I1 : Inv X pins σ (upd H s.heap.objs.size (.tup [.int (i : Nat), x])) { s with heap := h'', toks := tk + 1 } :=
      I.turnedNew (ch := [e, it]) (fun b ob hb q => (sb.2 b (fun z => hb (by simp [z]))).trans (hk b ob (fun z => hb (by simp [z])) (fun z => hb (by simp [z])) q)) hf (Nat.le_refl _) new
    refine ⟨.ref s.heap.objs.size, _, I1, rfl, ⟨_, x, rfl, I.hok.fresh (Nat.le_refl _), rfl, y1⟩, ⟨⟨u, ?_⟩, b1 _ _ (D1.over st' sb hefp)⟩, fun b hb => ?_⟩
    · have e1 : ((i + 1 : Nat) : Int) = (i : Int) + 1 := by omega
      rw [e1]; exact he'
    · have hb' : b < s.heap.objs.size := by
        have e' : b = e ∨ b = it := by simpa using hb
        rcases e' with z | z
        · rw [z]; exact hel
        · rw [z]; exact hil
      rw [upd_ne (Nat.ne_of_lt hb')]
      exact (hf b hb).1
  done := by
    intro X hP hw hK hc i pins s σ H E I hf st hg
    subst hP hw hK
    obtain ⟨⟨old, he⟩, h1⟩ := st
    obtain ⟨ok, rfl⟩ := hg
    obtain ⟨P1, St1, D1, a1, b1, v1⟩ := S1.draw X rfl rfl rfl hc pins s σ H I ok
    obtain ⟨f0, f1, f2, f3, f4, f5⟩ := hf it (by simp)
    exact wpAny_pyNext_enum_endD D1 he (a1 _ h1) fun h' eb => ⟨rfl, I.turned (t' := s.toks) (fun b o hb q => eb b o hb q) f0 f1 f3 f4 f5⟩
  self := fun A i s Q E st h => let ⟨⟨_, he⟩, _⟩ := st; wpAny_pyIter_enum he h
set_option maxHeartbeats 1000000 in
theorem meets_enumerate_new1 {v : Value} {o : Obj} {H : Heap → Prop} (B : Begins v o H) :
    Meets (Builtin.«enumerate.__new__» ⟨[.type "enumerate", v], []⟩) (fun _ R s => H s.heap ∧
      R (.ok (.ret (.ref (s.heap.push o).objs.size))) { s with heap := (s.heap.push o).push { cls := .type "enumerate", data := .fields #[.none, .bool false, .ref s.heap.objs.size, rawInt 0, .none, .none] } }) :=
  .of_wp fun prog w A R s h => by
    obtain ⟨hp, g, d, tk, os⟩ := s; obtain ⟨h1, h⟩ := h
    have hsub := sub_enumerate
    have q1 : ∀ {A' : Around} {E : Value → Shared → Prop} {Q : Value → Shared → Prop}, Q (.ref hp.objs.size) ⟨hp.push o, g, d, tk, os⟩ → wpAny (model prog w) A' (pyIter v) Q E ⟨hp, g, d, tk, os⟩ :=
      fun q => B.iter prog w _ _ ⟨hp, g, d, tk, os⟩ _ h1 q
    wp_walk using q1
    refine wpAny_stack_any fun st => wpAny_pure ?_
    split
    · rename_i c _ _ _ _ _
      cases (c == Value.type "enumerate")
      · wp_walk using q1
        exact ⟨_, rfl, h⟩
      · wp_walk using q1
        exact ⟨_, rfl, h⟩
    · wp_walk using q1
      exact ⟨_, rfl, h⟩
theorem enum_begins1 {prog : Program} {w : World} {A : Around} {E : Value → Shared → Prop} {s : Shared} {v : Value} {o : Obj} {H : Heap → Prop} {Q : Value → Shared → Prop} (B : Begins v o H) (h1 : H s.heap)
    (h : ∀ h', IsEnum h' (s.heap.objs.size + 1) s.heap.objs.size 0 .none → h'.get? s.heap.objs.size = some o → h'.objs.size = s.heap.objs.size + 2 →
      (∀ b o, s.heap.get? b = some o → h'.get? b = some o) → Q (.ref (s.heap.objs.size + 1)) { s with heap := h' }) :
    wpAny (model prog w) A (call (.type "enumerate") [v]) Q E s := by
  refine callType_new F.called_enumerate (by decide) (F.typeCall_enumerate_1 _) (F.newCall_enumerate_1 _) (fun obj => F.args_object_init_2 obj _) F.entry_enumerate_new
    (meets_enumerate_new1 B) ⟨h1, ?_⟩
  have hz : (s.heap.push o).objs.size = s.heap.objs.size + 1 := Heap.size_push ..
  show _ ∧ _
  rw [hz]
  have he : IsEnum ((s.heap.push o).push { cls := .type "enumerate", data := .fields #[.none, .bool false, .ref s.heap.objs.size, rawInt 0, .none, .none] }) (s.heap.objs.size + 1) s.heap.objs.size 0 .none := by
    have := Heap.get?_push_size (s.heap.push o) (o := { cls := .type "enumerate", data := .fields #[.none, .bool false, .ref s.heap.objs.size, rawInt 0, .none, .none] }) rfl
    rw [hz] at this; exact this
  refine ⟨⟨_, he, rfl⟩, h _ he (Heap.get?_push_of_some _ (Heap.get?_push_size _ B.free)) (by rw [Heap.size_push, hz]) fun b o x => Heap.get?_push_of_some _ (Heap.get?_push_of_some _ x)⟩
def iEnum1 (X : Cx) (ta : TA) : TI := fun σ H R => ta σ H fun vs H1 => ∃ x n Ok yv, vs = [x] ∧ Starts X x n Ok yv ∧ Ok H1 ∧ R (ItE1 n Ok yv) H1
theorem pi_enum1 {X : Cx} {e : Expr} {ta : TA} {p pos tpos : Pos} {elts : List Expr} {kk : Nat} (hg : Gl X "enumerate") (hm : X.mg "enumerate" = none) (ha : PA X [e] ta) (hs : starEach [e] X.env = [(false, eval e X.env)] := by rfl) :
    PI X (.Tuple elts kk tpos) (.Call (.Name "enumerate" p) [e] [] pos) (iEnum1 X ta) := by
  refine ⟨fun pins s σ H R I h => ?_⟩
  refine Call_ (ld_blt I hg hm PyProof.Rows.boot_enumerate (PyProof.Rows.callWith_type1 (thn (ha.run pos pins s σ H _ I h) fun us s1 ⟨vs, H1, I1, r1, q1⟩ => ?_) hs rfl))
  obtain ⟨x, n, Ok, yv, ex, S1, ok, q⟩ := q1
  subst ex
  cases r1 with
  | cons r rr =>
    cases rr
    obtain ⟨o1, Hh1, far1, B1, hh1, lt1, mk1⟩ := S1.run pins s1 σ H1 _ I1 r ok
    refine enum_begins1 B1 hh1 fun h' he h1 hsz hk => wpAny_pyIter_enum he ?_
    obtain ⟨tn1, s01, T1⟩ := mk1 s1.heap.objs.size fun m => Nat.lt_irrefl _ (lt1 _ m)
    have I2 : Inv X pins σ H1 { s1 with heap := h' } := I1.kept (t' := s1.toks) hk
    refine ⟨s1.heap.objs.size + 1, [s1.heap.objs.size + 1, s1.heap.objs.size], _, _, H1, rfl, I2, turn_enum1 (Nat.succ_ne_self _) (fun m => Nat.not_succ_lt_self (lt1 _ m)) T1, ⟨⟨.none, he⟩, s01 _ h1⟩, fun b hb => ?_, q⟩
    have e' : b = s1.heap.objs.size + 1 ∨ b = s1.heap.objs.size := by simpa using hb
    have hle : s1.heap.objs.size ≤ b := by
      rcases e' with z | z
      · rw [z]; exact Nat.le_add_right _ _
      · rw [z]; exact Nat.le_refl _
    exact I1.fpOk hle (I1.hok.fresh hle)

/-! ### mirrors -/
/-- what walks over m give -/
def srcOf (m : MV) : Option (List MV) := match m with
  | .tup xs => some xs
  | .lst xs => some xs
  | .str z => some (z.cps.toList.map fun c => .str ⟨#[c]⟩)
  | .scr ns => some (ns.map .int)
  | _ => none
theorem src_rep {X : Cx} {A : Ad} {H : Hp} {v : V} {m : MV} {xs : List MV} (r : Rep (gmOf X) A H v m) (h : srcOf m = some xs) :
    ∃ n Ok yv, Starts X v n Ok yv ∧ n = xs.length ∧ (∀ A' H', ExtW A H A' H' → Ok H' ∧ ∀ i x, yv i x → ∃ y, xs[i]? = some y ∧ Rep (gmOf X) A' H' x y) := by
  cases r with
  | @tup a vs ms f r =>
    cases h
    refine ⟨_, _, _, starts_tup, r.length, fun A' H' e => ⟨(f.extW e).sq, fun i x hx => ?_⟩⟩
    exact (r.extW e).at' hx
  | @lst a vs ms f n r =>
    cases h
    refine ⟨_, _, _, starts_list, r.length, fun A' H' e => ⟨SqL.of (e.keep _ _ n f), fun i x hx => ?_⟩⟩
    exact (r.extW e).at' hx
  | str z =>
    cases h
    refine ⟨_, _, _, starts_text, by simp, fun A' H' e => ⟨trivial, fun i x ⟨c, ec, ex⟩ => ⟨.str ⟨#[c]⟩, ?_, by rw [ex]; exact .str _⟩⟩⟩
    have : z.cps.toList[i]? = some c := by simpa using ec
    rw [List.getElem?_map, this]
    rfl
  | @scr a ns f =>
    cases h
    refine ⟨_, _, _, starts_list, by simp, fun A' H' e => ⟨(f.extW e).sq, fun i x hx => ?_⟩⟩
    rw [List.getElem?_map] at hx
    cases e1 : ns[i]? with
    | none => rw [e1] at hx; cases hx
    | some k => rw [e1] at hx; cases hx; exact ⟨.int k, by rw [List.getElem?_map, e1]; rfl, .int k⟩
  | _ => cases h
def zipM (xs ys : List MV) : List MV := List.zipWith (fun a b => .tup [a, b]) xs ys
def iZipM (r : MA) : MA := fun env st => (r env st).bind fun ms st' => match ms with
  | [a, b] => match srcOf a, srcOf b with
    | some xs, some ys => .ok (zipM xs ys) st'
    | _, _ => .bad
  | _ => .bad
def enumFrom (k : Nat) : List MV → List MV
  | [] => []
  | x :: xs => .tup [.int k, x] :: enumFrom (k + 1) xs
def iEnumM (r : MA) : MA := fun env st => (r env st).bind fun ms st' => match ms with
  | [a] => match srcOf a with
    | some xs => .ok (enumFrom 0 xs) st'
    | none => .bad
  | _ => .bad
theorem enumFrom_length (k : Nat) : ∀ xs : List MV, (enumFrom k xs).length = xs.length
  | [] => rfl
  | x :: xs => by rw [enumFrom, List.length_cons, List.length_cons, enumFrom_length (k + 1) xs]
theorem enumFrom_get : ∀ (xs : List MV) (k i : Nat) (y : MV), xs[i]? = some y → (enumFrom k xs)[i]? = some (.tup [.int ((k + i : Nat) : Int), y])
  | [], k, i, y, h => by simp at h
  | x :: xs, k, 0, y, h => by simp at h; subst h; rfl
  | x :: xs, k, i + 1, y, h => by
    have := enumFrom_get xs (k + 1) i y (by simpa using h)
    rw [enumFrom, List.getElem?_cons_succ, this]
    congr 4
    omega
theorem pair_new {G : Gm} {A : Ad} {H : Hp} {st : Sto} {T : Addr} {x y : V} {mx my : MV} (s : SR G A H st) (hT : H T = none) (rx : Rep G A H x mx) (ry : Rep G A H y my) :
    Ext A H A (upd H T (.tup [x, y])) ∧ SR G A (upd H T (.tup [x, y])) st ∧ Rep G A (upd H T (.tup [x, y])) (.ref T) (.tup [mx, my]) :=
  ⟨Ext.laid s hT, s.laid hT, .tup (.inl ⟨.inl upd_same, s.new_out hT⟩) ((RepAll.cons rx (.cons ry .nil)).ext (Ext.laid s hT))⟩
section
variable {X : Cx} {W : WX} {e e2 : Expr} {mr : MA} {p pos tpos : Pos} {elts : List Expr} {kk : Nat}
theorem pmi_zip (hm : X.mg "zip" = none) (ha : PMA X W [e, e2] mr) (hg : Gl X "zip" := by rfl)
    (hs : starEach [e, e2] X.env = (false, eval e X.env) :: starEach [e2] X.env := by rfl) (hpl : (backTo pos (starEach [e2] X.env)).any (·.1) = false := by rfl) :
    PMI X W (.Tuple elts kk tpos) (.Call (.Name "zip" p) [e, e2] [] pos) (iZipM mr) := PI_imp (pi_zip2 hg hm ha hs hpl) fun σ H R ⟨A, env, st, s, q, h⟩ => by
  unfold iZipM at h
  rw [Res.post_bind] at h
  refine inA s q (Ext.refl A H) (h.mono (fun ms st1 h1 A1 H1 vs e1 s1 r1 => ?_) fun _ _ z => z)
  split at h1
  · rename_i a b
    split at h1
    · rename_i xs ys ex ey
      cases r1 with
      | cons ra rr =>
        cases rr with
        | cons rb rr =>
          cases rr
          obtain ⟨n1, Ok1, yv1, S1, l1, k1⟩ := src_rep ra ex
          obtain ⟨n2, Ok2, yv2, S2, l2, k2⟩ := src_rep rb ey
          refine ⟨_, _, n1, n2, Ok1, Ok2, yv1, yv2, rfl, S1, S2, (k1 A1 H1 (Ext.refl _ _).w).1, (k2 A1 H1 (Ext.refl _ _).w).1, h1 A1 H1 _ e1 s1 fun A' H' st' x' s' => ?_⟩
          obtain ⟨o1, c1⟩ := k1 A' H' x'
          obtain ⟨o2, c2⟩ := k2 A' H' x'
          have hl : (zipM xs ys).length = min n1 n2 := by rw [zipM, List.length_zipWith, l1, l2]
          rw [hl]
          refine ⟨fun i hi => ⟨o1, o2, by omega, by omega⟩, ⟨o1, o2, by omega, by omega, by omega⟩, fun i x H2 hi y => ?_⟩
          obtain ⟨T, u, v, ex2, hT, e2, y1, y2⟩ := y
          subst ex2 e2
          obtain ⟨m1, em1, r1⟩ := c1 i u y1
          obtain ⟨m2, em2, r2⟩ := c2 i v y2
          obtain ⟨z1, z2, z3⟩ := pair_new s' hT r1 r2
          exact ⟨z1, z2, _, by rw [zipM, List.getElem?_zipWith, em1, em2], z3⟩
    · exact h1.elim
  · exact h1.elim
theorem pmi_enum (hm : X.mg "enumerate" = none) (ha : PMA X W [e] mr) (hg : Gl X "enumerate" := by rfl) (hs : starEach [e] X.env = [(false, eval e X.env)] := by rfl) :
    PMI X W (.Tuple elts kk tpos) (.Call (.Name "enumerate" p) [e] [] pos) (iEnumM mr) := PI_imp (pi_enum1 hg hm ha hs) fun σ H R ⟨A, env, st, s, q, h⟩ => by
  unfold iEnumM at h
  rw [Res.post_bind] at h
  refine inA s q (Ext.refl A H) (h.mono (fun ms st1 h1 A1 H1 vs e1 s1 r1 => ?_) fun _ _ z => z)
  split at h1
  · rename_i a
    split at h1
    · rename_i xs ex
      cases r1 with
      | cons ra rr =>
        cases rr
        obtain ⟨n1, Ok1, yv1, S1, l1, k1⟩ := src_rep ra ex
        refine ⟨_, n1, Ok1, yv1, rfl, S1, (k1 A1 H1 (Ext.refl _ _).w).1, h1 A1 H1 _ e1 s1 fun A' H' st' x' s' => ?_⟩
        obtain ⟨o1, c1⟩ := k1 A' H' x'
        have hl : (enumFrom 0 xs).length = n1 := by rw [enumFrom_length, l1]
        rw [hl]
        refine ⟨fun i hi => ⟨o1, hi⟩, ⟨o1, rfl⟩, fun i x H2 hi y => ?_⟩
        obtain ⟨T, u, ex2, hT, e2, y1⟩ := y
        subst ex2 e2
        obtain ⟨m1, em1, r1⟩ := c1 i u y1
        obtain ⟨z1, z2, z3⟩ := pair_new s' hT (.int (i : Nat)) r1
        have e3 := enumFrom_get xs 0 i m1 em1
        rw [Nat.zero_add] at e3
        exact ⟨z1, z2, _, e3, z3⟩
    · exact h1.elim
  · exact h1.elim
/-- range(a, b) -/
theorem pmi_rng2 {a b : Expr} {mr : MA} {tg : Expr} (hm : X.mg "range" = none) (ha : PMA X W [a, b] mr) (hg : Gl X "range" := by rfl) (hs : starEach [a, b] X.env = [(false, eval a X.env), (false, eval b X.env)] := by rfl) (hs2 : starEach [b] X.env = [(false, eval b X.env)] := by rfl) :
    PMI X W tg (.Call (.Name "range" p) [a, b] [] pos) (MR.iRng2 mr) :=
  PI_imp (pi_range2 hg hm ha hs hs2) fun σ H R ⟨A, env, st, s, q, h⟩ => by
    unfold MR.iRng2 at h
    rw [Res.post_bind] at h
    refine inA s q (Ext.refl A H) (h.mono (fun mx st1 h1 A1 H1 x e1 s1 r1 => ?_) fun _ _ z => z)
    split at h1
    · obtain ⟨hl, k⟩ := post_ite h1
      cases r1 with
      | cons r rs =>
        cases rs with
        | cons r2 rs =>
          cases rs
          cases r
          cases r2
          exact ⟨_, _, rfl, ⟨by omega, by omega, by omega, by omega⟩, k A1 H1 _ e1 s1 itm_rng⟩
    · exact h1.elim
/-- what is walked: a text, a tuple, a frozen list, the script -/
def iAny (a : ME) : MA := fun env st => (a env st).bind fun m st' => match srcOf m with
  | some xs => .ok xs st'
  | none => .bad
end
end MR

/-! sorted(set(xs)), xs a list of texts -/
namespace MR
open PySem L2 PyProof.Rows
abbrev tkind (P : Program) (w : World) : KeyKind P w Str := PySem.strKind P w
abbrev newSet (w : World) : Obj := { cls := .type "set", dict := none, data := .set #[] 0 (.fresh 0 0 (!w.params.followText "set-order")) }

def txtOf (e : Int × Value) : Str := match e.2 with | .str k _ => k | _ => Str.empty
def GoodT (P : Program) (w : World) (e : Int × Value) : Prop := ∃ k tk, e.2 = Value.str k tk ∧ e.1 = (tkind P w).hash k
/-- the set of texts at a: S its members, n their number -/
def SetT (P : Program) (w : World) (h : Heap) (a : Addr) (S : Str → Bool) (n : Nat) : Prop :=
  ∃ o es ep t, h.get? a = some o ∧ o.ExactSet ∧ o.data = .set es ep t ∧ (∀ e ∈ es.toList, GoodT P w e) ∧ (es.toList.map txtOf).Nodup ∧ (∀ k, S k = true ↔ k ∈ es.toList.map txtOf) ∧
    es.size < scanBound ∧ t.fits es.size = true ∧ es.size = n ∧ Ris t.place.toList ∧ (w.params.followText "set-order" = true ∨ t.led = true)
section
variable {P : Program} {w : World} {h h' : Heap} {a : Addr} {S : Str → Bool} {n : Nat}
theorem SetT.at (R : SetT P w h a S n) (k : ∀ o, h.get? a = some o → h'.get? a = some o) : SetT P w h' a S n := by
  obtain ⟨o, es, ep, t, ho, r⟩ := R
  exact ⟨o, es, ep, t, k o ho, r⟩
theorem SetT.congr {S' : Str → Bool} (R : SetT P w h a S n) (e : ∀ k, S' k = S k) : SetT P w h a S' n := by
  have q : S' = S := funext e
  rw [q]; exact R
theorem goodT_elems {l : List (Int × Value)} (g : ∀ e ∈ l, GoodT P w e) : ElemsOf (tkind P w) l := fun e he => by
  obtain ⟨k, tk, h1, h2⟩ := g e he
  exact ⟨⟨k, by rw [h1]; exact strKind_is P w k tk, h2⟩, by rw [h1] <;> rfl⟩
theorem goodT_is {e : Int × Value} (g : GoodT P w e) (k : Str) : (tkind P w).is k e.2 = true ↔ txtOf e = k := by
  obtain ⟨k0, tk, h1, _⟩ := g
  unfold txtOf
  rw [h1]
  constructor
  · intro q; exact ((tkind P w).inj _ _ _ q (strKind_is P w k0 tk)).symm
  · intro q; subst q; exact strKind_is P w k0 tk
theorem goodT_mem {l : List (Int × Value)} (g : ∀ e ∈ l, GoodT P w e) (k : Str) : k ∈ l.map txtOf ↔ ∃ e ∈ l, (tkind P w).is k e.2 = true := by
  rw [List.mem_map]
  constructor
  · rintro ⟨e, he, q⟩
    exact ⟨e, he, (goodT_is (g e he) k).2 q⟩
  · rintro ⟨e, he, q⟩
    exact ⟨e, he, (goodT_is (g e he) k).1 q⟩
end
section
variable {P : Program} {w : World} {A : Around} {E : Value → Shared → Prop} {s : Shared} {a : Addr} {S : Str → Bool} {n : Nat}
theorem setT_add_tail {g : Bool → Sem Unit} (hg : ∀ (b : Bool) (s₁ : Shared) (Q' : Unit → Shared → Prop), Q' () s₁ → wpAny (model P w) A (g b) Q' E s₁)
    {o : Obj} {es : Array (Int × Value)} {ep : Nat} {t : SetTable} (ho : s.heap.get? a = some o) (hex : o.ExactSet) (hd : o.data = .set es ep t)
    {es1 : Array (Int × Value)} {t2 : SetTable} {S' : Str → Bool} (g1 : ∀ e ∈ es1.toList, GoodT P w e) (nd1 : (es1.toList.map txtOf).Nodup) (m1 : ∀ k, S' k = true ↔ k ∈ es1.toList.map txtOf)
    (hb1 : es1.size < scanBound) (hf2 : t2.fits es1.size = true) (hr : Ris t2.place.toList) (hl : w.params.followText "set-order" = true ∨ t2.led = true) {wasDummy : Bool} {R : Option Bool → Shared → Prop}
    (hR : ∀ h', Heap.SameBut a s.heap h' → SetT P w h' a S' es1.size → R (some true) { s with heap := h' }) :
    wpAny (model P w) A (do
        storeSet a es1 t2
        if (!wasDummy && t2.tooFull) = true then do
            g (relayAll t2 es1 (SetTable.grown es1.size)).2.2
            storeSet a (relayAll t2 es1 (SetTable.grown es1.size)).1 (relayAll t2 es1 (SetTable.grown es1.size)).2.1
            pure (some true)
          else pure (some true)) R E s := by
  refine wpAny_bind (wpAny_storeSet_of ho hd ?_ (fits_of_scanBound hb1))
  have ho1 := store_at (es' := es1) (t' := t2) ho hd
  have sb1 := Heap.SameBut.update s.heap a (Obj.putSet es1 t2)
  split
  · have pm := relayAll_perm t2 es1 (SetTable.grown es1.size)
    have hf3 := relayAll_fits t2 es1 (SetTable.grown es1.size)
    have hr3 := relayAll_ris t2 es1 (SetTable.grown es1.size)
    have hl3 := relayAll_led t2 es1 (SetTable.grown es1.size)
    generalize relayAll t2 es1 (SetTable.grown es1.size) = Z at pm hf3 hr3 hl3 ⊢
    obtain ⟨es2, t3, gave⟩ := Z
    dsimp only at pm hf3 hr3 hl3 ⊢
    have hsz : es2.size = es1.size := by rw [← Array.length_toList, pm.length_eq, Array.length_toList]
    have hb2 : es2.size < scanBound := by rw [hsz]; exact hb1
    refine wpAny_bind (hg _ _ _ ?_)
    refine wpAny_bind (wpAny_storeSet_of ho1 rfl ?_ (fits_of_scanBound hb2))
    have ho2 := store_at (es' := es2) (t' := t3) ho1 rfl
    refine wpAny_pure (hR _ (sb1.trans (Heap.SameBut.update _ a _)) ?_)
    exact ⟨_, es2, _, t3, ho2, hex, rfl, fun e he => g1 e (pm.mem_iff.mp he), (pm.map txtOf).nodup_iff.mpr nd1, fun k => (m1 k).trans (pm.map txtOf).mem_iff.symm, hb2, hf3, hsz, hr3,
      hl.imp id fun z => by rw [hl3]; exact z⟩
  · exact wpAny_pure (hR _ sb1 ⟨_, es1, _, t2, ho1, hex, rfl, g1, nd1, m1, hb1, hf2, rfl, hr, hl⟩)
theorem setT_add_hashed {k : Str} {tk : Tok} {Q : Bool → Shared → Prop} (R : SetT P w s.heap a S n) (room : n + 1 < scanBound)
    (hQ : ∀ h', Heap.SameBut a s.heap h' → SetT P w h' a (fun j => S j || decide (j = k)) (if S k = true then n else n + 1) → Q (!S k) { s with heap := h' }) :
    wpAny (model P w) A (setAddHashed a (.str k tk) ((tkind P w).hash k)) Q E s := by
  obtain ⟨o, es, ep, t, ho, hex, hd, g, nd, hm, hb, hf, hn, hr, hl⟩ := R
  have hkey : (tkind P w).is k (.str k tk) = true := strKind_is P w k tk
  have hsc : (Value.str k tk).scannable = true := rfl
  have hel : ElemsOf (tkind P w) es.toList := goodT_elems g
  unfold setAddHashed setAddHashedIn
  refine wpAny_holding (wpAny_bind (wpAny_setState_of ho hd hf ?_))
  dsimp only
  rw [byScan_of hsc hb hel]
  simp only [↓reduceIte]
  unfold setAddByScan
  refine wpAny_bind ?_
  refine wpAny_bind (wpAny_rule ?_)
  refine wpAny_bind (wpAny_setScan_of hkey ho hd hf hel ?_)
  cases hfi : List.findIdx? (fun e => (tkind P w).is k e.2) es.toList with
  | some j =>
    dsimp only
    obtain ⟨hj, pj, _⟩ := List.findIdx?_eq_some_iff_getElem.mp hfi
    have hSk : S k = true := (hm k).2 ((goodT_mem g k).2 ⟨es.toList[j], List.getElem_mem hj, pj⟩)
    refine wpAny_pure (wpAny_pure ?_)
    have q := hQ s.heap (Heap.SameBut.refl a s.heap) ⟨o, es, ep, t, ho, hex, hd, g, nd, fun i => by
      rw [Bool.or_eq_true, decide_eq_true_eq, ← hm i]
      exact ⟨fun z => z.elim id (fun e => e ▸ hSk), .inl⟩, hb, hf, by rw [if_pos hSk]; exact hn, hr, hl⟩
    rw [hSk] at q
    exact q
  | none =>
    dsimp only
    have hnk : k ∉ es.toList.map txtOf := fun z => by
      obtain ⟨e, he, q⟩ := (goodT_mem g k).1 z
      have c := List.findIdx?_eq_none_iff.mp hfi e he
      rw [q] at c
      cases c
    have hSk : S k = false := by
      cases q : S k with
      | false => rfl
      | true => exact absurd ((hm k).1 q) hnk
    have hgw : ∀ (b : Bool) {s₁ : Shared} {Q' : Unit → Shared → Prop}, Q' () s₁ → wpAny (model P w) A (match b with | true => rule "set.scan.the-table-gave-way" | false => pure ()) Q' E s₁ :=
      fun b s₁ Q' q => by cases b <;> first | exact wpAny_pure q | exact wpAny_rule q
    have pm := layNew_perm t es ((tkind P w).hash k) (.str k tk)
    have hf1 := layNew_fits t es ((tkind P w).hash k) (.str k tk)
    have hr1 := layNew_ris t es ((tkind P w).hash k) (.str k tk) hr
    have hl1 := layNew_led t es ((tkind P w).hash k) (.str k tk)
    generalize layNew t es ((tkind P w).hash k) (.str k tk) = Z at pm hf1 hr1 hl1 ⊢
    obtain ⟨es1, t1, wasDummy, gave⟩ := Z
    dsimp only at pm hf1 hr1 hl1 ⊢
    rw [Array.toList_push] at pm
    have pc : es1.toList.Perm (((tkind P w).hash k, Value.str k tk) :: es.toList) := pm.trans (List.perm_append_singleton _ _)
    have pk : (es1.toList.map txtOf).Perm (k :: es.toList.map txtOf) := pc.map txtOf
    have g1 : ∀ e ∈ es1.toList, GoodT P w e := fun e he => by
      rcases List.mem_cons.mp (pc.mem_iff.mp he) with z | z
      · rw [z]; exact ⟨k, tk, rfl, rfl⟩
      · exact g e z
    have nd1 : (es1.toList.map txtOf).Nodup := pk.nodup_iff.mpr (List.nodup_cons.mpr ⟨hnk, nd⟩)
    have m1 : ∀ i, (S i || decide (i = k)) = true ↔ i ∈ es1.toList.map txtOf := fun i => by
      rw [Bool.or_eq_true, decide_eq_true_eq, hm i, pk.mem_iff, List.mem_cons]
      exact Or.comm
    have hsz : es1.size = n + 1 := by rw [← Array.length_toList, pc.length_eq, List.length_cons, Array.length_toList, hn]
    have hb1 : es1.size < scanBound := by rw [hsz]; exact room
    have hled : w.params.followText "set-order" = true ∨ t1.led = true := hl.imp id fun z => by rw [hl1]; exact z
    have fin : ∀ h', Heap.SameBut a s.heap h' → SetT P w h' a (fun j => S j || decide (j = k)) es1.size → Q true { s with heap := h' } := fun h' sb r => by
      have q := hQ h' sb
      rw [hSk] at q
      rw [hsz] at r
      exact q r
    refine wpAny_bind (hgw _ ?_)
    split
    · refine wpAny_bind ?_
      rw [hashByValue_scannable 8 hsc]
      refine wpAny_pure ?_
      refine setT_add_tail ?_ ho hex hd g1 nd1 m1 hb1 ?_ ?_ ?_ ?_
      · intro b s₁ Q' q; cases b <;> first | exact wpAny_pure q | exact wpAny_rule q
      · first | (split <;> first | exact hf1 | exact SetTable.fits_plain_off hf1) | exact hf1
      · first | (split <;> exact hr1) | exact hr1
      · first | (split <;> exact hled) | exact hled
      · intro h' sb r; dsimp only; exact wpAny_pure (fin h' sb r)
    · refine wpAny_bind (wpAny_pure ?_)
      simp only [↓reduceIte]
      refine setT_add_tail ?_ ho hex hd g1 nd1 m1 hb1 hf1 hr1 hled ?_
      · intro b s₁ Q' q; cases b <;> first | exact wpAny_pure q | exact wpAny_rule q
      · intro h' sb r; dsimp only; exact wpAny_pure (fin h' sb r)
/-- the set's loop over an iterator of texts -/
theorem setT_loop {I : Addr} {fp wr : List Addr} {G : Array GenState → Array GenState → Prop} {n : Nat} {Pv : Nat → Value → Prop} {St : Nat → Shared → Prop} {R : Result → Shared → Prop}
    (W : WalksS P w A.in1 I fp wr G n Pv St) (S : Addr) (hSf : S ∉ fp) (xs : List Str) (hn : n = xs.length) (hb : xs.length + 1 < scanBound) (hval : ∀ i v, Pv i v → ∃ k t, xs[i]? = some k ∧ v = .str k t) :
    ∀ (k i : Nat) (s : Shared), n - i = k → i ≤ n → St i s → (∃ c, c ≤ i ∧ SetT P w s.heap S (fun j => decide (j ∈ xs.take i)) c) →
      (∀ s' c, Moved (S :: wr) G s s' → c ≤ n → SetT P w s'.heap S (fun j => decide (j ∈ xs)) c → R (.ok (.ret .none)) s') →
      codeAny (model P w) A (.builtin "set.update.loop" ⟨[.ref S, .ref I], []⟩) R s := by
  have hSw : S ∉ wr := fun h => hSf (W.sub _ h)
  have hsub : ∀ b ∈ wr, b ∈ S :: wr := fun b hb => List.mem_cons_of_mem _ hb
  intro k
  induction k with
  | zero =>
    intro i s hk' hi hst ⟨c, hc, hS⟩ hR
    have hin : i = n := by omega
    subst hin
    refine codeAny_builtin F.entry_set_update_loop ?_
    rw [Around.under_plainId F.plain_set_update_loop _]
    show wpAny _ A.in1 (pyNext (.ref I) >>= _) _ _ s
    refine wpAny_bind (W.done s _ _ hst fun s' hm => ?_)
    show wpAny _ A.in1 (ret Value.none) _ _ s'
    have e : xs.take i = xs := List.take_of_length_le (by omega)
    rw [e] at hS
    exact wpAny_pure (hR s' c (hm.mono hsub) hc (hS.at fun o e => hm.heap S o hSw e))
  | succ k ih =>
    intro i s hk' hi hst ⟨c, hc, hS⟩ hR
    have hlt : i < n := by omega
    refine codeAny_builtin F.entry_set_update_loop ?_
    rw [Around.under_plainId F.plain_set_update_loop _]
    show wpAny _ A.in1 (pyNext (.ref I) >>= _) _ _ s
    refine wpAny_bind (W.item i s _ _ hlt hst fun v s' hP hst' hm => ?_)
    obtain ⟨z, t, hz, rfl⟩ := hval i v hP
    have hS' : SetT P w s'.heap S (fun j => decide (j ∈ xs.take i)) c := hS.at fun o e => hm.heap S o hSw e
    show wpAny _ A.in1 (holding [Value.str z t] (setAdd S (.str z t)) >>= _) _ _ s'
    refine wpAny_bind (wpAny_holding ?_)
    unfold setAdd
    refine wpAny_holding ?_
    refine wpAny_bind ((tkind P w).pyHash (k := z) (strKind_is _ _ _ _) ?_)
    refine setT_add_hashed (s := { s' with toks := s'.toks + 1 }) hS' (by omega) fun h' hsb hS2 => ?_
    have hS3 : SetT P w h' S (fun j => decide (j ∈ xs.take (i + 1))) (if decide (z ∈ xs.take i) = true then c else c + 1) := hS2.congr fun j => by
      rw [List.take_add_one, hz]
      simp [List.mem_append]
    have hc3 : (if decide (z ∈ xs.take i) = true then c else c + 1) ≤ i + 1 := by
      split <;> omega
    refine wpAny_pure ⟨plainId_quiet F.plain_set_update_loop _, ih (i + 1) _ (by omega) hlt (W.frame _ s' _ _ hst' (Nat.le_succ _) fun b hb o e => ?_) ⟨_, hc3, hS3⟩ fun s'' c2 hm'' hc'' hS'' => ?_⟩
    · rw [hsb.2 b (fun h : b = S => hSf (by rw [← h]; exact hb))]; exact e
    · refine hR s'' c2 (Moved.trans W.gtrans ((hm.mono hsub).then_heap (Nat.le_succ _) fun b o hb e => ?_) hm'') hc'' hS''
      rw [hsb.2 b (fun h : b = S => hb (by rw [h]; exact List.mem_cons_self))]; exact e
theorem strsT_at : ∀ {us : List Value} {xs : List Str}, StrsAre us xs → ∀ (i : Nat) (v : Value), us[i]? = some v → ∃ t, v = .str (xs.getD i Str.empty) t
  | _, _, .nil, i, v, h => by simp at h
  | _, _, .cons n t hr, 0, v, h => by simp at h; exact ⟨t, h.symm⟩
  | _, _, .cons n t hr, i + 1, v, h => by
    simpa using strsT_at hr i v (by simpa using h)
theorem setT_new_at {h : Heap} {a : Addr} {xs : List Str} (ho : h.get? a = some (newSet w)) : SetT P w h a (fun j => decide (j ∈ xs.take 0)) 0 :=
  ⟨_, #[], 0, _, ho, ⟨rfl, rfl, rfl⟩, rfl, (fun e he => by simp at he), (by simp), (fun k => by simp), (by decide), (by rfl), rfl, List.Pairwise.nil, by
    show _ ∨ (!w.params.followText "set-order") = true
    cases w.params.followText "set-order"
    · exact .inr rfl
    · exact .inl rfl⟩
set_option maxRecDepth 100000 in
set_option maxHeartbeats 3200000 in
theorem call_setT {l : Addr} {items : Array Value} (xs : List Str) {Q : Value → Shared → Prop} (hh : A.handled = none) (hl : s.heap.IsList l items) (hit : StrsAre items.toList xs) (hb : xs.length + 1 < scanBound)
    (h : ∀ (h' : Heap) (tk c : Nat), SetT P w h' s.heap.objs.size (fun j => decide (j ∈ xs)) c → c ≤ xs.length → (∀ b o, s.heap.get? b = some o → h'.get? b = some o) → Q (.ref s.heap.objs.size) { s with heap := h', toks := tk }) :
    wpAny (model P w) A (call (.type "set") [.ref l]) Q E s := by
  have hisz : items.size = xs.length := by rw [← StrsAre.len_eq hit, Array.length_toList]
  obtain ⟨c, tl, hmro⟩ := F.called_set.mro
  have hmade := F.called_set.made
  have hsub := F.called_set.sub
  refine wpAny_call (codeAny_of_tree ?_)
  show wpAny _ _ (callAny (.type "set") _) _ _ _
  refine wpAny_pure ⟨Code.quiet_builtin _ (by decide +kernel), codeAny_builtin F.entry_type_call ?_⟩
  rw [Around.under_plain (weight_type_call_type "set" [.ref l] []) rfl]
  have h1 := F.called_set.notType
  have h2 := F.called_set.canCreate
  have hct := F.typeCall_set_1 (.ref l)
  repeat (any_goals (first | assumption | wp_step))
  refine codeAny_mono (code_set_led1 (.ref l) (E := E) (Q₁ := fun obj s₁ => obj = .ref s.heap.objs.size ∧ s₁ = { s with heap := s.heap.push (newSet w) }) ⟨rfl, rfl⟩) fun r s₁ hr => ?_
  cases r with
  | error e => exact hr
  | ok fl =>
    cases fl with
    | ret obj =>
      obtain ⟨rfl, rfl⟩ := hr
      have hS : (s.heap.push (newSet w)).get? s.heap.objs.size = some (newSet w) := Heap.get?_push_size _ rfl
      have hT : Shared.TypeIs { s with heap := s.heap.push (newSet w) } (.ref s.heap.objs.size) "set" := ⟨_, hS, rfl⟩
      have hli := F.called_set.init.lookup
      have hbi := F.called_set.init.bind (.ref s.heap.objs.size)
      repeat (any_goals (first | assumption | wp_step))
      refine codeAny_mono (codeAny_call_builtin (R := wants (fun r s₂ => r = .none ∧ ∃ h' tk c, s₂ = { s with heap := h', toks := tk } ∧ SetT P w h' s.heap.objs.size (fun j => decide (j ∈ xs)) c ∧ c ≤ xs.length ∧
          (∀ b o, s.heap.get? b = some o → h'.get? b = some o)) E) F.called_set.init.plain F.entry_set_init (check_set_init_1 hT ?_)) fun r₂ s₂ hr₂ => ?_
      · obtain ⟨ol, hol, hcl, nl, hdl⟩ := hl
        obtain ⟨ocls, odict, odata, oslots⟩ := ol
        simp only at hcl hdl
        subst hcl; subst hdl
        have hol' : (s.heap.push (newSet w)).get? l = some { cls := .type "list", dict := odict, data := .seq items nl, slots := oslots } := Heap.get?_push_of_some _ hol
        have hsls := PySem.F.sub_list_set
        have hslf := PySem.F.sub_list_frozenset
        have hne : (Value.type "list" == Value.type "dict") = false := by decide
        have hl1 : (s.heap.push (newSet w)).IsList l items := ⟨_, hol', rfl, nl, rfl⟩
        unfold Builtin.«set.__init__» noKeywords Builtin.Frozenset.updateFrom
        generalize hPI : pyIter = PI
        wp_walk
        subst hPI
        refine wpAny_pyIter_list hl1 ?_
        refine wpAny_bind (wpAny_runValue ?_)
        have hlS : l < s.heap.objs.size := Heap.lt_size hol
        have hh3 : A.in1.in1.in1.handled = none := by simp [hh]
        have hneI : l ≠ (s.heap.push (newSet w)).objs.size := by
          rw [Heap.size_push]; exact Nat.ne_of_lt (Nat.lt_succ_of_lt hlS)
        have hSf : s.heap.objs.size ∉ [(s.heap.push (newSet w)).objs.size, l] := by
          rw [Heap.size_push]; simp only [List.mem_cons, List.mem_singleton, List.not_mem_nil, or_false, not_or]
          exact ⟨Nat.ne_of_lt (Nat.lt_succ_self _), Nat.ne_of_gt hlS⟩
        have hval : ∀ (i : Nat) (v : Value), items[i]? = some v → ∃ k t, xs[i]? = some k ∧ v = .str k t := fun i v hv => by
          have hi : i < xs.length := by rw [← hisz]; exact (Array.getElem?_eq_some_iff.mp hv).1
          obtain ⟨t, e⟩ := strsT_at hit i v (by rw [Array.getElem?_toList]; exact hv)
          refine ⟨xs[i], t, List.getElem?_eq_getElem hi, ?_⟩
          rw [e, List.getD_eq_getElem?_getD, List.getElem?_eq_getElem hi] <;> rfl
        refine setT_loop ((Walks.list hh3 _ l hneI items).toS) s.heap.objs.size
          hSf xs hisz hb hval (items.size - 0) 0 _ (by omega) (Nat.zero_le _)
          ⟨⟨_, Heap.get?_push_size _ rfl, rfl, rfl⟩, (hl1.push _)⟩ ?hS0 ?hR
        case hS0 =>
          have hget : ((s.heap.push (newSet w)).push { cls := .type "list_iterator", data := .fields #[.ref l, .int 0 0] }).get? s.heap.objs.size = some (newSet w) := Heap.get?_push_of_some _ hS
          exact ⟨0, Nat.le_refl 0, setT_new_at hget⟩
        case hR =>
          intro s' c' hm hc' hS'
          obtain ⟨h', g2, d', tk', os'⟩ := s'
          have eg : g2 = s.gens := hm.gens
          have ed : d' = s.drawn := hm.drawn
          have eo : os' = s.os := hm.os
          subst eg; subst ed; subst eo
          show wpAny _ _ _ _ _ _
          refine wpAny_pure ?_
          show wpAny _ _ (ret Value.none) _ _ _
          rw [hisz] at hc'
          refine wpAny_pure ⟨rfl, h', tk', c', rfl, hS', hc', fun b o e => ?_⟩
          have hb0 : b < s.heap.objs.size := Heap.lt_size e
          have hb1 : b ≠ s.heap.objs.size := Nat.ne_of_lt hb0
          have hb2 : b ≠ (s.heap.push (newSet w)).objs.size := by
            rw [Heap.size_push]; exact Nat.ne_of_lt (Nat.lt_succ_of_lt hb0)
          exact hm.heap b o (by simp only [List.mem_cons, List.mem_singleton, List.not_mem_nil, or_false, not_or]; exact ⟨hb1, hb2⟩) (Heap.get?_push_of_some _ (Heap.get?_push_of_some _ e))
      · cases r₂ with
        | error e => exact hr₂
        | ok fl₂ =>
          cases fl₂ with
          | ret r =>
            obtain ⟨rfl, h', tk, c', rfl, hS', hc', hk'⟩ := hr₂
            repeat (any_goals (first | assumption | wp_step))
            exact h _ _ _ hS' hc' hk'
          | _ => exact hr₂.elim
    | _ => exact hr.elim
theorem strsT_of : ∀ (l : List Value), (∀ v ∈ l, ∃ k tk, v = Value.str k tk) → StrsAre l (l.map fun v => match v with | .str k _ => k | _ => Str.empty)
  | [], _ => .nil
  | v :: l, h => by
    obtain ⟨k, tk, rfl⟩ := h _ List.mem_cons_self
    exact .cons _ _ (strsT_of l fun u hu => h u (List.mem_cons_of_mem _ hu))
theorem sorted_setT {Q : Value → Shared → Prop} (R : SetT P w s.heap a S n) (hh : A.handled = none) (h64 : n < 64)
    (hQ : ∀ s' p (out : Array Value) (c : Nat) (ys : List Str), (∀ b o, s.heap.get? b = some o → s'.heap.get? b = some o) → s'.gens = s.gens → s'.os = s.os → s.heap.objs.size ≤ p →
      s'.heap.get? p = some (seqObj "list" out c) → StrsAre out.toList ys → sortedS ys = true → ys.Nodup → (∀ k, k ∈ ys ↔ S k = true) → ys.length = n → Q (.ref p) s') :
    wpAny (model P w) A (call (.builtin "sorted") [.ref a]) Q E s := by
  obtain ⟨o, es, ep, t, ho, hex, hd, g, nd, hm, hb, hf, hn, hr, hl⟩ := R
  refine Calls.call_function_entry kind_sorted plain_sorted entry_sorted (args_sorted1 _) ?_
  unfold Builtin.«sorted»
  refine wpAny_bind (m := checkCount "sorted" 1 1 _) (wpAny_pure ?_)
  refine wpAny_bind (collect_set (A := A.in1) hh ⟨o, ho, hex.1, hd⟩ hf hb hr hl fun s1 vs k1 hz g1 o1 pm => ?_)
  have hvl : vs.length = n := by rw [pm.length_eq, List.length_map, Array.length_toList]; exact hn
  have hI := strsT_of vs fun v hv => by
    obtain ⟨e, he, q⟩ := List.mem_map.mp (pm.mem_iff.mp hv)
    obtain ⟨k, tk, h1, _⟩ := g e he
    exact ⟨k, tk, by rw [← q]; exact h1⟩
  have pk : (vs.map fun v => match v with | .str k _ => k | _ => Str.empty).Perm (es.toList.map txtOf) := by
    have q := pm.map fun v => match v with | .str k _ => k | _ => Str.empty
    rw [List.map_map] at q
    exact q
  refine wpAny_bind (wpAny_newList ?_ (by rw [hvl, sizeLine_eq]; omega))
  have hoL : (s1.heap.push (seqObj "list" vs.toArray 0)).get? s1.heap.objs.size = some (seqObj "list" vs.toArray 0) := Heap.get?_push_size _ rfl
  refine wpAny_bind (wpAny_holding (wpAny_call_entry slot_list_sort ⟨_, hoL, rfl⟩ entry_list_sort (list_sort_treeK strKind_oneLt hoL hI.keysOf (fun v₁ v₂ rest e => keyKind_strs (by rw [← e]; exact hI)) (by rw [hvl]; exact h64) fun st' hp hs => ⟨_, rfl, ?_⟩) (args_list_sort _)))
  obtain ⟨ys, a1, a2, a3⟩ := sorted_out_str hI hp hs
  obtain ⟨c, hc⟩ := sortedHeap_at (vs := vs) (out := (arrOf st').map (·.2)) hoL
  have pn : ys.Perm (es.toList.map txtOf) := a2.trans pk
  refine wpAny_pure ⟨_, rfl, hQ _ s1.heap.objs.size _ c ys (fun b u e => ?_) g1 o1 hz hc a1 a3 (pn.nodup_iff.mpr nd) (fun k => by rw [pn.mem_iff, ← hm k]) ?_⟩
  · have q := k1 b u e
    have hlt := Heap.lt_size q
    show (sortedHeap (s1.heap.push (seqObj "list" vs.toArray 0)) s1.heap.objs.size vs _).get? b = some u
    rw [sortedHeap_old (Nat.ne_of_lt hlt) (by rw [size_push']; exact Nat.lt_succ_of_lt hlt)]
    exact Heap.get?_push_of_some _ q
  · rw [pn.length_eq, List.length_map, Array.length_toList]; exact hn
end
end MR

/-! sorted(set(xs)) as a mirror -/
namespace MR
open PySem L2 PyProof.Rows
open PySem.Spec (ltCps)
abbrev ltS (a b : Str) : Bool := ltCps a.cps.toList b.cps.toList
theorem ltCps_irrefl : ∀ a : List Nat, ltCps a a = false
  | [] => rfl
  | x :: r => by simp [ltCps, ltCps_irrefl r]
theorem ltCps_trans : ∀ {a b c : List Nat}, ltCps a b = true → ltCps b c = true → ltCps a c = true
  | [], [], _, h, _ => by simp [ltCps] at h
  | [], _ :: _, [], _, h => by simp [ltCps] at h
  | [], _ :: _, _ :: _, _, _ => rfl
  | _ :: _, [], _, h, _ => by simp [ltCps] at h
  | _ :: _, _ :: _, [], _, h => by simp [ltCps] at h
  | x :: a, y :: b, z :: c, h, k => by
    simp only [ltCps, Bool.or_eq_true, Bool.and_eq_true, decide_eq_true_eq, beq_iff_eq] at h k ⊢
    rcases h with h | ⟨h, h'⟩
    · rcases k with k | ⟨k, k'⟩
      · exact .inl (by omega)
      · exact .inl (by omega)
    · rcases k with k | ⟨k, k'⟩
      · exact .inl (by omega)
      · exact .inr ⟨h.trans k, ltCps_trans h' k'⟩
theorem ltCps_tri : ∀ (a b : List Nat), ltCps a b = true ∨ a = b ∨ ltCps b a = true
  | [], [] => .inr (.inl rfl)
  | [], _ :: _ => .inl rfl
  | _ :: _, [] => .inr (.inr rfl)
  | x :: a, y :: b => by
    simp only [ltCps, Bool.or_eq_true, Bool.and_eq_true, decide_eq_true_eq, beq_iff_eq, List.cons.injEq]
    rcases Nat.lt_trichotomy x y with h | h | h
    · exact .inl (.inl h)
    · rcases ltCps_tri a b with k | k | k
      · exact .inl (.inr ⟨h, k⟩)
      · exact .inr (.inl ⟨h, k⟩)
      · exact .inr (.inr (.inr ⟨h.symm, k⟩))
    · exact .inr (.inr (.inl h))
theorem str_eq {a b : Str} (h : a.cps.toList = b.cps.toList) : a = b := by
  obtain ⟨⟨a⟩⟩ := a
  obtain ⟨⟨b⟩⟩ := b
  simp at h
  rw [h]
theorem ltS_tri (a b : Str) : ltS a b = true ∨ a = b ∨ ltS b a = true := (ltCps_tri _ _).imp_right (.imp_left str_eq)
/-- rising, no text twice -/
abbrev Rising (l : List Str) : Prop := l.Pairwise fun a b => ltS a b = true
theorem rising_of : ∀ {l : List Str}, sortedS l = true → l.Nodup → Rising l := by
  have step : ∀ (l : List Str) (p : Str), risingS p l = true → (p :: l).Nodup → Rising (p :: l) := by
    intro l
    induction l with
    | nil => intro p _ _; exact List.pairwise_singleton _ _
    | cons x r ih =>
      intro p h nd
      simp only [risingS, Bool.and_eq_true, Bool.not_eq_true'] at h
      obtain ⟨n1, n2⟩ := List.nodup_cons.mp nd
      have R := ih x h.2 n2
      have px : ltS p x = true := by
        rcases ltS_tri p x with q | q | q
        · exact q
        · exact absurd (by rw [q]; exact List.mem_cons_self) n1
        · exact absurd (q.symm.trans h.1) (by decide)
      refine List.pairwise_cons.mpr ⟨fun y hy => ?_, R⟩
      rcases List.mem_cons.mp hy with e | hy
      · rw [e]; exact px
      · exact ltCps_trans px ((List.pairwise_cons.mp R).1 y hy)
  intro l h nd
  cases l with
  | nil => exact List.Pairwise.nil
  | cons x r => exact step r x h nd
theorem rising_uniq : ∀ {a b : List Str}, Rising a → Rising b → (∀ k, k ∈ a ↔ k ∈ b) → a = b
  | [], [], _, _, _ => rfl
  | [], y :: b, _, _, h => absurd ((h y).2 List.mem_cons_self) (by simp)
  | x :: a, [], _, _, h => absurd ((h x).1 List.mem_cons_self) (by simp)
  | x :: a, y :: b, ha, hb, h => by
    obtain ⟨a1, a2⟩ := List.pairwise_cons.mp ha
    obtain ⟨b1, b2⟩ := List.pairwise_cons.mp hb
    have no : ∀ {p q : Str}, ltS p q = true → ltS q p = true → False := fun u v => by
      have := ltCps_trans u v
      rw [ltCps_irrefl] at this
      cases this
    have e : x = y := by
      rcases List.mem_cons.mp ((h x).1 List.mem_cons_self) with e | m
      · exact e
      · rcases List.mem_cons.mp ((h y).2 List.mem_cons_self) with e | m'
        · exact e.symm
        · exact (no (b1 x m) (a1 y m')).elim
    subst e
    have nx : ∀ {l : List Str}, (∀ y ∈ l, ltS x y = true) → x ∉ l := fun q m => by
      have := q x m
      rw [show ltS x x = false from ltCps_irrefl _] at this
      cases this
    have e2 : a = b := rising_uniq a2 b2 fun k => by
      constructor
      · intro m
        rcases List.mem_cons.mp ((h k).1 (List.mem_cons_of_mem _ m)) with q | q
        · rw [q] at m; exact (nx a1 m).elim
        · exact q
      · intro m
        rcases List.mem_cons.mp ((h k).2 (List.mem_cons_of_mem _ m)) with q | q
        · rw [q] at m; exact (nx b1 m).elim
        · exact q
    rw [e2]
def insT (x : Str) : List Str → List Str
  | [] => [x]
  | y :: r => if ltS x y = true then x :: y :: r else if ltS y x = true then y :: insT x r else y :: r
def sortT : List Str → List Str
  | [] => []
  | x :: r => insT x (sortT r)
theorem insT_mem (x : Str) : ∀ (l : List Str) (k : Str), k ∈ insT x l ↔ k = x ∨ k ∈ l
  | [], k => by simp [insT]
  | y :: r, k => by
    unfold insT
    split
    · simp
    · split
      · rw [List.mem_cons, insT_mem x r k, List.mem_cons]
        constructor
        · rintro (q | q | q)
          · exact .inr (.inl q)
          · exact .inl q
          · exact .inr (.inr q)
        · rintro (q | q | q)
          · exact .inr (.inl q)
          · exact .inl q
          · exact .inr (.inr q)
      · rename_i h1 h2
        have e : x = y := by
          rcases ltS_tri x y with q | q | q
          · exact absurd q h1
          · exact q
          · exact absurd q h2
        subst e
        constructor
        · exact .inr
        · rintro (q | q)
          · rw [q]; exact List.mem_cons_self
          · exact q
theorem insT_rising (x : Str) : ∀ {l : List Str}, Rising l → Rising (insT x l)
  | [], _ => List.pairwise_singleton _ _
  | y :: r, h => by
    obtain ⟨h1, h2⟩ := List.pairwise_cons.mp h
    unfold insT
    split
    · rename_i q
      refine List.pairwise_cons.mpr ⟨fun z hz => ?_, h⟩
      rcases List.mem_cons.mp hz with e | hz
      · rw [e]; exact q
      · exact ltCps_trans q (h1 z hz)
    · split
      · rename_i q
        refine List.pairwise_cons.mpr ⟨fun z hz => ?_, insT_rising x h2⟩
        rcases (insT_mem x r z).mp hz with e | hz
        · rw [e]; exact q
        · exact h1 z hz
      · exact h
theorem sortT_rising : ∀ l : List Str, Rising (sortT l)
  | [] => List.Pairwise.nil
  | x :: r => insT_rising x (sortT_rising r)
theorem sortT_mem : ∀ (l : List Str) (k : Str), k ∈ sortT l ↔ k ∈ l
  | [], k => Iff.rfl
  | x :: r, k => by rw [sortT, insT_mem, sortT_mem r, List.mem_cons]
theorem sortT_of {ys xs : List Str} (h : sortedS ys = true) (nd : ys.Nodup) (m : ∀ k, k ∈ ys ↔ k ∈ xs) : ys = sortT xs :=
  rising_uniq (rising_of h nd) (sortT_rising xs) fun k => (m k).trans (sortT_mem xs k).symm

/-! ### set(xs), sorted(s) by values -/
def SetTO (P : Program) (w : World) (a : Addr) (S : Str → Bool) (n : Nat) : HO := .ext fun h => SetT P w h a S n
theorem setTO_new {w : World} {P : Program} {H : Hp} {h : Heap} {a : Addr} {S : Str → Bool} {n : Nat} (R : SetT P w h a S n) : ObjOk P w H h a (SetTO P w a S n) := by
  have ⟨o, _, _, _, ho, _⟩ := R
  exact ⟨R, ⟨o, ho⟩, fun h1 h2 p k => SetT.at p k⟩
theorem setTO_get {X : Cx} {pins : List (Addr × Obj)} {σ : L2.St} {H : Hp} {s : Shared} {a : Addr} {S : Str → Bool} {n : Nat} (I : Inv X pins σ H s) (ha : H a = some (SetTO X.prog X.w a S n)) : SetT X.prog X.w s.heap a S n := (I.hok a _ ha).1
def rSetT (X : Cx) : List V → Hp → VK → Prop := fun xs H Q => ∃ (a : Addr) (ys : List Str), xs = [V.ref a] ∧ SqL X.K H a (ys.map V.str) ∧ ys.length < 63 ∧
  ∀ p c, H p = none → c ≤ ys.length → Q (.ref p) (upd H p (SetTO X.prog X.w p (fun j => decide (j ∈ ys)) c))
theorem cr_setT {X : Cx} (hc : X.calm = true) : CallR X (.type "set") (rSetT X) := by
  intro pins s σ H xs us Q I r h
  obtain ⟨a, ys, rfl, hs, h64, q⟩ := h
  obtain ⟨its, rv, hl, _⟩ := I.list hs
  rw [Vals.ref1 r]
  refine call_setT ys (I.ok.hd hc) hl.isList rv.strs (by unfold scanBound; omega) fun h' tk c R hc' k => ?_
  exact ⟨.ref _, upd H s.heap.objs.size (SetTO X.prog X.w s.heap.objs.size (fun j => decide (j ∈ ys)) c), I.laid (t' := tk) k (Nat.le_refl _) (setTO_new R), rfl, q _ c (I.hok.fresh (Nat.le_refl _)) hc'⟩
def rSortedT (X : Cx) : List V → Hp → VK → Prop := fun vs H Q => ∃ (a : Addr) (S : Str → Bool) (n : Nat), vs = [V.ref a] ∧ H a = some (SetTO X.prog X.w a S n) ∧ n < 64 ∧
  ∀ (ys : List Str) (p : Addr), sortedS ys = true → ys.Nodup → (∀ k, k ∈ ys ↔ S k = true) → H p = none → Q (.ref p) (upd H p (.lst (ys.map V.str)))
theorem cr_sortedT {X : Cx} (hc : X.calm = true) : CallR X (.builtin "sorted") (rSortedT X) := by
  intro pins s σ H vs us Q I r h
  obtain ⟨a, S, n, rfl, ha, h64, q⟩ := h
  have R := setTO_get I ha
  rw [Vals.ref1 r]
  refine sorted_setT R (I.ok.hd hc) h64 fun s' p out c ys k g o hp hg hi hs nd hm hl => ?_
  have hlen : (ys.map V.str).length ≤ sizeLine := by rw [List.length_map, hl, sizeLine_eq]; omega
  have hn : H p = none := I.hok.fresh hp
  have J : Inv X pins σ (upd H p (.lst (ys.map V.str))) { s with heap := s'.heap, gens := s'.gens, drawn := s'.drawn, toks := s'.toks } :=
    I.call (ch := []) (Un.laid k hp hn) (I.hok.laid k hp ⟨hlen, out.toList, c, vals_of_strs hi, hg⟩) (by rw [g]; exact I.bare) (fun _ z => nomatch z)
  have e : s' = { s with heap := s'.heap, gens := s'.gens, drawn := s'.drawn, toks := s'.toks } := by
    cases s'
    cases s
    cases o
    rfl
  rw [e]
  exact ⟨.ref p, _, J, rfl, q ys p hs nd hm hn⟩
/-! ### sorted(set(e)) -/
def gSortSet : List MV → Sto → Res MV := fun ms st => match ms with
  | [m] => match (listOf m st).bind strsOf with
    | some ys => if ys.length < 63 then .ok (.lst ((sortT ys).map .str)) st else .bad
    | none => .bad
  | _ => .bad
section
variable {X : Cx} {W : WX} {e : Expr} {p p2 pos pos2 : Pos} {mr : MA}
theorem pm_sortset (hc : X.calm = true) (hm1 : X.mg "sorted" = none) (hm2 : X.mg "set" = none) (ha : PMA X W [e] mr) (hg1 : Gl X "sorted" := by rfl) (hg2 : Gl X "set" := by rfl)
    (he : starEach [e] X.env = (false, eval e X.env) :: starEach [] X.env := by rfl) (hpl : (backTo pos2 (starEach [] X.env)).any (·.1) = false := by rfl)
    (he' : starEach [.Call (.Name "set" p2) [e] [] pos2] X.env = (false, eval (.Call (.Name "set" p2) [e] [] pos2) X.env) :: starEach [] X.env := by rfl) (hpl' : (backTo pos (starEach [] X.env)).any (·.1) = false := by rfl) :
    PM X W (.Call (.Name "sorted" p) [.Call (.Name "set" p2) [e] [] pos2] [] pos) (mCall gSortSet mr) :=
  PE_imp (pe_callB (cr_sortedT hc) hg1 hm1 (by decide +kernel) (pa_cons (pe_callTy (cr_setT hc) hg2 hm2 (by decide +kernel) ha (by decide) (by decide) he hpl) pa_nil he') (by decide) (by decide) he' hpl') fun σ H Q ⟨A, env, st, s, q, h⟩ => by
    unfold mCall at h
    rw [Res.post_bind] at h
    refine inA s q (Ext.refl A H) (h.mono (fun ms st1 h1 A1 H1 x e1 s1 r1 => ?_) fun _ _ z => z)
    obtain ⟨m, st', e2, k⟩ := post_noExc h1
    unfold gSortSet at e2
    split at e2
    · rename_i m0
      split at e2
      · rename_i ys ey
        obtain ⟨hl, e2⟩ := ite_ok e2
        cases e2
        cases r1 with
        | cons r rs =>
          cases rs
          cases el : listOf m0 st1 with
          | none => rw [el] at ey; cases ey
          | some zs =>
            rw [el] at ey
            obtain ⟨a, vs, rfl, hH, rv⟩ := listOf_rep s1 r el
            have ev := strsOf_rep rv ey
            refine ⟨a, ys, rfl, by rw [← ev]; exact SqL.of hH, hl, fun b c hb hcl => ?_⟩
            refine ⟨b, _, c, rfl, upd_same, by omega, fun zs p2 z1 z2 z3 hp2 => ?_⟩
            have ez : zs = sortT ys := sortT_of z1 z2 fun k => by rw [z3]; exact decide_eq_true_iff
            subst ez
            have k1 := okP.ext e1 k
            have sb := s1.laid (o := SetTO X.prog X.w b (fun j => decide (j ∈ ys)) c) hb
            have xb := Ext.laid (o := SetTO X.prog X.w b (fun j => decide (j ∈ ys)) c) s1 hb
            exact fin_lst sb (RepAll.strs (sortT ys)) (okP.ext xb k1) p2 hp2
      · cases e2
    · cases e2
end
end MR

/-! comprehensions whose element lets an exception of a called def out -/
namespace MR
open PySem L2
open PyProof.Rows (AllBare)
/-- a block's context whose exceptions go the way of a comprehension's -/
abbrev blkR (X : Cx) (s : Shared) (H : Hp) (scope : Scope) (cenv : Env) (fp : List Addr) : Cx :=
  { X.blk s H scope cenv fp with xe := notedBy (model X.prog X.w) X.A cenv (CompFails (model X.prog X.w) X.A X.xe cenv) }
theorem Inv.xe {X : Cx} {pins : List (Addr × Obj)} {σ : L2.St} {H : Hp} {s : Shared} (I : Inv X pins σ H s) (E : Value → Shared → Prop) : Inv { X with xe := E } pins σ H s :=
  ⟨⟨I.ok.mod, I.ok.kind, I.ok.glob, I.ok.blt, I.ok.above, I.ok.inj, I.ok.has, I.ok.cab, I.ok.hd, I.ok.frames, I.ok.stk, I.ok.exf, I.ok.bs, I.ok.bsz, I.ok.noex, I.ok.exfs, I.ok.funs, I.ok.frf⟩, I.os, I.bare, I.base, I.loc, I.cell, I.free, I.freeC, I.pin, I.hok, I.len⟩

theorem TracedZ.sameBut {h h' base : Heap} {e C : Addr} {Z : Obj → Prop} {fl : Value} {m : Str → Option Value} (hn : h.Ns C m) (hs : Heap.SameBut C h h') (t : HandSPX.TracedZ h base e Z fl) : HandSPX.TracedZ h' base e Z fl := by
  obtain ⟨oe, vs, T, oT, ts, he, hz, hd, h1, hnT, hTe, hT, hdT, h3⟩ := t
  obtain ⟨oC, es, ep, hoC, hdC, _⟩ := hn
  have ne : ∀ {b : Addr} {o : Obj} {us : Array Value}, h.get? b = some o → o.data = .fields us → b ≠ C := fun {b o us} e d z => by
    rw [z, hoC] at e
    cases e
    rw [hdC] at d
    cases d
  exact ⟨oe, vs, T, oT, ts, (hs.2 e (ne he hd)).trans he, hz, hd, h1, hnT, hTe, (hs.2 T (ne hT hdT)).trans hT, hdT, h3⟩

/-- an exception over the ground B is in our air (as XE.of_call, at any stage of its flight, records of ours having changed) -/
theorem xe_of_sky {X : Cx} {W : WX} {pins : List (Addr × Obj)} {σ : L2.St} {H H' : Hp} {s s' : Shared} {B : Heap} {a : Addr} {cls : Value} {d : Option Addr} {ch : List Addr} (I : Inv X pins σ H s)
    (hch : ∀ b ∈ ch, (b ∈ X.ex ∨ X.s_0.heap.objs.size ≤ b) ∧ b ≠ X.env.locals ∧ (∀ x c, X.env.cells.lookup x = some c → c ≠ b) ∧ ∀ p ∈ X.pn ++ pins, p.1 ≠ b)
    (st : B.StaysIn s'.heap) (sky : Sky B X.stack a (Zc cls d) X.env.locals s'.heap) (hok : HOk X.prog X.w H' B)
    (keep : ∀ b o, s.heap.get? b = some o → H b = none → b ∉ frs X.stack → b ∉ ch → B.get? b = some o) (slot : ∀ b o, s.heap.get? b = some o → b ∈ frs X.stack → ∃ sl, s'.heap.get? b = some { o with slots := sl })
    (free : ∀ b o, s.heap.get? b = some o → H b = none → b ∉ ch → H' b = none) (there : ∀ b o, s.heap.get? b = some o → b ∉ frs X.stack → b ∉ ch → ∃ o', B.get? b = some o')
    (tups : ∀ b xs, H b = some (.tup xs) → H' b = some (.tup xs)) (frzs : ∀ b o xs, H b = some (.frz o xs) → H' b = some (.frz o xs)) (tbls : ∀ b ps, H b = some (.tbl ps) → ∃ more, H' b = some (.tbl (ps ++ more)))
    (na : H' a = none) (os : s'.os = s.os) (ag : AllBare s'.gens) (w : W cls d σ H') : XE X W (.ref a) s' := by
  obtain ⟨G, g1, g2⟩ := restrict s'.heap fun b => (B.get? b).isSome || decide (b ∈ frs X.stack)
  have gB : ∀ b o, B.get? b = some o → G.get? b = some o := fun b o e => by
    rw [g1 b (by simp [e])]
    exact st b o e
  have gF : ∀ b, b ∈ frs X.stack → G.get? b = s'.heap.get? b := fun b hb => g1 b (by simp [hb])
  have og : ∀ b o, G.get? b = some o → s'.heap.get? b = some o ∧ ((B.get? b).isSome = true ∨ b ∈ frs X.stack) := fun b o e => by
    cases q : ((B.get? b).isSome || decide (b ∈ frs X.stack)) with
    | false => rw [g2 b q] at e; cases e
    | true =>
      rw [g1 b q] at e
      exact ⟨e, by simpa [Bool.or_eq_true] using q⟩
  refine ⟨a, B, { s with heap := G, gens := s'.gens, drawn := s'.drawn, toks := s'.toks }, pins, σ, H', cls, d, rfl, ?_, fun b o e hb => ?_, Heap.UpToSlots.of_keeps fun b o e => (og b o e).1, sky, na, os, ag, w⟩
  · refine I.call (ch := ch) ⟨fun b o e n hb hc => gB b o (keep b o e n hb hc), fun b o e n hb hc => ?_, fun b o e n hc => free b o e n hc, fun b o e hc => ?_, tups, frzs, tbls⟩ (hok.kept gB) ag hch
    · obtain ⟨sl, q⟩ := slot b o e hb
      exact ⟨sl, by rw [gF b hb]; exact q⟩
    · by_cases hb : b ∈ frs X.stack
      · obtain ⟨sl, q⟩ := slot b o e hb
        exact ⟨_, by rw [gF b hb]; exact q⟩
      · obtain ⟨o', q⟩ := there b o e hb hc
        exact ⟨o', gB b o' q⟩
  · obtain ⟨e', h⟩ := og b o e
    rcases h with h | h
    · obtain ⟨o', q⟩ := Option.isSome_iff_exists.mp h
      have z := st b o' q
      rw [e'] at z; cases z
      exact q
    · exact absurd h hb

theorem lets_blk {X : Cx} {W : WX} {pins : List (Addr × Obj)} {σ : L2.St} {H3 : Hp} {s3 : Shared} {scope : Scope} {ce : Env} {fp : List Addr} (tk : Takes X W) (hs : X.stack = X.env :: X.outer) (hf : X.env.frame = some X.env.locals)
    (I3 : Inv X pins σ H3 s3) (f3 : ∀ b ∈ fp, FpOk X pins H3 b ∧ b < s3.heap.objs.size) (cL : ce.locals = s3.heap.objs.size) (cF : ce.frame = X.env.frame) :
    Lets (blkR X s3 H3 scope ce fp) (fun c d _ H' => W c d σ H') := by
  intro σ2 pins2 H2 s e s' J c
  obtain ⟨a, B0, H', cls, d, rfl, fl, hok, ub, na, os, ag, hE⟩ := c
  have hfr : X.A.frames = some (X.env :: X.outer) := by rw [I3.ok.frames, hs]
  have base : Un (frs X.stack) fp H3 H2 s3.heap s.heap := J.base
  obtain ⟨B, b1, b2⟩ := restrict B0 fun b => decide (b ≠ ce.locals)
  have BB : ∀ b o, B.get? b = some o → B0.get? b = some o ∧ b ≠ ce.locals := fun b o e => by
    by_cases z : b = ce.locals
    · rw [b2 b (by simp [z])] at e; cases e
    · rw [b1 b (by simp [z])] at e; exact ⟨e, z⟩
  have BC : B.get? ce.locals = none := b2 _ (by simp)
  have Bof : ∀ b o, B0.get? b = some o → b ≠ ce.locals → B.get? b = some o := fun b o e n => by rw [b1 b (by simp [n])]; exact e
  have nC : H2 ce.locals = none := J.free
  -- the block's names stand
  obtain ⟨m, hnC, _⟩ := J.loc
  have hnC : s.heap.Ns ce.locals m := hnC
  have nst : ce.locals ∉ frs X.stack := fun hm => by
    obtain ⟨_, o, ho, _⟩ := I3.stack.mem hm
    rw [cL] at ho
    exact Nat.lt_irrefl _ (Heap.lt_size ho)
  have hn0 : s'.heap.Ns ce.locals m := by
    obtain ⟨o, es, ep, ho, hd, r⟩ := hnC
    exact ⟨o, es, ep, fl.1 _ _ (ub.keep _ o ho nC nst), hd, r⟩
  -- the flight over the smaller ground
  have fl2 : HandSPX.FlyingZ B (X.env :: X.outer) a (Zc cls d) s'.heap := by
    obtain ⟨k1, k2, k3, k4⟩ := fl
    have k3 : s'.heap.FunFrames B0 X.stack := k3
    rw [hs] at k3
    refine ⟨fun b o e => k1 b o (BB b o e).1, ?_, funFrames_none k3 fun L hL => ?_, ?_⟩
    · cases q : B.get? a with
      | none => rfl
      | some o => exact absurd (k2.symm.trans (BB a o q).1) (fun z => nomatch z)
    · cases q : B.get? L with
      | none => rfl
      | some o =>
        have z := k3.mem hL
        exact absurd (z.1.symm.trans (BB L o q).1) (fun z => nomatch z)
    · obtain ⟨oe, vs, T, oT, ts, he, hz, hd, h1, hnT, hTe, hT, hdT, h3⟩ := k4
      refine ⟨oe, vs, T, oT, ts, he, hz, hd, h1, ?_, hTe, hT, hdT, h3⟩
      cases q : B.get? T with
      | none => rfl
      | some o => exact absurd (hnT.symm.trans (BB T o q).1) (fun z => nomatch z)
  show notedBy (model X.prog X.w) X.A ce (CompFails (model X.prog X.w) X.A X.xe ce) (.ref a) s'
  show wpAny (model X.prog X.w) X.A (noteFrame (.ref a) ce) _ _ s'
  rw [noteFrame_env _ cF]
  refine HandSPX.looks_onZ Zc.steady hfr hf fl2 fun h1 hh1 up1 => ?_
  have hn1 : h1.Ns ce.locals m := up1.ns hn0
  refine ⟨m, hn1, fun h2 m2 hn2 sb => ?_⟩
  have hh2 : HandSPX.HeldZ B (X.env :: X.outer) a (Zc cls d) X.env.locals h2 := by
    obtain ⟨k1, k2, k3, k4⟩ := hh1
    exact ⟨fun b o e => (sb.2 b (BB b o e).2).trans (k1 b o e), k2, Heap.FunFrames.sameBut sb hn2 k3, TracedZ.sameBut hn1 sb k4⟩
  obtain ⟨oe, vs, T, oT, ts, he, hz, hd, h1', hnT, hTe, hT, hdT, h3'⟩ := id hh2.2.2.2
  unfold passOn
  refine wpAny_bind (wpAny_field he hd h1' ?_)
  rw [if_neg (show ¬ ((Value.ref T == Value.none) = true) from by simp)]
  rw [cF, hf]
  refine wpAny_bind (HandSPX.setFlight_onZ (s := { s' with heap := h2 }) hh2 fun h3 hh3 up3 => wpAny_throw (tk _ _ ?_))
  refine xe_of_sky (ch := fp) (B := B) (H' := H') I3 (fun b hb => ⟨(f3 b hb).1.2.2.2.1, (f3 b hb).1.2.1, (f3 b hb).1.2.2.2.2.1, (f3 b hb).1.2.2.2.2.2⟩) hh3.1 (.inr (.inr (by rw [hs]; exact hh3))) ?_ (fun b o e n hb hc => ?_) (fun b o e hb => ?_)
    (fun b o e n hc => ?_) (fun b o e hb hc => ?_) (fun b xs e => ub.tups b xs (base.tups b xs e)) (fun b o xs e => ub.frzs b o xs (base.frzs b o xs e)) (fun b ps e => ?_) na (os.trans J.os) ag hE
  · -- what is tracked stands in the smaller ground
    intro b o q
    refine (hok b o q).stay (fun c u hc r => Bof c u r fun z => ?_) (fun _ r => r) fun _ _ r => r
    have nCs : H' ce.locals = none := by
      obtain ⟨oC, _, _, hoC, _⟩ := hnC
      exact ub.free _ _ hoC nC
    rcases hc with hc | hc
    · rw [← hc, z, nCs] at q; cases q
    · rw [z, nCs] at hc; cases hc
  · have ne : b ≠ ce.locals := by rw [cL]; exact Nat.ne_of_lt (Heap.lt_size e)
    exact Bof b o (ub.keep b o (base.keep b o e n hb hc) (base.free b o e n hc) hb) ne
  · have n3 : H3 b = none := I3.stkFree b hb
    have hx : b ∉ fp := fun hm => by
      rcases List.mem_cons.mp (I3.stkSub b hb) with z | z
      · exact (f3 b hm).1.2.1 z
      · exact (f3 b hm).1.2.2.1 z
    obtain ⟨_, o0, e0, hnf⟩ := I3.stack.mem hb
    rw [e] at e0; cases e0
    obtain ⟨sl1, q1⟩ := base.slot b o e n3 hb hx
    obtain ⟨sl2, q2⟩ := ub.slot b _ q1 hb
    obtain ⟨sl3, q3⟩ := up1 b _ q2 hnf
    have ne : b ≠ ce.locals := by rw [cL]; exact Nat.ne_of_lt (Heap.lt_size e)
    have q4 := (sb.2 b ne).trans q3
    obtain ⟨sl5, q5⟩ := up3 b _ q4 hnf
    exact ⟨sl5, q5⟩
  · obtain ⟨o', q⟩ := base.there b o e hc
    exact ub.free b o' q (base.free b o e n hc)
  · obtain ⟨o', q⟩ := base.there b o e hc
    obtain ⟨o2, q2⟩ := ub.there b o' q hb
    have ne : b ≠ ce.locals := by rw [cL]; exact Nat.ne_of_lt (Heap.lt_size e)
    exact ⟨o2, Bof b o2 q2 ne⟩
  · obtain ⟨more, q⟩ := base.tbls b ps e
    obtain ⟨more2, q2⟩ := ub.tbls b _ q
    exact ⟨more ++ more2, by rw [q2, Array.append_assoc]⟩

/-! ### the comprehension -/
section
variable {X : Cx}
theorem lc_coreX {W : WX} {pins : List (Addr × Obj)} {s : Shared} {σ : L2.St} {H : Hp} {Q : VK} {elt tg iter : Expr} {ifs : List Expr} {scope : Scope} {own : List (Str × Nat)} {pos pos' : Pos} {wi : TI} {g : TG} {tt : TT} {te : TE} {use : Option (Value → Sem Unit)} {Qf : Value → Shared → Prop}
    (tk : Takes X W) (hs0 : X.stack = X.env :: X.outer) (hf : X.env.frame = some X.env.locals)
    (hc : X.calm = true) (hN : X.N.Nodup) (I : Inv X pins σ H s) (hi : PI X tg iter wi) (ok : BlkOk X.N X.env.scope scope own)
    (hg : ∀ (s : Shared) (H : Hp) (C : Addr) (cl : List (Str × Addr)) (fp : List Addr), PG (blkR X s H scope (compEnvC scope cl C X.env) fp) tg g) (ht : ∀ (s : Shared) (H : Hp) (C : Addr) (cl : List (Str × Addr)) (fp : List Addr), PTs (blkR X s H scope (compEnvC scope cl C X.env) fp) ifs tt)
    (he : ∀ (s : Shared) (H : Hp) (C : Addr) (cl : List (Str × Addr)) (fp : List Addr), Lets (blkR X s H scope (compEnvC scope cl C X.env) fp) (fun c d _ H' => W c d σ H') → PE (blkR X s H scope (compEnvC scope cl C X.env) fp) elt te) (hs : ∀ x, foldedSetIterable iter X.env x = pure x)
    (h : tLc wi g tt te (own.map (·.2)) σ H Q)
    (hRR : ∀ D (ce : Env) s' m H', Inv X pins σ H' s' → Q (.ref D) H' → s'.heap.Ns ce.locals m → FpOk X pins H' ce.locals → compEnds (model X.prog X.w) X.A X.xe use Qf (.ref D) ce (.ok .next) s') :
    wpAny (model X.prog X.w) X.A (comprehension (.ListComp elt [⟨tg, iter, ifs, 0⟩] scope pos) scope X.env pos' (newList []) false (eval iter X.env) use) Qf X.xe s := by
  have hfree : ∀ y ∈ scope.names, y.2 = .free → ∃ c, X.env.cells.lookup y.1 = some c := fun y hy e => by
    rcases ok.free y hy e with k | k
    · exact I.ok.has _ (.inl k)
    · exact I.ok.has _ (.inr k)
  refine comprehension_at (use := use) rfl hs (closure_ok hfree) ok.kind (fun y hy e => by rw [ok.uniq y hy, e])
    (thn (hi.run pins s σ H _ I h) fun xv s1 hx => thn hx fun itv s2 h2 => ?_)
  obtain ⟨it, fp, tn, J, H2, e, I2, T, st2, f2, q⟩ := h2
  subst e
  refine wpAny_newObj_type (newEnv_comp ?_) (by show 0 ≤ sizeLine; decide)
  generalize hD : s2.heap.objs.size = D
  have hDn : H2 D = none := I2.hok.fresh (Nat.le_of_eq hD)
  obtain ⟨W1, ⟨m0, w0⟩, turn⟩ := q D hDn
  generalize hs3 : ({ s2 with heap := s2.heap.push { cls := .type "list", data := .seq ([] : List Value).toArray } } : Shared) = s3
  have I3 : Inv X pins σ (upd H2 D (.lst [])) s3 := by
    rw [← hs3]
    refine I2.laid (t' := s2.toks) (fun b o e => Heap.get?_push_of_some _ e) (Nat.le_of_eq hD) ⟨Nat.zero_le _, [], 0, .nil, ?_⟩
    rw [← hD]
    exact Heap.get?_push_size _ rfl
  have h3 : s3.heap = s2.heap.push { cls := .type "list", data := .seq ([] : List Value).toArray } := by rw [← hs3]
  have sz : ∀ b ∈ fp, b < s2.heap.objs.size := fun b hb => by
    obtain ⟨o, e, _⟩ := T.obj _ _ st2 b hb
    exact Heap.lt_size e
  have f3 : ∀ b ∈ fp, FpOk X pins (upd H2 D (.lst [])) b ∧ b < s3.heap.objs.size := fun b hb => by
    have hlt := sz b hb
    refine ⟨⟨?_, (f2 b hb).2⟩, by rw [h3, Heap.size_push]; exact Nat.lt_succ_of_lt hlt⟩
    rw [upd_ne (by rw [← hD]; exact Nat.ne_of_lt hlt)]
    exact (f2 b hb).1
  have st3 : tn 0 s3.heap := T.keep _ _ _ st2 fun b _ o e => by rw [h3]; exact Heap.get?_push_of_some _ e
  have I4 := block_start I3 ok hN f3
  have pg := hg s3 (upd H2 D (.lst [])) s3.heap.objs.size (cellsFrom (s3.heap.objs.size + 1) scope.names (cloFrom X.env.cells scope.names [])) fp
  have pt := ht s3 (upd H2 D (.lst [])) s3.heap.objs.size (cellsFrom (s3.heap.objs.size + 1) scope.names (cloFrom X.env.cells scope.names [])) fp
  have pe := he s3 (upd H2 D (.lst [])) s3.heap.objs.size (cellsFrom (s3.heap.objs.size + 1) scope.names (cloFrom X.env.cells scope.names [])) fp
  show codeAny _ _ (.compStart (.ListComp elt [⟨tg, iter, ifs, 0⟩] scope pos) 0 (.ref it) (.ref D) (compEnvC scope (cellsFrom (s3.heap.objs.size + 1) scope.names (cloFrom X.env.cells scope.names [])) s3.heap.objs.size X.env))
    (compEnds (model X.prog X.w) X.A X.xe use Qf (.ref D) (compEnvC scope (cellsFrom (s3.heap.objs.size + 1) scope.names (cloFrom X.env.cells scope.names [])) s3.heap.objs.size X.env)) { s3 with heap := pushCells (s3.heap.push { cls := .type "dict", data := .dict #[] }) scope.names }
  have nfp : ∀ b ∈ fp, (upd H2 D (.lst [])) b = none := fun b hb => (f3 b hb).1.1
  generalize hce : compEnvC scope (cellsFrom (s3.heap.objs.size + 1) scope.names (cloFrom X.env.cells scope.names [])) s3.heap.objs.size X.env = ce at I4 pg pt pe ⊢
  have cL : ce.locals = s3.heap.objs.size := by subst hce; rfl
  have cF : ce.frame = X.env.frame := by subst hce; rfl
  generalize hH3 : upd H2 D (.lst []) = H3 at I3 I4 pg pt pe w0 nfp f3
  have pe := pe (lets_blk tk hs0 hf I3 f3 cL cF)
  have I4 := MR.Inv.xe I4 (notedBy (model X.prog X.w) X.A ce (CompFails (model X.prog X.w) X.A X.xe ce))
  generalize hs4 : ({ s3 with heap := pushCells (s3.heap.push { cls := .type "dict", data := .dict #[] }) scope.names } : Shared) = s4 at I4 ⊢
  have I4 : Inv (blkR X s3 H3 scope ce fp) [] (wipe σ (own.map (·.2))) H3 s4 := I4
  have st4 : tn 0 s4.heap := T.keep _ _ _ st3 fun b _ o e => by rw [← hs4]; exact pushCells_keeps _ _ _ _ (Heap.get?_push_of_some _ e)
  have stat : ∀ {σ' : L2.St} {H' : Hp} {s' : Shared}, Inv (blkR X s3 H3 scope ce fp) [] σ' H' s' → (∀ b ∈ fp, H' b = none) → ∀ b ∈ fp, FpOk (blkR X s3 H3 scope ce fp) [] H' b := fun {σ' H' s'} I' hn b hb =>
    ⟨hn b hb, (I'.ok.exf b hb).1, I'.ok.exfs b hb, .inl hb, fun x c e => (I'.ok.exf b hb).2 x c e, fun p hp => absurd (show p ∈ ([] : List (Addr × Obj)) ++ [] from hp) (by simp)⟩
  have loop : codeAny (model X.prog X.w) X.A (.compLoop (.ListComp elt [⟨tg, iter, ifs, 0⟩] scope pos) 0 (.ref it) (.ref D) ce) (compEnds (model X.prog X.w) X.A X.xe use Qf (.ref D) ce) s4 := by
    have hER : (fun (e : Value) (s' : Shared) => compEnds (model X.prog X.w) X.A X.xe use Qf (.ref D) ce (.error e) s') = CompFails (model X.prog X.w) X.A X.xe ce := by
      funext e s'
      cases use <;> rfl
    refine compLoop_any (fun n s' => ∃ i H', Inv (blkR X s3 H3 scope ce fp) [] (wipe σ (own.map (·.2))) H' s' ∧ tn i s'.heap ∧ (∀ b ∈ fp, H' b = none) ∧ W1 i n H') ?_ m0 ⟨0, H3, I4, st4, nfp, w0⟩
    rw [hER]
    rintro n s5 ⟨i, H5, I5, st5, n5, w5⟩
    rcases turn i n H5 w5 with ⟨stop, qq⟩ | ⟨go, Nx, hNx, step⟩
    · have td := T.done (blkR X s3 H3 scope ce fp) rfl rfl rfl hc i [] s5 _ H5 (fun _ _ => False) I5 (stat I5 n5) st5 stop
      refine thnF td fun r s6 ⟨hr, I6⟩ => ?_
      subst hr
      have I7 : Inv X pins σ H5 s6 := I3.call' (ch := fp) I6.os I6.base I6.hok I6.bare fun b hb => ⟨(f3 b hb).1.2.2.2.1, (f3 b hb).1.2.1, (f3 b hb).1.2.2.2.2.1, (f3 b hb).1.2.2.2.2.2⟩
      have nC : H5 ce.locals = none := I6.free
      obtain ⟨m, hn, _⟩ := I6.loc
      have hn : s6.heap.Ns ce.locals m := hn
      exact hRR D ce s6 m H5 I7 qq hn (I3.fpOk (Nat.le_of_eq cL.symm) nC)
    · have ti := T.item (blkR X s3 H3 scope ce fp) rfl rfl rfl hc i [] s5 _ H5 (fun _ _ => False) I5 (stat I5 n5) st5 go
      refine thnF ti fun r s6 ⟨u, hr, h6⟩ => ?_
      subst hr
      refine thnF h6 fun _ s7 ⟨x, H7, I7, r7, y7, st7, n7⟩ => ?_
      have I7' := I7.pinned (stat I7 n7) (T.obj _ _ st7)
      refine thn (pg.run _ s7 _ H7 x u _ I7' r7 (step x H7 y7)) fun _ s8 ⟨σ8, H8, I8, hw8, q8⟩ => ?_
      refine thn (pt.run _ s8 σ8 H8 _ I8 q8) fun b s9 ⟨H9, I9, q9⟩ => ?_
      have fin : ∀ {s' : Shared} {H' : Hp}, Inv (blkR X s3 H3 scope ce fp) ([] ++ pinsAt fp s7.heap) σ8 H' s' → Nx H' → ∃ m, m < n ∧ ∃ i H', Inv (blkR X s3 H3 scope ce fp) [] (wipe σ (own.map (·.2))) H' s' ∧ tn i s'.heap ∧ (∀ b ∈ fp, H' b = none) ∧ W1 i m H' := fun {s' H'} I' nx => by
        obtain ⟨m', hm, w'⟩ := hNx H' nx
        have pin' : ∀ b ∈ fp, ∀ o, s7.heap.get? b = some o → s'.heap.get? b = some o ∧ H' b = none := fun b hb o e =>
          let z := I'.pin (b, o) (List.mem_append_right _ (List.mem_append_right _ (mem_pinsAt hb e)))
          ⟨z.1, z.2.1⟩
        have hl : (wipe σ (own.map (·.2))).length = σ8.length := by rw [← hw8, wipe_length]
        refine ⟨m', hm, i + 1, H', (I'.unpinned (pins := [])).weak hl (fun j v e => ?_), T.keep _ _ _ st7 fun b hb o e => (pin' b hb o e).1, fun b hb => ?_, w'⟩
        · rw [← hw8] at e
          exact (wipe_some e).1
        · obtain ⟨o, e, _⟩ := T.obj _ _ st7 b hb
          exact (pin' b hb o e).2
      cases b with
      | false =>
        simp only [Bool.false_eq_true, if_false] at q9 ⊢
        exact fin I9 q9
      | true =>
        simp only [if_true] at q9 ⊢
        refine thn (pe.run _ s9 σ8 H9 _ I9 q9) fun z s10 ⟨yv, H10, I10, r10, acc, hD10, hz10, nx⟩ => ?_
        exact app_ok (X := blkR X s3 H3 scope ce fp) I10 hD10 hz10 r10 fun s11 I11 => fin I11 nx
  exact codeAny_compStart_list loop (T.self X.A 0 _ _ _ st4 loop)
/-- [elt for ..], as a value, what elt lets out wished for at the frame's slots -/
theorem pe_lcX {W : WX} {elt tg iter : Expr} {ifs : List Expr} {scope : Scope} {own : List (Str × Nat)} {pos : Pos} {wi : TI} {g : TG} {tt : TT} {te : L2.St → TE} (tk : Takes X W) (hs0 : X.stack = X.env :: X.outer) (hf : X.env.frame = some X.env.locals)
    (hc : X.calm = true) (hN : X.N.Nodup) (hi : PI X tg iter wi) (ok : BlkOk X.N X.env.scope scope own)
    (hg : ∀ (s : Shared) (H : Hp) (C : Addr) (cl : List (Str × Addr)) (fp : List Addr), PG (blkR X s H scope (compEnvC scope cl C X.env) fp) tg g) (ht : ∀ (s : Shared) (H : Hp) (C : Addr) (cl : List (Str × Addr)) (fp : List Addr), PTs (blkR X s H scope (compEnvC scope cl C X.env) fp) ifs tt)
    (he : ∀ (s : Shared) (H : Hp) (C : Addr) (cl : List (Str × Addr)) (fp : List Addr) (σ : L2.St), Lets (blkR X s H scope (compEnvC scope cl C X.env) fp) (fun c d _ H' => W c d σ H') → PE (blkR X s H scope (compEnvC scope cl C X.env) fp) elt (te σ)) (hs : ∀ x, foldedSetIterable iter X.env x = pure x := by intro _; rfl) :
    PE X (.ListComp elt [⟨tg, iter, ifs, 0⟩] scope pos) (fun σ H Q => tLc wi g tt (te σ) (own.map (·.2)) σ H Q) := by
  refine ⟨fun pins s σ H Q I h => ?_⟩
  rw [eval_ListComp]
  refine lc_coreX (te := te σ) tk hs0 hf hc hN I hi ok hg ht (fun s H C cl fp l => he s H C cl fp σ l) hs h fun D ce s' m H' I' q hn f => ⟨m, hn, fun h'' sb => ?_⟩
  obtain ⟨f0, f1, f2, f3, f4, f5⟩ := f
  exact ⟨.ref D, H', I'.turned (t' := s'.toks) (fun b o hb e => (sb.2 b hb).trans e) f0 f1 f3 f4 f5, rfl, q⟩
theorem ps_setLcX {W : WX} {i : Nat} {y : Str} {py : Pos} {elt tg iter : Expr} {ifs : List Expr} {scope : Scope} {own : List (Str × Nat)} {pos spos : Pos} {wi : TI} {g : TG} {tt : L2.St → TT} {te : L2.St → TE} (tk : Takes X W) (hs0 : X.stack = X.env :: X.outer) (hf : X.env.frame = some X.env.locals)
    (hc : X.calm = true) (hN : X.N.Nodup) (hy : X.N[i]? = some y) (hyl : X.env.scope.names.lookup y = some .local)
    (hsw : swapsWith (.ListComp elt [⟨tg, iter, ifs, 0⟩] scope pos) (some (.Name y py)) spos.line X.env = pure true) (hi : PI X tg iter wi) (ok : BlkOk X.N X.env.scope scope own)
    (hg : ∀ (s : Shared) (H : Hp) (C : Addr) (cl : List (Str × Addr)) (fp : List Addr), PG (blkR X s H scope (compEnvC scope cl C X.env) fp) tg g) (ht : ∀ (s : Shared) (H : Hp) (C : Addr) (cl : List (Str × Addr)) (fp : List Addr) (σ : L2.St), PTs (blkR X s H scope (compEnvC scope cl C X.env) fp) ifs (tt σ))
    (he : ∀ (s : Shared) (H : Hp) (C : Addr) (cl : List (Str × Addr)) (fp : List Addr) (σ : L2.St), Lets (blkR X s H scope (compEnvC scope cl C X.env) fp) (fun c d _ H' => W c d σ H') → PE (blkR X s H scope (compEnvC scope cl C X.env) fp) elt (te σ)) (hs : ∀ x, foldedSetIterable iter X.env x = pure x := by intro _; rfl) :
    PS X (.Assign [.Name y py] (.ListComp elt [⟨tg, iter, ifs, 0⟩] scope pos) spos) (tAsg (fun σ H Q => tLc wi g (tt σ) (te σ) (own.map (·.2)) σ H Q) (gName i)) := by
  refine ⟨fun pins s σ H D I h => ?_⟩
  rw [exec_Assign_Name_used _ _ _ _ hsw]
  refine wpAny_bind (wpAny_standAt (wpAny_bind ?_))
  show wpAny _ X.A (do let _ ← comprehension (.ListComp elt [⟨tg, iter, ifs, 0⟩] scope pos) scope X.env (firstIterPos [⟨tg, iter, ifs, 0⟩] pos) (newList []) false (eval iter X.env) (some (assign (.Name y py) X.env))) _ _ s
  have h : tLc wi g (tt σ) (te σ) (own.map (·.2)) σ H (fun x H1 => gName i x σ H1 D.nx) := h
  refine wpAny_bind (thn (lc_coreX (te := te σ) (Qf := fun _ s' => SP X pins D .next s') tk hs0 hf hc hN I hi ok hg (fun s H C cl fp => ht s H C cl fp σ) (fun s H C cl fp l => he s H C cl fp σ l) hs h fun L ce s' m H' I' q hn f => ?_) fun _ s' hq => wpAny_pure (wpAny_pure hq))
  show wpAny _ _ (assign (.Name y py) X.env (.ref L)) _ _ _
  refine wpAny_assign_Name (store_ok2 (v := V.ref L) I' hN hy (.inl hyl) rfl (fun s2 I2 ⟨a, sb, ha⟩ => ?_) (.inr hyl))
  obtain ⟨f0, f1, f2, f3, f4, f5⟩ := f
  have haC : ce.locals ≠ a := by
    rcases ha with z | z
    · rw [z]; exact f1
    · exact fun e => f4 y a z e.symm
  refine ⟨m, hn.sameBut sb haC, fun h3 sb3 => ?_⟩
  exact ⟨_, H', I2.turned (t' := s2.toks) (fun b o hb e => (sb3.2 b hb).trans e) f0 f1 f3 f4 f5, q⟩
end
end MR

/-! raising comprehensions as mirrors; a, *b = v; repr; try .. except as -/
namespace MR
open PySem L2
open PyProof.Rows (IsTup iter_tuple draw_tuple slot_tuple_iter)

/-! ### comprehensions whose element raises -/
def compX (t : Tgt) (tst : MT) (elt : ME) : List MV → MEnv → List MV → Sto → Res (List MV)
  | [], _, acc, st => .ok acc st
  | y :: ys, env, acc, st => match t.bind y env with
    | none => .bad
    | some env1 => match tst env1 st with
      | .ok true st1 => match elt env1 st1 with
        | .ok v st2 => if acc.length < 16777216 then compX t tst elt ys env (acc ++ [v]) st2 else .bad
        | .exc c st2 => .exc c st2
        | .bad => .bad
      | .ok false st1 => compX t tst elt ys env acc st1
      | _ => .bad
def mLcX (mi : MA) (own : List Nat) (t : Tgt) (tst : MT) (elt : ME) : ME := fun env st => (mi env st).bind fun ys st1 => (compX t tst elt ys (wipeM env own) [] st1).bind fun zs st2 => .ok (.lst zs) st2
section
variable {X : Cx} {W : WX} {tg it elt : Expr} {ifs : List Expr} {scope : Scope} {pos : Pos} {mi : MA} {mt : MT} {me : ME}
theorem pmts_nil' {W : WX} : PTs X [] (tT (gmOf X) W tYesM) := ⟨fun pins s σ H Q I ⟨A, env, st, sr, q, h⟩ => pts_nil.run pins s σ H Q I (h A H (Ext.refl A H) sr)⟩
theorem lcEX {vs : List Nat} {t : Tgt} (hsub : ∀ i ∈ t.slots, i ∈ vs) {σ : L2.St} {H : Hp} {Q : VK} (h : tE (gmOf X) W (mLcX mi vs t mt me) σ H Q) :
    tLc (tI (gmOf X) W mi) (t.tg X.K) (tT (gmOf X) (fun c d _ H' => W c d σ H') mt) (tE (gmOf X) (fun c d _ H' => W c d σ H') me) vs σ H Q := by
    obtain ⟨A, env, st, s, q, h⟩ := h
    unfold mLcX at h
    rw [Res.post_bind] at h
    refine ⟨A, env, st, s, q, h.mono (fun ys st1 h1 A1 H1 J e1 s1 itm D hD => ?_) fun _ _ z => z⟩
    rw [Res.post_bind] at h1
    refine lc_it itm.walk (fun i H' => ∃ A' st' acc accV, Ext A1 H1 A' H' ∧ SR (gmOf X) (A'.fence D) H' st' ∧ H' D = some (.lst accV) ∧ RepAll (gmOf X) (A'.fence D) H' accV acc ∧
        (compX t mt me (ys.drop i) (wipeM env vs) acc st').post (fun zs st2 => okP (gmOf X) A1 H1 Q (.lst zs) st2) (exP (gmOf X) A1 H1 (WE W σ))) ?_ (fun i H' _ ⟨A', st', acc, accV, x', s', _⟩ => ⟨A', st', x'.w, s'.unfence⟩) (fun i x H' H2 hlt ⟨A', st', acc, accV, x', s', hDv, ra, ec⟩ y => ?_) (fun H' ⟨A', st', acc, accV, x', s', hDv, ra, ec⟩ => ?_)
    · exact ⟨A1, st1, [], [], Ext.grown _ s1 hD (Ext.refl A1 H1), s1.fence hD _, upd_same, .nil, by rw [List.drop_zero]; exact h1.mono (fun zs st2 z => okP.ext e1 z) fun c st2 z => z.ext e1⟩
    · obtain ⟨x2, s2, m, em, r2⟩ := y (A'.fence D) st' (x'.w.fence hD) s'
      have ed : ys.drop i = m :: ys.drop (i + 1) := by
        rw [List.drop_eq_getElem_cons hlt]
        rw [List.getElem?_eq_getElem hlt] at em
        rw [Option.some.inj em]
      rw [ed] at ec
      unfold compX at ec
      cases eb : t.bind m (wipeM env vs) with
      | none => rw [eb] at ec; exact ec.elim
      | some env1 =>
        rw [eb] at ec
        have q2 : EnvR (gmOf X) (A'.fence D) H2 (wipe σ vs) (wipeM env vs) := by
          have q1 := (q.ext e1)
          refine EnvR.wipe ⟨q1.len, fun j mj hj => ?_⟩ vs
          obtain ⟨v, a, r⟩ := q1.get j mj hj
          exact ⟨v, a, (r.extW (x'.w.fence hD)).ext x2⟩
        refine Tgt.ok (own := vs) r2 q2 eb hsub fun σ2 q3 hw => ⟨by rw [hw]; exact wipe_wipe fun _ m => m, ?_⟩
        have hD2 : H2 D = some (.lst accV) := (x2.fk D List.mem_cons_self).trans hDv
        have ec : Res.post (match mt env1 st' with
          | .ok true st1 => (match me env1 st1 with
            | .ok v st2 => if acc.length < 16777216 then compX t mt me (ys.drop (i + 1)) (wipeM env vs) (acc ++ [v]) st2 else .bad
            | .exc c st2 => .exc c st2
            | .bad => .bad)
          | .ok false st1 => compX t mt me (ys.drop (i + 1)) (wipeM env vs) acc st1
          | _ => .bad) _ _ := ec
        cases et : mt env1 st' with
        | exc c st3 => rw [et] at ec; exact ec.elim
        | bad => rw [et] at ec; exact ec.elim
        | ok b st3 =>
          rw [et] at ec
          refine ⟨A'.fence D, env1, st', s2, q3, post_ok et fun A3 H3 x3 s3 => ?_⟩
          have fA3 : A3 = (⟨A3.ix, A'.fn⟩ : Ad).fence D := by
            obtain ⟨ix, fn⟩ := A3
            have : fn = D :: A'.fn := x3.fen
            subst this
            rfl
          have hD3 : H3 D = some (.lst accV) := (x3.fk D List.mem_cons_self).trans hD2
          have ra3 : RepAll (gmOf X) A3 H3 accV acc := (ra.ext x2).ext x3
          cases b with
          | false =>
            rw [fA3] at x3 s3 ra3
            exact ⟨_, st3, acc, accV, x'.trans (Ext.unfence s3 (x2.trans x3)), s3, hD3, ra3, ec⟩
          | true =>
            have ec : Res.post (match me env1 st3 with
              | .ok v st2 => if acc.length < 16777216 then compX t mt me (ys.drop (i + 1)) (wipeM env vs) (acc ++ [v]) st2 else .bad
              | .exc c st2 => .exc c st2
              | .bad => .bad) _ _ := ec
            have fA : ∀ {A4 : Ad} {H4 : Hp}, Ext A3 H3 A4 H4 → A4 = (⟨A4.ix, A'.fn⟩ : Ad).fence D := fun {A4 H4} x4 => by
              obtain ⟨ix, fn⟩ := A4
              have : fn = D :: A'.fn := x4.fen.trans x3.fen
              subst this
              rfl
            show tE (gmOf X) (fun c d _ H' => W c d σ H') me σ2 H3 _
            refine ⟨A3, env1, st3, s3, q3.ext x3, ?_⟩
            cases ee : me env1 st3 with
            | exc c st4 =>
              rw [ee] at ec
              have ec : exP (gmOf X) A1 H1 (WE W σ) c st4 := ec
              intro A4 H4 C x4 s4 hC
              have fA4 := fA x4
              have x24 := (x2.trans x3).trans x4
              rw [fA4] at x24 s4
              exact ec _ H4 C (x'.trans (Ext.unfence s4 x24)) s4.unfence hC
            | bad => rw [ee] at ec; exact ec.elim
            | ok v st4 =>
              rw [ee] at ec
              have ec : Res.post (if acc.length < 16777216 then compX t mt me (ys.drop (i + 1)) (wipeM env vs) (acc ++ [v]) st4 else .bad) _ _ := ec
              by_cases hl : acc.length < 16777216
              · rw [if_pos hl] at ec
                intro A4 H4 vv x4 s4 r4
                have fA4 := fA x4
                have hD4 : H4 D = some (.lst accV) := (x4.fk D (by rw [x3.fen]; exact List.mem_cons_self)).trans hD3
                have ra4 := ra3.ext x4
                have x24 := (x2.trans x3).trans x4
                rw [fA4] at x24 s4 ra4 r4
                refine ⟨accV, hD4, by rw [ra4.length, sizeLine_eq]; exact hl, _, st4, acc ++ [v], accV ++ [vv], Ext.grown _ s1 hD (x'.trans (Ext.unfence s4 x24)), s4.grow _, upd_same, (ra4.append (.cons r4 .nil)).grow _, ec⟩
              · rw [if_neg hl] at ec; exact ec.elim
    · rw [List.drop_length] at ec
      exact ec A' H' _ x' s'.unfence (.lst hDv s'.fence_out ra.unfence)
theorem pm_lcX {own : List (Str × Nat)} {t : Tgt} (tk : Takes X W) (hs0 : X.stack = X.env :: X.outer) (hf : X.env.frame = some X.env.locals) (hN : X.N.Nodup) (hi : PMI X W tg it mi) (ok : BlkOk X.N X.env.scope scope own)
    (hg : ∀ (s : Shared) (H : Hp) (C : Addr) (cl : List (Str × Addr)) (fp : List Addr), PG (blkR X s H scope (compEnvC scope cl C X.env) fp) tg (t.tg X.K))
    (ht : ∀ (s : Shared) (H : Hp) (C : Addr) (cl : List (Str × Addr)) (fp : List Addr) (W : WX), PTs (blkR X s H scope (compEnvC scope cl C X.env) fp) ifs (tT (gmOf X) W mt))
    (he : ∀ (s : Shared) (H : Hp) (C : Addr) (cl : List (Str × Addr)) (fp : List Addr) (W : WX), Lets (blkR X s H scope (compEnvC scope cl C X.env) fp) W → PM (blkR X s H scope (compEnvC scope cl C X.env) fp) W elt me)
    (hsub : ∀ i ∈ t.slots, i ∈ own.map (·.2) := by decide) (hc : X.calm = true := by rfl) (hs : ∀ x, foldedSetIterable it X.env x = pure x := by intro _; rfl) :
    PM X W (.ListComp elt [⟨tg, it, ifs, 0⟩] scope pos) (mLcX mi (own.map (·.2)) t mt me) := by
  refine ⟨fun pins s σ H Q I h => ?_⟩
  have hl := lcEX hsub h
  rw [eval_ListComp]
  refine lc_coreX (te := tE (gmOf X) (fun c d _ H' => W c d σ H') me) tk hs0 hf hc hN I hi ok hg (fun s H C cl fp => ht s H C cl fp _) (fun s H C cl fp l => he s H C cl fp _ l) hs hl fun D ce s' m H' I' q hn f => ⟨m, hn, fun h'' sb => ?_⟩
  obtain ⟨f0, f1, f2, f3, f4, f5⟩ := f
  exact ⟨.ref D, H', I'.turned (t' := s'.toks) (fun b o hb e => (sb.2 b hb).trans e) f0 f1 f3 f4 f5, rfl, q⟩
theorem inSetE {i : Nat} {me : ME} {D : Ends} {σ : L2.St} {H : Hp} (h : tS (gmOf X) W (sSet i me) D σ H) : tE (gmOf X) W me σ H (fun x H1 => D.nx (σ.set i (some x)) H1) := by
  obtain ⟨A, env, st, s, q, h⟩ := h
  exact inE s q (Ext.refl A H) ((post_bindE h).mono (fun mx st1 h1 A1 H1 x e1 s1 r1 => h1 A1 H1 _ e1 s1 ((q.ext e1).set i r1)) fun _ _ z => exP_of q z)
/-- name = [elt for ..], on one line -/
theorem pms_setLcX {y : Str} {py spos : Pos} {own : List (Str × Nat)} {t : Tgt} (i : Nat) (tk : Takes X W) (hs0 : X.stack = X.env :: X.outer) (hf : X.env.frame = some X.env.locals) (hN : X.N.Nodup) (hi : PMI X W tg it mi) (ok : BlkOk X.N X.env.scope scope own)
    (hg : ∀ (s : Shared) (H : Hp) (C : Addr) (cl : List (Str × Addr)) (fp : List Addr), PG (blkR X s H scope (compEnvC scope cl C X.env) fp) tg (t.tg X.K))
    (ht : ∀ (s : Shared) (H : Hp) (C : Addr) (cl : List (Str × Addr)) (fp : List Addr) (W : WX), PTs (blkR X s H scope (compEnvC scope cl C X.env) fp) ifs (tT (gmOf X) W mt))
    (he : ∀ (s : Shared) (H : Hp) (C : Addr) (cl : List (Str × Addr)) (fp : List Addr) (W : WX), Lets (blkR X s H scope (compEnvC scope cl C X.env) fp) W → PM (blkR X s H scope (compEnvC scope cl C X.env) fp) W elt me)
    (hy : X.N[i]? = some y := by rfl) (hyl : X.env.scope.names.lookup y = some .local := by rfl) (hsw : swapsWith (.ListComp elt [⟨tg, it, ifs, 0⟩] scope pos) (some (.Name y py)) spos.line X.env = pure true := by exact sw_true rfl rfl rfl rfl)
    (hsub : ∀ i ∈ t.slots, i ∈ own.map (·.2) := by decide) (hc : X.calm = true := by rfl) (hs : ∀ x, foldedSetIterable it X.env x = pure x := by intro _; rfl) :
    PMS X W (.Assign [.Name y py] (.ListComp elt [⟨tg, it, ifs, 0⟩] scope pos) spos) (sSet i (mLcX mi (own.map (·.2)) t mt me)) :=
  PS_imp (ps_setLcX (te := fun σ => tE (gmOf X) (fun c d _ H' => W c d σ H') me) (tt := fun σ => tT (gmOf X) (fun c d _ H' => W c d σ H') mt) tk hs0 hf hc hN hy hyl hsw hi ok hg (fun s H C cl fp σ => ht s H C cl fp _) (fun s H C cl fp σ l => he s H C cl fp _ l) hs) fun D σ H h =>
    lcEX hsub (inSetE h)
theorem pms_setLc {y : Str} {py spos : Pos} {own : List (Str × Nat)} {t : Tgt} (i : Nat) (hN : X.N.Nodup) (hi : PMI X W tg it mi) (ok : BlkOk X.N X.env.scope scope own)
    (hg : ∀ (s : Shared) (H : Hp) (C : Addr) (cl : List (Str × Addr)) (fp : List Addr), PG (X.blk s H scope (compEnvC scope cl C X.env) fp) tg (t.tg X.K))
    (ht : ∀ (s : Shared) (H : Hp) (C : Addr) (cl : List (Str × Addr)) (fp : List Addr), PTs (X.blk s H scope (compEnvC scope cl C X.env) fp) ifs (tT (gmOf X) W0 mt))
    (he : ∀ (s : Shared) (H : Hp) (C : Addr) (cl : List (Str × Addr)) (fp : List Addr), PM (X.blk s H scope (compEnvC scope cl C X.env) fp) W0 elt me)
    (hy : X.N[i]? = some y := by rfl) (hyl : X.env.scope.names.lookup y = some .local := by rfl) (hsw : swapsWith (.ListComp elt [⟨tg, it, ifs, 0⟩] scope pos) (some (.Name y py)) spos.line X.env = pure true := by exact sw_true rfl rfl rfl rfl)
    (hsub : ∀ i ∈ t.slots, i ∈ own.map (·.2) := by decide) (hc : X.calm = true := by rfl) (hs : ∀ x, foldedSetIterable it X.env x = pure x := by intro _; rfl) :
    PMS X W (.Assign [.Name y py] (.ListComp elt [⟨tg, it, ifs, 0⟩] scope pos) spos) (sSet i (mLc mi (own.map (·.2)) t mt me)) :=
  PS_imp (ps_setLc hc hN hy hyl hsw hi ok hg ht he hs) fun D σ H h => lcE hsub (inSetE h)
end

/-! ### a, *b = v -/
section
variable {prog : Program} {w : World} {A : Around} {E : Value → Shared → Prop} {s : Shared}
theorem star_list {l : Addr} {items : Array Value} {Q : List Value → Shared → Prop} {x : Value} {r : List Value} (hl : s.heap.IsList l items) (hh : A.handled = none) (hx : items.toList = x :: r) (hz : items.size ≤ 16384)
    (h : ∀ (h' : Heap) (tk : Nat), (∀ b o, s.heap.get? b = some o → h'.get? b = some o) → Q [x, .ref h'.objs.size] { s with heap := h'.push { cls := .type "list", data := .seq r.toArray }, toks := tk }) : wpAny (model prog w) A (unpackItems (.ref l) 2 (some 1)) Q E s := by
  have hsz : items.size = r.length + 1 := by rw [← Array.length_toList, hx, List.length_cons]
  have hlt : l ≠ s.heap.objs.size := by obtain ⟨o, ho, _⟩ := hl; exact Nat.ne_of_lt (Heap.lt_size ho)
  have hll : l < s.heap.objs.size := by obtain ⟨o, ho, _⟩ := hl; exact Heap.lt_size ho
  unfold unpackItems
  refine wpAny_bind ?_
  unfold notIterableAtAll
  refine wpAny_bind (wpAny_specialOf hl.typeIs slot_list_iter.lookup ?_)
  refine wpAny_pure ?_
  simp only [Bool.false_eq_true, if_false]
  refine wpAny_bind (wpAny_holding (wpAny_pyIter_list hl ?_))
  refine wpAny_bind (wpAny_holding (PySem.W.kun_draw hlt 1 0 _ _ ⟨_, Heap.get?_push_size _ rfl, rfl, rfl⟩ (hl.push _) (by omega) fun h₁ hit₁ hs₁ => ?_))
  have hl₁ : h₁.IsList l items := (hl.push _).extBut hs₁.extBut hlt
  rw [Nat.zero_add] at hit₁
  obtain ⟨oi, hoi, _⟩ := id hit₁
  obtain ⟨ol, hol, _⟩ := id hl₁
  rw [List.drop_zero, hx]
  show wpAny _ _ (if [x].length < 1 then _ else _) _ _ _
  rw [if_neg (by simp)]
  refine wpAny_bind (wpAny_holding (PySem.W.kun_collect (s := { s with heap := h₁ }) (T := "list_iterator") (.inr (.inr (.inl rfl))) (Walks.list (A := A.in1) hh s.heap.objs.size l hlt items) (fun j u st => st.1.typeIs) (k := 1) (by omega) ⟨hit₁, hl₁⟩ (Heap.lt_size hoi) (Heap.lt_size hol) (fun h₂ tk hk => ?_) (by rw [sizeLine_eq]; omega)))
  rw [hx]
  show wpAny _ _ (if r.length < 2 - 1 - 1 then _ else _) _ _ _
  rw [if_neg (by omega)]
  show wpAny _ _ (newList (r.take (r.length - 0)) >>= fun d => pure ([x] ++ [d] ++ r.drop (r.length - 0))) _ _ _
  rw [Nat.sub_zero, List.take_length, List.drop_length]
  exact wpAny_bind (wpAny_newList (s := { s with heap := h₂, toks := tk }) (wpAny_pure (h h₂ tk fun b o e => hk b o (Nat.ne_of_lt (Heap.lt_size e)) (hs₁.extBut b o (Nat.ne_of_lt (Heap.lt_size e)) (Heap.get?_push_of_some _ e)))) (by rw [sizeLine_eq]; omega))
theorem star_tuple {l : Addr} {items : Array Value} {Q : List Value → Shared → Prop} {x : Value} {r : List Value} (hl : IsTup s.heap l items) (hh : A.handled = none) (hx : items.toList = x :: r) (hz : items.size ≤ 16384)
    (h : ∀ (h' : Heap) (tk : Nat), (∀ b o, s.heap.get? b = some o → h'.get? b = some o) → Q [x, .ref h'.objs.size] { s with heap := h'.push { cls := .type "list", data := .seq r.toArray }, toks := tk }) : wpAny (model prog w) A (unpackItems (.ref l) 2 (some 1)) Q E s := by
  have hsz : items.size = r.length + 1 := by rw [← Array.length_toList, hx, List.length_cons]
  have hlt : l ≠ s.heap.objs.size := by obtain ⟨o, ho, _⟩ := hl; exact Nat.ne_of_lt (Heap.lt_size ho)
  have hll : l < s.heap.objs.size := by obtain ⟨o, ho, _⟩ := hl; exact Heap.lt_size ho
  unfold unpackItems
  refine wpAny_bind ?_
  unfold notIterableAtAll
  refine wpAny_bind (wpAny_specialOf hl.typeIs slot_tuple_iter.lookup ?_)
  refine wpAny_pure ?_
  simp only [Bool.false_eq_true, if_false]
  refine wpAny_bind (wpAny_holding (iter_tuple hl ?_))
  refine wpAny_bind (wpAny_holding (draw_tuple hlt 1 0 _ _ ⟨_, Heap.get?_push_size _ rfl, rfl, rfl⟩ (hl.push _) (by omega) fun h₁ hit₁ hs₁ => ?_))
  have hl₁ : IsTup h₁ l items := (hl.push _).extBut hs₁.extBut hlt
  rw [Nat.zero_add] at hit₁
  obtain ⟨oi, hoi, _⟩ := id hit₁
  obtain ⟨ol, hol, _⟩ := id hl₁
  rw [List.drop_zero, hx]
  show wpAny _ _ (if [x].length < 1 then _ else _) _ _ _
  rw [if_neg (by simp)]
  refine wpAny_bind (wpAny_holding (PySem.W.kun_collect (s := { s with heap := h₁ }) (T := "tuple_iterator") (.inr (.inr (.inr rfl))) (Walks.tuple (A := A.in1) hh s.heap.objs.size l hlt items) (fun j u st => st.1.typeIs) (k := 1) (by omega) ⟨hit₁, hl₁⟩ (Heap.lt_size hoi) (Heap.lt_size hol) (fun h₂ tk hk => ?_) (by rw [sizeLine_eq]; omega)))
  rw [hx]
  show wpAny _ _ (if r.length < 2 - 1 - 1 then _ else _) _ _ _
  rw [if_neg (by omega)]
  show wpAny _ _ (newList (r.take (r.length - 0)) >>= fun d => pure ([x] ++ [d] ++ r.drop (r.length - 0))) _ _ _
  rw [Nat.sub_zero, List.take_length, List.drop_length]
  exact wpAny_bind (wpAny_newList (s := { s with heap := h₂, toks := tk }) (wpAny_pure (h h₂ tk fun b o e => hk b o (Nat.ne_of_lt (Heap.lt_size e)) (hs₁.extBut b o (Nat.ne_of_lt (Heap.lt_size e)) (Heap.get?_push_of_some _ e)))) (by rw [sizeLine_eq]; omega))
end
/-- x, *ys = v: by the items of v -/
def gStarV (K : PySem.W.Frag) (t1 t2 : TG) : TG := fun v σ H Q => ∃ a x xs, v = .ref a ∧ (SqT K H a (x :: xs) ∨ SqL K H a (x :: xs)) ∧ xs.length < 16384 ∧ ∀ D, H D = none → t1 x σ (upd H D (.lst xs)) fun σ1 H1 => t2 (.ref D) σ1 H1 Q
section
variable {X : Cx} {e1 e2 : Expr} {t1 t2 : TG} {p pos : Pos} {k : Nat}
theorem pg_star (hc : X.calm = true) (h1 : PG X e1 t1) (h2 : PG X e2 t2) (hst : (assignEach [e1, .Starred e2 p] X.env).findIdx? (·.1) = some 1 := by rfl) (hln : (assignEach [e1, .Starred e2 p] X.env).length = 2 := by rfl)
    (hm : (assignEach [e1, .Starred e2 p] X.env).map (·.2) = [assign e1 X.env, assign e2 X.env] := by rfl) : PG X (.Tuple [e1, .Starred e2 p] k pos) (gStarV X.K t1 t2) := by
  refine ⟨fun pins s σ H v u Q I r hw => ?_⟩
  obtain ⟨a, x, xs, ev, sq, hz, hw⟩ := hw
  subst ev
  cases r
  rw [PyProof.Rows.assign_Tuple]
  refine wpAny_bind (PySem.wpAny_standAt ?_)
  unfold unpack
  rw [hln, hst]
  have main : ∀ (ux : Value) (us : List Value), RelV x ux → Vals xs us → ∀ (h' : Heap) (tk : Nat), (∀ b o, s.heap.get? b = some o → h'.get? b = some o) →
      wpAny (model X.prog X.w) X.A (assignInOrder ((assignEach [e1, .Starred e2 p] X.env).map (·.2)) [ux, .ref h'.objs.size]) (fun _ s' => ∃ σ' H', Inv X pins σ' H' s' ∧ Q σ' H') X.xe { s with heap := h'.push { cls := .type "list", data := .seq us.toArray }, toks := tk } := fun ux us rx rs h' tk kp => by
    have J : Inv X pins σ H { s with heap := h', toks := tk } := I.kept kp
    have hn : H h'.objs.size = none := J.hok.fresh (Nat.le_refl _)
    have J2 : Inv X pins σ (upd H h'.objs.size (.lst xs)) { s with heap := h'.push { cls := .type "list", data := .seq us.toArray }, toks := tk } :=
      J.laid (t' := tk) (fun b o e => Heap.get?_push_of_some _ e) (Nat.le_refl _) ⟨by rw [sizeLine_eq]; omega, us, 0, rs, Heap.get?_push_size _ rfl⟩
    rw [hm]
    refine PyProof.Rows.assignInOrder_cons (thn (h1.run pins _ σ _ x ux _ J2 rx (hw _ hn)) fun _ s1 ⟨σ1, H1, I1, q1⟩ => ?_)
    refine PyProof.Rows.assignInOrder_cons (thn (h2.run pins s1 σ1 H1 (.ref h'.objs.size) _ _ I1 rfl q1) fun _ s2 q2 => ?_)
    exact PyProof.Rows.assignInOrder_nil q2
  rcases sq with sq | sq
  · obtain ⟨its, rv, pt, hz'⟩ := I.tuple sq
    cases rv with
    | @cons _ ux _ us rx rs =>
      have hl := rs.length
      exact wpAny_bind (wpAny_holding (star_tuple pt (I.ok.hd hc) (x := ux) (r := us) rfl (by simp; omega) fun h' tk kp => main ux us rx rs h' tk kp))
  · obtain ⟨its, rv, pt, hz'⟩ := I.list sq
    cases rv with
    | @cons _ ux _ us rx rs =>
      have hl := rs.length
      exact wpAny_bind (wpAny_holding (star_list pt.isList (I.ok.hd hc) (x := ux) (r := us) rfl (by simp; omega) fun h' tk kp => main ux us rx rs h' tk kp))
/-- as a mirror: the rest is a list that does not change -/
def gStar (g1 g2 : MTg) : MTg := fun m env st => match itemsOf m st with
  | some (x :: xs) => if xs.length < 16384 then (g1 x env st).bind fun p => g2 (.lst xs) p.1 p.2 else none
  | _ => none
theorem pmg_star {g1 g2 : MTg} (h1 : PMG X e1 g1) (h2 : PMG X e2 g2) (hc : X.calm = true := by rfl) (hst : (assignEach [e1, .Starred e2 p] X.env).findIdx? (·.1) = some 1 := by rfl) (hln : (assignEach [e1, .Starred e2 p] X.env).length = 2 := by rfl)
    (hm : (assignEach [e1, .Starred e2 p] X.env).map (·.2) = [assign e1 X.env, assign e2 X.env] := by rfl) : PMG X (.Tuple [e1, .Starred e2 p] k pos) (gStar g1 g2) :=
  PG_imp (pg_star hc h1 h2 hst hln hm) fun v σ H Q ⟨A, env, st, m, s, q, r, env', st', e0, k⟩ => by
    unfold gStar at e0
    split at e0
    · rename_i x xs hi
      by_cases hl : xs.length < 16384
      · rw [if_pos hl] at e0
        cases eg : g1 x env st with
        | none => rw [eg] at e0; cases e0
        | some p1 =>
          obtain ⟨env1, st1⟩ := p1
          rw [eg] at e0
          have e0 : g2 (.lst xs) env1 st1 = some (env', st') := e0
          obtain ⟨a, vs, ev, sq, rv⟩ := items_rep s r hi
          cases rv with
          | @cons v0 vs m0 ms r0 rs =>
            refine ⟨a, v0, vs, ev, sq, by rw [rs.length]; exact hl, fun D hD => ?_⟩
            have xD : Ext A H A (upd H D (.lst vs)) := Ext.laid s hD
            have sD := s.laid (o := .lst vs) hD
            refine ⟨A, env, st, x, sD, q.ext xD, r0.ext xD, env1, st1, eg, fun A1 H1 σ1 x1 s1 q1 => ?_⟩
            have rD : Rep (gmOf X) A1 H1 (.ref D) (.lst xs) := (Rep.lst upd_same (s.new_out hD) (rs.ext xD)).ext x1
            exact ⟨A1, env1, st1, .lst xs, s1, q1, rD, env', st', e0, k.ext (xD.trans x1)⟩
      · rw [if_neg hl] at e0; cases e0
    · cases e0
end
end MR

/-! repr; raise X('..'); try: .. except X as e: return A if isinstance(e, Y) else B -/
namespace MR
open PySem L2

/-! ### repr -/
mutual
theorem dp_nodict {K : PySem.W.Frag} {H : Hp} : ∀ (d : PyData) {v : V}, Dp K H v d → d.hasDict = false
  | .none, _, _ => by simp only [PyData.hasDict]
  | .bool _, _, _ => by simp only [PyData.hasDict]
  | .int _, _, _ => by simp only [PyData.hasDict]
  | .str _, _, _ => by simp only [PyData.hasDict]
  | .list ds, _, h => by
    cases h with
    | lst _ ha => simp only [PyData.hasDict]; exact dp_nodicts ds ha
  | .tuple ds, _, h => by
    cases h with
    | tup _ ha => simp only [PyData.hasDict]; exact dp_nodicts ds ha
  | .dict _, _, h => by cases h
theorem dp_nodicts {K : PySem.W.Frag} {H : Hp} : ∀ (ds : List PyData) {vs : List V}, DpAll K H vs ds → PyData.hasDictAll ds = false
  | [], _, _ => by simp only [PyData.hasDictAll]
  | d :: ds, _, h => by
    cases h with
    | cons h1 h2 => simp only [PyData.hasDictAll, dp_nodict d h1, dp_nodicts ds h2, Bool.or_self]
end
def rReprD (K : PySem.W.Frag) : List V → Hp → VK → Prop := fun xs H Q => ∃ x d, xs = [x] ∧ Dp K H x d ∧ d.showable = true ∧ d.depth ≤ 60 ∧ d.shown.length ≤ sizeLine ∧ Q (.str d.shown) H
theorem call_reprD {X : Cx} (hg : NoG X.A) (hu : X.A.units + 64 < cLine) : CallR X (.builtin "repr") (rReprD X.K) := by
  intro pins s σ H xs us Q I r h
  obtain ⟨x, d, rfl, hd, hs, hdep, hsz, q⟩ := h
  obtain ⟨u, rfl, rx⟩ : ∃ u, us = [u] ∧ RelV x u := by
    cases r with
    | cons r rr => cases rr; exact ⟨_, rfl, r⟩
  have fin : ∀ tk, EP X pins σ Q (.str d.shown s.toks) { s with toks := tk } := fun tk => ⟨.str _, H, I.tok _, ⟨_, rfl⟩, q⟩
  cases hd with
  | non => cases rx; exact PySem.P.repr_of_none (fin _)
  | bl b => cases rx; exact PySem.P.repr_of_bool (by cases b <;> exact fin _)
  | int i =>
    obtain ⟨t, rfl⟩ := rx
    exact PySem.P.repr_of_int (of_decide_eq_true hs) (fin _)
  | str y =>
    obtain ⟨t, rfl⟩ := rx
    exact PySem.P.repr_of_str (fin _) hsz
  | @lst a ys ds hq ha =>
    cases rx
    obtain ⟨as, hr⟩ := Dp.reads I (.list ds) (.ref a) (.ref a) (.lst hq ha) rfl
    exact repr_of_reads' hr hs (PyData.noDict_hsm (dp_nodict _ (Dp.lst hq ha))) hg (by omega) (fun _ _ e => e) (fun h' u tk hk => ⟨.str _, H, I.kept hk, ⟨_, rfl⟩, q⟩) hsz
  | @tup a ys ds hq ha =>
    cases rx
    obtain ⟨as, hr⟩ := Dp.reads I (.tuple ds) (.ref a) (.ref a) (.tup hq ha) rfl
    exact repr_of_reads' hr hs (PyData.noDict_hsm (dp_nodict _ (Dp.tup hq ha))) hg (by omega) (fun _ _ e => e) (fun h' u tk hk => ⟨.str _, H, I.kept hk, ⟨_, rfl⟩, q⟩) hsz
def gRepr : List MV → Sto → Res MV := fun ms st => match ms with
  | [m] => match topD m st with
    | some d => if (d.showable = true ∧ d.depth ≤ 60) ∧ d.shown.length ≤ 16777216 then .ok (.str d.shown) st else .bad
    | none => .bad
  | _ => .bad
theorem oRepr {G : Gm} : OpN G (rReprD G.K) gRepr := by
  intro A H st xs ms Q m st' s r h k
  unfold gRepr at h
  split at h
  · split at h
    · rename_i d e
      obtain ⟨hl, h⟩ := ite_ok h
      cases h
      cases r with
      | cons r rs => cases rs; exact ⟨_, d, rfl, r.top s e, hl.1.1, hl.1.2, line_of hl.2, fin0 s (.str _) k⟩
    · cases h
  · cases h

/-! ### raise X('..') -/
/-- x is an exception class of the module's own, without an own __init__ -/
structure ExF (K : PySem.W.Frag) (mg : Str → Option Value) (x : Str) (C : Addr) (bmB : List Value) (newId : String) : Prop where
  gC : mg x = some (.ref C)
  ex : PySem.W.excIn K C bmB newId = true
  kC : PySem.W.keepIn K (.ref C) = true
  sub : PySem.W.subIn K (.ref C) (.type "BaseException") = some true
  ty : PySem.W.typeIn K (.ref C) = some (.type "type")
section
variable {X : Cx} {W : WX}
theorem pms_raiseT {x m : Str} {j : Nat} {p p2 pos pos2 : Pos} {C : Addr} {bmB : List Value} {B newId initId : String} (tk : Takes X W) (F : ExcBaseFacts B newId initId bmB) (E : ExF X.K X.mg x C bmB newId) (hc : X.calm = true := by rfl) (hg : Gl X x := by rfl) (hdb : (x == ("__debug__" : Str)) = false := by decide) :
    PMS X W (.Raise (some (.Call (.Name x p) [.Constant (.str m) j p2] [] pos)) none pos2) (sRaise x) :=
  pms_raise (t := fun _ H Q => Q (.ref C) none H) hc tk E.gC (pmk_own F E.ex E.gC E.kC (raises_own E.sub E.ty) hg hdb)

/-! ### try: .. except x as n: return A if isinstance(n, y) else B -/
def sTryIs (mb : MS) (i : Nat) (sub isY : Str → Option Bool) (va vb : MV) : MS := fun env st => match mb env st with
  | .exc c env' st' => if i < env'.length then (match sub c with
    | some true => (match isY c with
      | some true => .rt va st'
      | some false => .rt vb st'
      | none => .bad)
    | some false => .exc c env' st'
    | none => .bad) else .bad
  | r => r
def tSu (K : PySem.W.Frag) (i : Nat) (Y : Addr) (xa xb : V) : Addr → Value → Option Addr → TS := fun a cls d D σ H =>
  ∃ E : Addr, cls = .ref E ∧ d = none ∧ ExcC K E ∧ tRet (tIf (tB (tCB (rIsE K E a) (tCons (tVar i) (tCons (tC (.ref Y)) tNil)))) (tC xa) (tC xb)) D σ H
theorem rel_ref {Y : Addr} : ∀ u, RelV (.ref Y) u → u = .ref Y := fun u r => r
theorem pms_tryIs {i : Nat} {n x y : Str} {cx : Value} {Y : Addr} {xa xb : V} {va vb : MV} {body : List Stmt} {mb : MS} {ea eb : Expr} {sub isY : Str → Option Bool} {np pos pos' p1 p2 p3 p4 p5 p6 : Pos}
    (hs : X.stack = X.env :: X.outer) (hf : X.env.frame = some X.env.locals) (hN : X.N.Nodup) (hi : X.N[i]? = some n) (hln : X.env.kindOf n = some .local) (hc : Names X x cx) (tk : Takes X W)
    (hb : ∀ (W' : WX) (pn : List (Addr × Obj)) (xe : Value → Shared → Prop), Takes (X.tr pn xe) W' → PMSs (X.tr pn xe) W' body mb)
    (hsub : ∀ c b C, sub c = some b → X.mg c = some (.ref C) → PySem.W.exmOne X.K (.ref C) cx = some b)
    (hisY : ∀ c b C, isY c = some b → X.mg c = some (.ref C) → ExcC X.K C ∧ PySem.W.kitOne X.K (.ref C) (.ref Y) = some b)
    (gY : X.mg y = some (.ref Y)) (mi : X.mg "isinstance" = none) (ra : ∀ A H, Rep (gmOf X) A H xa va) (rb : ∀ A H, Rep (gmOf X) A H xb vb)
    (ha : ∀ X' : Cx, PE X' ea (tC xa)) (hb' : ∀ X' : Cx, PE X' eb (tC xb))
    (hv : Vis X.env.scope n := by first | exact Or.inl rfl | exact Or.inr (Or.inl rfl) | exact Or.inr (Or.inr rfl)) (hg1 : Gl X "isinstance" := by rfl) (hg2 : Gl X y := by rfl) (hd1 : (n == ("__debug__" : Str)) = false := by decide) (hd2 : (n == ("__classdict__" : Str)) = false := by decide) (hd3 : (y == ("__debug__" : Str)) = false := by decide) :
    PMS X W (.Try body [.ExceptHandler (some (.Name x np)) (some n) [.Return (some (.IfExp (.Call (.Name "isinstance" p1) [.Name n p2, .Name y p3] [] p4) ea eb p5)) p6] pos'] [] [] pos) (sTryIs mb i sub isY va vb) := by
  refine PS_imp (ps_try_as (i := i) (c := cx) (tb := fun W' => tS (gmOf X) W' mb) (ts := tSu X.K i Y xa xb) (Wout := W) hs hf hN hi hln hc tk (fun W' pn xe tk' _ => hb W' pn xe tk') fun a oe cls d pn hz hfl => ?_) fun D σ H ⟨A, env, st, s, q, h⟩ => ?_
  · refine ⟨fun pins s σ H D I ⟨E, e1, e2, hE, q⟩ => ?_⟩
    subst e1 e2
    have hisi := call_isE (X := X) (a := a) (pn := pn) hE hz hfl
    have hcall : PE (X.suite a ((a, oe) :: pn)) (.Call (.Name "isinstance" p1) [.Name n p2, .Name y p3] [] p4) (tCB (rIsE X.K E a) (tCons (tVar i) (tCons (tC (.ref Y)) tNil))) :=
      pe_callB hisi hg1 mi (by decide +kernel) (pa_cons (pe_var (X := X.suite a ((a, oe) :: pn)) hi hv hd1 hd2) (pa_cons (pe_glob (X := X.suite a ((a, oe) :: pn)) (v := .ref Y) hg2 gY rfl hd3) pa_nil))
    exact (pss_one (ps_ret (pe_ifExp (pt_val hcall) (ha _) (hb' _)))).run pins s σ H D I q
  · refine ⟨A, env, st, s, q, ?_⟩
    unfold sTryIs at h
    cases eb0 : mb env st with
    | nx e s => rw [eb0] at h; exact h
    | rt m s => rw [eb0] at h; exact h
    | bk e s => rw [eb0] at h; exact h
    | ct e s => rw [eb0] at h; exact h
    | bad => rw [eb0] at h; exact h
    | exc c env' st' =>
      rw [eb0] at h
      have h : Flw.post (if i < env'.length then (match sub c with
        | some true => (match isY c with
          | some true => .rt va st'
          | some false => .rt vb st'
          | none => .bad)
        | some false => .exc c env' st'
        | none => .bad) else .bad) (gmOf X) A H W D := h
      have hlen : i < env'.length := by
        apply Classical.byContradiction
        intro hlen
        rw [if_neg hlen] at h
        exact h
      rw [if_pos hlen] at h
      intro A' H' σ' C e' s' q' hC
      cases es : sub c with
      | none => rw [es] at h; exact h.elim
      | some b =>
        have hx := hsub c b C es hC
        refine ⟨b, hx, fun hb a ha => ?_, fun hb => ?_⟩
        · subst hb
          rw [es] at h
          have h : Flw.post (match isY c with
          | some true => .rt va st'
          | some false => .rt vb st'
          | none => .bad) (gmOf X) A H W D := h
          cases ey : isY c with
          | none => rw [ey] at h; exact h.elim
          | some k =>
            rw [ey] at h
            obtain ⟨hE, hk⟩ := hisY c k C ey hC
            have hget : (σ'.set i (some (.ref a)))[i]? = some (some (V.ref a)) := List.getElem?_set_self (by rw [q'.len]; exact hlen)
            refine ⟨C, rfl, rfl, hE, ?_⟩
            refine ⟨.ref a, hget, ⟨.ref Y, .ref Y, k, rfl, rel_ref, hk, k, rfl, ?_⟩⟩
            cases k with
            | true => exact h A' H' xa e' s' (ra A' H')
            | false => exact h A' H' xb e' s' (rb A' H')
        · subst hb
          rw [es] at h
          exact h A' H' σ' C e' s' q' hC
end
end MR

/-! a, b = x, y; text * int; short names of rules for printed derivations -/
namespace MR
open PySem L2
def sPar (i j : Nat) (r : MA) : MS := fun env st => bindE (r env st) env fun xs st1 => match xs with
  | [x, y] => .nx ((env.set i (some x)).set j (some y)) st1
  | _ => .bad
section
variable {X : Cx} {W : WX}
theorem pms_par {x y : Str} {a b : Expr} {mr : MA} {px py pt pos : Pos} {kt k2 pt2} (i j : Nat) (hN : X.N.Nodup) (ha : PMA X W [a, b] mr) (hi : X.N[i]? = some x := by rfl) (hj : X.N[j]? = some y := by rfl) (hij : i ≠ j := by decide)
    (hx : X.env.scope.names.lookup x = some .local := by rfl) (hy : X.env.scope.names.lookup y = some .local := by rfl) (hc : X.calm = true := by rfl)
    (hw : swappedStores [.Tuple [.Name x px, .Name y py] kt pt] (.Tuple [a, b] k2 pt2) X.env = pure (some [x, y]) := by rfl)
    (hs : swapsWithSole [.Tuple [.Name x px, .Name y py] kt pt] (.Tuple [a, b] k2 pt2) pos.line X.env = pure false := by rfl) :
    PMS X W (.Assign [.Tuple [.Name x px, .Name y py] kt pt] (.Tuple [a, b] k2 pt2) pos) (sPar i j mr) :=
  PS_imp (ps_par hc hN hi hj hij hx hy ha hw hs) fun D σ H ⟨A, env, st, s, q, h⟩ => by
    refine inA s q (Ext.refl A H) ((post_bindE h).mono (fun ms st1 h1 A1 H1 vs e1 s1 r1 => ?_) fun _ _ z => exP_of q z)
    split at h1
    · cases r1 with
      | @cons v _ _ _ r1 rr =>
        cases rr with
        | @cons w _ _ _ r2 rr =>
          cases rr
          exact ⟨v, w, rfl, h1 A1 H1 _ e1 s1 (((q.ext e1).set i r1).set j r2)⟩
    · exact h1.elim
end
/-! ### text * int -/
def repS (x : Str) (n : Nat) : Str := ⟨(List.replicate n x.cps).foldl (· ++ ·) #[]⟩
def rMulStr : R2 := fun x y H Q => ∃ (a : Str) (k : Int), x = .str a ∧ y = .int k ∧ 2 ≤ k ∧ k ≤ 1000000 ∧ 1 ≤ a.length ∧ a.length * k.toNat ≤ 16777216 ∧ Q (.str (repS a k.toNat)) H
theorem op_mulStr {X : Cx} : OpR X (binaryOp .Mult) rMulStr := by
  intro pins s σ H x y v u Q I rx ry h
  obtain ⟨a, k, rfl, rfl, h1, h2, h3, h4, q⟩ := h
  obtain ⟨t, rfl⟩ := rx
  obtain ⟨t', rfl⟩ := ry
  have e1 : decide (k < -(2 ^ 63 : Int)) = false := decide_eq_false (by omega)
  have e2 : decide (k ≥ 2 ^ 63) = false := decide_eq_false (by omega)
  have hk : ((k.toNat : Nat) : Int) = k := by omega
  have ha : a.length ≤ 16777216 := Nat.le_trans (Nat.le_mul_of_pos_right _ (by omega)) h4
  refine PySem.P.mul_str (by rw [e1, e2]; rfl) (fun _ _ => ?_) (fun _ _ => ?_) ?_
  · have : (2 ^ 63 - 1) / k ≥ (2 ^ 63 - 1) / 1000000 := by
      apply Int.le_ediv_of_mul_le (by omega)
      calc (2 ^ 63 - 1 : Int) / 1000000 * k ≤ (2 ^ 63 - 1) / 1000000 * 1000000 := Int.mul_le_mul_of_nonneg_left h2 (by decide)
        _ ≤ 2 ^ 63 - 1 := by decide
    have z : (16777216 : Int) ≤ (2 ^ 63 - 1) / 1000000 := by decide
    omega
  · have : a.length * k.toNat ≤ sizeLine := line_of h4
    exact decide_eq_false (by omega)
  · rw [if_neg (by omega)]
    have hn1 : (k == 1) = false := beq_false_of_ne (by omega)
    have hn2 : (a.length == 0) = false := beq_false_of_ne (by omega)
    rw [hn1, hn2]
    have hsz : (repS a k.toNat).length ≤ sizeLine := by
      have e : ∀ (n : Nat) (acc : Array Nat), ((List.replicate n a.cps).foldl (· ++ ·) acc).size = acc.size + n * a.cps.size := by
        intro n
        induction n with
        | zero => intro acc; simp
        | succ n ih => intro acc; rw [List.replicate_succ, List.foldl_cons, ih, Array.size_append]; rw [Nat.succ_mul]; omega
      show ((List.replicate k.toNat a.cps).foldl (· ++ ·) #[]).size ≤ sizeLine
      rw [e]
      have : a.length * k.toNat ≤ sizeLine := line_of h4
      have e3 : a.length = a.cps.size := rfl
      rw [e3, Nat.mul_comm] at this
      simpa using this
    exact ⟨hsz, ⟨.str _, H, I.tok _, ⟨_, rfl⟩, q⟩⟩
def gMulS : G2 := fun a b st => match a, b with
  | .str x, .int k => if (2 ≤ k ∧ k ≤ 1000000) ∧ 1 ≤ x.length ∧ x.length * k.toNat ≤ 16777216 then .ok (.str (repS x k.toNat)) st else .bad
  | a, b => gMul a b st
abbrev rMulA : R2 := fun x y H Q => rMulStr x y H Q ∨ rMulM x y H Q
theorem opMulA {X : Cx} : OpR X (binaryOp .Mult) rMulA := op_mulStr.or opMul
theorem o2MulA {G : Gm} : Op2 G rMulA gMulS := by
  intro A H st x y mx my Q m st' s rx ry h k
  unfold gMulS at h
  split at h
  · obtain ⟨hl, h⟩ := ite_ok h
    cases h
    exact .inl ⟨_, _, rx.str_inv, ry.int_inv, hl.1.1, hl.1.2, hl.2.1, hl.2.2, fin0 s (.str _) k⟩
  · exact .inr (o2Mul s rx ry h k)
end MR

/-! walks over what comes; names of types; the law's end -/
namespace MR
open PySem L2
section
variable {X : Cx} {W : WX} {tg it : Expr} {ma : ME}
/-- a tuple, a list that does not change, a text -/
def iAll (a : ME) : MA := fun env st => (a env st).bind fun m st' => match m with
  | .str z => .ok (z.cps.toList.map fun c => .str ⟨#[c]⟩) st'
  | m => match frozen m with
    | some xs => .ok xs st'
    | none => .bad
theorem pmi_all (ha : PM X W it ma) : PMI X W tg it (iAll ma) := PI_or (pmi_seq ha) (pmi_txt ha) fun σ H R ⟨A, env, st, s, q, h⟩ => by
  unfold iAll at h
  cases e : ma env st with
  | exc c st' =>
    rw [e] at h
    exact .inl ⟨A, env, st, s, q, by unfold iSeq; rw [e]; exact h⟩
  | bad => rw [e] at h; exact h.elim
  | ok m st' =>
    rw [e] at h
    cases m with
    | str z => exact .inr ⟨A, env, st, s, q, by unfold iTxt; rw [e]; exact h⟩
    | _ => exact .inl ⟨A, env, st, s, q, by unfold iSeq; rw [e]; exact h⟩
end
/-! ### the end -/
theorem FnG.imp {P : Program} {w : World} {K : PySem.W.Frag} {mg : Str → Option Value} {base : Heap} {k : Nat} {f : Addr} {fd : FuncData} {ps : List Str} {sp sp' : Sp} (F : FnG P w K mg base k f fd ps sp) (h : ∀ vs H Q E, sp' vs H Q E → sp vs H Q E) : FnG P w K mg base k f fd ps sp' :=
  { len := fun vs H Q E z => F.len vs H Q E (h _ _ _ _ z), run := fun A outer s H args us vs Q E hr gd e0 hb rv z => F.run A outer s H args us vs Q E hr gd e0 hb rv (h _ _ _ _ z) }
/-- what is asked of the law -/
def spLaw (K : PySem.W.Frag) : Sp := fun vs H Q _ => ∃ (a : Addr) (ns : List Int), vs = [.ref a] ∧ SqL K H a (ns.map V.int) ∧ ns.length ≤ 63 ∧ ∀ H', Q (.bl true) H'
theorem law_end {P : Program} {w : World} {K : PySem.W.Frag} {mg : Str → Option Value} {base : Heap} {k : Nat} {f : Addr} {fd : FuncData} {fl : FM} (F : FnG P w K mg base k f fd ["script"] (spM ⟨K, mg⟩ 1 fl))
    (h : ∀ ns : List Int, ns.length ≤ 63 → ∃ st, fl [.scr ns] [] = .ok (.bl true) st) : FnG P w K mg base k f fd ["script"] (spLaw K) :=
  F.imp fun vs H Q E ⟨a, ns, ev, sq, hl, hq⟩ => by
    subst ev
    obtain ⟨st, e⟩ := h ns hl
    have no : ¬ (⟨[], []⟩ : Ad).has a := fun m => by rcases m with m | m <;> cases m
    refine ⟨⟨[], []⟩, [], [.scr ns], ⟨rfl, List.nodup_nil, fun k a o h => by simp at h, fun b m => by cases m⟩, .cons (.scr ?_) .nil, rfl, ?_⟩
    · rcases sq with sq | sq
      · exact .inl ⟨sq, no⟩
      · exact .inr (.inr sq)
    · rw [e]
      intro A' H' v _ _ r
      rw [r.bl_inv]
      exact hq H'
/-! ### own exception classes, told by the written part -/
/-- what is asked of such a class C -/
structure ExK (K : PySem.W.Frag) (x : Str) (C : Addr) (bmB : List Value) (newId : String) : Prop where
  gC : PySem.W.nsIn K mainGlobals x = some (some (.ref C))
  ex : PySem.W.excIn K C bmB newId = true
  kC : PySem.W.keepIn K (.ref C) = true
  sub : PySem.W.subIn K (.ref C) (.type "BaseException") = some true
  ty : PySem.W.typeIn K (.ref C) = some (.type "type")
  dict : PySem.W.hasDictIn K C = true
  cls : PySem.W.isClsIn K C = true
  ga : PySem.W.findIn K (.ref C) "__getattribute__" = some (some (.builtin "BaseException.__getattribute__"))
  gg : PySem.W.findIn K (.ref C) "__getattr__" = some none
  gc : PySem.W.findIn K (.ref C) "__class__" = some (some (.builtin "object.__class__"))
  gs : PySem.W.specialIn K (.builtin "object.__class__") "__get__" = some (some (.builtin "getset_descriptor.__get__"))
  gt : PySem.W.takesIn K (.builtin "object.__class__") = some true
  mo : PySem.W.mroIn K C (.type "object") = some true
section
variable {K : PySem.W.Frag} {h : Heap} {mg : Str → Option Value} {x : Str} {C Y : Addr} {bmB : List Value} {newId : String}
theorem ExK.f (E : ExK K x C bmB newId) (X : K.In h) (G : h.Ns mainGlobals mg) : ExF K mg x C bmB newId := ⟨PySem.W.mg_of X G E.gC, E.ex, E.kC, E.sub, E.ty⟩
theorem ExK.c (E : ExK K x C bmB newId) : ExcC K C := ⟨E.ga, E.gg, E.sub, E.dict, E.gc, E.gs, E.gt, E.mo⟩
theorem ExK.exm (E : ExK K x Y bmB newId) {cls : Value} {b : Bool} (h4 : PySem.W.subIn K cls (.ref Y) = some b) : PySem.W.exmOne K cls (.ref Y) = some b := PySem.W.exm_ref E.sub E.dict E.ty h4
theorem ExK.kit (E : ExK K x Y bmB newId) {b : Bool} (h4 : PySem.W.subIn K (.ref C) (.ref Y) = some b) (hne : C = Y → b = true) : PySem.W.kitOne K (.ref C) (.ref Y) = some b := by
  have e2 : ((PySem.W.clsIn K Y).isSome && PySem.W.typeIn K (.ref Y) == some (.type "type")) = true := by
    have h2' : (PySem.W.clsIn K Y).isSome = true := E.cls
    rw [h2', E.ty] <;> rfl
  unfold PySem.W.kitOne
  by_cases e : (Value.ref C == Value.ref Y) = true
  · rw [if_pos e]
    have : C = Y := by
      have := beq_iff_eq.mp e
      exact Value.ref.inj this
    rw [hne this]
  · rw [if_neg e]
    show (if ((PySem.W.clsIn K Y).isSome && PySem.W.typeIn K (.ref Y) == some (.type "type")) = true then PySem.W.subIn K (.ref C) (.ref Y) else none) = some b
    rw [if_pos e2]
    exact h4
theorem rel_txt {z : Str} {t : Tok} {v : Str} (e : z = v) : RelV (.str v) (.str z t) := ⟨t, by rw [e]⟩
theorem rel_num {z : Int} {t : Tok} : RelV (.int z) (.int z t) := ⟨t, rfl⟩
end
end MR

/-! printed by gen.py: the defs of the text, mirrored -/
namespace K84
open PySem L2 MR
def top (i : Nat) : Stmt := PySem.Challenge.pw_openlimit_k84_texts_of_recipes.main.body.getD i (.Pass ⟨0, 0, 0, 0⟩)
abbrev s_is_sign : Stmt := top 9
abbrev s_is_alphabet : Stmt := top 10
abbrev s_is_integer : Stmt := top 8
abbrev s_is_letter : Stmt := top 11
abbrev s_is_recipe_row : Stmt := top 17
abbrev s_is_recipe_in : Stmt := top 18
abbrev s_signs_in : Stmt := top 25
abbrev s_rows_text : Stmt := top 26
abbrev s_recipe_text : Stmt := top 27
abbrev s_lines_of : Stmt := top 24
abbrev s_number_of : Stmt := top 23
abbrev s_parsed_row : Stmt := top 28
abbrev s_parse_recipe : Stmt := top 29
abbrev s__law_stream : Stmt := top 31
abbrev s__law_draw : Stmt := top 32
abbrev s__law_recipe : Stmt := top 33
abbrev s__law_text_of : Stmt := top 34
abbrev s_is_recipe : Stmt := top 19
abbrev s__law_number : Stmt := top 35
abbrev s__law_parsed : Stmt := top 36
abbrev s__law_read_back : Stmt := top 37
abbrev s__law_spoilt : Stmt := top 38
abbrev s_law : Stmt := top 39
def sub_LimitError (c : Str) : Option Bool := if c = "LimitError" then some true else if c = "InvalidMachine" then some true else if c = "InvalidRecipe" then some true else if c = "ParseError" then some true else none
def is_ParseError (c : Str) : Option Bool := if c = "LimitError" then some false else if c = "InvalidMachine" then some false else if c = "InvalidRecipe" then some false else if c = "ParseError" then some true else none
/-- what is written of the module -/
structure Txt (K : PySem.W.Frag) (mg : Str → Option Value) : Prop where
  n_abs : mg "abs" = none
  n_all : mg "all" = none
  n_bool : mg "bool" = none
  n_enumerate : mg "enumerate" = none
  n_int : mg "int" = none
  n_isinstance : mg "isinstance" = none
  n_len : mg "len" = none
  n_max : mg "max" = none
  n_min : mg "min" = none
  n_range : mg "range" = none
  n_repr : mg "repr" = none
  n_set : mg "set" = none
  n_sorted : mg "sorted" = none
  n_str : mg "str" = none
  n_tuple : mg "tuple" = none
  n_zip : mg "zip" = none
  c_DIGITS : ∃ u, mg "DIGITS" = some u ∧ RelV (.str "0123456789") u
  c_LETTER : ∃ u, mg "LETTER" = some u ∧ RelV (.str "letter") u
  c_MAX_DIGITS : ∃ u, mg "MAX_DIGITS" = some u ∧ RelV (.int 6) u
  c_MAX_LETTERS : ∃ u, mg "MAX_LETTERS" = some u ∧ RelV (.int 4) u
  c_MAX_ROWS : ∃ u, mg "MAX_ROWS" = some u ∧ RelV (.int 400) u
  c_PUMP : ∃ u, mg "PUMP" = some u ∧ RelV (.str "pump") u
  c_SIGNS : ∃ u, mg "SIGNS" = some u ∧ RelV (.str "abcdefghijklmnopqrstuvwxyz") u
  c_THEN : ∃ u, mg "THEN" = some u ∧ RelV (.str "then") u
  x_LimitError : ∃ C, ExF K mg "LimitError" C [.type "ValueError", .type "Exception", .type "BaseException", .type "object"] "ValueError.__new__"
  x_InvalidMachine : ∃ C, ExF K mg "InvalidMachine" C [.type "ValueError", .type "Exception", .type "BaseException", .type "object"] "ValueError.__new__"
  x_InvalidRecipe : ∃ C, ExF K mg "InvalidRecipe" C [.type "ValueError", .type "Exception", .type "BaseException", .type "object"] "ValueError.__new__"
  x_ParseError : ∃ C, ExF K mg "ParseError" C [.type "ValueError", .type "Exception", .type "BaseException", .type "object"] "ValueError.__new__"
  sub_LimitError : ∀ {Cx : Addr}, mg "LimitError" = some (.ref Cx) → ∀ c b C, sub_LimitError c = some b → mg c = some (.ref C) → PySem.W.exmOne K (.ref C) (.ref Cx) = some b
  is_ParseError : ∀ {Y : Addr}, mg "ParseError" = some (.ref Y) → ∀ c b C, is_ParseError c = some b → mg c = some (.ref C) → ExcC K C ∧ PySem.W.kitOne K (.ref C) (.ref Y) = some b
section
variable {P : Program} {w : World} {K : PySem.W.Frag} {mg : Str → Option Value} {base : Heap} {f : Addr} {fd : FuncData}
/-! is_sign -/
def b_is_sign : MS := (sRet (mAnd (mCall gIsi (aCons (mVar 0) (aCons (mC (.ty "str")) aNil))) (mAnd (m2 gEq (mCall gLen (aCons (mVar 0) aNil)) (mC (.int 1))) (m2 gIn (mVar 0) (mC (.str "abcdefghijklmnopqrstuvwxyz"))))))
def f_is_sign : FM := defM 1 b_is_sign
theorem ok_is_sign (T : Txt K mg)  (F : Fun K "is_sign" "is_sign" s_is_sign f fd) (hx : mg "is_sign" = some (.ref f)) (hb : Binds K fd ["value"] []) : FnM P w K mg base 1 "is_sign" 1 f_is_sign := by
  obtain ⟨u_SIGNS, g_SIGNS, r_SIGNS⟩ := T.c_SIGNS
  exact fn_mirror (N := ["value"]) (ps := ["value"]) F ⟨rfl, rfl, rfl, by decide +kernel, rfl, by decide +kernel, by decide +kernel⟩ hx hb fun cdv A outer s H E gd hr tk => by
    have nd : (["value"] : List Str).Nodup := by decide +kernel
    have lt := lets_of tk
    exact (pms_one (pms_ret (pm_and (pm_callB call_isi oIsi T.n_isinstance (by decide +kernel) (pma_cons (pm_var 0) (pma_cons (pm_ty T.n_str (by decide +kernel)) pma_nil))) (pm_and (pm_cmp (op_eqD hr.units) o2Eq (pm_callB call_len oLen T.n_len (by decide +kernel) (pma_cons (pm_var 0) pma_nil)) pm_int) (pm_one (pm_cmp opIn o2In (pm_var 0) (pm_glob g_SIGNS r_SIGNS (fun _ _ => .str _))))))))
/-! is_alphabet -/
def b_is_alphabet : MS := (sSeq (sIf (mOrT (mNotT (mB (mCall gIsi (aCons (mVar 0) (aCons (mC (.ty "str")) aNil))))) (mOrT (mNotT (mB (mChain gLe gLe (mC (.int 1)) (mCall gLen (aCons (mVar 0) aNil)) (mC (.int 4))))) (mNotT (mB (mCall gAll (aCons (mLc (iAll (mVar 0)) [1] (.nm 1) tYesM (mFn 1 f_is_sign (aCons (mVar 1) aNil))) aNil)))))) (sRet (mC (.bl false))) sNext)
  (sRet (mCall gAll (aCons (mLc (iZipM (aCons (mVar 0) (aCons (mSl gSlice (mVar 0) (oSome (mC (.int 1))) oNone) aNil))) [2, 3] (.tp [2, 3]) tYesM (m2 gLt (mVar 2) (mVar 3))) aNil))))
def f_is_alphabet : FM := defM 4 b_is_alphabet
theorem ok_is_alphabet (T : Txt K mg) (F_is_sign : FnM P w K mg base 1 "is_sign" 1 f_is_sign) (F : Fun K "is_alphabet" "is_alphabet" s_is_alphabet f fd) (hx : mg "is_alphabet" = some (.ref f)) (hb : Binds K fd ["value"] []) : FnM P w K mg base 2 "is_alphabet" 1 f_is_alphabet := by
  obtain ⟨u_MAX_LETTERS, g_MAX_LETTERS, r_MAX_LETTERS⟩ := T.c_MAX_LETTERS
  exact fn_mirror (N := ["value", "sign", "one", "other"]) (ps := ["value"]) F ⟨rfl, rfl, rfl, by decide +kernel, rfl, by decide +kernel, by decide +kernel⟩ hx hb fun cdv A outer s H E gd hr tk => by
    have nd : (["value", "sign", "one", "other"] : List Str).Nodup := by decide +kernel
    have lt := lets_of tk
    exact (pms_cons (pms_if (PW.pt (pmw_or (pmt_not (pmt_val (pm_callB call_isi oIsi T.n_isinstance (by decide +kernel) (pma_cons (pm_var 0) (pma_cons (pm_ty T.n_str (by decide +kernel)) pma_nil))))) (pmw_or (pmt_not (pmt_chain opLe opLe o2Le o2Le pm_int (pm_callB call_len oLen T.n_len (by decide +kernel) (pma_cons (pm_var 0) pma_nil)) (pm_glob g_MAX_LETTERS r_MAX_LETTERS (fun _ _ => .int _)))) (pmw_or1 (pmt_not (pmt_val (pm_callB (cr_all rfl) oAll T.n_all (by decide +kernel) (pma_cons (pm_lc (own := [("sign", 1)]) (t := (.nm 1)) nd (pmi_all (pm_var 0)) (blkOk_by (by kernel_rfl)) (fun s H C cl fp => (pg_name (i := 1) nd rfl (.inl rfl) (.inr rfl))) (fun s H C cl fp => pmts_nil) (fun s H C cl fp => (pm_fn_call (F_is_sign.mono (by decide)) hr gd lets0 (pma_cons (pm_var 1) pma_nil)))) pma_nil)))))))) (pms_one (pms_ret pm_bl)) pms_nil)
      (pms_one (pms_ret (pm_callB (cr_all rfl) oAll T.n_all (by decide +kernel) (pma_cons (pm_lc (own := [("one", 2), ("other", 3)]) (t := (.tp [2, 3])) nd (pmi_zip T.n_zip (pma_cons (pm_var 0) (pma_cons (pm_sl opSlice oSlice (pm_var 0) (pmo_some pm_int) pmo_none) pma_nil))) (blkOk_by (by kernel_rfl)) (fun s H C cl fp => (pg_tup rfl (pgs_cons (pg_name (i := 2) nd rfl (.inl rfl) (.inr rfl)) (pgs_cons (pg_name (i := 3) nd rfl (.inl rfl) (.inr rfl)) pgs_nil)))) (fun s H C cl fp => pmts_nil) (fun s H C cl fp => (pm_cmp opLt o2Lt (pm_var 2) (pm_var 3)))) pma_nil)))))
/-! is_integer -/
def b_is_integer : MS := (sRet (mAnd (mCall gIsi (aCons (mVar 0) (aCons (mC (.ty "int")) aNil))) (mAnd (mNot (mCall gIsi (aCons (mVar 0) (aCons (mC (.ty "bool")) aNil)))) (mChain gLe gLe (mVar 1) (mVar 0) (mVar 2)))))
def f_is_integer : FM := defM 3 b_is_integer
theorem ok_is_integer (T : Txt K mg)  (F : Fun K "is_integer" "is_integer" s_is_integer f fd) (hx : mg "is_integer" = some (.ref f)) (hb : Binds K fd ["value", "low", "high"] []) : FnM P w K mg base 1 "is_integer" 3 f_is_integer := by
  exact fn_mirror (N := ["value", "low", "high"]) (ps := ["value", "low", "high"]) F ⟨rfl, rfl, rfl, by decide +kernel, rfl, by decide +kernel, by decide +kernel⟩ hx hb fun cdv A outer s H E gd hr tk => by
    have nd : (["value", "low", "high"] : List Str).Nodup := by decide +kernel
    have lt := lets_of tk
    exact (pms_one (pms_ret (pm_and (pm_callB call_isi oIsi T.n_isinstance (by decide +kernel) (pma_cons (pm_var 0) (pma_cons (pm_ty T.n_int (by decide +kernel)) pma_nil))) (pm_and (pm_not (pm_callB call_isi oIsi T.n_isinstance (by decide +kernel) (pma_cons (pm_var 0) (pma_cons (pm_ty T.n_bool (by decide +kernel)) pma_nil)))) (pm_one (pm_chain opLe opLe o2Le o2Le (pm_var 1) (pm_var 0) (pm_var 2)))))))
/-! is_letter -/
def b_is_letter : MS := (sRet (mAnd (mFn 1 f_is_sign (aCons (mVar 1) aNil)) (m2 gIn (mVar 1) (mVar 0))))
def f_is_letter : FM := defM 2 b_is_letter
theorem ok_is_letter (T : Txt K mg) (F_is_sign : FnM P w K mg base 1 "is_sign" 1 f_is_sign) (F : Fun K "is_letter" "is_letter" s_is_letter f fd) (hx : mg "is_letter" = some (.ref f)) (hb : Binds K fd ["alphabet", "value"] []) : FnM P w K mg base 2 "is_letter" 2 f_is_letter := by
  exact fn_mirror (N := ["alphabet", "value"]) (ps := ["alphabet", "value"]) F ⟨rfl, rfl, rfl, by decide +kernel, rfl, by decide +kernel, by decide +kernel⟩ hx hb fun cdv A outer s H E gd hr tk => by
    have nd : (["alphabet", "value"] : List Str).Nodup := by decide +kernel
    have lt := lets_of tk
    exact (pms_one (pms_ret (pm_and (pm_fn_call (F_is_sign.mono (by decide)) hr gd lt (pma_cons (pm_var 1) pma_nil)) (pm_one (pm_cmp opIn o2In (pm_var 1) (pm_var 0))))))
/-! is_recipe_row -/
def b_is_recipe_row : MS := (sSeq (sIf (mOrT (mNotT (mB (mCall gIsi (aCons (mVar 2) (aCons (mC (.ty "tuple")) aNil))))) (mOrT (mB (m2 gEq (mVar 2) (mTup aNil))) (mNotT (mB (mCall gIsi (aCons (m2 gIx (mVar 2) (mC (.int 0))) (aCons (mC (.ty "str")) aNil))))))) (sRet (mC (.bl false))) sNext)
  (sSeq (sAsg (gStar (gN 3) (gN 4)) (mVar 2))
  (sSeq (sIf (mB (m2 gEq (mVar 3) (mC (.str "letter")))) (sRet (mAnd (m2 gEq (mCall gLen (aCons (mVar 4) aNil)) (mC (.int 1))) (mFn 2 f_is_letter (aCons (mVar 0) (aCons (m2 gIx (mVar 4) (mC (.int 0))) aNil))))) sNext)
  (sSeq (sIf (mB (m2 gEq (mVar 3) (mC (.str "then")))) (sRet (mAnd (m2 gEq (mCall gLen (aCons (mVar 4) aNil)) (mC (.int 2))) (mCall gAll (aCons (mLc (iAll (mVar 4)) [5] (.nm 5) tYesM (mFn 3 f_is_integer (aCons (mVar 5) (aCons (mC (.int 0)) (aCons (m2 gSub (mVar 1) (mC (.int 1))) aNil))))) aNil)))) sNext)
  (sRet (mAnd (m2 gEq (mVar 3) (mC (.str "pump"))) (mAnd (m2 gEq (mCall gLen (aCons (mVar 4) aNil)) (mC (.int 1))) (mFn 3 f_is_integer (aCons (m2 gIx (mVar 4) (mC (.int 0))) (aCons (mC (.int 0)) (aCons (m2 gSub (mVar 1) (mC (.int 1))) aNil)))))))))))
def f_is_recipe_row : FM := defM 6 b_is_recipe_row
theorem ok_is_recipe_row (T : Txt K mg) (F_is_integer : FnM P w K mg base 1 "is_integer" 3 f_is_integer) (F_is_letter : FnM P w K mg base 2 "is_letter" 2 f_is_letter) (F : Fun K "is_recipe_row" "is_recipe_row" s_is_recipe_row f fd) (hx : mg "is_recipe_row" = some (.ref f)) (hb : Binds K fd ["alphabet", "place", "row"] []) : FnM P w K mg base 3 "is_recipe_row" 3 f_is_recipe_row := by
  obtain ⟨u_LETTER, g_LETTER, r_LETTER⟩ := T.c_LETTER
  obtain ⟨u_PUMP, g_PUMP, r_PUMP⟩ := T.c_PUMP
  obtain ⟨u_THEN, g_THEN, r_THEN⟩ := T.c_THEN
  exact fn_mirror (N := ["alphabet", "place", "row", "kind", "parts", "part"]) (ps := ["alphabet", "place", "row"]) F ⟨rfl, rfl, rfl, by decide +kernel, rfl, by decide +kernel, by decide +kernel⟩ hx hb fun cdv A outer s H E gd hr tk => by
    have nd : (["alphabet", "place", "row", "kind", "parts", "part"] : List Str).Nodup := by decide +kernel
    have lt := lets_of tk
    exact (pms_cons (pms_if (PW.pt (pmw_or (pmt_not (pmt_val (pm_callB call_isi oIsi T.n_isinstance (by decide +kernel) (pma_cons (pm_var 2) (pma_cons (pm_ty T.n_tuple (by decide +kernel)) pma_nil))))) (pmw_or (pmt_cmp (op_eqD hr.units) o2Eq (pm_var 2) (pm_tup pma_nil)) (pmw_or1 (pmt_not (pmt_val (pm_callB call_isi oIsi T.n_isinstance (by decide +kernel) (pma_cons (pm_ix ix_seq o2Ix (pm_var 2) pm_int) (pma_cons (pm_ty T.n_str (by decide +kernel)) pma_nil))))))))) (pms_one (pms_ret pm_bl)) pms_nil)
      (pms_cons (pms_asg (pm_var 2) (pmg_star (pmg_name 3 nd) (pmg_name 4 nd)))
      (pms_cons (pms_if (pmt_cmp (op_eqD hr.units) o2Eq (pm_var 3) (pm_glob g_LETTER r_LETTER (fun _ _ => .str _))) (pms_one (pms_ret (pm_and (pm_cmp (op_eqD hr.units) o2Eq (pm_callB call_len oLen T.n_len (by decide +kernel) (pma_cons (pm_var 4) pma_nil)) pm_int) (pm_one (pm_fn_call (F_is_letter.mono (by decide)) hr gd lt (pma_cons (pm_var 0) (pma_cons (pm_ix ix_seq o2Ix (pm_var 4) pm_int) pma_nil))))))) pms_nil)
      (pms_cons (pms_if (pmt_cmp (op_eqD hr.units) o2Eq (pm_var 3) (pm_glob g_THEN r_THEN (fun _ _ => .str _))) (pms_one (pms_ret (pm_and (pm_cmp (op_eqD hr.units) o2Eq (pm_callB call_len oLen T.n_len (by decide +kernel) (pma_cons (pm_var 4) pma_nil)) pm_int) (pm_one (pm_callB (cr_all rfl) oAll T.n_all (by decide +kernel) (pma_cons (pm_lc (own := [("part", 5)]) (t := (.nm 5)) nd (pmi_all (pm_var 4)) (blkOk_by (by kernel_rfl)) (fun s H C cl fp => (pg_name (i := 5) nd rfl (.inl rfl) (.inr rfl))) (fun s H C cl fp => pmts_nil) (fun s H C cl fp => (pm_fn_call (F_is_integer.mono (by decide)) hr gd lets0 (pma_cons (pm_var 5) (pma_cons pm_int (pma_cons (pm_bin op_sub o2Sub (pm_var 1) pm_int) pma_nil)))))) pma_nil)))))) pms_nil)
      (pms_one (pms_ret (pm_and (pm_cmp (op_eqD hr.units) o2Eq (pm_var 3) (pm_glob g_PUMP r_PUMP (fun _ _ => .str _))) (pm_and (pm_cmp (op_eqD hr.units) o2Eq (pm_callB call_len oLen T.n_len (by decide +kernel) (pma_cons (pm_var 4) pma_nil)) pm_int) (pm_one (pm_fn_call (F_is_integer.mono (by decide)) hr gd lt (pma_cons (pm_ix ix_seq o2Ix (pm_var 4) pm_int) (pma_cons pm_int (pma_cons (pm_bin op_sub o2Sub (pm_var 1) pm_int) pma_nil)))))))))))))
/-! is_recipe_in -/
def b_is_recipe_in : MS := (sSeq (sIf (mOrT (mNotT (mB (mCall gIsi (aCons (mVar 1) (aCons (mC (.ty "tuple")) aNil))))) (mNotT (mB (mChain gLe gLe (mC (.int 1)) (mCall gLen (aCons (mVar 1) aNil)) (mC (.int 400)))))) (sRet (mC (.bl false))) sNext)
  (sRet (mCall gAll (aCons (mLc (iEnumM (aCons (mVar 1) aNil)) [2, 3] (.tp [2, 3]) tYesM (mFn 3 f_is_recipe_row (aCons (mVar 0) (aCons (mVar 2) (aCons (mVar 3) aNil))))) aNil))))
def f_is_recipe_in : FM := defM 4 b_is_recipe_in
theorem ok_is_recipe_in (T : Txt K mg) (F_is_recipe_row : FnM P w K mg base 3 "is_recipe_row" 3 f_is_recipe_row) (F : Fun K "is_recipe_in" "is_recipe_in" s_is_recipe_in f fd) (hx : mg "is_recipe_in" = some (.ref f)) (hb : Binds K fd ["alphabet", "value"] []) : FnM P w K mg base 4 "is_recipe_in" 2 f_is_recipe_in := by
  obtain ⟨u_MAX_ROWS, g_MAX_ROWS, r_MAX_ROWS⟩ := T.c_MAX_ROWS
  exact fn_mirror (N := ["alphabet", "value", "place", "row"]) (ps := ["alphabet", "value"]) F ⟨rfl, rfl, rfl, by decide +kernel, rfl, by decide +kernel, by decide +kernel⟩ hx hb fun cdv A outer s H E gd hr tk => by
    have nd : (["alphabet", "value", "place", "row"] : List Str).Nodup := by decide +kernel
    have lt := lets_of tk
    exact (pms_cons (pms_if (PW.pt (pmw_or (pmt_not (pmt_val (pm_callB call_isi oIsi T.n_isinstance (by decide +kernel) (pma_cons (pm_var 1) (pma_cons (pm_ty T.n_tuple (by decide +kernel)) pma_nil))))) (pmw_or1 (pmt_not (pmt_chain opLe opLe o2Le o2Le pm_int (pm_callB call_len oLen T.n_len (by decide +kernel) (pma_cons (pm_var 1) pma_nil)) (pm_glob g_MAX_ROWS r_MAX_ROWS (fun _ _ => .int _))))))) (pms_one (pms_ret pm_bl)) pms_nil)
      (pms_one (pms_ret (pm_callB (cr_all rfl) oAll T.n_all (by decide +kernel) (pma_cons (pm_lc (own := [("place", 2), ("row", 3)]) (t := (.tp [2, 3])) nd (pmi_enum T.n_enumerate (pma_cons (pm_var 1) pma_nil)) (blkOk_by (by kernel_rfl)) (fun s H C cl fp => (pg_tup rfl (pgs_cons (pg_name (i := 2) nd rfl (.inl rfl) (.inr rfl)) (pgs_cons (pg_name (i := 3) nd rfl (.inl rfl) (.inr rfl)) pgs_nil)))) (fun s H C cl fp => pmts_nil) (fun s H C cl fp => (pm_fn_call (F_is_recipe_row.mono (by decide)) hr gd lets0 (pma_cons (pm_var 0) (pma_cons (pm_var 2) (pma_cons (pm_var 3) pma_nil)))))) pma_nil)))))
/-! signs_in -/
def b_signs_in : MS := (sSeq (sSet 1 (mLstN aNil))
  (sSeq (sFor (iAll (mIf (mB (mCall gIsi (aCons (mVar 0) (aCons (mC (.ty "tuple")) aNil)))) (mVar 0) (mTup aNil))) (gN 2) (sIf (mAndT (mB (mCall gIsi (aCons (mVar 2) (aCons (mC (.ty "tuple")) aNil)))) (mAndT (mB (m2 gEq (mCall gLen (aCons (mVar 2) aNil)) (mC (.int 2)))) (mAndT (mB (m2 gEq (m2 gIx (mVar 2) (mC (.int 0))) (mC (.str "letter")))) (mB (mFn 1 f_is_sign (aCons (m2 gIx (mVar 2) (mC (.int 1))) aNil)))))) (sExpr (mMethT isLst gAppend (mVar 1) (aCons (m2 gIx (mVar 2) (mC (.int 1))) aNil))) sNext))
  (sRet (mMethT isStr gJoin (mC (.str "")) (aCons (mCall gSortSet (aCons (mVar 1) aNil)) aNil)))))
def f_signs_in : FM := defM 3 b_signs_in
theorem ok_signs_in (T : Txt K mg) (F_is_sign : FnM P w K mg base 1 "is_sign" 1 f_is_sign) (F : Fun K "signs_in" "signs_in" s_signs_in f fd) (hx : mg "signs_in" = some (.ref f)) (hb : Binds K fd ["value"] []) : FnM P w K mg base 2 "signs_in" 1 f_signs_in := by
  exact fn_mirror (N := ["value", "found", "row"]) (ps := ["value"]) F ⟨rfl, rfl, rfl, by decide +kernel, rfl, by decide +kernel, by decide +kernel⟩ hx hb fun cdv A outer s H E gd hr tk => by
    have nd : (["value", "found", "row"] : List Str).Nodup := by decide +kernel
    have lt := lets_of tk
    exact (pms_cons (pms_set 1 nd (pm_lstN pma_nil))
      (pms_cons (pms_for (passes_of rfl) (pmi_all (pm_if (pmt_val (pm_callB call_isi oIsi T.n_isinstance (by decide +kernel) (pma_cons (pm_var 0) (pma_cons (pm_ty T.n_tuple (by decide +kernel)) pma_nil)))) (pm_var 0) (pm_tup pma_nil))) (pmg_name 2 nd) (pms_one (pms_if (PW.pt (pmw_and (pmt_val (pm_callB call_isi oIsi T.n_isinstance (by decide +kernel) (pma_cons (pm_var 2) (pma_cons (pm_ty T.n_tuple (by decide +kernel)) pma_nil)))) (pmw_and (pmt_cmp (op_eqD hr.units) o2Eq (pm_callB call_len oLen T.n_len (by decide +kernel) (pma_cons (pm_var 2) pma_nil)) pm_int) (pmw_and (pmt_cmp (op_eqD hr.units) o2Eq (pm_ix ix_seq o2Ix (pm_var 2) pm_int) pm_str) (pmw_and1 (pmt_val (pm_fn_call (F_is_sign.mono (by decide)) hr gd lt (pma_cons (pm_ix ix_seq o2Ix (pm_var 2) pm_int) pma_nil)))))))) (pms_one (pms_expr (pm_bm PySem.F.plainAttrs_list PySem.F.slot_list_append PySem.F.type_list_append mt_append oIsLst oAppend (pm_var 1) (pma_cons (pm_ix ix_seq o2Ix (pm_var 2) pm_int) pma_nil)))) pms_nil)))
      (pms_one (pms_ret (pm_bm PySem.F.plainAttrs_str PySem.F.slot_str_join PySem.F.type_str_join mt_join oIsStr oJoin pm_str (pma_cons (pm_sortset rfl T.n_sorted T.n_set (pma_cons (pm_var 1) pma_nil)) pma_nil))))))
/-! rows_text -/
def b_rows_text : MS := (sRet (mMethT isStr gJoin (mC (.str "\n")) (aCons (mLc (iAll (mVar 0)) [1] (.nm 1) tYesM (mMethT isStr gJoin (mC (.str " ")) (aCons (mLc (iAll (mVar 1)) [2] (.nm 2) tYesM (mCall gStr (aCons (mVar 2) aNil))) aNil))) aNil)))
def f_rows_text : FM := defM 3 b_rows_text
theorem ok_rows_text (T : Txt K mg)  (F : Fun K "rows_text" "rows_text" s_rows_text f fd) (hx : mg "rows_text" = some (.ref f)) (hb : Binds K fd ["recipe"] []) : FnM P w K mg base 1 "rows_text" 1 f_rows_text := by
  exact fn_mirror (N := ["recipe", "row", "part"]) (ps := ["recipe"]) F ⟨rfl, rfl, rfl, by decide +kernel, rfl, by decide +kernel, by decide +kernel⟩ hx hb fun cdv A outer s H E gd hr tk => by
    have nd : (["recipe", "row", "part"] : List Str).Nodup := by decide +kernel
    have lt := lets_of tk
    exact (pms_one (pms_ret (pm_bm PySem.F.plainAttrs_str PySem.F.slot_str_join PySem.F.type_str_join mt_join oIsStr oJoin pm_str (pma_cons (pm_lc (own := [("row", 1)]) (t := (.nm 1)) nd (pmi_all (pm_var 0)) (blkOk_by (by kernel_rfl)) (fun s H C cl fp => (pg_name (i := 1) nd rfl (.inl rfl) (.inr rfl))) (fun s H C cl fp => pmts_nil) (fun s H C cl fp => (pm_bm PySem.F.plainAttrs_str PySem.F.slot_str_join PySem.F.type_str_join mt_join oIsStr oJoin pm_str (pma_cons (pm_lc (own := [("part", 2)]) (t := (.nm 2)) nd (pmi_all (pm_var 1)) (blkOk_by (by kernel_rfl)) (fun s H C cl fp => (pg_name (i := 2) nd rfl (.inl rfl) (.inr rfl))) (fun s H C cl fp => pmts_nil) (fun s H C cl fp => (pm_callTy opStr oStr T.n_str (by decide +kernel) (pma_cons (pm_var 2) pma_nil)))) pma_nil)))) pma_nil))))
/-! recipe_text -/
def b_recipe_text : MS := (sSeq (sSet 1 (mFn 1 f_signs_in (aCons (mVar 0) aNil)))
  (sSeq (sIf (mOrT (mNotT (mB (mFn 1 f_is_alphabet (aCons (mVar 1) aNil)))) (mNotT (mB (mFn 2 f_is_recipe_in (aCons (mVar 1) (aCons (mVar 0) aNil)))))) (sRaise "InvalidRecipe") sNext)
  (sRet (mFn 1 f_rows_text (aCons (mVar 0) aNil)))))
def f_recipe_text : FM := defM 2 b_recipe_text
theorem ok_recipe_text (T : Txt K mg) (F_is_alphabet : FnM P w K mg base 2 "is_alphabet" 1 f_is_alphabet) (F_is_recipe_in : FnM P w K mg base 4 "is_recipe_in" 2 f_is_recipe_in) (F_signs_in : FnM P w K mg base 2 "signs_in" 1 f_signs_in) (F_rows_text : FnM P w K mg base 1 "rows_text" 1 f_rows_text) (F : Fun K "recipe_text" "recipe_text" s_recipe_text f fd) (hx : mg "recipe_text" = some (.ref f)) (hb : Binds K fd ["recipe"] []) : FnM P w K mg base 5 "recipe_text" 1 f_recipe_text := by
  obtain ⟨C_InvalidRecipe, e_InvalidRecipe⟩ := T.x_InvalidRecipe
  exact fn_mirror (N := ["recipe", "alphabet"]) (ps := ["recipe"]) F ⟨rfl, rfl, rfl, by decide +kernel, rfl, by decide +kernel, by decide +kernel⟩ hx hb fun cdv A outer s H E gd hr tk => by
    have nd : (["recipe", "alphabet"] : List Str).Nodup := by decide +kernel
    have lt := lets_of tk
    exact (pms_cons (pms_set 1 nd (pm_fn_call (F_signs_in.mono (by decide)) hr gd lt (pma_cons (pm_var 0) pma_nil)))
      (pms_cons (pms_if (PW.pt (pmw_or (pmt_not (pmt_val (pm_fn_call (F_is_alphabet.mono (by decide)) hr gd lt (pma_cons (pm_var 1) pma_nil)))) (pmw_or1 (pmt_not (pmt_val (pm_fn_call (F_is_recipe_in.mono (by decide)) hr gd lt (pma_cons (pm_var 1) (pma_cons (pm_var 0) pma_nil)))))))) (pms_one (pms_raiseT tk PySem.F.excBase_ValueError e_InvalidRecipe)) pms_nil)
      (pms_one (pms_ret (pm_fn_call (F_rows_text.mono (by decide)) hr gd lt (pma_cons (pm_var 0) pma_nil))))))
/-! lines_of -/
def b_lines_of : MS := (sSeq (sIf (mNotT (mB (mCall gIsi (aCons (mVar 0) (aCons (mC (.ty "str")) aNil))))) (sRaise "ParseError") sNext)
  (sRet (mLc (iAll (mMethT isStr gSplit (mVar 0) (aCons (mC (.str "\n")) aNil))) [1] (.nm 1) tYesM (mMethT isStr gSplit (mVar 1) (aCons (mC (.str " ")) aNil)))))
def f_lines_of : FM := defM 2 b_lines_of
theorem ok_lines_of (T : Txt K mg)  (F : Fun K "lines_of" "lines_of" s_lines_of f fd) (hx : mg "lines_of" = some (.ref f)) (hb : Binds K fd ["text"] []) : FnM P w K mg base 1 "lines_of" 1 f_lines_of := by
  obtain ⟨C_ParseError, e_ParseError⟩ := T.x_ParseError
  exact fn_mirror (N := ["text", "line"]) (ps := ["text"]) F ⟨rfl, rfl, rfl, by decide +kernel, rfl, by decide +kernel, by decide +kernel⟩ hx hb fun cdv A outer s H E gd hr tk => by
    have nd : (["text", "line"] : List Str).Nodup := by decide +kernel
    have lt := lets_of tk
    exact (pms_cons (pms_if (pmt_not (pmt_val (pm_callB call_isi oIsi T.n_isinstance (by decide +kernel) (pma_cons (pm_var 0) (pma_cons (pm_ty T.n_str (by decide +kernel)) pma_nil))))) (pms_one (pms_raiseT tk PySem.F.excBase_ValueError e_ParseError)) pms_nil)
      (pms_one (pms_ret (pm_lc (own := [("line", 1)]) (t := (.nm 1)) nd (pmi_all (pm_bm PySem.F.plainAttrs_str PySem.F.slot_str_split PySem.F.type_str_split mt_split oIsStr oSplit (pm_var 0) (pma_cons pm_str pma_nil))) (blkOk_by (by kernel_rfl)) (fun s H C cl fp => (pg_name (i := 1) nd rfl (.inl rfl) (.inr rfl))) (fun s H C cl fp => pmts_nil) (fun s H C cl fp => (pm_bm PySem.F.plainAttrs_str PySem.F.slot_str_split PySem.F.type_str_split mt_split oIsStr oSplit (pm_var 1) (pma_cons pm_str pma_nil)))))))
/-! number_of -/
def b_number_of : MS := (sSeq (sIf (mOrT (mNotT (mB (mChain gLe gLe (mC (.int 1)) (mCall gLen (aCons (mVar 0) aNil)) (mC (.int 6))))) (mNotT (mB (mCall gAll (aCons (mLc (iAll (mVar 0)) [1] (.nm 1) tYesM (m2 gIn (mVar 1) (mC (.str "0123456789")))) aNil))))) (sRaise "ParseError") sNext)
  (sSeq (sIf (mAndT (mB (m2 gNe (mVar 0) (mC (.str "0")))) (mB (m2 gEq (m2 gIx (mVar 0) (mC (.int 0))) (mC (.str "0"))))) (sRaise "ParseError") sNext)
  (sRet (mCall gInt (aCons (mVar 0) aNil)))))
def f_number_of : FM := defM 2 b_number_of
theorem ok_number_of (T : Txt K mg)  (F : Fun K "number_of" "number_of" s_number_of f fd) (hx : mg "number_of" = some (.ref f)) (hb : Binds K fd ["text"] []) : FnM P w K mg base 1 "number_of" 1 f_number_of := by
  obtain ⟨u_DIGITS, g_DIGITS, r_DIGITS⟩ := T.c_DIGITS
  obtain ⟨u_MAX_DIGITS, g_MAX_DIGITS, r_MAX_DIGITS⟩ := T.c_MAX_DIGITS
  obtain ⟨C_ParseError, e_ParseError⟩ := T.x_ParseError
  exact fn_mirror (N := ["text", "sign"]) (ps := ["text"]) F ⟨rfl, rfl, rfl, by decide +kernel, rfl, by decide +kernel, by decide +kernel⟩ hx hb fun cdv A outer s H E gd hr tk => by
    have nd : (["text", "sign"] : List Str).Nodup := by decide +kernel
    have lt := lets_of tk
    exact (pms_cons (pms_if (PW.pt (pmw_or (pmt_not (pmt_chain opLe opLe o2Le o2Le pm_int (pm_callB call_len oLen T.n_len (by decide +kernel) (pma_cons (pm_var 0) pma_nil)) (pm_glob g_MAX_DIGITS r_MAX_DIGITS (fun _ _ => .int _)))) (pmw_or1 (pmt_not (pmt_val (pm_callB (cr_all rfl) oAll T.n_all (by decide +kernel) (pma_cons (pm_lc (own := [("sign", 1)]) (t := (.nm 1)) nd (pmi_all (pm_var 0)) (blkOk_by (by kernel_rfl)) (fun s H C cl fp => (pg_name (i := 1) nd rfl (.inl rfl) (.inr rfl))) (fun s H C cl fp => pmts_nil) (fun s H C cl fp => (pm_cmp opIn o2In (pm_var 1) (pm_glob g_DIGITS r_DIGITS (fun _ _ => .str _))))) pma_nil))))))) (pms_one (pms_raiseT tk PySem.F.excBase_ValueError e_ParseError)) pms_nil)
      (pms_cons (pms_if (PW.pt (pmw_and (pmt_cmp (op_neD hr.units) o2Ne (pm_var 0) pm_str) (pmw_and1 (pmt_cmp (op_eqD hr.units) o2Eq (pm_ix ix_seq o2Ix (pm_var 0) pm_int) pm_str)))) (pms_one (pms_raiseT tk PySem.F.excBase_ValueError e_ParseError)) pms_nil)
      (pms_one (pms_ret (pm_callTy opInt oInt T.n_int (by decide +kernel) (pma_cons (pm_var 0) pma_nil))))))
/-! parsed_row -/
def b_parsed_row : MS := (sSeq (sAsg (gStar (gN 1) (gN 2)) (mVar 0))
  (sSeq (sIf (mB (m2 gEq (mVar 1) (mC (.str "letter")))) (sRet (mTup (aCons (mVar 1) (aStar (mVar 2) aNil)))) sNext)
  (sSeq (sSet 3 (mLcX (iAll (mVar 2)) [4] (.nm 4) tYesM (mFn 1 f_number_of (aCons (mVar 4) aNil))))
  (sRet (mTup (aCons (mVar 1) (aStar (mVar 3) aNil)))))))
def f_parsed_row : FM := defM 5 b_parsed_row
theorem ok_parsed_row (T : Txt K mg) (F_number_of : FnM P w K mg base 1 "number_of" 1 f_number_of) (F : Fun K "parsed_row" "parsed_row" s_parsed_row f fd) (hx : mg "parsed_row" = some (.ref f)) (hb : Binds K fd ["words"] []) : FnM P w K mg base 2 "parsed_row" 1 f_parsed_row := by
  exact fn_mirror (N := ["words", "word", "parts", "numbers", "part"]) (ps := ["words"]) F ⟨rfl, rfl, rfl, by decide +kernel, rfl, by decide +kernel, by decide +kernel⟩ hx hb fun cdv A outer s H E gd hr tk => by
    have nd : (["words", "word", "parts", "numbers", "part"] : List Str).Nodup := by decide +kernel
    have lt := lets_of tk
    exact (pms_cons (pms_asg (pm_var 0) (pmg_star (pmg_name 1 nd) (pmg_name 2 nd)))
      (pms_cons (pms_if (pmt_cmp (op_eqD hr.units) o2Eq (pm_var 1) pm_str) (pms_one (pms_ret (pm_tup (pma_cons (pm_var 1) (pma_star (pm_var 2) pma_nil))))) pms_nil)
      (pms_cons (pms_setLcX (i := 3) (own := [("part", 4)]) (t := (.nm 4)) tk rfl rfl nd (pmi_all (pm_var 2)) (blkOk_by (by kernel_rfl)) (fun s H C cl fp => (pg_name (i := 4) nd rfl (.inl rfl) (.inr rfl))) (fun s H C cl fp W => pmts_nil') (fun s H C cl fp W l => (pm_fn_call (F_number_of.mono (by decide)) hr gd l (pma_cons (pm_var 4) pma_nil))))
      (pms_one (pms_ret (pm_tup (pma_cons (pm_var 1) (pma_star (pm_var 3) pma_nil))))))))
/-! parse_recipe -/
def b_parse_recipe : MS := (sSeq (sIf (mNotT (mB (mFn 1 f_is_alphabet (aCons (mVar 0) aNil)))) (sRaise "InvalidMachine") sNext)
  (sSeq (sSet 2 (mCall gTuple (aCons (mLcX (iAll (mFn 1 f_lines_of (aCons (mVar 1) aNil))) [3] (.nm 3) tYesM (mFn 1 f_parsed_row (aCons (mVar 3) aNil))) aNil)))
  (sSeq (sIf (mNotT (mB (mFn 2 f_is_recipe_in (aCons (mVar 0) (aCons (mVar 2) aNil))))) (sRaise "ParseError") sNext)
  (sRet (mVar 2)))))
def f_parse_recipe : FM := defM 4 b_parse_recipe
theorem ok_parse_recipe (T : Txt K mg) (F_is_alphabet : FnM P w K mg base 2 "is_alphabet" 1 f_is_alphabet) (F_is_recipe_in : FnM P w K mg base 4 "is_recipe_in" 2 f_is_recipe_in) (F_lines_of : FnM P w K mg base 1 "lines_of" 1 f_lines_of) (F_parsed_row : FnM P w K mg base 2 "parsed_row" 1 f_parsed_row) (F : Fun K "parse_recipe" "parse_recipe" s_parse_recipe f fd) (hx : mg "parse_recipe" = some (.ref f)) (hb : Binds K fd ["alphabet", "text"] []) : FnM P w K mg base 5 "parse_recipe" 2 f_parse_recipe := by
  obtain ⟨C_InvalidMachine, e_InvalidMachine⟩ := T.x_InvalidMachine
  obtain ⟨C_ParseError, e_ParseError⟩ := T.x_ParseError
  exact fn_mirror (N := ["alphabet", "text", "recipe", "words"]) (ps := ["alphabet", "text"]) F ⟨rfl, rfl, rfl, by decide +kernel, rfl, by decide +kernel, by decide +kernel⟩ hx hb fun cdv A outer s H E gd hr tk => by
    have nd : (["alphabet", "text", "recipe", "words"] : List Str).Nodup := by decide +kernel
    have lt := lets_of tk
    exact (pms_cons (pms_if (pmt_not (pmt_val (pm_fn_call (F_is_alphabet.mono (by decide)) hr gd lt (pma_cons (pm_var 0) pma_nil)))) (pms_one (pms_raiseT tk PySem.F.excBase_ValueError e_InvalidMachine)) pms_nil)
      (pms_cons (pms_set 2 nd (pm_callTy call_tuple_of oTuple T.n_tuple (by decide +kernel) (pma_cons (pm_lcX (own := [("words", 3)]) (t := (.nm 3)) tk rfl rfl nd (pmi_all (pm_fn_call (F_lines_of.mono (by decide)) hr gd lt (pma_cons (pm_var 1) pma_nil))) (blkOk_by (by kernel_rfl)) (fun s H C cl fp => (pg_name (i := 3) nd rfl (.inl rfl) (.inr rfl))) (fun s H C cl fp W => pmts_nil') (fun s H C cl fp W l => (pm_fn_call (F_parsed_row.mono (by decide)) hr gd l (pma_cons (pm_var 3) pma_nil)))) pma_nil)))
      (pms_cons (pms_if (pmt_not (pmt_val (pm_fn_call (F_is_recipe_in.mono (by decide)) hr gd lt (pma_cons (pm_var 0) (pma_cons (pm_var 2) pma_nil))))) (pms_one (pms_raiseT tk PySem.F.excBase_ValueError e_ParseError)) pms_nil)
      (pms_one (pms_ret (pm_var 2))))))
/-! _law_stream -/
def b__law_stream : MS := (sSeq (sSet 2 (m2 gAdd (m2 gMulS (mC (.int 7)) (mVar 1)) (mC (.int 3))))
  (sSeq (sIf (mB (m2 gLt (mVar 1) (mCall gLen (aCons (mVar 0) aNil)))) (sSet 2 (m2 gIx (mVar 0) (mVar 1))) sNext)
  (sSeq (sSet 3 (m2 gMod (mCall gAbs (aCons (mVar 2) aNil)) (m2 gPow (m2 gPow (mC (.int 10)) (mC (.int 60))) (mC (.int 12)))))
  (sSeq (sSet 4 (m2 gMod (m2 gAdd (m2 gAdd (m2 gAdd (m2 gMulS (m2 gMod (mVar 3) (mC (.int 2147483629))) (mC (.int 48271))) (m2 gMulS (mC (.int 977)) (mVar 1))) (m2 gMulS (mC (.int 2)) (mCall gInt (aCons (m2 gLt (mVar 2) (mC (.int 0))) aNil)))) (mC (.int 11))) (mC (.int 2147483647))))
  (sRet (mLstN (aCons (mCall gMax (aCons (mC (.int 0)) (aCons (m2 gSub (mVar 3) (m2 gPow (mC (.int 10)) (mC (.int 18)))) aNil))) (aCons (mVar 4) (aCons (mC (.int 0)) aNil)))))))))
def f__law_stream : FM := defM 5 b__law_stream
theorem ok__law_stream (T : Txt K mg)  (F : Fun K "_law_stream" "_law_stream" s__law_stream f fd) (hx : mg "_law_stream" = some (.ref f)) (hb : Binds K fd ["script", "at"] []) : FnM P w K mg base 1 "_law_stream" 2 f__law_stream := by
  exact fn_mirror (N := ["script", "at", "cell", "great", "mixed"]) (ps := ["script", "at"]) F ⟨rfl, rfl, rfl, by decide +kernel, rfl, by decide +kernel, by decide +kernel⟩ hx hb fun cdv A outer s H E gd hr tk => by
    have nd : (["script", "at", "cell", "great", "mixed"] : List Str).Nodup := by decide +kernel
    have lt := lets_of tk
    exact (pms_cons (pms_set 2 nd (pm_bin opAdd o2Add (pm_bin opMulA o2MulA pm_int (pm_var 1)) pm_int))
      (pms_cons (pms_if (pmt_cmp opLt o2Lt (pm_var 1) (pm_callB call_len oLen T.n_len (by decide +kernel) (pma_cons (pm_var 0) pma_nil))) (pms_one (pms_set 2 nd (pm_ix ix_seq o2Ix (pm_var 0) (pm_var 1)))) pms_nil)
      (pms_cons (pms_set 3 nd (pm_bin op_mod o2Mod (pm_callB call_abs oAbs T.n_abs (by decide +kernel) (pma_cons (pm_var 2) pma_nil)) (pm_bin opPow o2Pow (pm_bin opPow o2Pow pm_int pm_int) pm_int)))
      (pms_cons (pms_set 4 nd (pm_bin op_mod o2Mod (pm_bin opAdd o2Add (pm_bin opAdd o2Add (pm_bin opAdd o2Add (pm_bin opMulA o2MulA (pm_bin op_mod o2Mod (pm_var 3) pm_int) pm_int) (pm_bin opMulA o2MulA pm_int (pm_var 1))) (pm_bin opMulA o2MulA pm_int (pm_callTy opInt oInt T.n_int (by decide +kernel) (pma_cons (pm_cmp opLt o2Lt (pm_var 2) pm_int) pma_nil)))) pm_int) pm_int))
      (pms_one (pms_ret (pm_lstN (pma_cons (pm_callB (call_max2 rfl) oMax T.n_max (by decide +kernel) (pma_cons pm_int (pma_cons (pm_bin op_sub o2Sub (pm_var 3) (pm_bin opPow o2Pow pm_int pm_int)) pma_nil))) (pma_cons (pm_var 4) (pma_cons pm_int pma_nil))))))))))
/-! _law_draw -/
def b__law_draw : MS := (sSeq (sIf (mB (m2 gGt (m2 gIx (mVar 0) (mC (.int 0))) (mC (.int 0)))) (sSeq (sSet 2 (m2 gMod (m2 gIx (mVar 0) (mC (.int 0))) (mVar 1)))
  (sSeq (sSetIx (mVar 0) (mC (.int 0)) (m2 gDiv (m2 gIx (mVar 0) (mC (.int 0))) (mVar 1)))
  (sRet (mVar 2)))) sNext)
  (sSeq (sSetIx (mVar 0) (mC (.int 2)) (m2 gAdd (m2 gIx (mVar 0) (mC (.int 2))) (mC (.int 1))))
  (sSeq (sSet 3 (m2 gMod (m2 gAdd (m2 gIx (mVar 0) (mC (.int 1))) (m2 gMulS (mC (.int 1000003)) (m2 gIx (mVar 0) (mC (.int 2))))) (mC (.int 2305843009213693951))))
  (sSeq (sSet 4 (m2 gMod (m2 gAdd (m2 gMulS (m2 gMod (m2 gMulS (mVar 3) (mVar 3)) (mC (.int 2305843009213693921))) (mVar 3)) (m2 gMulS (mC (.int 8191)) (m2 gIx (mVar 0) (mC (.int 2))))) (mC (.int 2305843009213693907))))
  (sRet (m2 gMod (m2 gDiv (mVar 4) (mC (.int 4096))) (mVar 1)))))))
def f__law_draw : FM := defM 5 b__law_draw
theorem ok__law_draw (T : Txt K mg)  (F : Fun K "_law_draw" "_law_draw" s__law_draw f fd) (hx : mg "_law_draw" = some (.ref f)) (hb : Binds K fd ["stream", "total"] []) : FnM P w K mg base 1 "_law_draw" 2 f__law_draw := by
  exact fn_mirror (N := ["stream", "total", "found", "one", "two"]) (ps := ["stream", "total"]) F ⟨rfl, rfl, rfl, by decide +kernel, rfl, by decide +kernel, by decide +kernel⟩ hx hb fun cdv A outer s H E gd hr tk => by
    have nd : (["stream", "total", "found", "one", "two"] : List Str).Nodup := by decide +kernel
    have lt := lets_of tk
    exact (pms_cons (pms_if (pmt_cmp opGt o2Gt (pm_ix ix_seq o2Ix (pm_var 0) pm_int) pm_int) (pms_cons (pms_set 2 nd (pm_bin op_mod o2Mod (pm_ix ix_seq o2Ix (pm_var 0) pm_int) (pm_var 1)))
      (pms_cons (pms_setix (pm_bin op_fdivW o2Div (pm_ix ix_seq o2Ix (pm_var 0) pm_int) (pm_var 1)) (pm_var 0) pm_int)
      (pms_one (pms_ret (pm_var 2))))) pms_nil)
      (pms_cons (pms_setix (pm_bin opAdd o2Add (pm_ix ix_seq o2Ix (pm_var 0) pm_int) pm_int) (pm_var 0) pm_int)
      (pms_cons (pms_set 3 nd (pm_bin op_mod o2Mod (pm_bin opAdd o2Add (pm_ix ix_seq o2Ix (pm_var 0) pm_int) (pm_bin opMulA o2MulA pm_int (pm_ix ix_seq o2Ix (pm_var 0) pm_int))) pm_int))
      (pms_cons (pms_set 4 nd (pm_bin op_mod o2Mod (pm_bin opAdd o2Add (pm_bin opMulA o2MulA (pm_bin op_mod o2Mod (pm_bin opMulA o2MulA (pm_var 3) (pm_var 3)) pm_int) (pm_var 3)) (pm_bin opMulA o2MulA pm_int (pm_ix ix_seq o2Ix (pm_var 0) pm_int))) pm_int))
      (pms_one (pms_ret (pm_bin op_mod o2Mod (pm_bin op_fdivW o2Div (pm_var 4) pm_int) (pm_var 1))))))))
/-! _law_recipe -/
def b__law_recipe : MS := (sSeq (sSet 3 (mLstN aNil))
  (sSeq (sFor (MR.iRng (aCons (mVar 2) aNil)) (gN 4) (sSeq (sSet 5 (mIf (mB (m2 gGt (mVar 4) (mC (.int 0)))) (mFn 2 f__law_draw (aCons (mVar 0) (aCons (mC (.int 3)) aNil))) (mC (.int 0))))
  (sIf (mB (m2 gEq (mVar 5) (mC (.int 0)))) (sExpr (mMethT isLst gAppend (mVar 3) (aCons (mTup (aCons (mC (.str "letter")) (aCons (m2 gIx (mVar 1) (mFn 2 f__law_draw (aCons (mVar 0) (aCons (mCall gLen (aCons (mVar 1) aNil)) aNil)))) aNil))) aNil))) (sIf (mB (m2 gEq (mVar 5) (mC (.int 1)))) (sExpr (mMethT isLst gAppend (mVar 3) (aCons (mTup (aCons (mC (.str "then")) (aCons (mFn 2 f__law_draw (aCons (mVar 0) (aCons (mVar 4) aNil))) (aCons (mFn 2 f__law_draw (aCons (mVar 0) (aCons (mVar 4) aNil))) aNil)))) aNil))) (sExpr (mMethT isLst gAppend (mVar 3) (aCons (mTup (aCons (mC (.str "pump")) (aCons (mFn 2 f__law_draw (aCons (mVar 0) (aCons (mVar 4) aNil))) aNil))) aNil)))))))
  (sRet (mCall gTuple (aCons (mVar 3) aNil)))))
def f__law_recipe : FM := defM 6 b__law_recipe
theorem ok__law_recipe (T : Txt K mg) (F__law_draw : FnM P w K mg base 1 "_law_draw" 2 f__law_draw) (F : Fun K "_law_recipe" "_law_recipe" s__law_recipe f fd) (hx : mg "_law_recipe" = some (.ref f)) (hb : Binds K fd ["stream", "signs", "total"] []) : FnM P w K mg base 2 "_law_recipe" 3 f__law_recipe := by
  exact fn_mirror (N := ["stream", "signs", "total", "rows", "at", "way"]) (ps := ["stream", "signs", "total"]) F ⟨rfl, rfl, rfl, by decide +kernel, rfl, by decide +kernel, by decide +kernel⟩ hx hb fun cdv A outer s H E gd hr tk => by
    have nd : (["stream", "signs", "total", "rows", "at", "way"] : List Str).Nodup := by decide +kernel
    have lt := lets_of tk
    exact (pms_cons (pms_set 3 nd (pm_lstN pma_nil))
      (pms_cons (pms_for (passes_of rfl) (pmi_rng T.n_range (pma_cons (pm_var 2) pma_nil)) (pmg_name 4 nd) (pms_cons (pms_set 5 nd (pm_if (pmt_cmp opGt o2Gt (pm_var 4) pm_int) (pm_fn_call (F__law_draw.mono (by decide)) hr gd lt (pma_cons (pm_var 0) (pma_cons pm_int pma_nil))) pm_int))
      (pms_one (pms_if (pmt_cmp (op_eqD hr.units) o2Eq (pm_var 5) pm_int) (pms_one (pms_expr (pm_bm PySem.F.plainAttrs_list PySem.F.slot_list_append PySem.F.type_list_append mt_append oIsLst oAppend (pm_var 3) (pma_cons (pm_tup (pma_cons pm_str (pma_cons (pm_ix ix_seq o2Ix (pm_var 1) (pm_fn_call (F__law_draw.mono (by decide)) hr gd lt (pma_cons (pm_var 0) (pma_cons (pm_callB call_len oLen T.n_len (by decide +kernel) (pma_cons (pm_var 1) pma_nil)) pma_nil)))) pma_nil))) pma_nil)))) (pms_one (pms_if (pmt_cmp (op_eqD hr.units) o2Eq (pm_var 5) pm_int) (pms_one (pms_expr (pm_bm PySem.F.plainAttrs_list PySem.F.slot_list_append PySem.F.type_list_append mt_append oIsLst oAppend (pm_var 3) (pma_cons (pm_tup (pma_cons pm_str (pma_cons (pm_fn_call (F__law_draw.mono (by decide)) hr gd lt (pma_cons (pm_var 0) (pma_cons (pm_var 4) pma_nil))) (pma_cons (pm_fn_call (F__law_draw.mono (by decide)) hr gd lt (pma_cons (pm_var 0) (pma_cons (pm_var 4) pma_nil))) pma_nil)))) pma_nil)))) (pms_one (pms_expr (pm_bm PySem.F.plainAttrs_list PySem.F.slot_list_append PySem.F.type_list_append mt_append oIsLst oAppend (pm_var 3) (pma_cons (pm_tup (pma_cons pm_str (pma_cons (pm_fn_call (F__law_draw.mono (by decide)) hr gd lt (pma_cons (pm_var 0) (pma_cons (pm_var 4) pma_nil))) pma_nil))) pma_nil))))))))))
      (pms_one (pms_ret (pm_callTy call_tuple_of oTuple T.n_tuple (by decide +kernel) (pma_cons (pm_var 3) pma_nil))))))
/-! _law_text_of -/
def b__law_text_of : MS := (sSeq (sSet 1 (mLstN aNil))
  (sSeq (sFor (iAll (mVar 0)) (gN 2) (sSeq (sSet 3 (m2 gIx (mVar 2) (mC (.int 0))))
  (sSeq (sFor (iAll (mSl gSlice (mVar 2) (oSome (mC (.int 1))) oNone)) (gN 4) (sSet 3 (m2 gAdd (m2 gAdd (mVar 3) (mC (.str " "))) (mCall gStr (aCons (mVar 4) aNil)))))
  (sExpr (mMethT isLst gAppend (mVar 1) (aCons (mVar 3) aNil))))))
  (sRet (mMethT isStr gJoin (mC (.str "\n")) (aCons (mVar 1) aNil)))))
def f__law_text_of : FM := defM 5 b__law_text_of
theorem ok__law_text_of (T : Txt K mg)  (F : Fun K "_law_text_of" "_law_text_of" s__law_text_of f fd) (hx : mg "_law_text_of" = some (.ref f)) (hb : Binds K fd ["recipe"] []) : FnM P w K mg base 1 "_law_text_of" 1 f__law_text_of := by
  exact fn_mirror (N := ["recipe", "lines", "row", "line", "part"]) (ps := ["recipe"]) F ⟨rfl, rfl, rfl, by decide +kernel, rfl, by decide +kernel, by decide +kernel⟩ hx hb fun cdv A outer s H E gd hr tk => by
    have nd : (["recipe", "lines", "row", "line", "part"] : List Str).Nodup := by decide +kernel
    have lt := lets_of tk
    exact (pms_cons (pms_set 1 nd (pm_lstN pma_nil))
      (pms_cons (pms_for (passes_of rfl) (pmi_all (pm_var 0)) (pmg_name 2 nd) (pms_cons (pms_set 3 nd (pm_ix ix_seq o2Ix (pm_var 2) pm_int))
      (pms_cons (pms_for (passes_of rfl) (pmi_all (pm_sl opSlice oSlice (pm_var 2) (pmo_some pm_int) pmo_none)) (pmg_name 4 nd) (pms_one (pms_set 3 nd (pm_bin opAdd o2Add (pm_bin opAdd o2Add (pm_var 3) pm_str) (pm_callTy opStr oStr T.n_str (by decide +kernel) (pma_cons (pm_var 4) pma_nil))))))
      (pms_one (pms_expr (pm_bm PySem.F.plainAttrs_list PySem.F.slot_list_append PySem.F.type_list_append mt_append oIsLst oAppend (pm_var 1) (pma_cons (pm_var 3) pma_nil)))))))
      (pms_one (pms_ret (pm_bm PySem.F.plainAttrs_str PySem.F.slot_str_join PySem.F.type_str_join mt_join oIsStr oJoin pm_str (pma_cons (pm_var 1) pma_nil))))))
/-! is_recipe -/
def b_is_recipe : MS := (sSeq (sIf (mNotT (mB (mFn 1 f_is_alphabet (aCons (mVar 0) aNil)))) (sRaise "InvalidMachine") sNext)
  (sRet (mFn 2 f_is_recipe_in (aCons (mVar 0) (aCons (mVar 1) aNil)))))
def f_is_recipe : FM := defM 2 b_is_recipe
theorem ok_is_recipe (T : Txt K mg) (F_is_alphabet : FnM P w K mg base 2 "is_alphabet" 1 f_is_alphabet) (F_is_recipe_in : FnM P w K mg base 4 "is_recipe_in" 2 f_is_recipe_in) (F : Fun K "is_recipe" "is_recipe" s_is_recipe f fd) (hx : mg "is_recipe" = some (.ref f)) (hb : Binds K fd ["alphabet", "value"] []) : FnM P w K mg base 5 "is_recipe" 2 f_is_recipe := by
  obtain ⟨C_InvalidMachine, e_InvalidMachine⟩ := T.x_InvalidMachine
  exact fn_mirror (N := ["alphabet", "value"]) (ps := ["alphabet", "value"]) F ⟨rfl, rfl, rfl, by decide +kernel, rfl, by decide +kernel, by decide +kernel⟩ hx hb fun cdv A outer s H E gd hr tk => by
    have nd : (["alphabet", "value"] : List Str).Nodup := by decide +kernel
    have lt := lets_of tk
    exact (pms_cons (pms_if (pmt_not (pmt_val (pm_fn_call (F_is_alphabet.mono (by decide)) hr gd lt (pma_cons (pm_var 0) pma_nil)))) (pms_one (pms_raiseT tk PySem.F.excBase_ValueError e_InvalidMachine)) pms_nil)
      (pms_one (pms_ret (pm_fn_call (F_is_recipe_in.mono (by decide)) hr gd lt (pma_cons (pm_var 0) (pma_cons (pm_var 1) pma_nil))))))
/-! _law_number -/
def b__law_number : MS := (sRet (mIf (mAndT (mB (m2 gLt (mCall gLen (aCons (mVar 0) aNil)) (mC (.int 4)))) (mB (m2 gIn (mVar 0) (mLc (MR.iRng (aCons (mC (.int 400)) aNil)) [1] (.nm 1) tYesM (mCall gStr (aCons (mVar 1) aNil)))))) (mCall gInt (aCons (mVar 0) aNil)) (m1 gNeg (mC (.int 1)))))
def f__law_number : FM := defM 2 b__law_number
theorem ok__law_number (T : Txt K mg)  (F : Fun K "_law_number" "_law_number" s__law_number f fd) (hx : mg "_law_number" = some (.ref f)) (hb : Binds K fd ["text"] []) : FnM P w K mg base 1 "_law_number" 1 f__law_number := by
  exact fn_mirror (N := ["text", "number"]) (ps := ["text"]) F ⟨rfl, rfl, rfl, by decide +kernel, rfl, by decide +kernel, by decide +kernel⟩ hx hb fun cdv A outer s H E gd hr tk => by
    have nd : (["text", "number"] : List Str).Nodup := by decide +kernel
    have lt := lets_of tk
    exact (pms_one (pms_ret (pm_if (PW.pt (pmw_and (pmt_cmp opLt o2Lt (pm_callB call_len oLen T.n_len (by decide +kernel) (pma_cons (pm_var 0) pma_nil)) pm_int) (pmw_and1 (pmt_cmp opIn o2In (pm_var 0) (pm_lc (own := [("number", 1)]) (t := (.nm 1)) nd (pmi_rng T.n_range (pma_cons pm_int pma_nil)) (blkOk_by (by kernel_rfl)) (fun s H C cl fp => (pg_name (i := 1) nd rfl (.inl rfl) (.inr rfl))) (fun s H C cl fp => pmts_nil) (fun s H C cl fp => (pm_callTy opStr oStr T.n_str (by decide +kernel) (pma_cons (pm_var 1) pma_nil)))))))) (pm_callTy opInt oInt T.n_int (by decide +kernel) (pma_cons (pm_var 0) pma_nil)) (pm_un un_neg o1Neg pm_int))))
/-! _law_parsed -/
def b__law_parsed : MS := (sSeq (sSet 2 (mLstN aNil))
  (sSeq (sFor (iAll (mMethT isStr gSplit (mVar 1) (aCons (mC (.str "\n")) aNil))) (gN 3) (sSeq (sSet 4 (mMethT isStr gSplit (mVar 3) (aCons (mC (.str " ")) aNil)))
  (sIf (mB (m2 gEq (m2 gIx (mVar 4) (mC (.int 0))) (mC (.str "letter")))) (sExpr (mMethT isLst gAppend (mVar 2) (aCons (mCall gTuple (aCons (mVar 4) aNil)) aNil))) (sExpr (mMethT isLst gAppend (mVar 2) (aCons (m2 gAdd (mTup (aCons (m2 gIx (mVar 4) (mC (.int 0))) aNil)) (mCall gTuple (aCons (mLc (iAll (mSl gSlice (mVar 4) (oSome (mC (.int 1))) oNone)) [5] (.nm 5) tYesM (mFn 1 f__law_number (aCons (mVar 5) aNil))) aNil))) aNil))))))
  (sRet (mIf (mB (mFn 2 f_is_recipe (aCons (mVar 0) (aCons (mCall gTuple (aCons (mVar 2) aNil)) aNil)))) (mCall gTuple (aCons (mVar 2) aNil)) (mC .non)))))
def f__law_parsed : FM := defM 6 b__law_parsed
theorem ok__law_parsed (T : Txt K mg) (F_is_recipe : FnM P w K mg base 5 "is_recipe" 2 f_is_recipe) (F__law_number : FnM P w K mg base 1 "_law_number" 1 f__law_number) (F : Fun K "_law_parsed" "_law_parsed" s__law_parsed f fd) (hx : mg "_law_parsed" = some (.ref f)) (hb : Binds K fd ["signs", "text"] []) : FnM P w K mg base 6 "_law_parsed" 2 f__law_parsed := by
  exact fn_mirror (N := ["signs", "text", "rows", "line", "words", "word"]) (ps := ["signs", "text"]) F ⟨rfl, rfl, rfl, by decide +kernel, rfl, by decide +kernel, by decide +kernel⟩ hx hb fun cdv A outer s H E gd hr tk => by
    have nd : (["signs", "text", "rows", "line", "words", "word"] : List Str).Nodup := by decide +kernel
    have lt := lets_of tk
    exact (pms_cons (pms_set 2 nd (pm_lstN pma_nil))
      (pms_cons (pms_for (passes_of rfl) (pmi_all (pm_bm PySem.F.plainAttrs_str PySem.F.slot_str_split PySem.F.type_str_split mt_split oIsStr oSplit (pm_var 1) (pma_cons pm_str pma_nil))) (pmg_name 3 nd) (pms_cons (pms_set 4 nd (pm_bm PySem.F.plainAttrs_str PySem.F.slot_str_split PySem.F.type_str_split mt_split oIsStr oSplit (pm_var 3) (pma_cons pm_str pma_nil)))
      (pms_one (pms_if (pmt_cmp (op_eqD hr.units) o2Eq (pm_ix ix_seq o2Ix (pm_var 4) pm_int) pm_str) (pms_one (pms_expr (pm_bm PySem.F.plainAttrs_list PySem.F.slot_list_append PySem.F.type_list_append mt_append oIsLst oAppend (pm_var 2) (pma_cons (pm_callTy call_tuple_of oTuple T.n_tuple (by decide +kernel) (pma_cons (pm_var 4) pma_nil)) pma_nil)))) (pms_one (pms_expr (pm_bm PySem.F.plainAttrs_list PySem.F.slot_list_append PySem.F.type_list_append mt_append oIsLst oAppend (pm_var 2) (pma_cons (pm_bin opAdd o2Add (pm_tup (pma_cons (pm_ix ix_seq o2Ix (pm_var 4) pm_int) pma_nil)) (pm_callTy call_tuple_of oTuple T.n_tuple (by decide +kernel) (pma_cons (pm_lc (own := [("word", 5)]) (t := (.nm 5)) nd (pmi_all (pm_sl opSlice oSlice (pm_var 4) (pmo_some pm_int) pmo_none)) (blkOk_by (by kernel_rfl)) (fun s H C cl fp => (pg_name (i := 5) nd rfl (.inl rfl) (.inr rfl))) (fun s H C cl fp => pmts_nil) (fun s H C cl fp => (pm_fn_call (F__law_number.mono (by decide)) hr gd lets0 (pma_cons (pm_var 5) pma_nil)))) pma_nil))) pma_nil))))))))
      (pms_one (pms_ret (pm_if (pmt_val (pm_fn_call (F_is_recipe.mono (by decide)) hr gd lt (pma_cons (pm_var 0) (pma_cons (pm_callTy call_tuple_of oTuple T.n_tuple (by decide +kernel) (pma_cons (pm_var 2) pma_nil)) pma_nil)))) (pm_callTy call_tuple_of oTuple T.n_tuple (by decide +kernel) (pma_cons (pm_var 2) pma_nil)) pm_non)))))
/-! _law_read_back -/
def b__law_read_back : MS := (sTryIs (sRet (mFn 2 f_parse_recipe (aCons (mVar 0) (aCons (mVar 1) aNil)))) 2 sub_LimitError is_ParseError .non (.str "other"))
def f__law_read_back : FM := defM 3 b__law_read_back
theorem ok__law_read_back (T : Txt K mg) (F_parse_recipe : FnM P w K mg base 5 "parse_recipe" 2 f_parse_recipe) (F : Fun K "_law_read_back" "_law_read_back" s__law_read_back f fd) (hx : mg "_law_read_back" = some (.ref f)) (hb : Binds K fd ["signs", "text"] []) : FnM P w K mg base 6 "_law_read_back" 2 f__law_read_back := by
  obtain ⟨C_LimitError, e_LimitError⟩ := T.x_LimitError
  obtain ⟨C_ParseError, e_ParseError⟩ := T.x_ParseError
  exact fn_mirror (N := ["signs", "text", "e"]) (ps := ["signs", "text"]) F ⟨rfl, rfl, rfl, by decide +kernel, rfl, by decide +kernel, by decide +kernel⟩ hx hb fun cdv A outer s H E gd hr tk => by
    have nd : (["signs", "text", "e"] : List Str).Nodup := by decide +kernel
    have lt := lets_of tk
    exact (pms_one (pms_tryIs (i := 2) rfl rfl nd rfl rfl ⟨rfl, by decide, .inl e_LimitError.gC⟩ tk (fun W2 pn xe tk2 => (pms_one (pms_ret (pm_fn_call (F_parse_recipe.mono (by decide)) hr gd (lets_of tk2) (pma_cons (pm_var 0) (pma_cons (pm_var 1) pma_nil)))))) (T.sub_LimitError e_LimitError.gC) (T.is_ParseError e_ParseError.gC) e_ParseError.gC T.n_isinstance (fun _ _ => .non) (fun _ _ => .str _) (fun _ => pe_non) (fun _ => pe_str)))
/-! _law_spoilt -/
def b__law_spoilt : MS := (sSeq (sPar 2 3 (aCons (mFn 2 f__law_draw (aCons (mVar 0) (aCons (mCall gLen (aCons (mVar 1) aNil)) aNil))) (aCons (mFn 2 f__law_draw (aCons (mVar 0) (aCons (mC (.int 5)) aNil))) aNil)))
  (sSeq (sSet 4 (m2 gIx (mC (.str "ab01239 ,-\nxp")) (mFn 2 f__law_draw (aCons (mVar 0) (aCons (mC (.int 13)) aNil)))))
  (sSeq (sIf (mB (m2 gEq (mVar 3) (mC (.int 0)))) (sRet (m2 gAdd (mSl gSlice (mVar 1) oNone (oSome (mVar 2))) (mSl gSlice (mVar 1) (oSome (m2 gAdd (mVar 2) (mC (.int 1)))) oNone))) sNext)
  (sSeq (sIf (mB (m2 gEq (mVar 3) (mC (.int 1)))) (sRet (m2 gAdd (m2 gAdd (mSl gSlice (mVar 1) oNone (oSome (mVar 2))) (mVar 4)) (mSl gSlice (mVar 1) (oSome (mVar 2)) oNone))) sNext)
  (sSeq (sIf (mB (m2 gLt (mVar 3) (mC (.int 4)))) (sRet (m2 gAdd (m2 gAdd (mSl gSlice (mVar 1) oNone (oSome (mVar 2))) (mVar 4)) (mSl gSlice (mVar 1) (oSome (m2 gAdd (mVar 2) (mC (.int 1)))) oNone))) sNext)
  (sSeq (sSet 5 (mMethT isStr gSplit (mVar 1) (aCons (mC (.str "\n")) aNil)))
  (sSeq (sSet 6 (mFn 2 f__law_draw (aCons (mVar 0) (aCons (mCall gLen (aCons (mVar 5) aNil)) aNil))))
  (sRet (mMethT isStr gJoin (mC (.str "\n")) (aCons (m2 gAdd (m2 gAdd (mSl gSlice (mVar 5) oNone (oSome (mVar 6))) (mSl gSlice (mVar 5) (oSome (mVar 6)) (oSome (m2 gAdd (mVar 6) (mC (.int 1)))))) (mSl gSlice (mVar 5) (oSome (mVar 6)) oNone)) aNil))))))))))
def f__law_spoilt : FM := defM 7 b__law_spoilt
theorem ok__law_spoilt (T : Txt K mg) (F__law_draw : FnM P w K mg base 1 "_law_draw" 2 f__law_draw) (F : Fun K "_law_spoilt" "_law_spoilt" s__law_spoilt f fd) (hx : mg "_law_spoilt" = some (.ref f)) (hb : Binds K fd ["stream", "text"] []) : FnM P w K mg base 2 "_law_spoilt" 2 f__law_spoilt := by
  exact fn_mirror (N := ["stream", "text", "at", "way", "sign", "lines", "place"]) (ps := ["stream", "text"]) F ⟨rfl, rfl, rfl, by decide +kernel, rfl, by decide +kernel, by decide +kernel⟩ hx hb fun cdv A outer s H E gd hr tk => by
    have nd : (["stream", "text", "at", "way", "sign", "lines", "place"] : List Str).Nodup := by decide +kernel
    have lt := lets_of tk
    exact (pms_cons (pms_par 2 3 nd (pma_cons (pm_fn_call (F__law_draw.mono (by decide)) hr gd lt (pma_cons (pm_var 0) (pma_cons (pm_callB call_len oLen T.n_len (by decide +kernel) (pma_cons (pm_var 1) pma_nil)) pma_nil))) (pma_cons (pm_fn_call (F__law_draw.mono (by decide)) hr gd lt (pma_cons (pm_var 0) (pma_cons pm_int pma_nil))) pma_nil)))
      (pms_cons (pms_set 4 nd (pm_ix ix_seq o2Ix pm_str (pm_fn_call (F__law_draw.mono (by decide)) hr gd lt (pma_cons (pm_var 0) (pma_cons pm_int pma_nil)))))
      (pms_cons (pms_if (pmt_cmp (op_eqD hr.units) o2Eq (pm_var 3) pm_int) (pms_one (pms_ret (pm_bin opAdd o2Add (pm_sl opSlice oSlice (pm_var 1) pmo_none (pmo_some (pm_var 2))) (pm_sl opSlice oSlice (pm_var 1) (pmo_some (pm_bin opAdd o2Add (pm_var 2) pm_int)) pmo_none)))) pms_nil)
      (pms_cons (pms_if (pmt_cmp (op_eqD hr.units) o2Eq (pm_var 3) pm_int) (pms_one (pms_ret (pm_bin opAdd o2Add (pm_bin opAdd o2Add (pm_sl opSlice oSlice (pm_var 1) pmo_none (pmo_some (pm_var 2))) (pm_var 4)) (pm_sl opSlice oSlice (pm_var 1) (pmo_some (pm_var 2)) pmo_none)))) pms_nil)
      (pms_cons (pms_if (pmt_cmp opLt o2Lt (pm_var 3) pm_int) (pms_one (pms_ret (pm_bin opAdd o2Add (pm_bin opAdd o2Add (pm_sl opSlice oSlice (pm_var 1) pmo_none (pmo_some (pm_var 2))) (pm_var 4)) (pm_sl opSlice oSlice (pm_var 1) (pmo_some (pm_bin opAdd o2Add (pm_var 2) pm_int)) pmo_none)))) pms_nil)
      (pms_cons (pms_set 5 nd (pm_bm PySem.F.plainAttrs_str PySem.F.slot_str_split PySem.F.type_str_split mt_split oIsStr oSplit (pm_var 1) (pma_cons pm_str pma_nil)))
      (pms_cons (pms_set 6 nd (pm_fn_call (F__law_draw.mono (by decide)) hr gd lt (pma_cons (pm_var 0) (pma_cons (pm_callB call_len oLen T.n_len (by decide +kernel) (pma_cons (pm_var 5) pma_nil)) pma_nil))))
      (pms_one (pms_ret (pm_bm PySem.F.plainAttrs_str PySem.F.slot_str_join PySem.F.type_str_join mt_join oIsStr oJoin pm_str (pma_cons (pm_bin opAdd o2Add (pm_bin opAdd o2Add (pm_sl opSlice oSlice (pm_var 5) pmo_none (pmo_some (pm_var 6))) (pm_sl opSlice oSlice (pm_var 5) (pmo_some (pm_var 6)) (pmo_some (pm_bin opAdd o2Add (pm_var 6) pm_int)))) (pm_sl opSlice oSlice (pm_var 5) (pmo_some (pm_var 6)) pmo_none)) pma_nil)))))))))))
/-! law -/
def b_law : MS := (sSeq (sFor (MR.iRng (aCons (mCall gMax (aCons (mC (.int 1)) (aCons (mCall gMin (aCons (mC (.int 8)) (aCons (mCall gLen (aCons (mVar 0) aNil)) aNil))) aNil))) aNil)) (gN 1) (sSeq (sSet 2 (mFn 2 f__law_stream (aCons (mVar 0) (aCons (mVar 1) aNil))))
  (sSeq (sSet 3 (m2 gIx (mLst (aCons (mC (.str "a")) (aCons (mC (.str "ab")) (aCons (mC (.str "acx")) (aCons (mC (.str "bxyz")) aNil))))) (mFn 2 f__law_draw (aCons (mVar 2) (aCons (mC (.int 4)) aNil)))))
  (sSeq (sSet 4 (mFn 3 f__law_recipe (aCons (mVar 2) (aCons (mVar 3) (aCons (m2 gAdd (mC (.int 1)) (mFn 2 f__law_draw (aCons (mVar 2) (aCons (mC (.int 12)) aNil)))) aNil)))))
  (sSeq (sPar 5 6 (aCons (mFn 1 f__law_text_of (aCons (mVar 4) aNil)) (aCons (mCall gRepr (aCons (mVar 4) aNil)) aNil)))
  (sSeq (sIf (mOrT (mB (m2 gNe (mCall gRepr (aCons (mFn 1 f_recipe_text (aCons (mVar 4) aNil)) aNil)) (mCall gRepr (aCons (mVar 5) aNil)))) (mB (m2 gNe (mCall gRepr (aCons (mVar 4) aNil)) (mVar 6)))) (sRet (mC (.bl false))) sNext)
  (sSeq (sIf (mOrT (mB (m2 gNe (mCall gRepr (aCons (mFn 2 f__law_read_back (aCons (mVar 3) (aCons (mVar 5) aNil))) aNil)) (mVar 6))) (mB (m2 gNe (mCall gRepr (aCons (mFn 2 f__law_parsed (aCons (mVar 3) (aCons (mVar 5) aNil))) aNil)) (mVar 6)))) (sRet (mC (.bl false))) sNext)
  (sFor (MR.iRng (aCons (mC (.int 14)) aNil)) (gN 7) (sSeq (sSet 8 (mFn 2 f__law_spoilt (aCons (mVar 2) (aCons (mVar 5) aNil))))
  (sIf (mB (m2 gNe (mCall gRepr (aCons (mFn 2 f__law_read_back (aCons (mVar 3) (aCons (mVar 8) aNil))) aNil)) (mCall gRepr (aCons (mFn 2 f__law_parsed (aCons (mVar 3) (aCons (mVar 8) aNil))) aNil)))) (sRet (mC (.bl false))) sNext))))))))))
  (sSeq (sSet 9 (m2 gAdd (mTup (aCons (mTup (aCons (mC (.str "letter")) (aCons (mC (.str "a")) aNil))) (aCons (mTup (aCons (mC (.str "letter")) (aCons (mC (.str "z")) aNil))) aNil))) (mCall gTuple (aCons (mLc (MR.iRng2 (aCons (mC (.int 1)) (aCons (mC (.int 399)) aNil))) [1] (.nm 1) tYesM (mTup (aCons (mC (.str "then")) (aCons (mVar 1) (aCons (mC (.int 1)) aNil))))) aNil))))
  (sSeq (sSet 5 (mFn 1 f__law_text_of (aCons (mVar 9) aNil)))
  (sSeq (sIf (mOrT (mB (m2 gNe (mFn 1 f_recipe_text (aCons (mVar 9) aNil)) (mVar 5))) (mOrT (mB (m2 gNe (mFn 2 f_parse_recipe (aCons (mC (.str "az")) (aCons (mVar 5) aNil))) (mVar 9))) (mB (m2 gNe (mFn 2 f_parse_recipe (aCons (mC (.str "abz")) (aCons (mVar 5) aNil))) (mVar 9))))) (sRet (mC (.bl false))) sNext)
  (sSeq (sSet 10 (mLst (aCons (m2 gAdd (mVar 5) (mC (.str "\npump 399"))) (aCons (mC (.str "letter a\npump 0\nthen 1 0")) (aCons (mC (.str "letter a\npump 1")) (aCons (mC (.str "letter a\nthen 0")) aNil))))))
  (sSeq (sSet 10 (m2 gAdd (mVar 10) (mLst (aCons (mC (.str "letter aa")) (aCons (mC (.str "pump 0")) (aCons (mC (.str "letter a\n")) (aCons (mC (.str "letter  a")) (aCons (mC (.str "letter a\npump 00")) (aCons (mC (.str "letter a\npump -1")) aNil)))))))))
  (sSeq (sSet 10 (m2 gAdd (mVar 10) (mLst (aCons (m2 gAdd (mC (.str "letter a\npump ")) (m2 gMulS (mC (.str "9")) (mC (.int 5000)))) (aCons (mC (.str "")) aNil)))))
  (sSeq (sSet 11 (m2 gAdd (mLst (aCons (mC .non) (aCons (mTup (aCons (mTup (aCons (mC (.str "letter")) (aCons (mC (.str "a")) aNil))) (aCons (mTup (aCons (mC (.str "pump")) (aCons (mC (.int 0)) aNil))) (aCons (mTup (aCons (mC (.str "then")) (aCons (mC (.int 1)) (aCons (mC (.int 0)) aNil)))) aNil)))) aNil))) (m2 gMulS (mLst (aCons (mC .non) aNil)) (mC (.int 10)))))
  (sRet (mAnd (m2 gEq (mLc (iAll (mVar 10)) [5] (.nm 5) tYesM (mFn 2 f__law_read_back (aCons (mC (.str "az")) (aCons (mVar 5) aNil)))) (mVar 11)) (m2 gIs (mFn 2 f__law_read_back (aCons (mC (.str "z")) (aCons (mC (.str "letter a")) aNil))) (mC .non))))))))))))
def f_law : FM := defM 12 b_law
theorem ok_law (T : Txt K mg) (F_recipe_text : FnM P w K mg base 5 "recipe_text" 1 f_recipe_text) (F_parse_recipe : FnM P w K mg base 5 "parse_recipe" 2 f_parse_recipe) (F__law_stream : FnM P w K mg base 1 "_law_stream" 2 f__law_stream) (F__law_draw : FnM P w K mg base 1 "_law_draw" 2 f__law_draw) (F__law_recipe : FnM P w K mg base 2 "_law_recipe" 3 f__law_recipe) (F__law_text_of : FnM P w K mg base 1 "_law_text_of" 1 f__law_text_of) (F__law_parsed : FnM P w K mg base 6 "_law_parsed" 2 f__law_parsed) (F__law_read_back : FnM P w K mg base 6 "_law_read_back" 2 f__law_read_back) (F__law_spoilt : FnM P w K mg base 2 "_law_spoilt" 2 f__law_spoilt) (F : Fun K "law" "law" s_law f fd) : FnG P w K mg base 7 f fd ["script"] (spM ⟨K, mg⟩ 1 f_law) := by
  exact fn_mirrorG (N := ["script", "at", "stream", "signs", "recipe", "text", "before", "turn", "other", "long", "texts", "due"]) (ps := ["script"]) F ⟨rfl, rfl, rfl, by decide +kernel, rfl, by decide +kernel, by decide +kernel⟩ fun cdv A outer s H E gd hr tk => by
    have nd : (["script", "at", "stream", "signs", "recipe", "text", "before", "turn", "other", "long", "texts", "due"] : List Str).Nodup := by decide +kernel
    have lt := lets_of tk
    exact (pms_cons (pms_for (passes_of rfl) (pmi_rng T.n_range (pma_cons (pm_callB (call_max2 rfl) oMax T.n_max (by decide +kernel) (pma_cons pm_int (pma_cons (pm_callB (call_min2 rfl) oMin T.n_min (by decide +kernel) (pma_cons pm_int (pma_cons (pm_callB call_len oLen T.n_len (by decide +kernel) (pma_cons (pm_var 0) pma_nil)) pma_nil))) pma_nil))) pma_nil)) (pmg_name 1 nd) (pms_cons (pms_set 2 nd (pm_fn_call (F__law_stream.mono (by decide)) hr gd lt (pma_cons (pm_var 0) (pma_cons (pm_var 1) pma_nil))))
      (pms_cons (pms_set 3 nd (pm_ix ix_seq o2Ix (pm_lst (pma_cons pm_str (pma_cons pm_str (pma_cons pm_str (pma_cons pm_str pma_nil))))) (pm_fn_call (F__law_draw.mono (by decide)) hr gd lt (pma_cons (pm_var 2) (pma_cons pm_int pma_nil)))))
      (pms_cons (pms_set 4 nd (pm_fn_call (F__law_recipe.mono (by decide)) hr gd lt (pma_cons (pm_var 2) (pma_cons (pm_var 3) (pma_cons (pm_bin opAdd o2Add pm_int (pm_fn_call (F__law_draw.mono (by decide)) hr gd lt (pma_cons (pm_var 2) (pma_cons pm_int pma_nil)))) pma_nil)))))
      (pms_cons (pms_par 5 6 nd (pma_cons (pm_fn_call (F__law_text_of.mono (by decide)) hr gd lt (pma_cons (pm_var 4) pma_nil)) (pma_cons (pm_callB (call_reprD gd hr.units) oRepr T.n_repr (by decide +kernel) (pma_cons (pm_var 4) pma_nil)) pma_nil)))
      (pms_cons (pms_if (PW.pt (pmw_or (pmt_cmp (op_neD hr.units) o2Ne (pm_callB (call_reprD gd hr.units) oRepr T.n_repr (by decide +kernel) (pma_cons (pm_fn_call (F_recipe_text.mono (by decide)) hr gd lt (pma_cons (pm_var 4) pma_nil)) pma_nil)) (pm_callB (call_reprD gd hr.units) oRepr T.n_repr (by decide +kernel) (pma_cons (pm_var 5) pma_nil))) (pmw_or1 (pmt_cmp (op_neD hr.units) o2Ne (pm_callB (call_reprD gd hr.units) oRepr T.n_repr (by decide +kernel) (pma_cons (pm_var 4) pma_nil)) (pm_var 6))))) (pms_one (pms_ret pm_bl)) pms_nil)
      (pms_cons (pms_if (PW.pt (pmw_or (pmt_cmp (op_neD hr.units) o2Ne (pm_callB (call_reprD gd hr.units) oRepr T.n_repr (by decide +kernel) (pma_cons (pm_fn_call (F__law_read_back.mono (by decide)) hr gd lt (pma_cons (pm_var 3) (pma_cons (pm_var 5) pma_nil))) pma_nil)) (pm_var 6)) (pmw_or1 (pmt_cmp (op_neD hr.units) o2Ne (pm_callB (call_reprD gd hr.units) oRepr T.n_repr (by decide +kernel) (pma_cons (pm_fn_call (F__law_parsed.mono (by decide)) hr gd lt (pma_cons (pm_var 3) (pma_cons (pm_var 5) pma_nil))) pma_nil)) (pm_var 6))))) (pms_one (pms_ret pm_bl)) pms_nil)
      (pms_one (pms_for (passes_of rfl) (pmi_rng T.n_range (pma_cons pm_int pma_nil)) (pmg_name 7 nd) (pms_cons (pms_set 8 nd (pm_fn_call (F__law_spoilt.mono (by decide)) hr gd lt (pma_cons (pm_var 2) (pma_cons (pm_var 5) pma_nil))))
      (pms_one (pms_if (pmt_cmp (op_neD hr.units) o2Ne (pm_callB (call_reprD gd hr.units) oRepr T.n_repr (by decide +kernel) (pma_cons (pm_fn_call (F__law_read_back.mono (by decide)) hr gd lt (pma_cons (pm_var 3) (pma_cons (pm_var 8) pma_nil))) pma_nil)) (pm_callB (call_reprD gd hr.units) oRepr T.n_repr (by decide +kernel) (pma_cons (pm_fn_call (F__law_parsed.mono (by decide)) hr gd lt (pma_cons (pm_var 3) (pma_cons (pm_var 8) pma_nil))) pma_nil))) (pms_one (pms_ret pm_bl)) pms_nil))))))))))))
      (pms_cons (pms_set 9 nd (pm_bin opAdd o2Add (pm_tup (pma_cons (pm_tup (pma_cons pm_str (pma_cons pm_str pma_nil))) (pma_cons (pm_tup (pma_cons pm_str (pma_cons pm_str pma_nil))) pma_nil))) (pm_callTy call_tuple_of oTuple T.n_tuple (by decide +kernel) (pma_cons (pm_lc (own := [("at", 1)]) (t := (.nm 1)) nd (pmi_rng2 T.n_range (pma_cons pm_int (pma_cons pm_int pma_nil))) (blkOk_by (by kernel_rfl)) (fun s H C cl fp => (pg_name (i := 1) nd rfl (.inl rfl) (.inr rfl))) (fun s H C cl fp => pmts_nil) (fun s H C cl fp => (pm_tup (pma_cons pm_str (pma_cons (pm_var 1) (pma_cons pm_int pma_nil)))))) pma_nil))))
      (pms_cons (pms_set 5 nd (pm_fn_call (F__law_text_of.mono (by decide)) hr gd lt (pma_cons (pm_var 9) pma_nil)))
      (pms_cons (pms_if (PW.pt (pmw_or (pmt_cmp (op_neD hr.units) o2Ne (pm_fn_call (F_recipe_text.mono (by decide)) hr gd lt (pma_cons (pm_var 9) pma_nil)) (pm_var 5)) (pmw_or (pmt_cmp (op_neD hr.units) o2Ne (pm_fn_call (F_parse_recipe.mono (by decide)) hr gd lt (pma_cons pm_str (pma_cons (pm_var 5) pma_nil))) (pm_var 9)) (pmw_or1 (pmt_cmp (op_neD hr.units) o2Ne (pm_fn_call (F_parse_recipe.mono (by decide)) hr gd lt (pma_cons pm_str (pma_cons (pm_var 5) pma_nil))) (pm_var 9)))))) (pms_one (pms_ret pm_bl)) pms_nil)
      (pms_cons (pms_set 10 nd (pm_lst (pma_cons (pm_bin opAdd o2Add (pm_var 5) pm_str) (pma_cons pm_str (pma_cons pm_str (pma_cons pm_str pma_nil))))))
      (pms_cons (pms_set 10 nd (pm_bin opAdd o2Add (pm_var 10) (pm_lst (pma_cons pm_str (pma_cons pm_str (pma_cons pm_str (pma_cons pm_str (pma_cons pm_str (pma_cons pm_str pma_nil)))))))))
      (pms_cons (pms_set 10 nd (pm_bin opAdd o2Add (pm_var 10) (pm_lst (pma_cons (pm_bin opAdd o2Add pm_str (pm_bin opMulA o2MulA pm_str pm_int)) (pma_cons pm_str pma_nil)))))
      (pms_cons (pms_set 11 nd (pm_bin opAdd o2Add (pm_lst (pma_cons pm_non (pma_cons (pm_tup (pma_cons (pm_tup (pma_cons pm_str (pma_cons pm_str pma_nil))) (pma_cons (pm_tup (pma_cons pm_str (pma_cons pm_int pma_nil))) (pma_cons (pm_tup (pma_cons pm_str (pma_cons pm_int (pma_cons pm_int pma_nil)))) pma_nil)))) pma_nil))) (pm_bin opMulA o2MulA (pm_lst (pma_cons pm_non pma_nil)) pm_int)))
      (pms_one (pms_ret (pm_and (pm_cmp (op_eqD hr.units) o2Eq (pm_lc (own := [("text", 5)]) (t := (.nm 5)) nd (pmi_all (pm_var 10)) (blkOk_by (by kernel_rfl)) (fun s H C cl fp => (pg_name (i := 5) nd rfl (.inl rfl) (.inr rfl))) (fun s H C cl fp => pmts_nil) (fun s H C cl fp => (pm_fn_call (F__law_read_back.mono (by decide)) hr gd lets0 (pma_cons pm_str (pma_cons (pm_var 5) pma_nil))))) (pm_var 11)) (pm_one (pm_cmp op_isN o2Is (pm_fn_call (F__law_read_back.mono (by decide)) hr gd lt (pma_cons pm_str (pma_cons pm_str pma_nil))) pm_non)))))))))))))
end
set_option maxHeartbeats 4000000 in
theorem law_mk {P : Program} {w : World} {K : PySem.W.Frag} {h : Heap} {mg : Str → Option Value} {fa : Addr} (X : K.In h) (G : h.Ns mainGlobals mg) (hfa : mg "law" = some (.ref fa))
    {f_is_sign_ : Addr} {oc_is_sign kv_is_sign dc_is_sign pm_is_sign cd_is_sign ct_is_sign : Value} {od_is_sign an_is_sign : Option Addr} {sl_is_sign : Array (Option Value)}
    {f_is_alphabet_ : Addr} {oc_is_alphabet kv_is_alphabet dc_is_alphabet pm_is_alphabet cd_is_alphabet ct_is_alphabet : Value} {od_is_alphabet an_is_alphabet : Option Addr} {sl_is_alphabet : Array (Option Value)}
    {f_is_integer_ : Addr} {oc_is_integer kv_is_integer dc_is_integer pm_is_integer cd_is_integer ct_is_integer : Value} {od_is_integer an_is_integer : Option Addr} {sl_is_integer : Array (Option Value)}
    {f_is_letter_ : Addr} {oc_is_letter kv_is_letter dc_is_letter pm_is_letter cd_is_letter ct_is_letter : Value} {od_is_letter an_is_letter : Option Addr} {sl_is_letter : Array (Option Value)}
    {f_is_recipe_row_ : Addr} {oc_is_recipe_row kv_is_recipe_row dc_is_recipe_row pm_is_recipe_row cd_is_recipe_row ct_is_recipe_row : Value} {od_is_recipe_row an_is_recipe_row : Option Addr} {sl_is_recipe_row : Array (Option Value)}
    {f_is_recipe_in_ : Addr} {oc_is_recipe_in kv_is_recipe_in dc_is_recipe_in pm_is_recipe_in cd_is_recipe_in ct_is_recipe_in : Value} {od_is_recipe_in an_is_recipe_in : Option Addr} {sl_is_recipe_in : Array (Option Value)}
    {f_signs_in_ : Addr} {oc_signs_in kv_signs_in dc_signs_in pm_signs_in cd_signs_in ct_signs_in : Value} {od_signs_in an_signs_in : Option Addr} {sl_signs_in : Array (Option Value)}
    {f_rows_text_ : Addr} {oc_rows_text kv_rows_text dc_rows_text pm_rows_text cd_rows_text ct_rows_text : Value} {od_rows_text an_rows_text : Option Addr} {sl_rows_text : Array (Option Value)}
    {f_recipe_text_ : Addr} {oc_recipe_text kv_recipe_text dc_recipe_text pm_recipe_text cd_recipe_text ct_recipe_text : Value} {od_recipe_text an_recipe_text : Option Addr} {sl_recipe_text : Array (Option Value)}
    {f_lines_of_ : Addr} {oc_lines_of kv_lines_of dc_lines_of pm_lines_of cd_lines_of ct_lines_of : Value} {od_lines_of an_lines_of : Option Addr} {sl_lines_of : Array (Option Value)}
    {f_number_of_ : Addr} {oc_number_of kv_number_of dc_number_of pm_number_of cd_number_of ct_number_of : Value} {od_number_of an_number_of : Option Addr} {sl_number_of : Array (Option Value)}
    {f_parsed_row_ : Addr} {oc_parsed_row kv_parsed_row dc_parsed_row pm_parsed_row cd_parsed_row ct_parsed_row : Value} {od_parsed_row an_parsed_row : Option Addr} {sl_parsed_row : Array (Option Value)}
    {f_parse_recipe_ : Addr} {oc_parse_recipe kv_parse_recipe dc_parse_recipe pm_parse_recipe cd_parse_recipe ct_parse_recipe : Value} {od_parse_recipe an_parse_recipe : Option Addr} {sl_parse_recipe : Array (Option Value)}
    {f__law_stream_ : Addr} {oc__law_stream kv__law_stream dc__law_stream pm__law_stream cd__law_stream ct__law_stream : Value} {od__law_stream an__law_stream : Option Addr} {sl__law_stream : Array (Option Value)}
    {f__law_draw_ : Addr} {oc__law_draw kv__law_draw dc__law_draw pm__law_draw cd__law_draw ct__law_draw : Value} {od__law_draw an__law_draw : Option Addr} {sl__law_draw : Array (Option Value)}
    {f__law_recipe_ : Addr} {oc__law_recipe kv__law_recipe dc__law_recipe pm__law_recipe cd__law_recipe ct__law_recipe : Value} {od__law_recipe an__law_recipe : Option Addr} {sl__law_recipe : Array (Option Value)}
    {f__law_text_of_ : Addr} {oc__law_text_of kv__law_text_of dc__law_text_of pm__law_text_of cd__law_text_of ct__law_text_of : Value} {od__law_text_of an__law_text_of : Option Addr} {sl__law_text_of : Array (Option Value)}
    {f_is_recipe_ : Addr} {oc_is_recipe kv_is_recipe dc_is_recipe pm_is_recipe cd_is_recipe ct_is_recipe : Value} {od_is_recipe an_is_recipe : Option Addr} {sl_is_recipe : Array (Option Value)}
    {f__law_number_ : Addr} {oc__law_number kv__law_number dc__law_number pm__law_number cd__law_number ct__law_number : Value} {od__law_number an__law_number : Option Addr} {sl__law_number : Array (Option Value)}
    {f__law_parsed_ : Addr} {oc__law_parsed kv__law_parsed dc__law_parsed pm__law_parsed cd__law_parsed ct__law_parsed : Value} {od__law_parsed an__law_parsed : Option Addr} {sl__law_parsed : Array (Option Value)}
    {f__law_read_back_ : Addr} {oc__law_read_back kv__law_read_back dc__law_read_back pm__law_read_back cd__law_read_back ct__law_read_back : Value} {od__law_read_back an__law_read_back : Option Addr} {sl__law_read_back : Array (Option Value)}
    {f__law_spoilt_ : Addr} {oc__law_spoilt kv__law_spoilt dc__law_spoilt pm__law_spoilt cd__law_spoilt ct__law_spoilt : Value} {od__law_spoilt an__law_spoilt : Option Addr} {sl__law_spoilt : Array (Option Value)}
    {f_law_ : Addr} {oc_law kv_law dc_law pm_law cd_law ct_law : Value} {od_law an_law : Option Addr} {sl_law : Array (Option Value)}
    {C_LimitError : Addr} (x_LimitError : ExK K "LimitError" C_LimitError [.type "ValueError", .type "Exception", .type "BaseException", .type "object"] "ValueError.__new__")
    {C_InvalidMachine : Addr} (x_InvalidMachine : ExK K "InvalidMachine" C_InvalidMachine [.type "ValueError", .type "Exception", .type "BaseException", .type "object"] "ValueError.__new__")
    {C_InvalidRecipe : Addr} (x_InvalidRecipe : ExK K "InvalidRecipe" C_InvalidRecipe [.type "ValueError", .type "Exception", .type "BaseException", .type "object"] "ValueError.__new__")
    {C_ParseError : Addr} (x_ParseError : ExK K "ParseError" C_ParseError [.type "ValueError", .type "Exception", .type "BaseException", .type "object"] "ValueError.__new__")
    (s_LimitError_LimitError : PySem.W.subIn K (.ref C_LimitError) (.ref C_LimitError) = some true)
    (s_LimitError_InvalidMachine : PySem.W.subIn K (.ref C_InvalidMachine) (.ref C_LimitError) = some true)
    (s_LimitError_InvalidRecipe : PySem.W.subIn K (.ref C_InvalidRecipe) (.ref C_LimitError) = some true)
    (s_LimitError_ParseError : PySem.W.subIn K (.ref C_ParseError) (.ref C_LimitError) = some true)
    (s_ParseError_LimitError : PySem.W.subIn K (.ref C_LimitError) (.ref C_ParseError) = some false)
    (d_ParseError_LimitError : C_LimitError ≠ C_ParseError)
    (s_ParseError_InvalidMachine : PySem.W.subIn K (.ref C_InvalidMachine) (.ref C_ParseError) = some false)
    (d_ParseError_InvalidMachine : C_InvalidMachine ≠ C_ParseError)
    (s_ParseError_InvalidRecipe : PySem.W.subIn K (.ref C_InvalidRecipe) (.ref C_ParseError) = some false)
    (d_ParseError_InvalidRecipe : C_InvalidRecipe ≠ C_ParseError)
    (s_ParseError_ParseError : PySem.W.subIn K (.ref C_ParseError) (.ref C_ParseError) = some true)
    (n_abs : PySem.W.nsIn K mainGlobals "abs" = some none)
    (n_all : PySem.W.nsIn K mainGlobals "all" = some none)
    (n_bool : PySem.W.nsIn K mainGlobals "bool" = some none)
    (n_enumerate : PySem.W.nsIn K mainGlobals "enumerate" = some none)
    (n_int : PySem.W.nsIn K mainGlobals "int" = some none)
    (n_isinstance : PySem.W.nsIn K mainGlobals "isinstance" = some none)
    (n_len : PySem.W.nsIn K mainGlobals "len" = some none)
    (n_max : PySem.W.nsIn K mainGlobals "max" = some none)
    (n_min : PySem.W.nsIn K mainGlobals "min" = some none)
    (n_range : PySem.W.nsIn K mainGlobals "range" = some none)
    (n_repr : PySem.W.nsIn K mainGlobals "repr" = some none)
    (n_set : PySem.W.nsIn K mainGlobals "set" = some none)
    (n_sorted : PySem.W.nsIn K mainGlobals "sorted" = some none)
    (n_str : PySem.W.nsIn K mainGlobals "str" = some none)
    (n_tuple : PySem.W.nsIn K mainGlobals "tuple" = some none)
    (n_zip : PySem.W.nsIn K mainGlobals "zip" = some none)
    {z_DIGITS : Str} {t_DIGITS : Tok} (c_DIGITS : PySem.W.nsIn K mainGlobals "DIGITS" = some (some (.str z_DIGITS t_DIGITS))) (v_DIGITS : z_DIGITS = "0123456789")
    {z_LETTER : Str} {t_LETTER : Tok} (c_LETTER : PySem.W.nsIn K mainGlobals "LETTER" = some (some (.str z_LETTER t_LETTER))) (v_LETTER : z_LETTER = "letter")
    {t_MAX_DIGITS : Tok} (c_MAX_DIGITS : PySem.W.nsIn K mainGlobals "MAX_DIGITS" = some (some (.int 6 t_MAX_DIGITS)))
    {t_MAX_LETTERS : Tok} (c_MAX_LETTERS : PySem.W.nsIn K mainGlobals "MAX_LETTERS" = some (some (.int 4 t_MAX_LETTERS)))
    {t_MAX_ROWS : Tok} (c_MAX_ROWS : PySem.W.nsIn K mainGlobals "MAX_ROWS" = some (some (.int 400 t_MAX_ROWS)))
    {z_PUMP : Str} {t_PUMP : Tok} (c_PUMP : PySem.W.nsIn K mainGlobals "PUMP" = some (some (.str z_PUMP t_PUMP))) (v_PUMP : z_PUMP = "pump")
    {z_SIGNS : Str} {t_SIGNS : Tok} (c_SIGNS : PySem.W.nsIn K mainGlobals "SIGNS" = some (some (.str z_SIGNS t_SIGNS))) (v_SIGNS : z_SIGNS = "abcdefghijklmnopqrstuvwxyz")
    {z_THEN : Str} {t_THEN : Tok} (c_THEN : PySem.W.nsIn K mainGlobals "THEN" = some (some (.str z_THEN t_THEN))) (v_THEN : z_THEN = "then")
    (a_is_sign : PySem.W.nsIn K mainGlobals "is_sign" = some (some (.ref f_is_sign_))) (l_is_sign : K.lookup f_is_sign_ = some ⟨oc_is_sign, od_is_sign, .func (PySem.W.fnOf "is_sign" "is_sign" (defArgs s_is_sign) (defBody s_is_sign) (defScope s_is_sign) .none kv_is_sign dc_is_sign pm_is_sign an_is_sign cd_is_sign ct_is_sign), sl_is_sign⟩) (q_is_sign : PySem.W.codeIn K cd_is_sign "is_sign" = true) (k_is_sign : PySem.W.keepIn K (.ref f_is_sign_) = true)
    (a_is_alphabet : PySem.W.nsIn K mainGlobals "is_alphabet" = some (some (.ref f_is_alphabet_))) (l_is_alphabet : K.lookup f_is_alphabet_ = some ⟨oc_is_alphabet, od_is_alphabet, .func (PySem.W.fnOf "is_alphabet" "is_alphabet" (defArgs s_is_alphabet) (defBody s_is_alphabet) (defScope s_is_alphabet) .none kv_is_alphabet dc_is_alphabet pm_is_alphabet an_is_alphabet cd_is_alphabet ct_is_alphabet), sl_is_alphabet⟩) (q_is_alphabet : PySem.W.codeIn K cd_is_alphabet "is_alphabet" = true) (k_is_alphabet : PySem.W.keepIn K (.ref f_is_alphabet_) = true)
    (a_is_integer : PySem.W.nsIn K mainGlobals "is_integer" = some (some (.ref f_is_integer_))) (l_is_integer : K.lookup f_is_integer_ = some ⟨oc_is_integer, od_is_integer, .func (PySem.W.fnOf "is_integer" "is_integer" (defArgs s_is_integer) (defBody s_is_integer) (defScope s_is_integer) .none kv_is_integer dc_is_integer pm_is_integer an_is_integer cd_is_integer ct_is_integer), sl_is_integer⟩) (q_is_integer : PySem.W.codeIn K cd_is_integer "is_integer" = true) (k_is_integer : PySem.W.keepIn K (.ref f_is_integer_) = true)
    (a_is_letter : PySem.W.nsIn K mainGlobals "is_letter" = some (some (.ref f_is_letter_))) (l_is_letter : K.lookup f_is_letter_ = some ⟨oc_is_letter, od_is_letter, .func (PySem.W.fnOf "is_letter" "is_letter" (defArgs s_is_letter) (defBody s_is_letter) (defScope s_is_letter) .none kv_is_letter dc_is_letter pm_is_letter an_is_letter cd_is_letter ct_is_letter), sl_is_letter⟩) (q_is_letter : PySem.W.codeIn K cd_is_letter "is_letter" = true) (k_is_letter : PySem.W.keepIn K (.ref f_is_letter_) = true)
    (a_is_recipe_row : PySem.W.nsIn K mainGlobals "is_recipe_row" = some (some (.ref f_is_recipe_row_))) (l_is_recipe_row : K.lookup f_is_recipe_row_ = some ⟨oc_is_recipe_row, od_is_recipe_row, .func (PySem.W.fnOf "is_recipe_row" "is_recipe_row" (defArgs s_is_recipe_row) (defBody s_is_recipe_row) (defScope s_is_recipe_row) .none kv_is_recipe_row dc_is_recipe_row pm_is_recipe_row an_is_recipe_row cd_is_recipe_row ct_is_recipe_row), sl_is_recipe_row⟩) (q_is_recipe_row : PySem.W.codeIn K cd_is_recipe_row "is_recipe_row" = true) (k_is_recipe_row : PySem.W.keepIn K (.ref f_is_recipe_row_) = true)
    (a_is_recipe_in : PySem.W.nsIn K mainGlobals "is_recipe_in" = some (some (.ref f_is_recipe_in_))) (l_is_recipe_in : K.lookup f_is_recipe_in_ = some ⟨oc_is_recipe_in, od_is_recipe_in, .func (PySem.W.fnOf "is_recipe_in" "is_recipe_in" (defArgs s_is_recipe_in) (defBody s_is_recipe_in) (defScope s_is_recipe_in) .none kv_is_recipe_in dc_is_recipe_in pm_is_recipe_in an_is_recipe_in cd_is_recipe_in ct_is_recipe_in), sl_is_recipe_in⟩) (q_is_recipe_in : PySem.W.codeIn K cd_is_recipe_in "is_recipe_in" = true) (k_is_recipe_in : PySem.W.keepIn K (.ref f_is_recipe_in_) = true)
    (a_signs_in : PySem.W.nsIn K mainGlobals "signs_in" = some (some (.ref f_signs_in_))) (l_signs_in : K.lookup f_signs_in_ = some ⟨oc_signs_in, od_signs_in, .func (PySem.W.fnOf "signs_in" "signs_in" (defArgs s_signs_in) (defBody s_signs_in) (defScope s_signs_in) .none kv_signs_in dc_signs_in pm_signs_in an_signs_in cd_signs_in ct_signs_in), sl_signs_in⟩) (q_signs_in : PySem.W.codeIn K cd_signs_in "signs_in" = true) (k_signs_in : PySem.W.keepIn K (.ref f_signs_in_) = true)
    (a_rows_text : PySem.W.nsIn K mainGlobals "rows_text" = some (some (.ref f_rows_text_))) (l_rows_text : K.lookup f_rows_text_ = some ⟨oc_rows_text, od_rows_text, .func (PySem.W.fnOf "rows_text" "rows_text" (defArgs s_rows_text) (defBody s_rows_text) (defScope s_rows_text) .none kv_rows_text dc_rows_text pm_rows_text an_rows_text cd_rows_text ct_rows_text), sl_rows_text⟩) (q_rows_text : PySem.W.codeIn K cd_rows_text "rows_text" = true) (k_rows_text : PySem.W.keepIn K (.ref f_rows_text_) = true)
    (a_recipe_text : PySem.W.nsIn K mainGlobals "recipe_text" = some (some (.ref f_recipe_text_))) (l_recipe_text : K.lookup f_recipe_text_ = some ⟨oc_recipe_text, od_recipe_text, .func (PySem.W.fnOf "recipe_text" "recipe_text" (defArgs s_recipe_text) (defBody s_recipe_text) (defScope s_recipe_text) .none kv_recipe_text dc_recipe_text pm_recipe_text an_recipe_text cd_recipe_text ct_recipe_text), sl_recipe_text⟩) (q_recipe_text : PySem.W.codeIn K cd_recipe_text "recipe_text" = true) (k_recipe_text : PySem.W.keepIn K (.ref f_recipe_text_) = true)
    (a_lines_of : PySem.W.nsIn K mainGlobals "lines_of" = some (some (.ref f_lines_of_))) (l_lines_of : K.lookup f_lines_of_ = some ⟨oc_lines_of, od_lines_of, .func (PySem.W.fnOf "lines_of" "lines_of" (defArgs s_lines_of) (defBody s_lines_of) (defScope s_lines_of) .none kv_lines_of dc_lines_of pm_lines_of an_lines_of cd_lines_of ct_lines_of), sl_lines_of⟩) (q_lines_of : PySem.W.codeIn K cd_lines_of "lines_of" = true) (k_lines_of : PySem.W.keepIn K (.ref f_lines_of_) = true)
    (a_number_of : PySem.W.nsIn K mainGlobals "number_of" = some (some (.ref f_number_of_))) (l_number_of : K.lookup f_number_of_ = some ⟨oc_number_of, od_number_of, .func (PySem.W.fnOf "number_of" "number_of" (defArgs s_number_of) (defBody s_number_of) (defScope s_number_of) .none kv_number_of dc_number_of pm_number_of an_number_of cd_number_of ct_number_of), sl_number_of⟩) (q_number_of : PySem.W.codeIn K cd_number_of "number_of" = true) (k_number_of : PySem.W.keepIn K (.ref f_number_of_) = true)
    (a_parsed_row : PySem.W.nsIn K mainGlobals "parsed_row" = some (some (.ref f_parsed_row_))) (l_parsed_row : K.lookup f_parsed_row_ = some ⟨oc_parsed_row, od_parsed_row, .func (PySem.W.fnOf "parsed_row" "parsed_row" (defArgs s_parsed_row) (defBody s_parsed_row) (defScope s_parsed_row) .none kv_parsed_row dc_parsed_row pm_parsed_row an_parsed_row cd_parsed_row ct_parsed_row), sl_parsed_row⟩) (q_parsed_row : PySem.W.codeIn K cd_parsed_row "parsed_row" = true) (k_parsed_row : PySem.W.keepIn K (.ref f_parsed_row_) = true)
    (a_parse_recipe : PySem.W.nsIn K mainGlobals "parse_recipe" = some (some (.ref f_parse_recipe_))) (l_parse_recipe : K.lookup f_parse_recipe_ = some ⟨oc_parse_recipe, od_parse_recipe, .func (PySem.W.fnOf "parse_recipe" "parse_recipe" (defArgs s_parse_recipe) (defBody s_parse_recipe) (defScope s_parse_recipe) .none kv_parse_recipe dc_parse_recipe pm_parse_recipe an_parse_recipe cd_parse_recipe ct_parse_recipe), sl_parse_recipe⟩) (q_parse_recipe : PySem.W.codeIn K cd_parse_recipe "parse_recipe" = true) (k_parse_recipe : PySem.W.keepIn K (.ref f_parse_recipe_) = true)
    (a__law_stream : PySem.W.nsIn K mainGlobals "_law_stream" = some (some (.ref f__law_stream_))) (l__law_stream : K.lookup f__law_stream_ = some ⟨oc__law_stream, od__law_stream, .func (PySem.W.fnOf "_law_stream" "_law_stream" (defArgs s__law_stream) (defBody s__law_stream) (defScope s__law_stream) .none kv__law_stream dc__law_stream pm__law_stream an__law_stream cd__law_stream ct__law_stream), sl__law_stream⟩) (q__law_stream : PySem.W.codeIn K cd__law_stream "_law_stream" = true) (k__law_stream : PySem.W.keepIn K (.ref f__law_stream_) = true)
    (a__law_draw : PySem.W.nsIn K mainGlobals "_law_draw" = some (some (.ref f__law_draw_))) (l__law_draw : K.lookup f__law_draw_ = some ⟨oc__law_draw, od__law_draw, .func (PySem.W.fnOf "_law_draw" "_law_draw" (defArgs s__law_draw) (defBody s__law_draw) (defScope s__law_draw) .none kv__law_draw dc__law_draw pm__law_draw an__law_draw cd__law_draw ct__law_draw), sl__law_draw⟩) (q__law_draw : PySem.W.codeIn K cd__law_draw "_law_draw" = true) (k__law_draw : PySem.W.keepIn K (.ref f__law_draw_) = true)
    (a__law_recipe : PySem.W.nsIn K mainGlobals "_law_recipe" = some (some (.ref f__law_recipe_))) (l__law_recipe : K.lookup f__law_recipe_ = some ⟨oc__law_recipe, od__law_recipe, .func (PySem.W.fnOf "_law_recipe" "_law_recipe" (defArgs s__law_recipe) (defBody s__law_recipe) (defScope s__law_recipe) .none kv__law_recipe dc__law_recipe pm__law_recipe an__law_recipe cd__law_recipe ct__law_recipe), sl__law_recipe⟩) (q__law_recipe : PySem.W.codeIn K cd__law_recipe "_law_recipe" = true) (k__law_recipe : PySem.W.keepIn K (.ref f__law_recipe_) = true)
    (a__law_text_of : PySem.W.nsIn K mainGlobals "_law_text_of" = some (some (.ref f__law_text_of_))) (l__law_text_of : K.lookup f__law_text_of_ = some ⟨oc__law_text_of, od__law_text_of, .func (PySem.W.fnOf "_law_text_of" "_law_text_of" (defArgs s__law_text_of) (defBody s__law_text_of) (defScope s__law_text_of) .none kv__law_text_of dc__law_text_of pm__law_text_of an__law_text_of cd__law_text_of ct__law_text_of), sl__law_text_of⟩) (q__law_text_of : PySem.W.codeIn K cd__law_text_of "_law_text_of" = true) (k__law_text_of : PySem.W.keepIn K (.ref f__law_text_of_) = true)
    (a_is_recipe : PySem.W.nsIn K mainGlobals "is_recipe" = some (some (.ref f_is_recipe_))) (l_is_recipe : K.lookup f_is_recipe_ = some ⟨oc_is_recipe, od_is_recipe, .func (PySem.W.fnOf "is_recipe" "is_recipe" (defArgs s_is_recipe) (defBody s_is_recipe) (defScope s_is_recipe) .none kv_is_recipe dc_is_recipe pm_is_recipe an_is_recipe cd_is_recipe ct_is_recipe), sl_is_recipe⟩) (q_is_recipe : PySem.W.codeIn K cd_is_recipe "is_recipe" = true) (k_is_recipe : PySem.W.keepIn K (.ref f_is_recipe_) = true)
    (a__law_number : PySem.W.nsIn K mainGlobals "_law_number" = some (some (.ref f__law_number_))) (l__law_number : K.lookup f__law_number_ = some ⟨oc__law_number, od__law_number, .func (PySem.W.fnOf "_law_number" "_law_number" (defArgs s__law_number) (defBody s__law_number) (defScope s__law_number) .none kv__law_number dc__law_number pm__law_number an__law_number cd__law_number ct__law_number), sl__law_number⟩) (q__law_number : PySem.W.codeIn K cd__law_number "_law_number" = true) (k__law_number : PySem.W.keepIn K (.ref f__law_number_) = true)
    (a__law_parsed : PySem.W.nsIn K mainGlobals "_law_parsed" = some (some (.ref f__law_parsed_))) (l__law_parsed : K.lookup f__law_parsed_ = some ⟨oc__law_parsed, od__law_parsed, .func (PySem.W.fnOf "_law_parsed" "_law_parsed" (defArgs s__law_parsed) (defBody s__law_parsed) (defScope s__law_parsed) .none kv__law_parsed dc__law_parsed pm__law_parsed an__law_parsed cd__law_parsed ct__law_parsed), sl__law_parsed⟩) (q__law_parsed : PySem.W.codeIn K cd__law_parsed "_law_parsed" = true) (k__law_parsed : PySem.W.keepIn K (.ref f__law_parsed_) = true)
    (a__law_read_back : PySem.W.nsIn K mainGlobals "_law_read_back" = some (some (.ref f__law_read_back_))) (l__law_read_back : K.lookup f__law_read_back_ = some ⟨oc__law_read_back, od__law_read_back, .func (PySem.W.fnOf "_law_read_back" "_law_read_back" (defArgs s__law_read_back) (defBody s__law_read_back) (defScope s__law_read_back) .none kv__law_read_back dc__law_read_back pm__law_read_back an__law_read_back cd__law_read_back ct__law_read_back), sl__law_read_back⟩) (q__law_read_back : PySem.W.codeIn K cd__law_read_back "_law_read_back" = true) (k__law_read_back : PySem.W.keepIn K (.ref f__law_read_back_) = true)
    (a__law_spoilt : PySem.W.nsIn K mainGlobals "_law_spoilt" = some (some (.ref f__law_spoilt_))) (l__law_spoilt : K.lookup f__law_spoilt_ = some ⟨oc__law_spoilt, od__law_spoilt, .func (PySem.W.fnOf "_law_spoilt" "_law_spoilt" (defArgs s__law_spoilt) (defBody s__law_spoilt) (defScope s__law_spoilt) .none kv__law_spoilt dc__law_spoilt pm__law_spoilt an__law_spoilt cd__law_spoilt ct__law_spoilt), sl__law_spoilt⟩) (q__law_spoilt : PySem.W.codeIn K cd__law_spoilt "_law_spoilt" = true) (k__law_spoilt : PySem.W.keepIn K (.ref f__law_spoilt_) = true)
    (a_law : PySem.W.nsIn K mainGlobals "law" = some (some (.ref f_law_))) (l_law : K.lookup f_law_ = some ⟨oc_law, od_law, .func (PySem.W.fnOf "law" "law" (defArgs s_law) (defBody s_law) (defScope s_law) .none kv_law dc_law pm_law an_law cd_law ct_law), sl_law⟩) (q_law : PySem.W.codeIn K cd_law "law" = true) (k_law : PySem.W.keepIn K (.ref f_law_) = true)
    (hlaw : ∀ ns : List Int, ns.length ≤ 63 → ∃ st, f_law [.scr ns] [] = .ok (.bl true) st) :
    ∃ fd : FuncData, (∀ (s : Shared) (u : Value), BindsTo s fd ⟨[u], []⟩ [("script", u)]) ∧ ∀ base : Heap, K.In base → base.Ns mainGlobals mg → FnG P w K mg base 7 fa fd ["script"] (spLaw K) := by
  have e := hfa.symm.trans (PySem.W.mg_of X G a_law)
  cases e
  have T : Txt K mg := {
    n_abs := PySem.W.mg_none_of X G n_abs
    n_all := PySem.W.mg_none_of X G n_all
    n_bool := PySem.W.mg_none_of X G n_bool
    n_enumerate := PySem.W.mg_none_of X G n_enumerate
    n_int := PySem.W.mg_none_of X G n_int
    n_isinstance := PySem.W.mg_none_of X G n_isinstance
    n_len := PySem.W.mg_none_of X G n_len
    n_max := PySem.W.mg_none_of X G n_max
    n_min := PySem.W.mg_none_of X G n_min
    n_range := PySem.W.mg_none_of X G n_range
    n_repr := PySem.W.mg_none_of X G n_repr
    n_set := PySem.W.mg_none_of X G n_set
    n_sorted := PySem.W.mg_none_of X G n_sorted
    n_str := PySem.W.mg_none_of X G n_str
    n_tuple := PySem.W.mg_none_of X G n_tuple
    n_zip := PySem.W.mg_none_of X G n_zip
    c_DIGITS := ⟨_, PySem.W.mg_of X G c_DIGITS, rel_txt v_DIGITS⟩
    c_LETTER := ⟨_, PySem.W.mg_of X G c_LETTER, rel_txt v_LETTER⟩
    c_MAX_DIGITS := ⟨_, PySem.W.mg_of X G c_MAX_DIGITS, rel_num⟩
    c_MAX_LETTERS := ⟨_, PySem.W.mg_of X G c_MAX_LETTERS, rel_num⟩
    c_MAX_ROWS := ⟨_, PySem.W.mg_of X G c_MAX_ROWS, rel_num⟩
    c_PUMP := ⟨_, PySem.W.mg_of X G c_PUMP, rel_txt v_PUMP⟩
    c_SIGNS := ⟨_, PySem.W.mg_of X G c_SIGNS, rel_txt v_SIGNS⟩
    c_THEN := ⟨_, PySem.W.mg_of X G c_THEN, rel_txt v_THEN⟩
    x_LimitError := ⟨_, x_LimitError.f X G⟩
    x_InvalidMachine := ⟨_, x_InvalidMachine.f X G⟩
    x_InvalidRecipe := ⟨_, x_InvalidRecipe.f X G⟩
    x_ParseError := ⟨_, x_ParseError.f X G⟩
    sub_LimitError := fun hC c b C hb hc => by
      cases hC.symm.trans (PySem.W.mg_of X G x_LimitError.gC)
      unfold sub_LimitError at hb
      split at hb
      · rename_i e; subst e; cases hb; cases hc.symm.trans (PySem.W.mg_of X G x_LimitError.gC); exact x_LimitError.exm s_LimitError_LimitError
      split at hb
      · rename_i e; subst e; cases hb; cases hc.symm.trans (PySem.W.mg_of X G x_InvalidMachine.gC); exact x_LimitError.exm s_LimitError_InvalidMachine
      split at hb
      · rename_i e; subst e; cases hb; cases hc.symm.trans (PySem.W.mg_of X G x_InvalidRecipe.gC); exact x_LimitError.exm s_LimitError_InvalidRecipe
      split at hb
      · rename_i e; subst e; cases hb; cases hc.symm.trans (PySem.W.mg_of X G x_ParseError.gC); exact x_LimitError.exm s_LimitError_ParseError
      cases hb
    is_ParseError := fun hC c b C hb hc => by
      cases hC.symm.trans (PySem.W.mg_of X G x_ParseError.gC)
      unfold is_ParseError at hb
      split at hb
      · rename_i e; subst e; cases hb; cases hc.symm.trans (PySem.W.mg_of X G x_LimitError.gC); exact ⟨x_LimitError.c, x_ParseError.kit s_ParseError_LimitError (fun z => absurd z d_ParseError_LimitError)⟩
      split at hb
      · rename_i e; subst e; cases hb; cases hc.symm.trans (PySem.W.mg_of X G x_InvalidMachine.gC); exact ⟨x_InvalidMachine.c, x_ParseError.kit s_ParseError_InvalidMachine (fun z => absurd z d_ParseError_InvalidMachine)⟩
      split at hb
      · rename_i e; subst e; cases hb; cases hc.symm.trans (PySem.W.mg_of X G x_InvalidRecipe.gC); exact ⟨x_InvalidRecipe.c, x_ParseError.kit s_ParseError_InvalidRecipe (fun z => absurd z d_ParseError_InvalidRecipe)⟩
      split at hb
      · rename_i e; subst e; cases hb; cases hc.symm.trans (PySem.W.mg_of X G x_ParseError.gC); exact ⟨x_ParseError.c, x_ParseError.kit s_ParseError_ParseError (fun _ => rfl)⟩
      cases hb
    }
  have U_is_sign := fun_mk (st := s_is_sign) l_is_sign q_is_sign k_is_sign
  have B_is_sign := U_is_sign.binds (ps := ["value"]) fun _ _ _ _ _ _ us hl => match us, hl with | [_], _ => rfl
  have U_is_alphabet := fun_mk (st := s_is_alphabet) l_is_alphabet q_is_alphabet k_is_alphabet
  have B_is_alphabet := U_is_alphabet.binds (ps := ["value"]) fun _ _ _ _ _ _ us hl => match us, hl with | [_], _ => rfl
  have U_is_integer := fun_mk (st := s_is_integer) l_is_integer q_is_integer k_is_integer
  have B_is_integer := U_is_integer.binds (ps := ["value", "low", "high"]) fun _ _ _ _ _ _ us hl => match us, hl with | [_, _, _], _ => rfl
  have U_is_letter := fun_mk (st := s_is_letter) l_is_letter q_is_letter k_is_letter
  have B_is_letter := U_is_letter.binds (ps := ["alphabet", "value"]) fun _ _ _ _ _ _ us hl => match us, hl with | [_, _], _ => rfl
  have U_is_recipe_row := fun_mk (st := s_is_recipe_row) l_is_recipe_row q_is_recipe_row k_is_recipe_row
  have B_is_recipe_row := U_is_recipe_row.binds (ps := ["alphabet", "place", "row"]) fun _ _ _ _ _ _ us hl => match us, hl with | [_, _, _], _ => rfl
  have U_is_recipe_in := fun_mk (st := s_is_recipe_in) l_is_recipe_in q_is_recipe_in k_is_recipe_in
  have B_is_recipe_in := U_is_recipe_in.binds (ps := ["alphabet", "value"]) fun _ _ _ _ _ _ us hl => match us, hl with | [_, _], _ => rfl
  have U_signs_in := fun_mk (st := s_signs_in) l_signs_in q_signs_in k_signs_in
  have B_signs_in := U_signs_in.binds (ps := ["value"]) fun _ _ _ _ _ _ us hl => match us, hl with | [_], _ => rfl
  have U_rows_text := fun_mk (st := s_rows_text) l_rows_text q_rows_text k_rows_text
  have B_rows_text := U_rows_text.binds (ps := ["recipe"]) fun _ _ _ _ _ _ us hl => match us, hl with | [_], _ => rfl
  have U_recipe_text := fun_mk (st := s_recipe_text) l_recipe_text q_recipe_text k_recipe_text
  have B_recipe_text := U_recipe_text.binds (ps := ["recipe"]) fun _ _ _ _ _ _ us hl => match us, hl with | [_], _ => rfl
  have U_lines_of := fun_mk (st := s_lines_of) l_lines_of q_lines_of k_lines_of
  have B_lines_of := U_lines_of.binds (ps := ["text"]) fun _ _ _ _ _ _ us hl => match us, hl with | [_], _ => rfl
  have U_number_of := fun_mk (st := s_number_of) l_number_of q_number_of k_number_of
  have B_number_of := U_number_of.binds (ps := ["text"]) fun _ _ _ _ _ _ us hl => match us, hl with | [_], _ => rfl
  have U_parsed_row := fun_mk (st := s_parsed_row) l_parsed_row q_parsed_row k_parsed_row
  have B_parsed_row := U_parsed_row.binds (ps := ["words"]) fun _ _ _ _ _ _ us hl => match us, hl with | [_], _ => rfl
  have U_parse_recipe := fun_mk (st := s_parse_recipe) l_parse_recipe q_parse_recipe k_parse_recipe
  have B_parse_recipe := U_parse_recipe.binds (ps := ["alphabet", "text"]) fun _ _ _ _ _ _ us hl => match us, hl with | [_, _], _ => rfl
  have U__law_stream := fun_mk (st := s__law_stream) l__law_stream q__law_stream k__law_stream
  have B__law_stream := U__law_stream.binds (ps := ["script", "at"]) fun _ _ _ _ _ _ us hl => match us, hl with | [_, _], _ => rfl
  have U__law_draw := fun_mk (st := s__law_draw) l__law_draw q__law_draw k__law_draw
  have B__law_draw := U__law_draw.binds (ps := ["stream", "total"]) fun _ _ _ _ _ _ us hl => match us, hl with | [_, _], _ => rfl
  have U__law_recipe := fun_mk (st := s__law_recipe) l__law_recipe q__law_recipe k__law_recipe
  have B__law_recipe := U__law_recipe.binds (ps := ["stream", "signs", "total"]) fun _ _ _ _ _ _ us hl => match us, hl with | [_, _, _], _ => rfl
  have U__law_text_of := fun_mk (st := s__law_text_of) l__law_text_of q__law_text_of k__law_text_of
  have B__law_text_of := U__law_text_of.binds (ps := ["recipe"]) fun _ _ _ _ _ _ us hl => match us, hl with | [_], _ => rfl
  have U_is_recipe := fun_mk (st := s_is_recipe) l_is_recipe q_is_recipe k_is_recipe
  have B_is_recipe := U_is_recipe.binds (ps := ["alphabet", "value"]) fun _ _ _ _ _ _ us hl => match us, hl with | [_, _], _ => rfl
  have U__law_number := fun_mk (st := s__law_number) l__law_number q__law_number k__law_number
  have B__law_number := U__law_number.binds (ps := ["text"]) fun _ _ _ _ _ _ us hl => match us, hl with | [_], _ => rfl
  have U__law_parsed := fun_mk (st := s__law_parsed) l__law_parsed q__law_parsed k__law_parsed
  have B__law_parsed := U__law_parsed.binds (ps := ["signs", "text"]) fun _ _ _ _ _ _ us hl => match us, hl with | [_, _], _ => rfl
  have U__law_read_back := fun_mk (st := s__law_read_back) l__law_read_back q__law_read_back k__law_read_back
  have B__law_read_back := U__law_read_back.binds (ps := ["signs", "text"]) fun _ _ _ _ _ _ us hl => match us, hl with | [_, _], _ => rfl
  have U__law_spoilt := fun_mk (st := s__law_spoilt) l__law_spoilt q__law_spoilt k__law_spoilt
  have B__law_spoilt := U__law_spoilt.binds (ps := ["stream", "text"]) fun _ _ _ _ _ _ us hl => match us, hl with | [_, _], _ => rfl
  have U_law := fun_mk (st := s_law) l_law q_law k_law
  have B_law := U_law.binds (ps := ["script"]) fun _ _ _ _ _ _ us hl => match us, hl with | [_], _ => rfl
  refine ⟨PySem.W.fnOf "law" "law" (defArgs s_law) (defBody s_law) (defScope s_law) .none kv_law dc_law pm_law an_law cd_law ct_law, fun s u => .of_eq rfl, fun base _ _ => ?_⟩
  have F_is_sign := ok_is_sign (P := P) (w := w) (base := base) T  U_is_sign (PySem.W.mg_of X G a_is_sign) B_is_sign
  have F_is_alphabet := ok_is_alphabet (P := P) (w := w) (base := base) T F_is_sign U_is_alphabet (PySem.W.mg_of X G a_is_alphabet) B_is_alphabet
  have F_is_integer := ok_is_integer (P := P) (w := w) (base := base) T  U_is_integer (PySem.W.mg_of X G a_is_integer) B_is_integer
  have F_is_letter := ok_is_letter (P := P) (w := w) (base := base) T F_is_sign U_is_letter (PySem.W.mg_of X G a_is_letter) B_is_letter
  have F_is_recipe_row := ok_is_recipe_row (P := P) (w := w) (base := base) T F_is_integer F_is_letter U_is_recipe_row (PySem.W.mg_of X G a_is_recipe_row) B_is_recipe_row
  have F_is_recipe_in := ok_is_recipe_in (P := P) (w := w) (base := base) T F_is_recipe_row U_is_recipe_in (PySem.W.mg_of X G a_is_recipe_in) B_is_recipe_in
  have F_signs_in := ok_signs_in (P := P) (w := w) (base := base) T F_is_sign U_signs_in (PySem.W.mg_of X G a_signs_in) B_signs_in
  have F_rows_text := ok_rows_text (P := P) (w := w) (base := base) T  U_rows_text (PySem.W.mg_of X G a_rows_text) B_rows_text
  have F_recipe_text := ok_recipe_text (P := P) (w := w) (base := base) T F_is_alphabet F_is_recipe_in F_signs_in F_rows_text U_recipe_text (PySem.W.mg_of X G a_recipe_text) B_recipe_text
  have F_lines_of := ok_lines_of (P := P) (w := w) (base := base) T  U_lines_of (PySem.W.mg_of X G a_lines_of) B_lines_of
  have F_number_of := ok_number_of (P := P) (w := w) (base := base) T  U_number_of (PySem.W.mg_of X G a_number_of) B_number_of
  have F_parsed_row := ok_parsed_row (P := P) (w := w) (base := base) T F_number_of U_parsed_row (PySem.W.mg_of X G a_parsed_row) B_parsed_row
  have F_parse_recipe := ok_parse_recipe (P := P) (w := w) (base := base) T F_is_alphabet F_is_recipe_in F_lines_of F_parsed_row U_parse_recipe (PySem.W.mg_of X G a_parse_recipe) B_parse_recipe
  have F__law_stream := ok__law_stream (P := P) (w := w) (base := base) T  U__law_stream (PySem.W.mg_of X G a__law_stream) B__law_stream
  have F__law_draw := ok__law_draw (P := P) (w := w) (base := base) T  U__law_draw (PySem.W.mg_of X G a__law_draw) B__law_draw
  have F__law_recipe := ok__law_recipe (P := P) (w := w) (base := base) T F__law_draw U__law_recipe (PySem.W.mg_of X G a__law_recipe) B__law_recipe
  have F__law_text_of := ok__law_text_of (P := P) (w := w) (base := base) T  U__law_text_of (PySem.W.mg_of X G a__law_text_of) B__law_text_of
  have F_is_recipe := ok_is_recipe (P := P) (w := w) (base := base) T F_is_alphabet F_is_recipe_in U_is_recipe (PySem.W.mg_of X G a_is_recipe) B_is_recipe
  have F__law_number := ok__law_number (P := P) (w := w) (base := base) T  U__law_number (PySem.W.mg_of X G a__law_number) B__law_number
  have F__law_parsed := ok__law_parsed (P := P) (w := w) (base := base) T F_is_recipe F__law_number U__law_parsed (PySem.W.mg_of X G a__law_parsed) B__law_parsed
  have F__law_read_back := ok__law_read_back (P := P) (w := w) (base := base) T F_parse_recipe U__law_read_back (PySem.W.mg_of X G a__law_read_back) B__law_read_back
  have F__law_spoilt := ok__law_spoilt (P := P) (w := w) (base := base) T F__law_draw U__law_spoilt (PySem.W.mg_of X G a__law_spoilt) B__law_spoilt
  have F_law := ok_law (P := P) (w := w) (base := base) T F_recipe_text F_parse_recipe F__law_stream F__law_draw F__law_recipe F__law_text_of F__law_parsed F__law_read_back F__law_spoilt U_law
  exact law_end F_law hlaw
end K84

/-! plain facts about mirrors: runs, comprehensions, texts, numbers -/
namespace MR
open PySem L2 TL

section
variable {α β : Type} {env : MEnv} {st : Sto} {a b : ME} {r : MA} {t u : MT} {s1 s2 : MS}
@[simp] theorem bind_ok (x : α) (f : α → Sto → Res β) : (Res.ok x st).bind f = f x st := rfl
@[simp] theorem bind_exc (c : Str) (f : α → Sto → Res β) : (Res.exc c st : Res α).bind f = .exc c st := rfl
@[simp] theorem bind_bad (f : α → Sto → Res β) : (Res.bad : Res α).bind f = .bad := rfl
@[simp] theorem noExc_ok (m : MV) : noExc (.ok m st) = .ok m st := rfl
@[simp] theorem noExc_exc (c : Str) : noExc (.exc c st) = .bad := rfl
@[simp] theorem noExc_bad : noExc .bad = .bad := rfl
@[simp] theorem bindE_ok (x : α) (f : α → Sto → Flw) : bindE (Res.ok x st) env f = f x st := rfl
@[simp] theorem bindE_exc (c : Str) (f : α → Sto → Flw) : bindE (Res.exc c st : Res α) env f = .exc c env st := rfl
@[simp] theorem bindE_bad (f : α → Sto → Flw) : bindE (Res.bad : Res α) env f = .bad := rfl
@[simp] theorem e_C (m : MV) : mC m env st = .ok m st := rfl
@[simp] theorem e_var (i : Nat) : mVar i env st = match env[i]? with | some (some m) => .ok m st | _ => .bad := rfl
@[simp] theorem e_2 (g : G2) : m2 g a b env st = (a env st).bind fun x st1 => (b env st1).bind fun y st2 => noExc (g x y st2) := rfl
@[simp] theorem e_1 (g : MV → Sto → Res MV) : m1 g a env st = (a env st).bind fun x st1 => noExc (g x st1) := rfl
@[simp] theorem e_B : mB a env st = (a env st).bind toB := rfl
@[simp] theorem e_toB (k : Bool) : toB (.bl k) st = .ok k st := rfl
@[simp] theorem e_andT : mAndT t u env st = (t env st).bind fun x st1 => if x = true then u env st1 else .ok false st1 := rfl
@[simp] theorem e_orT : mOrT t u env st = (t env st).bind fun x st1 => if x = true then .ok true st1 else u env st1 := rfl
@[simp] theorem e_notT : mNotT t env st = (t env st).bind fun x st1 => .ok (!x) st1 := rfl
@[simp] theorem e_and : mAnd a b env st = (a env st).bind fun x st1 => (toB x st1).bind fun x st1 => if x = true then b env st1 else .ok (.bl false) st1 := rfl
@[simp] theorem e_or : mOr a b env st = (a env st).bind fun x st1 => (toB x st1).bind fun x st1 => if x = true then .ok (.bl true) st1 else b env st1 := rfl
@[simp] theorem e_not : mNot a env st = (a env st).bind fun x st1 => (toB x st1).bind fun x st1 => .ok (.bl (!x)) st1 := rfl
@[simp] theorem e_if : mIf t a b env st = (t env st).bind fun x st1 => if x = true then a env st1 else b env st1 := rfl
@[simp] theorem e_chain (g g' : G2) (c : ME) : mChain g g' a b c env st = (a env st).bind fun x st1 => (b env st1).bind fun y st2 => (noExc (g x y st2)).bind fun z st3 => (toB z st3).bind fun k st4 => if k = true then (c env st4).bind fun w st5 => noExc (g' y w st5) else .ok (.bl false) st4 := rfl
@[simp] theorem e_nil : aNil env st = .ok [] st := rfl
@[simp] theorem e_cons : aCons a r env st = (a env st).bind fun x st1 => (r env st1).bind fun xs st2 => .ok (x :: xs) st2 := rfl
@[simp] theorem e_star : aStar a r env st = (a env st).bind fun x st1 => match itemsOf x st1 with | some ys => (r env st1).bind fun xs st2 => .ok (ys ++ xs) st2 | none => .bad := rfl
@[simp] theorem e_tup : mTup r env st = (r env st).bind fun xs st1 => if xs.length ≤ 16777216 then .ok (.tup xs) st1 else .bad := rfl
@[simp] theorem e_lst : mLst r env st = (r env st).bind fun xs st1 => if xs.length ≤ 16777216 then .ok (.lst xs) st1 else .bad := rfl
@[simp] theorem e_lstN : mLstN r env st = (r env st).bind fun xs st1 => if xs.length ≤ 16777216 then .ok (.obj st1.length) (st1 ++ [.lst xs]) else .bad := rfl
@[simp] theorem e_call (g : List MV → Sto → Res MV) : mCall g r env st = (r env st).bind fun xs st1 => noExc (g xs st1) := rfl
@[simp] theorem e_meth (c : MV → Sto → Bool) (g : MV → List MV → Sto → Res MV) : mMethT c g a r env st = (a env st).bind fun x st1 => if c x st1 = true then (r env st1).bind fun xs st2 => noExc (g x xs st2) else .bad := rfl
@[simp] theorem e_fn (n : Nat) (f : FM) : mFn n f r env st = (r env st).bind fun xs st1 => if xs.length = n then f xs st1 else .bad := rfl
@[simp] theorem e_oN : oNone env st = .ok none st := rfl
@[simp] theorem e_oS : oSome a env st = (a env st).bind fun x st1 => match x with | .int i => .ok (some i) st1 | _ => .bad := rfl
@[simp] theorem e_sl (g : GSl) (lo hi : MOp) : mSl g a lo hi env st = (a env st).bind fun x st1 => (lo env st1).bind fun l st2 => (hi env st2).bind fun u st3 => noExc (g x l u st3) := rfl
@[simp] theorem e_lc (mi : MA) (own : List Nat) (tg : Tgt) (tst : MT) (elt : ME) : mLc mi own tg tst elt env st = (mi env st).bind fun ys st1 => (compM tg tst elt ys (wipeM env own) [] st1).bind fun zs st2 => .ok (.lst zs) st2 := rfl
@[simp] theorem e_lcX (mi : MA) (own : List Nat) (tg : Tgt) (tst : MT) (elt : ME) : mLcX mi own tg tst elt env st = (mi env st).bind fun ys st1 => (compX tg tst elt ys (wipeM env own) [] st1).bind fun zs st2 => .ok (.lst zs) st2 := rfl
@[simp] theorem i_all : iAll a env st = (a env st).bind fun m st' => match m with | .str z => .ok (z.cps.toList.map fun c => .str ⟨#[c]⟩) st' | m => match frozen m with | some xs => .ok xs st' | none => .bad := rfl
@[simp] theorem i_zip : iZipM r env st = (r env st).bind fun ms st' => match ms with | [a, b] => (match srcOf a, srcOf b with | some xs, some ys => .ok (zipM xs ys) st' | _, _ => .bad) | _ => .bad := rfl
@[simp] theorem i_enum : iEnumM r env st = (r env st).bind fun ms st' => match ms with | [a] => (match srcOf a with | some xs => .ok (enumFrom 0 xs) st' | none => .bad) | _ => .bad := rfl
@[simp] theorem src_str (z : Str) : srcOf (.str z) = some (z.cps.toList.map fun c => .str ⟨#[c]⟩) := rfl
@[simp] theorem src_tup (xs : List MV) : srcOf (.tup xs) = some xs := rfl
@[simp] theorem src_lst (xs : List MV) : srcOf (.lst xs) = some xs := rfl
@[simp] theorem fr_tup (xs : List MV) : frozen (.tup xs) = some xs := rfl
@[simp] theorem fr_lst (xs : List MV) : frozen (.lst xs) = some xs := rfl
@[simp] theorem it_tup (xs : List MV) : itemsOf (.tup xs) st = some xs := rfl
@[simp] theorem it_lst (xs : List MV) : itemsOf (.lst xs) st = some xs := rfl
@[simp] theorem wipe_nil : wipeM env [] = env := rfl
@[simp] theorem wipe_cons (i : Nat) (l : List Nat) : wipeM env (i :: l) = (wipeM env l).set i none := rfl
@[simp] theorem s_next : sNext env st = .nx env st := rfl
@[simp] theorem s_seq : sSeq s1 s2 env st = match s1 env st with | .nx env' st' => s2 env' st' | r => r := rfl
@[simp] theorem s_set (i : Nat) : sSet i a env st = bindE (a env st) env fun m st' => .nx (env.set i (some m)) st' := rfl
@[simp] theorem s_expr : sExpr a env st = bindE (a env st) env fun _ st' => .nx env st' := rfl
@[simp] theorem s_ret : sRet a env st = bindE (a env st) env fun m st' => .rt m st' := rfl
@[simp] theorem s_if : sIf t s1 s2 env st = bindE (t env st) env fun k st' => if k = true then s1 env st' else s2 env st' := rfl
@[simp] theorem s_raise (x : Str) : sRaise x env st = .exc x env st := rfl
@[simp] theorem s_asg (g : MTg) : sAsg g a env st = bindE (a env st) env fun m st' => match g m env st' with | some (env', st'') => .nx env' st'' | none => .bad := rfl
@[simp] theorem s_par (i j : Nat) : sPar i j r env st = bindE (r env st) env fun xs st1 => match xs with | [x, y] => .nx ((env.set i (some x)).set j (some y)) st1 | _ => .bad := rfl
@[simp] theorem s_for (mi : MA) (g : MTg) : sFor mi g s1 env st = bindE (mi env st) env fun ys st1 => forM g s1 ys env st1 := rfl
@[simp] theorem g_N (i : Nat) (m : MV) : gN i m env st = some (env.set i (some m), st) := rfl
@[simp] theorem g_star (g1 g2 : MTg) (m : MV) : gStar g1 g2 m env st = match itemsOf m st with | some (x :: xs) => if xs.length < 16384 then (g1 x env st).bind fun p => g2 (.lst xs) p.1 p.2 else none | _ => none := rfl
end
/-- a comprehension of plain values -/
theorem compM_map {t : Tgt} {elt : ME} {g : MV → MV} {env : MEnv} {st : Sto} : ∀ {ys acc : List MV}, (∀ y ∈ ys, ∃ env1, t.bind y env = some env1 ∧ elt env1 st = .ok (g y) st) → acc.length + ys.length ≤ 16777216 →
    compM t tYesM elt ys env acc st = .ok (acc ++ ys.map g) st
  | [], acc, _, _ => by simp [compM]
  | y :: ys, acc, h, hl => by
    obtain ⟨env1, e1, e2⟩ := h y List.mem_cons_self
    have hl' : acc.length < 16777216 := by simp at hl; omega
    unfold compM
    rw [e1]
    show (match tYesM env1 st with
      | .ok true st1 => (match elt env1 st1 with
        | .ok v st2 => if acc.length < 16777216 then compM t tYesM elt ys env (acc ++ [v]) st2 else .bad
        | _ => .bad)
      | .ok false st1 => compM t tYesM elt ys env acc st1
      | _ => .bad) = _
    simp only [tYesM, e2, if_pos hl']
    rw [compM_map (fun z hz => h z (List.mem_cons_of_mem _ hz)) (by simp at hl ⊢; omega)]
    simp
/-- a comprehension whose element may raise c -/
theorem compX_map {t : Tgt} {elt : ME} {g : MV → Option MV} {c : Str} {env : MEnv} {st : Sto} : ∀ {ys acc : List MV}, (∀ y ∈ ys, ∃ env1, t.bind y env = some env1 ∧ elt env1 st = (match g y with | some v => .ok v st | none => .exc c st)) → acc.length + ys.length ≤ 16777216 →
    compX t tYesM elt ys env acc st = (match ys.mapM g with | some vs => .ok (acc ++ vs) st | none => .exc c st)
  | [], acc, _, _ => by simp [compX]
  | y :: ys, acc, h, hl => by
    obtain ⟨env1, e1, e2⟩ := h y List.mem_cons_self
    have hl' : acc.length < 16777216 := by simp at hl; omega
    unfold compX
    rw [e1]
    show (match tYesM env1 st with
      | .ok true st1 => (match elt env1 st1 with
        | .ok v st2 => if acc.length < 16777216 then compX t tYesM elt ys env (acc ++ [v]) st2 else .bad
        | .exc c st2 => .exc c st2
        | .bad => .bad)
      | .ok false st1 => compX t tYesM elt ys env acc st1
      | _ => .bad) = _
    simp only [tYesM, e2]
    cases eg : g y with
    | none => simp [List.mapM_cons, eg]
    | some v =>
      simp only [if_pos hl']
      rw [compX_map (fun z hz => h z (List.mem_cons_of_mem _ hz)) (by simp at hl ⊢; omega)]
      simp only [List.mapM_cons, eg]
      cases ys.mapM g <;> simp
theorem strsOf_map : ∀ ys : List Str, strsOf (ys.map .str) = some ys
  | [] => rfl
  | y :: ys => by simp [strsOf, strsOf_map ys]
theorem boolsOf_map : ∀ ys : List Bool, boolsOf (ys.map .bl) = some ys
  | [] => rfl
  | y :: ys => by simp [boolsOf, boolsOf_map ys]
theorem gAll_map (ys : List Bool) (st : Sto) : gAll [.lst (ys.map .bl)] st = .ok (.bl (ys.all id)) st := by
  simp [gAll, listOf, boolsOf_map]
/-- signs below 128, at most n of them -/
def Asc (n : Nat) (t : Str) : Prop := t.length ≤ n ∧ ∀ c ∈ tl t, c < 128
theorem Asc.ok {n : Nat} {t : Str} (h : Asc n t) : PyData.canLay0 (.str t) = true := by
  simp only [PyData.canLay0, PyData.strOk, Array.all_eq_true']
  intro c hc
  have := h.2 c (Array.mem_toList_iff.mpr hc)
  simp
  omega
theorem Asc.sh {n : Nat} {t : Str} (h : Asc n t) : SeqAt.shaped (.str t) = true := by
  unfold SeqAt.shaped
  rw [h.ok]
  simp [PyData.depth]
theorem str_dec (a b : Str) : (a == b) = decide (a = b) := by
  by_cases h : a = b
  · subst h; simp
  · rw [decide_eq_false h]; exact beq_false_of_ne h
theorem gEq_str {a b : Str} {n m : Nat} (ha : Asc n a) (hb : Asc m b) (st : Sto) : gEq (.str a) (.str b) st = .ok (.bl (decide (a = b))) st := by
  simp [gEq, topD, toD, ha.sh, hb.sh, PyData.eqv, str_dec]
theorem gNe_str {a b : Str} {n m : Nat} (ha : Asc n a) (hb : Asc m b) (st : Sto) : gNe (.str a) (.str b) st = .ok (.bl (!decide (a = b))) st := by
  simp [gNe, topD, toD, ha.sh, hb.sh, PyData.eqv, str_dec]
theorem sh_int (i : Int) : SeqAt.shaped (.int i) = true := by
  unfold SeqAt.shaped
  simp [PyData.canLay0, PyData.depth]
theorem gEq_int (i j : Int) (st : Sto) : gEq (.int i) (.int j) st = .ok (.bl (decide (i = j))) st := by
  simp [gEq, topD, toD, sh_int, PyData.eqv, Bool.beq_eq_decide_eq]
theorem asc_lit {s : String} {n : Nat} (h : (s.toList.map Char.toNat).length ≤ n := by decide) (h2 : ∀ c ∈ s.toList.map Char.toNat, c < 128 := by decide) : Asc n (Str.ofString s) := by
  have e : tl (Str.ofString s) = s.toList.map Char.toNat := tl_ofString s
  refine ⟨?_, ?_⟩
  · rw [len_tl, e]; exact h
  · rw [e]; exact h2
/-! ### numbers as texts -/
/-- the sign 48 + d behind -/
theorem numL_of_digits : ∀ (n : Nat) (l : List Nat), l.length = n → NumText.AllDigits l → l ≠ [] → (l = [48] ∨ l.head? ≠ some 48) → numL (NumText.digitsVal l) = l
  | 0, l, hl, _, hne, _ => absurd (List.length_eq_zero_iff.mp hl) hne
  | n + 1, l, hl, hd, hne, hz => by
    obtain ⟨l', d, rfl⟩ : ∃ l' d, l = l' ++ [d] := ⟨l.dropLast, l.getLast hne, (List.dropLast_concat_getLast hne).symm⟩
    have hdd : 48 ≤ d ∧ d ≤ 57 := hd d (by simp)
    have ev : NumText.digitsVal (l' ++ [d]) = NumText.digitsVal l' * 10 + (d - 48) := by simp [NumText.digitsVal, List.foldl_append]
    by_cases hl' : l' = []
    · subst hl'
      rw [ev]
      simp only [NumText.digitsVal, List.foldl_nil, Nat.zero_mul, Nat.zero_add, List.nil_append]
      rw [numL_lt (by omega)]
      congr 1
      omega
    · have hh : l'.head? ≠ some 48 := by
        rcases hz with h | h
        · exfalso
          have := congrArg List.length h
          simp at this
          exact hl' this
        · intro q
          apply h
          cases l' with
          | nil => exact absurd rfl hl'
          | cons a r => simpa using q
      have hd' : NumText.AllDigits l' := fun c hc => hd c (List.mem_append_left _ hc)
      have ih := numL_of_digits n l' (by simp at hl; omega) hd' hl' (.inr hh)
      have h1 : 1 ≤ NumText.digitsVal l' := by
        rcases Nat.eq_zero_or_pos (NumText.digitsVal l') with z | z
        · rw [z, numL_lt (by decide)] at ih
          rw [← ih] at hh
          exact absurd rfl hh
        · exact z
      rw [ev, numL_step (by omega)]
      have e1 : (NumText.digitsVal l' * 10 + (d - 48)) / 10 = NumText.digitsVal l' := by omega
      have e2 : (NumText.digitsVal l' * 10 + (d - 48)) % 10 = d - 48 := by omega
      rw [e1, e2, ih]
      congr 2
      omega
/-- n as a text -/
def numS (n : Nat) : Str := Str.ofString (toString ((n : Nat) : Int))
theorem tl_numS (n : Nat) : tl (numS n) = numL n := tl_num n
theorem numS_of {t : Str} (hd : NumText.AllDigits (tl t)) (hne : tl t ≠ []) (hz : tl t = [48] ∨ (tl t).head? ≠ some 48) : t = numS (NumText.digitsVal (tl t)) := by
  apply ext_tl
  rw [tl_numS]
  exact (numL_of_digits _ _ rfl hd hne hz).symm
theorem numS_asc {n : Nat} (h : n < 10 ^ 6) : Asc 6 (numS n) := by
  refine ⟨?_, ?_⟩
  · rw [len_tl, tl_numS]; exact numL_len (by decide) h
  · rw [tl_numS]
    intro c hc
    have := numL_digits n c hc
    omega
theorem numS_inj {m n : Nat} (h : numS m = numS n) : m = n := numL_inj (by rw [← tl_numS, ← tl_numS, h])
theorem int_numS {n : Nat} (h : n < 10 ^ 6) : intText? (numS n) = some (n : Int) := int_num (Nat.le_trans (numL_len (by decide) h) (by decide))
theorem log2_small {n : Nat} (h : n < 10 ^ 6) : n.log2 < 1920 := by
  by_cases z : n = 0
  · subst z; decide
  · have h1 : n < 2 ^ 20 := by omega
    have := (Nat.log2_lt z).mpr h1
    omega
theorem gStr_nat {n : Nat} (h : n < 10 ^ 6) (st : Sto) : gStr [.int (n : Int)] st = .ok (.str (numS n)) st := by
  have := log2_small h
  show (if ((n : Int)).natAbs.log2 < 1920 then Res.ok (MV.str (Str.ofString (toString (n : Int)))) st else .bad) = _
  rw [if_pos (by simpa using this)]
  rfl
end MR

/-! what the defs of k84 give -/
namespace K84
open PySem L2 TL MR
@[simp] theorem kb1 : kitB "int" "int" = some true := by decide +kernel
@[simp] theorem kb2 : kitB "int" "bool" = some false := by decide +kernel
@[simp] theorem kb3 : kitB "int" "str" = some false := by decide +kernel
@[simp] theorem kb4 : kitB "str" "int" = some false := by decide +kernel
@[simp] theorem kb5 : kitB "str" "str" = some true := by decide +kernel
@[simp] theorem kb6 : kitB "tuple" "tuple" = some true := by decide +kernel
@[simp] theorem kb7 : kitB "str" "tuple" = some false := by decide +kernel
@[simp] theorem kb8 : kitB "int" "tuple" = some false := by decide +kernel
@[simp] theorem ty_int (i : Int) (st : Sto) : tyName (.int i) st = some "int" := rfl
@[simp] theorem ty_str (i : Str) (st : Sto) : tyName (.str i) st = some "str" := rfl
@[simp] theorem ty_tup (i : List MV) (st : Sto) : tyName (.tup i) st = some "tuple" := rfl

/-- a row's item: an int or a short text -/
inductive Item (N : Nat) : MV → Prop
  | int (i : Int) : Item N (.int i)
  | str (s : Str) : Asc N s → Item N (.str s)
def isInt (m : MV) (lo hi : Int) : Bool := match m with
  | .int i => decide (lo ≤ i) && decide (i ≤ hi)
  | _ => false
theorem is_integer_eq {N : Nat} {m : MV} (h : Item N m) (lo hi : Int) (st : Sto) : f_is_integer [m, .int lo, .int hi] st = .ok (.bl (isInt m lo hi)) st := by
  cases h with
  | int i =>
    by_cases h1 : lo ≤ i <;> by_cases h2 : i ≤ hi <;> simp [f_is_integer, b_is_integer, defM, gIsi, gLe, gOrd, isInt, h1, h2]
  | str s hs => simp [f_is_integer, b_is_integer, defM, gIsi, isInt]
/-- one sign, a to z -/
def lowc (c : Nat) : Bool := decide (97 ≤ c) && decide (c ≤ 122)
def isSign (m : MV) : Bool := match m with
  | .str s => match tl s with
    | [c] => lowc c
    | _ => false
  | _ => false
theorem signs_mem (c : Nat) : decide (c ∈ (Str.ofString "abcdefghijklmnopqrstuvwxyz").cps.toList) = lowc c := by
  rw [show (Str.ofString "abcdefghijklmnopqrstuvwxyz").cps.toList = "abcdefghijklmnopqrstuvwxyz".toList.map Char.toNat from tl_ofString _]
  unfold lowc
  rw [← Bool.decide_and]
  apply decide_eq_decide.mpr
  constructor
  · intro h
    have : ∀ c ∈ "abcdefghijklmnopqrstuvwxyz".toList.map Char.toNat, 97 ≤ c ∧ c ≤ 122 := by decide
    exact this c h
  · rintro ⟨h1, h2⟩
    have : ∀ c, c < 123 → 97 ≤ c → c ∈ "abcdefghijklmnopqrstuvwxyz".toList.map Char.toNat := by decide
    exact this c (by omega) h1
theorem is_sign_eq {N : Nat} (hN : N ≤ 16777216) {m : MV} (h : Item N m) (st : Sto) : f_is_sign [m] st = .ok (.bl (isSign m)) st := by
  cases h with
  | int i => simp [f_is_sign, b_is_sign, defM, gIsi, isSign]
  | str s hs =>
    have hl : s.length ≤ 16777216 := Nat.le_trans hs.1 hN
    have hlt := len_tl s
    by_cases h1 : s.length = 1
    · obtain ⟨c, hc⟩ := List.length_eq_one_iff.mp (hlt.symm.trans h1)
      have es : s = ⟨#[c]⟩ := ext_tl hc
      subst es
      have hm := signs_mem c
      have e1 : (⟨#[c]⟩ : Str).length = 1 := rfl
      have hz : isSign (.str ⟨#[c]⟩) = lowc c := rfl
      rw [hz, ← hm]
      simp [f_is_sign, b_is_sign, defM, gIsi, gLen, gEq_int, e1, gIn, isInM]
    · have hz : isSign (.str s) = false := by
        show (match tl s with | [c] => lowc c | _ => false) = false
        cases e : tl s with
        | nil => rfl
        | cons a r =>
          cases r with
          | nil => rw [hlt, e] at h1; exact absurd rfl h1
          | cons b q => rfl
      have h2 : ¬ ((s.length : Int) = 1) := by omega
      simp [f_is_sign, b_is_sign, defM, gIsi, gLen, hl, gEq_int, h2, hz]
/-- an alphabet -/
def rising : List Nat → Bool
  | a :: b :: r => decide (a < b) && rising (b :: r)
  | _ => true
def isAlph (s : Str) : Bool := decide (1 ≤ (tl s).length) && decide ((tl s).length ≤ 4) && (tl s).all lowc && rising (tl s)
theorem zip_rising : ∀ l : List Nat, (List.zipWith (fun a b => decide (a < b)) l (l.drop 1)).all id = rising l
  | [] => rfl
  | [a] => rfl
  | a :: b :: r => by
    have ih := zip_rising (b :: r)
    simp only [List.drop_succ_cons, List.drop_zero, List.zipWith_cons_cons, List.all_cons, rising] at ih ⊢
    rw [ih]
    rfl
theorem zip_get {xs ys : List MV} {y : MV} (h : y ∈ zipM xs ys) : ∃ a b, a ∈ xs ∧ b ∈ ys ∧ y = .tup [a, b] := by
  unfold zipM at h
  rw [List.mem_iff_getElem] at h
  obtain ⟨i, hi, e⟩ := h
  rw [List.getElem_zipWith] at e
  exact ⟨_, _, List.getElem_mem _, List.getElem_mem _, e.symm⟩
abbrev one (c : Nat) : MV := .str ⟨#[c]⟩
theorem lt_one (a b : Nat) : sLt ⟨#[a]⟩ ⟨#[b]⟩ = decide (a < b) := by
  unfold sLt
  apply decide_eq_decide.mpr
  show [a] < [b] ↔ a < b
  rw [List.cons_lt_cons_iff]
  simp
theorem one_asc {c : Nat} (h : c < 128) : Asc 1 ⟨#[c]⟩ := ⟨Nat.le_refl _, fun d hd => by simp at hd; rw [hd]; exact h⟩
theorem tl_cut1 (s : Str) : tl (cutS s (some 1) none) = (tl s).drop 1 := by
  show ((s.cps.toList.drop (HT.sIx s.length 0 (some 1))).take (HT.sIx s.length s.length none - HT.sIx s.length 0 (some 1))) = _
  have e : HT.sIx s.length 0 (some 1) = min 1 s.length := HT.sIx_nat _ _ 1
  rw [e, HT.sIx_none]
  have hl : s.cps.toList.length = s.length := by simp [Str.length]
  by_cases h : s.length = 0
  · have : s.cps.toList = [] := List.length_eq_zero_iff.mp (hl.trans h)
    simp [this]
  · have : min 1 s.length = 1 := by omega
    rw [this]
    apply List.take_of_length_le
    rw [List.length_drop, hl]
    omega
theorem is_alphabet_eq {N : Nat} (hN : N ≤ 16777216) {s : Str} (h : Asc N s) (st : Sto) : f_is_alphabet [.str s] st = .ok (.bl (isAlph s)) st := by
  have hl : s.length ≤ 16777216 := Nat.le_trans h.1 hN
  have hlt := len_tl s
  have c1 : compM (.nm 1) tYesM (mFn 1 f_is_sign (aCons (mVar 1) aNil)) (s.cps.toList.map fun c => .str ⟨#[c]⟩) [some (.str s), none, none, none] [] st = .ok ([] ++ (s.cps.toList.map fun c => .str ⟨#[c]⟩).map fun m => .bl (isSign m)) st := by
    apply compM_map
    · intro y hy
      obtain ⟨c, hc, rfl⟩ := List.mem_map.mp hy
      refine ⟨_, rfl, ?_⟩
      simp [is_sign_eq (Nat.le_of_ble_eq_true rfl : 1 ≤ 16777216) (Item.str _ (one_asc (h.2 c hc)))]
    · simp; exact hl
  have e1 : ((s.cps.toList.map fun c => (MV.str ⟨#[c]⟩)).map fun m => MV.bl (isSign m)) = ((tl s).map lowc).map MV.bl := by
    rw [List.map_map, List.map_map]
    rfl
  have e2 : ((tl s).map lowc).all id = (tl s).all lowc := by rw [List.all_map]; rfl
  rcases Classical.em (1 ≤ s.length) with g1 | g1
  case inr =>
    have z : isAlph s = false := by unfold isAlph; rw [← hlt, decide_eq_false g1]; rfl
    rw [z]
    have g1' : ¬ (1 ≤ (s.length : Int)) := by omega
    simp [f_is_alphabet, b_is_alphabet, defM, gIsi, gLe, gOrd, gLen, hl, g1']
  rcases Classical.em (s.length ≤ 4) with g2 | g2
  case inr =>
    have z : isAlph s = false := by unfold isAlph; rw [← hlt, decide_eq_false g2]; simp
    rw [z]
    have g1' : (1 ≤ (s.length : Int)) := by omega
    have g2' : ¬ ((s.length : Int) ≤ 4) := by omega
    simp [f_is_alphabet, b_is_alphabet, defM, gIsi, gLe, gOrd, gLen, hl, g1', g2']
  have g1' : (1 ≤ (s.length : Int)) := by omega
  have g2' : ((s.length : Int) ≤ 4) := by omega
  rw [e1, List.nil_append] at c1
  cases g3 : (tl s).all lowc with
  | false =>
    have z : isAlph s = false := by unfold isAlph; rw [g3]; simp
    rw [z]
    rw [g3] at e2
    simp [f_is_alphabet, b_is_alphabet, defM, gIsi, gLe, gOrd, gLen, hl, g1', g2', c1, gAll_map, e2, -List.map_map, -List.all_map]
  | true =>
    rw [g3] at e2
    have z : isAlph s = rising (tl s) := by unfold isAlph; rw [g3, ← hlt, decide_eq_true g1, decide_eq_true g2]; rfl
    rw [z]
    have hcut : (cutS s (some 1) none).cps.toList = (tl s).drop 1 := tl_cut1 s
    let g : MV → MV := fun m => match m with | .tup [.str a, .str b] => .bl (sLt a b) | _ => .non
    have c2 : compM (.tp [2, 3]) tYesM (m2 gLt (mVar 2) (mVar 3)) (zipM (s.cps.toList.map fun c => .str ⟨#[c]⟩) ((cutS s (some 1) none).cps.toList.map fun c => .str ⟨#[c]⟩)) [some (.str s), none, none, none] [] st =
        .ok ([] ++ (zipM (s.cps.toList.map fun c => .str ⟨#[c]⟩) ((cutS s (some 1) none).cps.toList.map fun c => .str ⟨#[c]⟩)).map g) st := by
      apply compM_map
      · intro y hy
        obtain ⟨a, b, ha, hb, rfl⟩ := zip_get hy
        obtain ⟨c, hc, rfl⟩ := List.mem_map.mp ha
        obtain ⟨d, hd, rfl⟩ := List.mem_map.mp hb
        exact ⟨[some (.str s), none, some (one c), some (one d)], rfl, rfl⟩
      · simp only [zipM, List.length_zipWith, List.length_map, List.length_nil]
        have : s.cps.toList.length = s.length := by simp [Str.length]
        omega
    have e3 : (zipM (s.cps.toList.map fun c => (MV.str ⟨#[c]⟩)) ((cutS s (some 1) none).cps.toList.map fun c => (MV.str ⟨#[c]⟩))).map g = (List.zipWith (fun a b => decide (a < b)) (tl s) ((tl s).drop 1)).map MV.bl := by
      rw [hcut]
      unfold zipM
      rw [List.zipWith_map, List.map_zipWith, List.map_zipWith]
      congr 1
      funext a b
      show MV.bl (sLt ⟨#[a]⟩ ⟨#[b]⟩) = _
      rw [lt_one]
    rw [e3, List.nil_append] at c2
    have e4 := zip_rising (tl s)
    rw [List.drop_one] at e4
    simp [f_is_alphabet, b_is_alphabet, defM, gIsi, gLe, gOrd, gLen, hl, g1', g2', c1, gAll_map, e2, gSlice, c2, e4, -List.map_map, -List.all_map, -List.map_zipWith]
theorem mem_one {al : Str} {c : Nat} : decide (c ∈ al.cps.toList) = decide (c ∈ tl al) := rfl
def isLetter (al : Str) (m : MV) : Bool := match m with
  | .str s => match tl s with
    | [c] => lowc c && decide (c ∈ tl al)
    | _ => false
  | _ => false
theorem str_one (s : Str) : (∃ c, s = ⟨#[c]⟩) ∨ (isSign (.str s) = false ∧ ∀ al, isLetter al (.str s) = false) := by
  cases e : tl s with
  | nil =>
    refine .inr ⟨?_, fun al => ?_⟩
    · show (match tl s with | [c] => lowc c | _ => false) = false
      rw [e]
    · show (match tl s with | [c] => lowc c && decide (c ∈ tl al) | _ => false) = false
      rw [e]
  | cons a r =>
    cases r with
    | nil => exact .inl ⟨a, ext_tl e⟩
    | cons b q =>
      refine .inr ⟨?_, fun al => ?_⟩
      · show (match tl s with | [c] => lowc c | _ => false) = false
        rw [e]
      · show (match tl s with | [c] => lowc c && decide (c ∈ tl al) | _ => false) = false
        rw [e]
theorem is_letter_eq {N : Nat} (hN : N ≤ 16777216) {al : Str} {m : MV} (h : Item N m) (st : Sto) : f_is_letter [.str al, m] st = .ok (.bl (isLetter al m)) st := by
  have h0 := is_sign_eq hN h st
  cases h with
  | int i =>
    have e0 : isSign (.int i) = false := rfl
    have e1 : isLetter al (.int i) = false := rfl
    simp [f_is_letter, b_is_letter, defM, h0, e0, e1]
  | str s hs =>
    rcases str_one s with ⟨c, rfl⟩ | ⟨e0, e1⟩
    · have e0 : isLetter al (.str ⟨#[c]⟩) = (lowc c && decide (c ∈ tl al)) := rfl
      have e1 : isSign (.str ⟨#[c]⟩) = lowc c := rfl
      rw [e0]
      rw [e1] at h0
      cases hc : lowc c with
      | false => rw [hc] at h0; simp [f_is_letter, b_is_letter, defM, h0]
      | true => rw [hc] at h0; simp [f_is_letter, b_is_letter, defM, h0, gIn, isInM]
    · rw [e0] at h0
      simp [f_is_letter, b_is_letter, defM, h0, e1 al]
/-! ### rows -/
def isRow (al : Str) (place : Int) (row : List MV) : Bool := match row with
  | .str k :: ps => if k = Str.ofString "letter" then (match ps with | [m] => isLetter al m | _ => false)
    else if k = Str.ofString "then" then (match ps with | [a, b] => isInt a 0 (place - 1) && isInt b 0 (place - 1) | _ => false)
    else if k = Str.ofString "pump" then (match ps with | [m] => isInt m 0 (place - 1) | _ => false) else false
  | _ => false
/-- a row of items, at least one, the first a text -/
structure RowOk (N : Nat) (row : List MV) : Prop where
  items : ∀ m ∈ row, Item N m
  len : row.length ≤ 16000
theorem toD_item {N : Nat} {m : MV} (h : Item N m) : ∃ d, toD m = some d ∧ d.canLay0 = true ∧ d.depth = 0 := by
  cases h with
  | int i => exact ⟨.int i, rfl, by simp [PyData.canLay0], by simp [PyData.depth]⟩
  | str s hs => exact ⟨.str s, rfl, hs.ok, by simp [PyData.depth]⟩
theorem toDs_items {N : Nat} : ∀ {row : List MV}, (∀ m ∈ row, Item N m) → ∃ ds, toDs row = some ds ∧ PyData.canLayAll0 ds = true ∧ PyData.depthAll ds = 0 ∧ ds.length = row.length
  | [], _ => ⟨[], rfl, by simp [PyData.canLayAll0], by simp [PyData.depthAll], rfl⟩
  | m :: r, h => by
    obtain ⟨d, e1, e2, e3⟩ := toD_item (h m List.mem_cons_self)
    obtain ⟨ds, f1, f2, f3, f4⟩ := toDs_items (fun x hx => h x (List.mem_cons_of_mem _ hx))
    exact ⟨d :: ds, by simp [toDs, e1, f1], by simp [PyData.canLayAll0, e2, f2], by simp [PyData.depthAll, e3, f3], by simp [f4]⟩
theorem gEq_rowNil {N : Nat} {row : List MV} (h : ∀ m ∈ row, Item N m) (st : Sto) : gEq (.tup row) (.tup []) st = .ok (.bl (decide (row = []))) st := by
  obtain ⟨ds, e1, e2, e3, e4⟩ := toDs_items h
  have s1 : SeqAt.shaped (.tuple ds) = true := by
    unfold SeqAt.shaped
    simp [PyData.canLay0, PyData.depth, e2, e3]
  have s2 : SeqAt.shaped (.tuple []) = true := by decide
  have e5 : PyData.eqv (.tuple ds) (.tuple []) = decide (row = []) := by
    cases row with
    | nil =>
      have : ds = [] := List.length_eq_zero_iff.mp e4
      subst this
      rfl
    | cons m r =>
      cases ds with
      | nil => cases e4
      | cons d ds => rfl
  simp [gEq, topD, toD, e1, toDs, s1, s2, e5]
end K84

namespace K84
open PySem L2 TL MR
theorem gIx0 (m : MV) (ps : List MV) (st : Sto) : gIx (.lst (m :: ps)) (.int 0) st = .ok m st := by
  simp [gIx, atI, ixN]
theorem gIxT0 (m : MV) (ps : List MV) (st : Sto) : gIx (.tup (m :: ps)) (.int 0) st = .ok m st := by
  simp [gIx, atI, ixN]
theorem gLenL (ps : List MV) (st : Sto) : gLen [.lst ps] st = .ok (.int ps.length) st := by simp [gLen]
theorem gLenT (ps : List MV) (st : Sto) : gLen [.tup ps] st = .ok (.int ps.length) st := by simp [gLen]
abbrev sLetter : Str := Str.ofString "letter"
abbrev sThen : Str := Str.ofString "then"
abbrev sPump : Str := Str.ofString "pump"
theorem asc_letter : Asc 6 sLetter := asc_lit
theorem asc_then : Asc 6 sThen := asc_lit
theorem asc_pump : Asc 6 sPump := asc_lit
theorem isRow_cons (al : Str) (place : Int) (k : Str) (ps : List MV) : isRow al place (.str k :: ps) = (if k = sLetter then (match ps with | [m] => isLetter al m | _ => false)
    else if k = sThen then (match ps with | [a, b] => isInt a 0 (place - 1) && isInt b 0 (place - 1) | _ => false)
    else if k = sPump then (match ps with | [m] => isInt m 0 (place - 1) | _ => false) else false) := rfl
theorem is_recipe_row_eq {N : Nat} (hN : N ≤ 16777216) {al : Str} {place : Int} {row : List MV} (h : RowOk N row) (st : Sto) : f_is_recipe_row [.str al, .int place, .tup row] st = .ok (.bl (isRow al place row)) st := by
  cases row with
  | nil =>
    have e0 := gEq_rowNil h.items st
    have e1 : isRow al place [] = false := rfl
    rw [e1]
    simp [f_is_recipe_row, b_is_recipe_row, defM, gIsi, e0]
  | cons m ps =>
    have e0 := gEq_rowNil h.items st
    rw [decide_eq_false (by simp)] at e0
    have hm := h.items m List.mem_cons_self
    have hps : ∀ x ∈ ps, Item N x := fun x hx => h.items x (List.mem_cons_of_mem _ hx)
    have hl : ps.length < 16384 := by have := h.len; simp at this; omega
    cases hm with
    | int i =>
      have e1 : isRow al place (.int i :: ps) = false := rfl
      rw [e1]
      simp [f_is_recipe_row, b_is_recipe_row, defM, gIsi, e0, gIxT0]
    | str k hk =>
      have q1 := gEq_str hk asc_letter st
      have q2 := gEq_str hk asc_then st
      have q3 := gEq_str hk asc_pump st
      have e1 := isRow_cons al place k ps
      rw [e1]
      by_cases k1 : k = sLetter
      · rw [decide_eq_true k1] at q1
        rw [if_pos k1]
        cases ps with
        | nil => simp [f_is_recipe_row, b_is_recipe_row, defM, gIsi, e0, gIxT0, q1, gLenL, gEq_int]
        | cons a r =>
          cases r with
          | nil => simp [f_is_recipe_row, b_is_recipe_row, defM, gIsi, e0, gIxT0, q1, gLenL, gEq_int, gIx0, is_letter_eq hN (hps a List.mem_cons_self)]
          | cons b r =>
            have n1 : ¬ ((r.length : Int) + 1 + 1 = 1) := by omega
            simp at hl
            simp [f_is_recipe_row, b_is_recipe_row, defM, gIsi, e0, gIxT0, q1, gLenL, gEq_int, n1, hl]
      · rw [decide_eq_false k1] at q1
        rw [if_neg k1]
        by_cases k2 : k = sThen
        · rw [decide_eq_true k2] at q2
          rw [if_pos k2]
          cases ps with
          | nil => simp [f_is_recipe_row, b_is_recipe_row, defM, gIsi, e0, gIxT0, q1, q2, gLenL, gEq_int]
          | cons a r =>
            cases r with
            | nil => simp [f_is_recipe_row, b_is_recipe_row, defM, gIsi, e0, gIxT0, q1, q2, gLenL, gEq_int]
            | cons b r =>
              cases r with
              | nil =>
                have c1 : compM (.nm 5) tYesM (mFn 3 f_is_integer (aCons (mVar 5) (aCons (mC (.int 0)) (aCons (m2 MR.gSub (mVar 1) (mC (.int 1))) aNil)))) [a, b] [some (.str al), some (.int place), some (.tup [.str k, a, b]), some (.str k), some (.lst [a, b]), none] [] st = .ok ([] ++ [a, b].map fun m => .bl (isInt m 0 (place - 1))) st := by
                  apply compM_map
                  · intro y hy
                    refine ⟨_, rfl, ?_⟩
                    simp [MR.gSub, gI, is_integer_eq (hps y hy)]
                  · simp
                have ga : ∀ x y : Bool, gAll [.lst [.bl x, .bl y]] st = .ok (.bl (x && y)) st := fun x y => by have z := gAll_map [x, y] st; simpa using z
                simp only [List.nil_append, List.map_cons, List.map_nil] at c1
                simp [f_is_recipe_row, b_is_recipe_row, defM, gIsi, e0, gIxT0, q1, q2, gLenL, gEq_int, c1, ga]
              | cons d r =>
                have n1 : ¬ ((r.length : Int) + 1 + 1 + 1 = 2) := by omega
                simp at hl
                simp [f_is_recipe_row, b_is_recipe_row, defM, gIsi, e0, gIxT0, q1, q2, gLenL, gEq_int, n1, hl]
        · rw [decide_eq_false k2] at q2
          rw [if_neg k2]
          by_cases k3 : k = sPump
          · rw [decide_eq_true k3] at q3
            rw [if_pos k3]
            cases ps with
            | nil => simp [f_is_recipe_row, b_is_recipe_row, defM, gIsi, e0, gIxT0, q1, q2, q3, gLenL, gEq_int]
            | cons a r =>
              cases r with
              | nil => simp [f_is_recipe_row, b_is_recipe_row, defM, gIsi, e0, gIxT0, q1, q2, q3, gLenL, gEq_int, gIx0, MR.gSub, gI, is_integer_eq (hps a List.mem_cons_self)]
              | cons b r =>
                have n1 : ¬ ((r.length : Int) + 1 + 1 = 1) := by omega
                simp at hl
                simp [f_is_recipe_row, b_is_recipe_row, defM, gIsi, e0, gIxT0, q1, q2, q3, gLenL, gEq_int, n1, hl]
          · rw [decide_eq_false k3] at q3
            rw [if_neg k3]
            simp [f_is_recipe_row, b_is_recipe_row, defM, gIsi, e0, gIxT0, q1, q2, q3, gLenL, gEq_int, hl]
end K84

namespace K84
open PySem L2 TL MR
/-! ### recipes -/
def rowsL (al : Str) : Nat → List (List MV) → List Bool
  | _, [] => []
  | k, r :: rs => isRow al k r :: rowsL al (k + 1) rs
def isRec (al : Str) (rows : List (List MV)) : Bool := decide (1 ≤ rows.length) && decide (rows.length ≤ 400) && (rowsL al 0 rows).all id
theorem enum_mem {y : MV} : ∀ {k : Nat} {xs : List MV}, y ∈ enumFrom k xs → ∃ j : Nat, ∃ x ∈ xs, y = .tup [.int j, x]
  | _, [], h => by cases h
  | k, x :: xs, h => by
    rcases List.mem_cons.mp h with h | h
    · exact ⟨k, x, List.mem_cons_self, h⟩
    · obtain ⟨j, z, hz, e⟩ := enum_mem h
      exact ⟨j, z, List.mem_cons_of_mem _ hz, e⟩
def gRow (al : Str) (m : MV) : MV := match m with
  | .tup [.int k, .tup r] => .bl (isRow al k r)
  | _ => .non
theorem enum_map (al : Str) : ∀ (k : Nat) (rows : List (List MV)), (enumFrom k (rows.map .tup)).map (gRow al) = (rowsL al k rows).map .bl
  | _, [] => rfl
  | k, r :: rs => by
    show gRow al (.tup [.int k, .tup r]) :: (enumFrom (k + 1) (rs.map .tup)).map (gRow al) = .bl (isRow al k r) :: (rowsL al (k + 1) rs).map .bl
    rw [enum_map al (k + 1) rs]
    rfl
theorem is_recipe_in_eq {N : Nat} (hN : N ≤ 16777216) {al : Str} {rows : List (List MV)} (h : ∀ r ∈ rows, RowOk N r) (st : Sto) : f_is_recipe_in [.str al, .tup (rows.map .tup)] st = .ok (.bl (isRec al rows)) st := by
  by_cases g1 : 1 ≤ rows.length
  case neg =>
    have z : isRec al rows = false := by unfold isRec; rw [decide_eq_false g1]; rfl
    rw [z]
    have g1' : ¬ (1 ≤ (rows.length : Int)) := by omega
    simp [f_is_recipe_in, b_is_recipe_in, defM, gIsi, gLe, gOrd, gLenT, g1']
  by_cases g2 : rows.length ≤ 400
  case neg =>
    have z : isRec al rows = false := by unfold isRec; rw [decide_eq_false g2]; simp
    rw [z]
    have g1' : (1 ≤ (rows.length : Int)) := by omega
    have g2' : ¬ ((rows.length : Int) ≤ 400) := by omega
    simp [f_is_recipe_in, b_is_recipe_in, defM, gIsi, gLe, gOrd, gLenT, g1', g2']
  have g1' : (1 ≤ (rows.length : Int)) := by omega
  have g2' : ((rows.length : Int) ≤ 400) := by omega
  have c1 : compM (.tp [2, 3]) tYesM (mFn 3 f_is_recipe_row (aCons (mVar 0) (aCons (mVar 2) (aCons (mVar 3) aNil)))) (enumFrom 0 (rows.map .tup)) [some (.str al), some (.tup (rows.map .tup)), none, none] [] st =
      .ok ([] ++ (enumFrom 0 (rows.map .tup)).map (gRow al)) st := by
    apply compM_map
    · intro y hy
      obtain ⟨j, x, hx, rfl⟩ := enum_mem hy
      obtain ⟨r, hr, rfl⟩ := List.mem_map.mp hx
      refine ⟨[some (.str al), some (.tup (rows.map .tup)), some (.int j), some (.tup r)], rfl, ?_⟩
      simp [is_recipe_row_eq hN (h r hr), gRow]
    · rw [enumFrom_length]
      simp
      omega
  rw [enum_map, List.nil_append] at c1
  have z : isRec al rows = (rowsL al 0 rows).all id := by unfold isRec; rw [decide_eq_true g1, decide_eq_true g2]; rfl
  rw [z]
  simp [f_is_recipe_in, b_is_recipe_in, defM, gIsi, gLe, gOrd, gLenT, g1', g2', c1, gAll_map, -List.map_map, -List.all_map]
theorem is_recipe_eq {N M : Nat} (hN : N ≤ 16777216) (hM : M ≤ 16777216) {al : Str} (ha : Asc M al) (hal : isAlph al = true) {rows : List (List MV)} (h : ∀ r ∈ rows, RowOk N r) (st : Sto) : f_is_recipe [.str al, .tup (rows.map .tup)] st = .ok (.bl (isRec al rows)) st := by
  have e0 := is_alphabet_eq hM ha st
  rw [hal] at e0
  simp [f_is_recipe, b_is_recipe, defM, e0, is_recipe_in_eq hN h]
/-! ### numbers -/
def dig (c : Nat) : Bool := decide (48 ≤ c) && decide (c ≤ 57)
def numO (p : Str) : Option Nat := if (decide (1 ≤ (tl p).length) && decide ((tl p).length ≤ 6) && (tl p).all dig && (decide (tl p = [48]) || !decide ((tl p).head? = some 48))) = true then some (NumText.digitsVal (tl p)) else none
theorem digs_lt : ∀ (l : List Nat) (acc : Nat), (∀ c ∈ l, 48 ≤ c ∧ c ≤ 57) → l.foldl (fun acc c => acc * 10 + (c - 48)) acc < (acc + 1) * 10 ^ l.length
  | [], acc, _ => by simp
  | c :: l, acc, h => by
    have h1 := h c List.mem_cons_self
    have ih := digs_lt l (acc * 10 + (c - 48)) fun d hd => h d (List.mem_cons_of_mem _ hd)
    refine Nat.lt_of_lt_of_le ih ?_
    rw [List.length_cons, Nat.pow_succ, Nat.mul_comm (10 ^ l.length) 10, ← Nat.mul_assoc]
    exact Nat.mul_le_mul_right _ (by omega)
theorem all_dig {l : List Nat} : l.all dig = true ↔ NumText.AllDigits l := by
  rw [List.all_eq_true]
  unfold NumText.AllDigits dig
  constructor
  · intro h c hc
    have := h c hc
    simpa using this
  · intro h c hc
    have := h c hc
    simpa using this
theorem numO_some {p : Str} {n : Nat} (h : numO p = some n) : p = numS n ∧ n < 10 ^ 6 := by
  unfold numO at h
  split at h
  · rename_i c
    simp only [Bool.and_eq_true, Bool.or_eq_true, decide_eq_true_eq, Bool.not_eq_true', decide_eq_false_iff_not] at c
    obtain ⟨⟨⟨c1, c2⟩, c3⟩, c4⟩ := c
    have d := all_dig.mp c3
    cases h
    refine ⟨numS_of d (fun e => by rw [e] at c1; simp at c1) c4, ?_⟩
    have := digs_lt (tl p) 0 d
    unfold NumText.digitsVal
    refine Nat.lt_of_lt_of_le this ?_
    rw [Nat.zero_add, Nat.one_mul]
    exact Nat.pow_le_pow_right (by decide) c2
  · cases h
theorem numL_head (n : Nat) : numL n = [48] ∨ (numL n).head? ≠ some 48 := by
  induction n using Nat.strongRecOn with
  | _ n ih =>
    by_cases h : n < 10
    · rw [numL_lt h]
      by_cases z : n = 0
      · subst z; exact .inl rfl
      · right
        simp
        omega
    · right
      rw [numL_step (by omega)]
      rcases ih (n / 10) (by omega) with e | e
      · have : numL (n / 10) = numL 0 := by rw [e, numL_lt (by decide)]
        have := numL_inj this
        omega
      · have hne := numL_ne (n / 10)
        cases q : numL (n / 10) with
        | nil => exact absurd q hne
        | cons a r => rw [q] at e; simpa using e
theorem numO_numS {n : Nat} (h : n < 10 ^ 6) : numO (numS n) = some n := by
  unfold numO
  rw [tl_numS]
  have h1 : 1 ≤ (numL n).length := List.length_pos_iff.mpr (numL_ne n)
  have h2 : (numL n).length ≤ 6 := numL_len (by decide) h
  have h3 := all_dig.mpr (numL_digits n)
  rw [decide_eq_true h1, decide_eq_true h2, h3, numL_val]
  rcases numL_head n with e | e
  · simp [e]
  · simp [e]
theorem digits_mem (c : Nat) : decide (c ∈ (Str.ofString "0123456789").cps.toList) = dig c := by
  rw [show (Str.ofString "0123456789").cps.toList = "0123456789".toList.map Char.toNat from tl_ofString _]
  unfold dig
  rw [← Bool.decide_and]
  apply decide_eq_decide.mpr
  constructor
  · intro h
    have : ∀ c ∈ "0123456789".toList.map Char.toNat, 48 ≤ c ∧ c ≤ 57 := by decide
    exact this c h
  · rintro ⟨h1, h2⟩
    have : ∀ c, c < 58 → 48 ≤ c → c ∈ "0123456789".toList.map Char.toNat := by decide
    exact this c (by omega) h1
theorem lit0 : Str.ofString "0" = ⟨#[48]⟩ := ext_tl (tl_ofString "0")
def gDig (m : MV) : MV := match m with
  | .str s => .bl (dig (s.cps.getD 0 0))
  | _ => .non
theorem number_of_eq {N : Nat} (hN : N ≤ 16777216) {p : Str} (h : Asc N p) (st : Sto) : f_number_of [.str p] st = match numO p with | some n => .ok (.int n) st | none => .exc "ParseError" st := by
  have hl : p.length ≤ 16777216 := Nat.le_trans h.1 hN
  have hlt := len_tl p
  by_cases g1 : 1 ≤ p.length
  case neg =>
    have z : numO p = none := by unfold numO; rw [← hlt, decide_eq_false g1]; rfl
    rw [z]
    have g1' : ¬ (1 ≤ (p.length : Int)) := by omega
    simp [f_number_of, b_number_of, defM, gLe, gOrd, gLen, hl, g1']
  by_cases g2 : p.length ≤ 6
  case neg =>
    have z : numO p = none := by unfold numO; rw [← hlt, decide_eq_false g2]; simp
    rw [z]
    have g1' : (1 ≤ (p.length : Int)) := by omega
    have g2' : ¬ ((p.length : Int) ≤ 6) := by omega
    simp [f_number_of, b_number_of, defM, gLe, gOrd, gLen, hl, g1', g2']
  have g1' : (1 ≤ (p.length : Int)) := by omega
  have g2' : ((p.length : Int) ≤ 6) := by omega
  have c1 : compM (.nm 1) tYesM (m2 gIn (mVar 1) (mC (.str "0123456789"))) (p.cps.toList.map fun c => MV.str ⟨#[c]⟩) [some (.str p), none] [] st = .ok ([] ++ (p.cps.toList.map fun c => MV.str ⟨#[c]⟩).map gDig) st := by
    apply compM_map
    · intro y hy
      obtain ⟨c, hc, rfl⟩ := List.mem_map.mp hy
      refine ⟨_, rfl, ?_⟩
      have q := digits_mem c
      have q2 : isInM (.str ⟨#[c]⟩) (.str "0123456789") st = some (dig c) := by
        show (if (#[c] : Array Nat).size = 1 then some (decide (c ∈ (Str.ofString "0123456789").cps.toList)) else none) = _
        rw [q]
        rfl
      simp [gIn, q2, gDig]
    · simp; exact hl
  have e1 : ((p.cps.toList.map fun c => (MV.str ⟨#[c]⟩)).map gDig) = ((tl p).map dig).map MV.bl := by
    rw [List.map_map, List.map_map]
    rfl
  have e2 : ((tl p).map dig).all id = (tl p).all dig := by rw [List.all_map]; rfl
  rw [e1, List.nil_append] at c1
  cases g3 : (tl p).all dig with
  | false =>
    have z : numO p = none := by unfold numO; rw [g3]; simp
    rw [z]
    rw [g3] at e2
    simp [f_number_of, b_number_of, defM, gLe, gOrd, gLen, hl, g1', g2', c1, gAll_map, e2, -List.map_map, -List.all_map]
  | true =>
    rw [g3] at e2
    obtain ⟨a, r, ep⟩ : ∃ a r, tl p = a :: r := by
      cases q : tl p with
      | nil => rw [q] at hlt; simp at hlt; omega
      | cons a r => exact ⟨a, r, rfl⟩
    have ix : gIx (.str p) (.int 0) st = .ok (.str ⟨#[a]⟩) st := by
      have : atI p.cps.toList 0 = some a := by rw [show p.cps.toList = a :: r from ep]; simp [atI, ixN]
      simp [gIx, hl, this]
    have ha : a < 128 := h.2 a (by rw [ep]; exact List.mem_cons_self)
    have q1 := gNe_str h (asc_lit (s := "0") (n := 1)) st
    have q2 := gEq_str (one_asc ha) (asc_lit (s := "0") (n := 1)) st
    have k1 : (p = Str.ofString "0") ↔ tl p = [48] := by rw [lit0]; exact ⟨fun e => by rw [e], fun e => ext_tl e⟩
    have k2 : ((⟨#[a]⟩ : Str) = Str.ofString "0") ↔ a = 48 := by rw [lit0]; simp
    have k3 : (tl p).head? = some 48 ↔ a = 48 := by rw [ep]; simp
    have hi : numO p = some (NumText.digitsVal (tl p)) → gInt [.str p] st = .ok (.int (NumText.digitsVal (tl p) : Nat)) st := fun hz => by
      obtain ⟨z1, z2⟩ := numO_some hz
      have := int_numS z2
      rw [← z1] at this
      have h6 : p.length ≤ 640 := by omega
      simp [gInt, this, h6]
    by_cases g4 : tl p = [48]
    · have z : numO p = some (NumText.digitsVal (tl p)) := by unfold numO; rw [← hlt, g3, decide_eq_true g1, decide_eq_true g2, decide_eq_true g4]; rfl
      have hi := hi z
      rw [z]
      rw [decide_eq_true (k1.mpr g4)] at q1
      simp [f_number_of, b_number_of, defM, gLe, gOrd, gLen, hl, g1', g2', c1, gAll_map, e2, q1, hi, -List.map_map, -List.all_map]
    · rw [decide_eq_false (fun e => g4 (k1.mp e))] at q1
      by_cases g5 : a = 48
      · have z : numO p = none := by unfold numO; rw [decide_eq_false g4, decide_eq_true (k3.mpr g5)]; simp
        rw [z]
        rw [decide_eq_true (k2.mpr g5)] at q2
        simp [f_number_of, b_number_of, defM, gLe, gOrd, gLen, hl, g1', g2', c1, gAll_map, e2, q1, ix, q2, -List.map_map, -List.all_map]
      · have z : numO p = some (NumText.digitsVal (tl p)) := by unfold numO; rw [← hlt, g3, decide_eq_true g1, decide_eq_true g2, decide_eq_false (fun e => g5 (k3.mp e))]; simp
        have hi := hi z
        rw [z]
        rw [decide_eq_false (fun e => g5 (k2.mp e))] at q2
        simp [f_number_of, b_number_of, defM, gLe, gOrd, gLen, hl, g1', g2', c1, gAll_map, e2, q1, ix, q2, hi, -List.map_map, -List.all_map]
end K84

namespace K84
open PySem L2 TL MR
/-! ### a text cut at a sign -/
def cutAt (c : Nat) (t : Str) : List Str := (spl [c] 0 [] (tl t)).map fun l => ⟨l.toArray⟩
theorem cutAt_tl (c : Nat) (t : Str) : (cutAt c t).map tl = spl [c] 0 [] (tl t) := by
  unfold cutAt
  rw [List.map_map]
  conv => rhs; rw [← List.map_id (spl [c] 0 [] (tl t))]
  rfl
theorem split_cut {c : Nat} (hc : c < 256) (t : Str) : Txt.split t ⟨#[c]⟩ = cutAt c t := by
  apply map_tl_inj
  rw [cutAt_tl, split_spl t ⟨#[c]⟩ (by simp) (kind_ok (by simp [hc]))]
theorem spl_sub (c : Nat) : ∀ (l acc : List Nat), ∀ q ∈ spl [c] 0 acc l, q.length ≤ acc.length + l.length ∧ ∀ d ∈ q, d ∈ acc ∨ d ∈ l
  | [], acc, q, h => by
    rw [spl_nil] at h
    simp at h
    subst h
    exact ⟨by simp, fun d hd => .inl hd⟩
  | a :: l, acc, q, h => by
    cases hp : pre [c] (a :: l) with
    | true =>
      rw [spl_hit hp] at h
      rcases List.mem_cons.mp h with h | h
      · subst h
        exact ⟨by simp, fun d hd => .inl hd⟩
      · obtain ⟨h1, h2⟩ := spl_sub c l [] q h
        refine ⟨by simp at h1 ⊢; omega, fun d hd => ?_⟩
        rcases h2 d hd with z | z
        · cases z
        · exact .inr (List.mem_cons_of_mem _ z)
    | false =>
      rw [spl_miss hp] at h
      obtain ⟨h1, h2⟩ := spl_sub c l (acc ++ [a]) q h
      refine ⟨by simp at h1 ⊢; omega, fun d hd => ?_⟩
      rcases h2 d hd with z | z
      · rcases List.mem_append.mp z with z | z
        · exact .inl z
        · exact .inr (by rw [List.mem_singleton.mp z]; exact List.mem_cons_self)
      · exact .inr (List.mem_cons_of_mem _ z)
theorem spl_count (c : Nat) : ∀ (l acc : List Nat), 1 ≤ (spl [c] 0 acc l).length ∧ (spl [c] 0 acc l).length ≤ l.length + 1
  | [], acc => by rw [spl_nil]; simp
  | a :: l, acc => by
    cases hp : pre [c] (a :: l) with
    | true =>
      rw [spl_hit hp]
      have := spl_count c l []
      simp only [List.length_cons, List.length_nil, Nat.zero_add, Nat.sub_self]
      omega
    | false =>
      rw [spl_miss hp]
      have := spl_count c l (acc ++ [a])
      simp only [List.length_cons]
      omega
theorem cut_asc {c N : Nat} {t p : Str} (h : Asc N t) (hp : p ∈ cutAt c t) : Asc N p := by
  obtain ⟨l, hl, rfl⟩ := List.mem_map.mp hp
  obtain ⟨h1, h2⟩ := spl_sub c _ _ l hl
  refine ⟨?_, fun d hd => ?_⟩
  · have := h.1
    rw [len_tl] at this ⊢
    simp at h1 ⊢
    simp at this
    omega
  · rcases h2 d hd with z | z
    · cases z
    · exact h.2 d z
theorem cut_len {c N : Nat} {t : Str} (h : Asc N t) : 1 ≤ (cutAt c t).length ∧ (cutAt c t).length ≤ N + 1 := by
  unfold cutAt
  rw [List.length_map]
  have h1 := spl_count c (tl t) []
  have h2 := h.1
  rw [len_tl] at h2
  omega
theorem litN : Str.ofString "\n" = ⟨#[10]⟩ := ext_tl (tl_ofString "\n")
theorem litS : Str.ofString " " = ⟨#[32]⟩ := ext_tl (tl_ofString " ")
abbrev sts (l : List Str) : List MV := l.map .str
theorem gSplit_nl {t : Str} (h : Asc 8000 t) (st : Sto) : gSplit (.str t) [.str (Str.ofString "\n")] st = .ok (.lst (sts (cutAt 10 t))) st := by
  have h1 : t.length + 2 ≤ 16777216 := by have := h.1; omega
  rw [litN]
  show (if (⟨#[10]⟩ : Str).length ≠ 0 ∧ t.length + 2 ≤ 16777216 then Res.ok (MV.lst ((Txt.split t ⟨#[10]⟩).map .str)) st else .bad) = _
  rw [if_pos ⟨by decide, h1⟩, split_cut (by decide)]
theorem gSplit_sp {t : Str} (h : Asc 8000 t) (st : Sto) : gSplit (.str t) [.str (Str.ofString " ")] st = .ok (.lst (sts (cutAt 32 t))) st := by
  have h1 : t.length + 2 ≤ 16777216 := by have := h.1; omega
  rw [litS]
  show (if (⟨#[32]⟩ : Str).length ≠ 0 ∧ t.length + 2 ≤ 16777216 then Res.ok (MV.lst ((Txt.split t ⟨#[32]⟩).map .str)) st else .bad) = _
  rw [if_pos ⟨by decide, h1⟩, split_cut (by decide)]
@[simp] theorem isStr_str (a : Str) (st : Sto) : isStr (.str a) st = true := rfl
theorem lines_of_eq {t : Str} (h : Asc 8000 t) (st : Sto) : f_lines_of [.str t] st = .ok (.lst ((cutAt 10 t).map fun l => .lst (sts (cutAt 32 l)))) st := by
  have c1 : compM (.nm 1) tYesM (mMethT isStr gSplit (mVar 1) (aCons (mC (.str " ")) aNil)) (sts (cutAt 10 t)) [some (.str t), none] [] st = .ok ([] ++ (sts (cutAt 10 t)).map fun m => match m with | .str l => .lst (sts (cutAt 32 l)) | _ => .non) st := by
    apply compM_map
    · intro y hy
      obtain ⟨l, hl, rfl⟩ := List.mem_map.mp hy
      refine ⟨_, rfl, ?_⟩
      simp [gSplit_sp (cut_asc h hl)]
    · have := (cut_len (c := 10) h).2
      simp
      omega
  have e1 : ((sts (cutAt 10 t)).map fun m => match m with | .str l => MV.lst (sts (cutAt 32 l)) | _ => .non) = (cutAt 10 t).map fun l => .lst (sts (cutAt 32 l)) := by
    rw [List.map_map]
    rfl
  rw [e1, List.nil_append] at c1
  simp [f_lines_of, b_lines_of, defM, gIsi, gSplit_nl h, c1, -List.map_map]
/-! ### rows -/
def rowO : List Str → Option (List MV)
  | [] => none
  | k :: ps => if k = sLetter then some (.str k :: sts ps) else (ps.mapM numO).map fun ns => .str k :: ns.map fun (n : Nat) => .int n
theorem mapM_num (l : List Str) : (sts l).mapM (fun m => match m with | .str p => (numO p).map fun (n : Nat) => MV.int n | _ => none) = (l.mapM numO).map fun ns => ns.map fun (n : Nat) => MV.int n := by
  induction l with
  | nil => rfl
  | cons a l ih =>
    simp only [sts, List.map_cons, List.mapM_cons] at ih ⊢
    rw [ih]
    cases numO a with
    | none => rfl
    | some n => cases l.mapM numO <;> rfl
theorem parsed_row_eq {ps : List Str} (hne : ps ≠ []) (hl : ps.length ≤ 8001) (h : ∀ p ∈ ps, Asc 8000 p) (st : Sto) : f_parsed_row [.lst (sts ps)] st = match rowO ps with | some r => .ok (.tup r) st | none => .exc "ParseError" st := by
  cases ps with
  | nil => exact absurd rfl hne
  | cons k ps =>
    have hk := h k List.mem_cons_self
    have hps : ∀ p ∈ ps, Asc 8000 p := fun p hp => h p (List.mem_cons_of_mem _ hp)
    simp at hl
    have l1 : ps.length < 16384 := by omega
    have q1 := gEq_str hk asc_letter st
    have l2 : ps.length + 1 ≤ 16777216 := by omega
    by_cases k1 : k = sLetter
    · rw [decide_eq_true k1] at q1
      have z : rowO (k :: ps) = some (.str k :: sts ps) := by show (if k = sLetter then _ else _) = _; rw [if_pos k1]
      rw [z]
      simp [f_parsed_row, b_parsed_row, defM, l1, q1, l2, -List.map_map]
    · rw [decide_eq_false k1] at q1
      have z : rowO (k :: ps) = (ps.mapM numO).map fun ns => .str k :: ns.map fun (n : Nat) => .int n := by show (if k = sLetter then _ else _) = _; rw [if_neg k1]
      have c1 : compX (.nm 4) tYesM (mFn 1 f_number_of (aCons (mVar 4) aNil)) (sts ps) [some (.lst (sts (k :: ps))), some (.str k), some (.lst (sts ps)), none, none] [] st =
          (match (sts ps).mapM (fun m => match m with | .str p => (numO p).map fun (n : Nat) => MV.int n | _ => none) with | some vs => .ok ([] ++ vs) st | none => .exc "ParseError" st) := by
        apply compX_map
        · intro y hy
          obtain ⟨p, hp, rfl⟩ := List.mem_map.mp hy
          refine ⟨_, rfl, ?_⟩
          have := number_of_eq (Nat.le_of_ble_eq_true rfl) (hps p hp) st
          simp [this]
          cases numO p <;> rfl
        · simp
          omega
      rw [mapM_num] at c1
      rw [z]
      simp only [sts, List.map_cons] at c1
      cases e : ps.mapM numO with
      | none =>
        rw [e] at c1
        simp only [Option.map_none] at c1
        simp [f_parsed_row, b_parsed_row, defM, l1, q1, c1, -List.map_map]
      | some ns =>
        rw [e] at c1
        simp only [Option.map_some, List.nil_append] at c1
        have ln : ns.length = ps.length := by
          have : ∀ (l : List Str) (m : List Nat), l.mapM numO = some m → m.length = l.length := by
            intro l
            induction l with
            | nil => intro m h; cases h; rfl
            | cons a l ih =>
              intro m h
              rw [List.mapM_cons] at h
              cases e1 : numO a with
              | none => rw [e1] at h; cases h
              | some n =>
                cases e2 : l.mapM numO with
                | none => rw [e1, e2] at h; cases h
                | some w =>
                  rw [e1, e2] at h
                  cases h
                  simp [ih w e2]
          exact this ps ns e
        simp [f_parsed_row, b_parsed_row, defM, l1, q1, c1, ln, l2, -List.map_map]
end K84

namespace K84
open PySem L2 TL MR
@[simp] theorem i_rng {r : MA} {env : MEnv} {st : Sto} : iRng r env st = (r env st).bind fun xs st' => match xs with | [.int n] => if -1000000000 ≤ n ∧ n ≤ 1000000000 then .ok (rngL 0 n.toNat) st' else .bad | _ => .bad := rfl
@[simp] theorem i_rng2 {r : MA} {env : MEnv} {st : Sto} : iRng2 r env st = (r env st).bind fun xs st' => match xs with | [.int a, .int b] => if (-1000000000 ≤ a ∧ a ≤ 1000000000) ∧ (-1000000000 ≤ b ∧ b ≤ 1000000000) then .ok (rngL a (b - a).toNat) st' else .bad | _ => .bad := rfl
theorem row_items {ps : List Str} {r : List MV} (hl : ps.length ≤ 8001) (h : ∀ p ∈ ps, Asc 8000 p) (e : rowO ps = some r) : RowOk 8000 r := by
  cases ps with
  | nil => cases e
  | cons k ps =>
    by_cases k1 : k = sLetter
    · have z : rowO (k :: ps) = some (.str k :: sts ps) := by show (if k = sLetter then _ else _) = _; rw [if_pos k1]
      rw [z] at e
      cases e
      refine ⟨fun m hm => ?_, by simp at hl ⊢; omega⟩
      have : m ∈ sts (k :: ps) := hm
      obtain ⟨p, hp, rfl⟩ := List.mem_map.mp this
      exact .str p (h p hp)
    · have z : rowO (k :: ps) = (ps.mapM numO).map fun ns => .str k :: ns.map fun (n : Nat) => .int n := by show (if k = sLetter then _ else _) = _; rw [if_neg k1]
      rw [z] at e
      cases em : ps.mapM numO with
      | none => rw [em] at e; cases e
      | some ns =>
        rw [em] at e
        cases e
        have ln : ∀ (l : List Str) (m : List Nat), l.mapM numO = some m → m.length = l.length := by
          intro l
          induction l with
          | nil => intro m h; cases h; rfl
          | cons a l ih =>
            intro m h
            rw [List.mapM_cons] at h
            cases e1 : numO a with
            | none => rw [e1] at h; cases h
            | some n =>
              cases e2 : l.mapM numO with
              | none => rw [e1, e2] at h; cases h
              | some w =>
                rw [e1, e2] at h
                cases h
                simp [ih w e2]
        have := ln ps ns em
        refine ⟨fun m hm => ?_, by simp at hl ⊢; omega⟩
        rcases List.mem_cons.mp hm with hm | hm
        · rw [hm]; exact .str k (h k List.mem_cons_self)
        · obtain ⟨n, _, rfl⟩ := List.mem_map.mp hm
          exact .int _
theorem mapM_mem {α β : Type} {f : α → Option β} : ∀ {l : List α} {m : List β}, l.mapM f = some m → m.length = l.length ∧ ∀ b ∈ m, ∃ a ∈ l, f a = some b
  | [], m, h => by cases h; exact ⟨rfl, fun _ h => nomatch h⟩
  | a :: l, m, h => by
    rw [List.mapM_cons] at h
    cases e1 : f a with
    | none => rw [e1] at h; cases h
    | some n =>
      cases e2 : l.mapM f with
      | none => rw [e1, e2] at h; cases h
      | some w =>
        rw [e1, e2] at h
        cases h
        obtain ⟨i1, i2⟩ := mapM_mem e2
        refine ⟨by simp [i1], fun b hb => ?_⟩
        rcases List.mem_cons.mp hb with hb | hb
        · exact ⟨a, List.mem_cons_self, by rw [hb]; exact e1⟩
        · obtain ⟨c, hc, e⟩ := i2 b hb
          exact ⟨c, List.mem_cons_of_mem _ hc, e⟩
/-! ### parse_recipe -/
def rowsO (t : Str) : Option (List (List MV)) := (cutAt 10 t).mapM fun l => rowO (cutAt 32 l)
def specR (al t : Str) : Option (List (List MV)) := (rowsO t).bind fun rows => if isRec al rows = true then some rows else none
theorem rowsO_items {t : Str} (h : Asc 8000 t) {rows : List (List MV)} (e : rowsO t = some rows) : ∀ r ∈ rows, RowOk 8000 r := fun r hr => by
  obtain ⟨l, hl, e2⟩ := (mapM_mem e).2 r hr
  have ha := cut_asc h hl
  exact row_items (cut_len ha).2 (fun p hp => cut_asc ha hp) e2
theorem mapM_rows (ls : List Str) : (ls.map fun l => MV.lst (sts (cutAt 32 l))).mapM (fun m => match m with | .lst xs => ((strsOf xs).bind rowO).map MV.tup | _ => none) = (ls.mapM fun l => rowO (cutAt 32 l)).map fun rows => rows.map MV.tup := by
  induction ls with
  | nil => rfl
  | cons a l ih =>
    simp only [List.map_cons, List.mapM_cons] at ih ⊢
    rw [ih]
    simp only [strsOf_map, Option.bind_some]
    cases rowO (cutAt 32 a) with
    | none => rfl
    | some n => cases (l.mapM fun l => rowO (cutAt 32 l)) <;> rfl
theorem parse_recipe_eq {M : Nat} (hM : M ≤ 16777216) {al t : Str} (hal : isAlph al = true) (ha : Asc M al) (h : Asc 8000 t) (st : Sto) : f_parse_recipe [.str al, .str t] st = match specR al t with | some rows => .ok (.tup (rows.map .tup)) st | none => .exc "ParseError" st := by
  have e0 := is_alphabet_eq hM ha st
  rw [hal] at e0
  have c1 : compX (.nm 3) tYesM (mFn 1 f_parsed_row (aCons (mVar 3) aNil)) ((cutAt 10 t).map fun l => .lst (sts (cutAt 32 l))) [some (.str al), some (.str t), none, none] [] st =
      (match ((cutAt 10 t).map fun l => MV.lst (sts (cutAt 32 l))).mapM (fun m => match m with | .lst xs => ((strsOf xs).bind rowO).map MV.tup | _ => none) with | some vs => .ok ([] ++ vs) st | none => .exc "ParseError" st) := by
    apply compX_map
    · intro y hy
      obtain ⟨l, hl, rfl⟩ := List.mem_map.mp hy
      refine ⟨_, rfl, ?_⟩
      have hla := cut_asc h hl
      have c := cut_len (c := 32) hla
      have := parsed_row_eq (ps := cutAt 32 l) (fun e => by rw [e] at c; simp at c) c.2 (fun p hp => cut_asc hla hp) st
      simp [this, strsOf_map]
      cases rowO (cutAt 32 l) <;> rfl
    · have := (cut_len (c := 10) h).2
      simp
      omega
  rw [mapM_rows] at c1
  have er : rowsO t = (cutAt 10 t).mapM fun l => rowO (cutAt 32 l) := rfl
  rw [← er] at c1
  unfold specR
  cases e : rowsO t with
  | none =>
    rw [e] at c1
    simp only [Option.map_none] at c1
    simp [f_parse_recipe, b_parse_recipe, defM, e0, lines_of_eq h, c1, -List.map_map]
  | some rows =>
    rw [e] at c1
    simp only [Option.map_some, List.nil_append] at c1
    have r1 := is_recipe_in_eq (Nat.le_of_ble_eq_true rfl : 8000 ≤ 16777216) (al := al) (rowsO_items h e) st
    cases ei : isRec al rows with
    | true =>
      rw [ei] at r1
      simp [f_parse_recipe, b_parse_recipe, defM, e0, lines_of_eq h, c1, gTuple, r1, ei, -List.map_map]
    | false =>
      rw [ei] at r1
      simp [f_parse_recipe, b_parse_recipe, defM, e0, lines_of_eq h, c1, gTuple, r1, ei, -List.map_map]
def outR (o : Option (List (List MV))) : MV := match o with
  | some rows => .tup (rows.map .tup)
  | none => .non
theorem read_back_eq {M : Nat} (hM : M ≤ 16777216) {al t : Str} (hal : isAlph al = true) (ha : Asc M al) (h : Asc 8000 t) (st : Sto) : f__law_read_back [.str al, .str t] st = .ok (outR (specR al t)) st := by
  have e := parse_recipe_eq hM hal ha h st
  cases q : specR al t with
  | none =>
    rw [q] at e
    simp only [] at e
    have s1 : sub_LimitError "ParseError" = some true := by decide +kernel
    have s2 : is_ParseError "ParseError" = some true := by decide +kernel
    have e1 : (sRet (mFn 2 f_parse_recipe (aCons (mVar 0) (aCons (mVar 1) aNil)))) [some (.str al), some (.str t), none] st = .exc "ParseError" [some (.str al), some (.str t), none] st := by simp [e]
    show (match sTryIs _ 2 sub_LimitError is_ParseError .non (.str "other") [some (.str al), some (.str t), none] st with
      | .nx _ st' => Res.ok MV.non st'
      | .rt m st' => .ok m st'
      | .exc c _ st' => .exc c st'
      | _ => .bad) = _
    unfold sTryIs
    rw [e1]
    simp only [s1, s2]
    rfl
  | some rows =>
    rw [q] at e
    simp only [] at e
    have e1 : (sRet (mFn 2 f_parse_recipe (aCons (mVar 0) (aCons (mVar 1) aNil)))) [some (.str al), some (.str t), none] st = .rt (.tup (rows.map .tup)) st := by simp [e]
    show (match sTryIs _ 2 sub_LimitError is_ParseError .non (.str "other") [some (.str al), some (.str t), none] st with
      | .nx _ st' => Res.ok MV.non st'
      | .rt m st' => .ok m st'
      | .exc c _ st' => .exc c st'
      | _ => .bad) = _
    unfold sTryIs
    rw [e1]
    rfl
/-! ### the law's own reader -/
def lawNum (p : Str) : Int := match numO p with
  | some n => if n < 400 then n else -1
  | none => -1
theorem numS_len {n : Nat} (h : n < 400) : (numS n).length ≤ 3 := by
  rw [len_tl, tl_numS]
  exact numL_len (by decide) (by omega)
theorem law_number_eq {p : Str} (h : Asc 8000 p) (st : Sto) : f__law_number [.str p] st = .ok (.int (lawNum p)) st := by
  have hl : p.length ≤ 16777216 := by have := h.1; omega
  by_cases g : p.length < 4
  case neg =>
    have z : lawNum p = -1 := by
      unfold lawNum
      cases e : numO p with
      | none => rfl
      | some n =>
        show (if n < 400 then (n : Int) else -1) = -1
        by_cases hn : n < 400
        · obtain ⟨e1, _⟩ := numO_some e
          have := numS_len hn
          rw [← e1] at this
          omega
        · rw [if_neg hn]
    rw [z]
    have g' : ¬ ((p.length : Int) < 4) := by omega
    simp [f__law_number, b__law_number, defM, gLen, hl, gLt, gOrd, g', gNeg]
  have g' : ((p.length : Int) < 4) := by omega
  have c1 : compM (.nm 1) tYesM (mCall gStr (aCons (mVar 1) aNil)) (rngL 0 400) [some (.str p), none] [] st = .ok ([] ++ (rngL 0 400).map fun m => match m with | .int i => .str (numS i.toNat) | _ => .non) st := by
    apply compM_map
    · intro y hy
      obtain ⟨n, hn, rfl⟩ := List.mem_map.mp hy
      have hn := List.mem_range.mp hn
      refine ⟨_, rfl, ?_⟩
      have := gStr_nat (n := n) (by omega) st
      simp [this]
    · simp [rngL]
  have e1 : ((rngL 0 400).map fun m => match m with | .int i => MV.str (numS i.toNat) | _ => .non) = (List.range 400).map fun n => .str (numS n) := by
    unfold rngL
    rw [List.map_map]
    apply List.map_congr_left
    intro n _
    simp
  rw [e1, List.nil_append] at c1
  have m1 : memM (.str p) ((List.range 400).map fun n => .str (numS n)) = (List.range 400).any fun n => numS n == p := by
    unfold memM
    rw [List.any_map]
    rfl
  have i1 : isInM (.str p) (.lst ((List.range 400).map fun n => .str (numS n))) st = some ((List.range 400).any fun n => numS n == p) := by
    rw [← m1]
    show (if flatM (.str p) && ((List.range 400).map fun n => MV.str (numS n)).all flatM then some (memM (.str p) ((List.range 400).map fun n => .str (numS n))) else none) = _
    rw [if_pos]
    rw [List.all_map]
    have : (List.range 400).all (flatM ∘ fun n => MV.str (numS n)) = true := by
      rw [List.all_eq_true]
      intro n _
      rfl
    rw [this]
    rfl
  cases q0 : (List.range 400).any fun n => numS n == p with
  | true =>
    rw [q0] at i1
    obtain ⟨n, hn, e⟩ : ∃ n, n < 400 ∧ p = numS n := by
      obtain ⟨n, hn, e⟩ := List.any_eq_true.mp q0
      exact ⟨n, List.mem_range.mp hn, (eq_of_beq e).symm⟩
    have z : lawNum p = n := by
      unfold lawNum
      rw [e, numO_numS (by omega)]
      show (if n < 400 then (n : Int) else -1) = n
      rw [if_pos hn]
    rw [z]
    have hi : gInt [.str p] st = .ok (.int n) st := by
      have h6 : p.length ≤ 640 := by omega
      have := int_numS (n := n) (by omega)
      rw [← e] at this
      simp [gInt, h6, this]
    simp [f__law_number, b__law_number, defM, gLen, hl, gLt, gOrd, g', c1, gIn, i1, hi, -List.map_map]
  | false =>
    have z : lawNum p = -1 := by
      unfold lawNum
      cases e : numO p with
      | none => rfl
      | some n =>
        show (if n < 400 then (n : Int) else -1) = -1
        by_cases hn : n < 400
        · have := List.any_eq_false.mp q0 n (List.mem_range.mpr hn)
          rw [← (numO_some e).1] at this
          exact absurd (beq_self_eq_true p) this
        · rw [if_neg hn]
    rw [q0] at i1
    rw [z]
    simp [f__law_number, b__law_number, defM, gLen, hl, gLt, gOrd, g', c1, gIn, i1, gNeg, -List.map_map]
end K84

namespace K84
open PySem L2 TL MR
@[simp] theorem forM_nil {g : MTg} {b : MS} {env : MEnv} {st : Sto} : forM g b [] env st = .nx env st := rfl
theorem forM_step {g : MTg} {b : MS} {y : MV} {ys : List MV} {env env1 env2 : MEnv} {st st1 st2 : Sto} (h1 : g y env st = some (env1, st1)) (h2 : b env1 st1 = .nx env2 st2) : forM g b (y :: ys) env st = forM g b ys env2 st2 := by
  show (match g y env st with
    | none => Flw.bad
    | some (env1, st1) => match b env1 st1 with
      | .nx env2 st2 => forM g b ys env2 st2
      | .ct env2 st2 => forM g b ys env2 st2
      | .bk env2 st2 => .nx env2 st2
      | .rt m st2 => .rt m st2
      | .exc c env2 st2 => .exc c env2 st2
      | .bad => .bad) = _
  rw [h1]
  simp only [h2]
theorem at_last (st : Sto) (x : MO) : (st ++ [x])[st.length]? = some x := by simp
theorem set_last (st : Sto) (x y : MO) : (st ++ [x]).set st.length y = st ++ [y] := by
  rw [List.set_append_right _ _ (Nat.le_refl _)]
  simp
theorem append_last (st : Sto) (xs : List MV) (m : MV) (h : xs.length < 16777216) : gAppend (.obj st.length) [m] (st ++ [.lst xs]) = .ok .non (st ++ [.lst (xs ++ [m])]) := by
  simp [gAppend, h, set_last]
theorem items_last (st : Sto) (xs : List MV) : itemsOf (.obj st.length) (st ++ [.lst xs]) = some xs := by
  simp [itemsOf]
theorem isLst_last (st : Sto) (xs : List MV) : isLst (.obj st.length) (st ++ [.lst xs]) = true := by
  simp [isLst, MR.listOf]
theorem tuple_last (st : Sto) (xs : List MV) : gTuple [.obj st.length] (st ++ [.lst xs]) = .ok (.tup xs) (st ++ [.lst xs]) := by
  simp [gTuple, items_last]
theorem cutM_1 (x : MV) (xs : List MV) : cutM (x :: xs) (some 1) none = xs := by
  unfold cutM
  have e : HT.sIx (x :: xs).length 0 (some 1) = min 1 (x :: xs).length := HT.sIx_nat _ _ 1
  rw [e, HT.sIx_none]
  have : min 1 (x :: xs).length = 1 := by simp
  rw [this]
  simp
theorem gSlL1 (x : MV) (xs : List MV) (st : Sto) : gSlice (.lst (x :: xs)) (some 1) none st = .ok (.lst xs) st := by
  show Res.ok (MV.lst (cutM (x :: xs) (some 1) none)) st = _
  rw [cutM_1]
theorem gSlT1 (x : MV) (xs : List MV) (st : Sto) : gSlice (.tup (x :: xs)) (some 1) none st = .ok (.tup xs) st := by
  show Res.ok (MV.tup (cutM (x :: xs) (some 1) none)) st = _
  rw [cutM_1]
def lawRow : List Str → List MV
  | [] => []
  | k :: ps => if k = sLetter then .str k :: sts ps else .str k :: ps.map fun p => .int (lawNum p)
abbrev bodyP : MS := (sSeq (sSet 4 (mMethT isStr gSplit (mVar 3) (aCons (mC (.str " ")) aNil)))
  (sIf (mB (m2 gEq (m2 gIx (mVar 4) (mC (.int 0))) (mC (.str "letter")))) (sExpr (mMethT isLst gAppend (mVar 2) (aCons (mCall gTuple (aCons (mVar 4) aNil)) aNil))) (sExpr (mMethT isLst gAppend (mVar 2) (aCons (m2 MR.gAdd (mTup (aCons (m2 gIx (mVar 4) (mC (.int 0))) aNil)) (mCall gTuple (aCons (mLc (iAll (mSl gSlice (mVar 4) (oSome (mC (.int 1))) oNone)) [5] (.nm 5) tYesM (mFn 1 f__law_number (aCons (mVar 5) aNil))) aNil))) aNil)))))
theorem stepP {al t l : Str} (hl : Asc 8000 l) (st : Sto) (acc : List MV) (ha : acc.length < 16777216) (e4 e5 : Option MV) : ∃ e4' e5', bodyP [some (.str al), some (.str t), some (.obj st.length), some (.str l), e4, e5] (st ++ [.lst acc]) =
    .nx [some (.str al), some (.str t), some (.obj st.length), some (.str l), e4', e5'] (st ++ [.lst (acc ++ [.tup (lawRow (cutAt 32 l))])]) := by
  have c := cut_len (c := 32) hl
  have hq : ∀ p ∈ cutAt 32 l, Asc 8000 p := fun p hp => cut_asc hl hp
  have s1 := gSplit_sp hl (st ++ [.lst acc])
  generalize cutAt 32 l = parts at c hq s1
  cases parts with
  | nil => simp at c
  | cons k ps =>
    have q1 := gEq_str (hq k List.mem_cons_self) asc_letter (st ++ [.lst acc])
    simp only [sts, List.map_cons] at s1
    have cl : ps.length + 1 ≤ 8001 := c.2
    by_cases k1 : k = sLetter
    · rw [decide_eq_true k1] at q1
      have z : lawRow (k :: ps) = .str k :: sts ps := by show (if k = sLetter then _ else _) = _; rw [if_pos k1]
      rw [z]
      exact ⟨_, _, by simp [s1, gIx0, q1, isLst_last, gTuple, append_last, ha]; exact ⟨rfl, rfl⟩⟩
    · rw [decide_eq_false k1] at q1
      have z : lawRow (k :: ps) = .str k :: ps.map fun p => .int (lawNum p) := by show (if k = sLetter then _ else _) = _; rw [if_neg k1]
      have c1 : compM (.nm 5) tYesM (mFn 1 f__law_number (aCons (mVar 5) aNil)) (sts ps) [some (.str al), some (.str t), some (.obj st.length), some (.str l), some (.lst (.str k :: sts ps)), none] [] (st ++ [.lst acc]) =
          .ok ([] ++ (sts ps).map fun m => match m with | .str p => .int (lawNum p) | _ => .non) (st ++ [.lst acc]) := by
        apply compM_map
        · intro y hy
          obtain ⟨p, hp, rfl⟩ := List.mem_map.mp hy
          refine ⟨_, rfl, ?_⟩
          simp [law_number_eq (hq p (List.mem_cons_of_mem _ hp))]
        · simp
          omega
      have e1 : ((sts ps).map fun m => match m with | .str p => MV.int (lawNum p) | _ => .non) = ps.map fun p => .int (lawNum p) := by
        rw [List.map_map]
        rfl
      rw [e1, List.nil_append] at c1
      rw [z]
      have l2 : 1 + ps.length ≤ 16777216 := by omega
      exact ⟨_, _, by simp [s1, gIx0, q1, isLst_last, gTuple, append_last, ha, gSlL1, c1, MR.gAdd, l2, -List.map_map]; exact ⟨rfl, rfl⟩⟩
theorem loopP {al t : Str} (st : Sto) : ∀ (ls : List Str) (acc : List MV) (e3 e4 e5 : Option MV), (∀ l ∈ ls, Asc 8000 l) → acc.length + ls.length ≤ 8001 → ∃ e3' e4' e5',
    forM (gN 3) bodyP (sts ls) [some (.str al), some (.str t), some (.obj st.length), e3, e4, e5] (st ++ [.lst acc]) =
    .nx [some (.str al), some (.str t), some (.obj st.length), e3', e4', e5'] (st ++ [.lst (acc ++ ls.map fun l => .tup (lawRow (cutAt 32 l)))])
  | [], acc, e3, e4, e5, _, _ => ⟨e3, e4, e5, by simp⟩
  | l :: ls, acc, e3, e4, e5, h, hl => by
    simp at hl
    obtain ⟨e4', e5', s1⟩ := stepP (al := al) (t := t) (h l List.mem_cons_self) st acc (by omega) e4 e5
    obtain ⟨f3, f4, f5, s2⟩ := loopP st ls (acc ++ [.tup (lawRow (cutAt 32 l))]) (some (.str l)) e4' e5' (fun p hp => h p (List.mem_cons_of_mem _ hp)) (by simp; omega)
    refine ⟨f3, f4, f5, ?_⟩
    rw [show sts (l :: ls) = .str l :: sts ls from rfl, forM_step (env1 := [some (.str al), some (.str t), some (.obj st.length), some (.str l), e4, e5]) rfl s1, s2]
    simp
def lawR (al t : Str) : Option (List (List MV)) := let rows := (cutAt 10 t).map fun l => lawRow (cutAt 32 l)
  if isRec al rows = true then some rows else none
theorem lawRow_ok {ps : List Str} (hl : ps.length ≤ 8001) (h : ∀ p ∈ ps, Asc 8000 p) : RowOk 8000 (lawRow ps) := by
  cases ps with
  | nil => exact ⟨(fun m h => nomatch h), Nat.zero_le _⟩
  | cons k ps =>
    by_cases k1 : k = sLetter
    · have z : lawRow (k :: ps) = .str k :: sts ps := by show (if k = sLetter then _ else _) = _; rw [if_pos k1]
      rw [z]
      refine ⟨fun m hm => ?_, by simp at hl ⊢; omega⟩
      have : m ∈ sts (k :: ps) := hm
      obtain ⟨p, hp, rfl⟩ := List.mem_map.mp this
      exact .str p (h p hp)
    · have z : lawRow (k :: ps) = .str k :: ps.map fun p => .int (lawNum p) := by show (if k = sLetter then _ else _) = _; rw [if_neg k1]
      rw [z]
      refine ⟨fun m hm => ?_, by simp at hl ⊢; omega⟩
      rcases List.mem_cons.mp hm with hm | hm
      · rw [hm]; exact .str k (h k List.mem_cons_self)
      · obtain ⟨n, _, rfl⟩ := List.mem_map.mp hm
        exact .int _
theorem law_parsed_eq {M : Nat} (hM : M ≤ 16777216) {al t : Str} (hal : isAlph al = true) (ha : Asc M al) (h : Asc 8000 t) (st : Sto) : ∃ x, f__law_parsed [.str al, .str t] st = .ok (outR (lawR al t)) (st ++ [x]) := by
  obtain ⟨e3, e4, e5, lp⟩ := loopP (al := al) (t := t) st (cutAt 10 t) [] none none none (fun p hp => cut_asc h hp) (by have := (cut_len (c := 10) h).2; simpa using this)
  simp only [bodyP, List.nil_append] at lp
  have hrows : ∀ r ∈ (cutAt 10 t).map (fun l => lawRow (cutAt 32 l)), RowOk 8000 r := fun r hr => by
    obtain ⟨l, hl, rfl⟩ := List.mem_map.mp hr
    have hla := cut_asc h hl
    exact lawRow_ok (cut_len hla).2 fun p hp => cut_asc hla hp
  have er : ((cutAt 10 t).map fun l => MV.tup (lawRow (cutAt 32 l))) = ((cutAt 10 t).map fun l => lawRow (cutAt 32 l)).map .tup := by rw [List.map_map]; rfl
  rw [er] at lp
  unfold lawR
  generalize ((cutAt 10 t).map fun l => lawRow (cutAt 32 l)) = rows at lp hrows
  refine ⟨.lst (rows.map .tup), ?_⟩
  have ir := is_recipe_eq (Nat.le_of_ble_eq_true rfl : 8000 ≤ 16777216) hM ha hal hrows (st ++ [.lst (rows.map .tup)])
  cases q : isRec al rows with
  | true =>
    rw [q] at ir
    simp [f__law_parsed, b__law_parsed, defM, gSplit_nl h, lp, tuple_last, ir, q, outR, -List.map_map]
  | false =>
    rw [q] at ir
    simp [f__law_parsed, b__law_parsed, defM, gSplit_nl h, lp, tuple_last, ir, q, outR, -List.map_map]
/-! ### both readers give the same -/
theorem isInt_num {p : Str} {n : Nat} (e : numO p = some n) {lo hi : Int} (h : isInt (.int n) lo hi = true) (hh : hi < 400) : lawNum p = n := by
  unfold isInt at h
  simp only [Bool.and_eq_true, decide_eq_true_eq] at h
  unfold lawNum
  rw [e]
  show (if n < 400 then (n : Int) else -1) = n
  rw [if_pos (by omega)]
theorem num_isInt {p : Str} {hi : Int} (h : isInt (.int (lawNum p)) 0 hi = true) : ∃ n, numO p = some n ∧ (lawNum p) = n := by
  unfold isInt at h
  simp only [Bool.and_eq_true, decide_eq_true_eq] at h
  unfold lawNum at h ⊢
  cases e : numO p with
  | none => rw [e] at h; simp at h
  | some n =>
    refine ⟨n, rfl, ?_⟩
    rw [e] at h
    show (if n < 400 then (n : Int) else -1) = n
    by_cases q : n < 400
    · rw [if_pos q]
    · simp only [if_neg q] at h
      omega
theorem row_one {al : Str} {k : Nat} (hk : k ≤ 400) {ps : List Str} {r : List MV} (e : rowO ps = some r) (h : isRow al k r = true) : lawRow ps = r := by
  cases ps with
  | nil => cases e
  | cons a ps =>
    by_cases k1 : a = sLetter
    · have z : rowO (a :: ps) = some (.str a :: sts ps) := by show (if a = sLetter then _ else _) = _; rw [if_pos k1]
      have z2 : lawRow (a :: ps) = .str a :: sts ps := by show (if a = sLetter then _ else _) = _; rw [if_pos k1]
      rw [z] at e
      cases e
      exact z2
    · have z : rowO (a :: ps) = (ps.mapM numO).map fun ns => .str a :: ns.map fun (n : Nat) => .int n := by show (if a = sLetter then _ else _) = _; rw [if_neg k1]
      have z2 : lawRow (a :: ps) = .str a :: ps.map fun p => .int (lawNum p) := by show (if a = sLetter then _ else _) = _; rw [if_neg k1]
      rw [z] at e
      rw [z2]
      cases em : ps.mapM numO with
      | none => rw [em] at e; cases e
      | some ns =>
        rw [em] at e
        cases e
        rw [isRow_cons, if_neg k1] at h
        have hn : ∀ (n : Nat), n ∈ ns → isInt (.int n) 0 (k - 1) = true := by
          by_cases k2 : a = sThen
          · rw [if_pos k2] at h
            match ns, h with
            | [x, y], h =>
              simp only [List.map_cons, List.map_nil, Bool.and_eq_true] at h
              intro n hn
              rcases List.mem_cons.mp hn with hn | hn
              · rw [hn]; exact h.1
              · rw [List.mem_singleton.mp hn]; exact h.2
          · rw [if_neg k2] at h
            by_cases k3 : a = sPump
            · rw [if_pos k3] at h
              match ns, h with
              | [x], h =>
                intro n hn
                rw [List.mem_singleton.mp hn]; exact h
            · rw [if_neg k3] at h
              cases h
        have key : ∀ (l : List Str) (m : List Nat), l.mapM numO = some m → (∀ n ∈ m, isInt (.int (n : Nat)) 0 (k - 1) = true) → (l.map fun p => MV.int (lawNum p)) = m.map fun (n : Nat) => MV.int n := by
          intro l
          induction l with
          | nil => intro m h _; cases h; rfl
          | cons b l ih =>
            intro m h hm
            rw [List.mapM_cons] at h
            cases e1 : numO b with
            | none => rw [e1] at h; cases h
            | some n =>
              cases e2 : l.mapM numO with
              | none => rw [e1, e2] at h; cases h
              | some w =>
                rw [e1, e2] at h
                cases h
                rw [List.map_cons, List.map_cons, ih w e2 (fun x hx => hm x (List.mem_cons_of_mem _ hx)), isInt_num e1 (hm n List.mem_cons_self) (by omega)]
        rw [key ps ns em hn]
theorem row_two {al : Str} {k : Nat} {ps : List Str} (hne : ps ≠ []) (h : isRow al k (lawRow ps) = true) : rowO ps = some (lawRow ps) := by
  cases ps with
  | nil => exact absurd rfl hne
  | cons a ps =>
    by_cases k1 : a = sLetter
    · have z : rowO (a :: ps) = some (.str a :: sts ps) := by show (if a = sLetter then _ else _) = _; rw [if_pos k1]
      have z2 : lawRow (a :: ps) = .str a :: sts ps := by show (if a = sLetter then _ else _) = _; rw [if_pos k1]
      rw [z, z2]
    · have z : rowO (a :: ps) = (ps.mapM numO).map fun ns => .str a :: ns.map fun (n : Nat) => .int n := by show (if a = sLetter then _ else _) = _; rw [if_neg k1]
      have z2 : lawRow (a :: ps) = .str a :: ps.map fun p => .int (lawNum p) := by show (if a = sLetter then _ else _) = _; rw [if_neg k1]
      rw [z2] at h ⊢
      rw [z]
      rw [isRow_cons, if_neg k1] at h
      by_cases k2 : a = sThen
      · rw [if_pos k2] at h
        match ps, h with
        | [x, y], h =>
          simp only [List.map_cons, List.map_nil, Bool.and_eq_true] at h
          obtain ⟨n, e1, e2⟩ := num_isInt h.1
          obtain ⟨m, e3, e4⟩ := num_isInt h.2
          simp [e1, e2, e3, e4]
      · rw [if_neg k2] at h
        by_cases k3 : a = sPump
        · rw [if_pos k3] at h
          match ps, h with
          | [x], h =>
            obtain ⟨n, e1, e2⟩ := num_isInt h
            simp [e1, e2]
        · rw [if_neg k3] at h
          cases h
theorem rows_one {al : Str} : ∀ (ls : List (List Str)) (k : Nat) (rows : List (List MV)), ls.mapM rowO = some rows → (rowsL al k rows).all id = true → k + ls.length ≤ 400 → ls.map lawRow = rows
  | [], _, _, h, _, _ => by cases h; rfl
  | l :: ls, k, rows, h, hr, hk => by
    rw [List.mapM_cons] at h
    cases e1 : rowO l with
    | none => rw [e1] at h; cases h
    | some r =>
      cases e2 : ls.mapM rowO with
      | none => rw [e1, e2] at h; cases h
      | some rs =>
        rw [e1, e2] at h
        cases h
        simp at hk
        have hr : (isRow al k r && (rowsL al (k + 1) rs).all id) = true := hr
        rw [Bool.and_eq_true] at hr
        rw [List.map_cons, rows_one ls (k + 1) rs e2 hr.2 (by omega), row_one (by omega) e1 hr.1]
theorem rows_two {al : Str} : ∀ (ls : List (List Str)) (k : Nat), (∀ l ∈ ls, l ≠ []) → (rowsL al k (ls.map lawRow)).all id = true → ls.mapM rowO = some (ls.map lawRow)
  | [], _, _, _ => rfl
  | l :: ls, k, hne, hr => by
    have hr : (isRow al k (lawRow l) && (rowsL al (k + 1) (ls.map lawRow)).all id) = true := hr
    rw [Bool.and_eq_true] at hr
    rw [List.mapM_cons, row_two (hne l List.mem_cons_self) hr.1, rows_two ls (k + 1) (fun x hx => hne x (List.mem_cons_of_mem _ hx)) hr.2]
    rfl
theorem mapM_comp {α β γ : Type} (f : α → β) (g : β → Option γ) : ∀ l : List α, l.mapM (fun x => g (f x)) = (l.map f).mapM g
  | [] => rfl
  | a :: l => by rw [List.mapM_cons, List.map_cons, List.mapM_cons, mapM_comp f g l]
theorem spec_law {al t : Str} (h : Asc 8000 t) : specR al t = lawR al t := by
  unfold specR lawR rowsO
  rw [mapM_comp (cutAt 32) rowO]
  have e0 : ((cutAt 10 t).map fun l => lawRow (cutAt 32 l)) = ((cutAt 10 t).map (cutAt 32)).map lawRow := by rw [List.map_map]; rfl
  rw [e0]
  have hne : ∀ l ∈ (cutAt 10 t).map (cutAt 32), l ≠ [] := fun l hl e => by
    obtain ⟨x, hx, rfl⟩ := List.mem_map.mp hl
    have := (cut_len (c := 32) (cut_asc h hx)).1
    rw [e] at this
    simp at this
  generalize (cutAt 10 t).map (cutAt 32) = ls at hne
  by_cases q : isRec al (ls.map lawRow) = true
  · have q0 := q
    unfold isRec at q0
    simp only [Bool.and_eq_true] at q0
    rw [rows_two ls 0 hne q0.2]
    rfl
  · simp only [if_neg q]
    cases e : ls.mapM rowO with
    | none => rfl
    | some rows =>
      show (if isRec al rows = true then some rows else none) = none
      by_cases q2 : isRec al rows = true
      · exfalso
        have q0 := q2
        unfold isRec at q0
        simp only [Bool.and_eq_true, decide_eq_true_eq] at q0
        have hl := (mapM_mem e).1
        have := rows_one ls 0 rows e q0.2 (by omega)
        rw [← this] at q2
        exact q q2
      · rw [if_neg q2]
end K84

namespace K84
open PySem L2 TL MR
/-! ### recipes that are in order, and their texts -/
inductive VRow (al : Str) (k : Nat) : List MV → Prop
  | letter (c : Nat) : lowc c = true → c ∈ tl al → VRow al k [.str sLetter, .str ⟨#[c]⟩]
  | both (a b : Nat) : a < k → b < k → VRow al k [.str sThen, .int a, .int b]
  | pump (a : Nat) : a < k → VRow al k [.str sPump, .int a]
inductive VRows (al : Str) : Nat → List (List MV) → Prop
  | nil (k : Nat) : VRows al k []
  | cons {k : Nat} {r : List MV} {rs : List (List MV)} : VRow al k r → VRows al (k + 1) rs → VRows al k (r :: rs)
theorem sNe1 : ¬ sThen = sLetter := by decide
theorem sNe2 : ¬ sPump = sLetter := by decide
theorem sNe3 : ¬ sPump = sThen := by decide
theorem VRow.ok {al : Str} {k : Nat} {r : List MV} (h : VRow al k r) : isRow al k r = true := by
  cases h with
  | letter c h1 h2 =>
    rw [isRow_cons, if_pos rfl]
    show (lowc c && decide (c ∈ tl al)) = true
    rw [h1, decide_eq_true h2]
    rfl
  | both a b h1 h2 =>
    rw [isRow_cons, if_neg sNe1, if_pos rfl]
    show ((decide ((0 : Int) ≤ a) && decide ((a : Int) ≤ k - 1)) && (decide ((0 : Int) ≤ b) && decide ((b : Int) ≤ k - 1))) = true
    rw [decide_eq_true (by omega), decide_eq_true (by omega), decide_eq_true (by omega), decide_eq_true (by omega)]
    rfl
  | pump a h1 =>
    rw [isRow_cons, if_neg sNe2, if_neg sNe3, if_pos rfl]
    show (decide ((0 : Int) ≤ a) && decide ((a : Int) ≤ k - 1)) = true
    rw [decide_eq_true (by omega), decide_eq_true (by omega)]
    rfl
theorem VRows.ok {al : Str} : ∀ {k : Nat} {rows : List (List MV)}, VRows al k rows → (rowsL al k rows).all id = true
  | _, _, .nil _ => rfl
  | k, _, .cons (r := r) (rs := rs) h hs => by
    show (isRow al k r && (rowsL al (k + 1) rs).all id) = true
    rw [h.ok, hs.ok]
    rfl
theorem VRows.isRec {al : Str} {rows : List (List MV)} (h : VRows al 0 rows) (h1 : 1 ≤ rows.length) (h2 : rows.length ≤ 400) : isRec al rows = true := by
  unfold K84.isRec
  rw [decide_eq_true h1, decide_eq_true h2, h.ok]
  rfl
theorem VRows.mem {al : Str} : ∀ {k : Nat} {rows : List (List MV)} {r : List MV}, VRows al k rows → r ∈ rows → ∃ j, j < k + rows.length ∧ VRow al j r
  | _, _, r, .nil _, h => by cases h
  | k, _, r, .cons (r := r0) (rs := rs) h hs, hm => by
    rcases List.mem_cons.mp hm with e | e
    · rw [e]; exact ⟨k, by simp, h⟩
    · obtain ⟨j, h1, h2⟩ := hs.mem e
      exact ⟨j, by simp; omega, h2⟩
def itemS (m : MV) : Str := match m with
  | .str s => s
  | .int i => numS i.toNat
  | _ => ⟨#[]⟩
def rowTxt (r : List MV) : Str := Txt.join (Str.ofString " ") (r.map itemS)
def textR (rows : List (List MV)) : Str := Txt.join (Str.ofString "\n") (rows.map rowTxt)
theorem join_len {c B : Nat} : ∀ {ps : List (List Nat)}, (∀ p ∈ ps, p.length ≤ B) → (joinL [c] ps).length ≤ ps.length * (B + 1)
  | [], _ => by simp [joinL]
  | [p], h => by
    show p.length ≤ 1 * (B + 1)
    have := h p List.mem_cons_self
    omega
  | p :: q :: r, h => by
    show (p ++ ([c] ++ joinL [c] (q :: r))).length ≤ _
    have h1 := h p List.mem_cons_self
    have ih := join_len (c := c) (ps := q :: r) fun x hx => h x (List.mem_cons_of_mem _ hx)
    rw [List.length_append, List.length_append, List.length_cons (a := p), Nat.add_mul, Nat.one_mul]
    simp only [List.length_singleton]
    omega
theorem join_mem {c d : Nat} : ∀ {ps : List (List Nat)}, d ∈ joinL [c] ps → d = c ∨ ∃ p ∈ ps, d ∈ p
  | [], h => by cases h
  | [p], h => .inr ⟨p, List.mem_cons_self, h⟩
  | p :: q :: r, h => by
    have h : d ∈ p ++ ([c] ++ joinL [c] (q :: r)) := h
    rcases List.mem_append.mp h with h | h
    · exact .inr ⟨p, List.mem_cons_self, h⟩
    · rcases List.mem_append.mp h with h | h
      · exact .inl (List.mem_singleton.mp h)
      · rcases join_mem h with h | ⟨x, hx, h⟩
        · exact .inl h
        · exact .inr ⟨x, List.mem_cons_of_mem _ hx, h⟩
theorem tl_joined (c : Nat) (ps : List Str) : tl (Txt.join ⟨#[c]⟩ ps) = joinL [c] (ps.map tl) := by rw [join_eq, tl_join]
theorem joined_asc {c B : Nat} (hc : c < 128) {ps : List Str} (h : ∀ p ∈ ps, Asc B p) : Asc (ps.length * (B + 1)) (Txt.join ⟨#[c]⟩ ps) := by
  refine ⟨?_, fun d hd => ?_⟩
  · rw [len_tl, tl_joined]
    have := join_len (c := c) (B := B) (ps := ps.map tl) fun p hp => by
      obtain ⟨q, hq, rfl⟩ := List.mem_map.mp hp
      rw [← len_tl]; exact (h q hq).1
    simpa using this
  · rw [tl_joined] at hd
    rcases join_mem hd with e | ⟨p, hp, e⟩
    · rw [e]; exact hc
    · obtain ⟨q, hq, rfl⟩ := List.mem_map.mp hp
      exact (h q hq).2 d e
theorem cut_joined {c : Nat} (hc : c < 256) {ps : List Str} (hne : ps ≠ []) (h : ∀ p ∈ ps, c ∉ tl p) : cutAt c (Txt.join ⟨#[c]⟩ ps) = ps := by
  rw [← split_cut hc]
  exact split_join (s := c) (S := []) rfl (by simp [hc]) hne h
theorem _root_.MR.Asc.mono {n m : Nat} {t : Str} (h : Asc n t) (hn : n ≤ m) : Asc m t := ⟨Nat.le_trans h.1 hn, h.2⟩
theorem num3 {n : Nat} (h : n < 400) : Asc 3 (numS n) := ⟨numS_len h, (numS_asc (n := n) (by omega)).2⟩
theorem num_free {n s : Nat} (h : s < 48) : s ∉ tl (numS n) := by rw [tl_numS]; exact numL_free (.inl h)
theorem low_asc {c : Nat} (h : lowc c = true) : Asc 1 ⟨#[c]⟩ := one_asc (by unfold lowc at h; simp at h; omega)
theorem low_free {c s : Nat} (h : lowc c = true) (hs : s < 48) : s ∉ tl ⟨#[c]⟩ := by
  unfold lowc at h
  simp at h
  simp
  omega
theorem lit_tl (s : String) : tl (Str.ofString s) = s.toList.map Char.toNat := tl_ofString s
/-- what a row's items are as texts -/
theorem VRow.items {al : Str} {k : Nat} {r : List MV} (h : VRow al k r) (hk : k ≤ 400) : r.map itemS ≠ [] ∧ (r.map itemS).length ≤ 3 ∧ (∀ p ∈ r.map itemS, Asc 6 p ∧ 32 ∉ tl p ∧ 10 ∉ tl p) ∧ rowO (r.map itemS) = some r := by
  cases h with
  | letter c h1 h2 =>
    refine ⟨by simp, by simp, fun p hp => ?_, ?_⟩
    · rcases List.mem_cons.mp hp with e | e
      · rw [e]; exact ⟨asc_letter, by show 32 ∉ tl sLetter; rw [lit_tl]; decide, by show 10 ∉ tl sLetter; rw [lit_tl]; decide⟩
      · rw [List.mem_singleton.mp e]
        exact ⟨(low_asc h1).mono (by decide), low_free h1 (by decide), low_free h1 (by decide)⟩
    · show (if sLetter = sLetter then some (MV.str sLetter :: sts [⟨#[c]⟩]) else (([⟨#[c]⟩] : List Str).mapM numO).map fun ns => MV.str sLetter :: ns.map fun (n : Nat) => .int n) = _
      rw [if_pos rfl]
      rfl
  | both a b h1 h2 =>
    refine ⟨by simp, by simp, fun p hp => ?_, ?_⟩
    · rcases List.mem_cons.mp hp with e | e
      · rw [e]; exact ⟨asc_then, by show 32 ∉ tl sThen; rw [lit_tl]; decide, by show 10 ∉ tl sThen; rw [lit_tl]; decide⟩
      · rcases List.mem_cons.mp e with e | e
        · rw [e]; exact ⟨(num3 (by omega)).mono (by decide), num_free (by decide), num_free (by decide)⟩
        · rw [List.mem_singleton.mp e]; exact ⟨(num3 (by omega)).mono (by decide), num_free (by decide), num_free (by decide)⟩
    · show (if sThen = sLetter then some (MV.str sThen :: sts [numS a, numS b]) else (([numS a, numS b] : List Str).mapM numO).map fun ns => MV.str sThen :: ns.map fun (n : Nat) => .int n) = _
      rw [if_neg sNe1]
      have ea : a < 10 ^ 6 := by omega
      have eb : b < 10 ^ 6 := by omega
      simp [numO_numS ea, numO_numS eb]
  | pump a h1 =>
    refine ⟨by simp, by simp, fun p hp => ?_, ?_⟩
    · rcases List.mem_cons.mp hp with e | e
      · rw [e]; exact ⟨asc_pump, by show 32 ∉ tl sPump; rw [lit_tl]; decide, by show 10 ∉ tl sPump; rw [lit_tl]; decide⟩
      · rw [List.mem_singleton.mp e]; exact ⟨(num3 (by omega)).mono (by decide), num_free (by decide), num_free (by decide)⟩
    · show (if sPump = sLetter then some (MV.str sPump :: sts [numS a]) else (([numS a] : List Str).mapM numO).map fun ns => MV.str sPump :: ns.map fun (n : Nat) => .int n) = _
      rw [if_neg sNe2]
      have ea : a < 10 ^ 6 := by omega
      simp [numO_numS ea]
theorem VRow.txt {al : Str} {k : Nat} {r : List MV} (h : VRow al k r) (hk : k ≤ 400) : Asc 14 (rowTxt r) ∧ 10 ∉ tl (rowTxt r) ∧ cutAt 32 (rowTxt r) = r.map itemS := by
  obtain ⟨h1, h2, h3, h4⟩ := h.items hk
  unfold rowTxt
  rw [litS]
  refine ⟨⟨?_, ((joined_asc (c := 32) (by decide) (fun p hp => (h3 p hp).1)).2)⟩, fun hd => ?_, cut_joined (by decide) h1 fun p hp => (h3 p hp).2.1⟩
  · cases h with
    | letter c h1 h2 =>
      rw [len_tl, tl_joined]
      show (joinL [32] [tl sLetter, [c]]).length ≤ 14
      simp [joinL, lit_tl]
    | both a b h1 h2 =>
      have la := (num3 (n := a) (by omega)).1
      have lb := (num3 (n := b) (by omega)).1
      rw [len_tl] at la lb
      rw [len_tl, tl_joined]
      show (joinL [32] [tl sThen, tl (numS a), tl (numS b)]).length ≤ 14
      simp only [joinL, List.length_append, lit_tl]
      simp at la lb ⊢
      omega
    | pump a h1 =>
      have la := (num3 (n := a) (by omega)).1
      rw [len_tl] at la
      rw [len_tl, tl_joined]
      show (joinL [32] [tl sPump, tl (numS a)]).length ≤ 14
      simp only [joinL, List.length_append, lit_tl]
      simp at la ⊢
      omega
  · rw [tl_joined] at hd
    rcases join_mem hd with e | ⟨p, hp, e⟩
    · cases e
    · obtain ⟨q, hq, rfl⟩ := List.mem_map.mp hp
      exact (h3 q hq).2.2 e
theorem VRows.txts {al : Str} {rows : List (List MV)} (h : VRows al 0 rows) (hl : rows.length ≤ 400) : ∀ p ∈ rows.map rowTxt, Asc 14 p ∧ 10 ∉ tl p := fun p hp => by
  obtain ⟨r, hr, rfl⟩ := List.mem_map.mp hp
  obtain ⟨j, hj, hv⟩ := h.mem hr
  have := hv.txt (by omega)
  exact ⟨this.1, this.2.1⟩
theorem textR_asc {al : Str} {rows : List (List MV)} (h : VRows al 0 rows) (hl : rows.length ≤ 400) : Asc (rows.length * 15) (textR rows) := by
  unfold textR
  rw [litN]
  have := joined_asc (c := 10) (B := 14) (by decide) (fun p hp => (h.txts hl p hp).1)
  simpa using this
theorem rows_back {al : Str} : ∀ {rows : List (List MV)} {k : Nat}, VRows al k rows → k + rows.length ≤ 400 → (rows.map rowTxt).mapM (fun l => rowO (cutAt 32 l)) = some rows
  | _, _, .nil _, _ => rfl
  | _, k, .cons (r := r) (rs := rs) h hs, hl => by
    simp at hl
    have h1 := h.txt (by omega)
    have h2 := h.items (by omega)
    rw [List.map_cons, List.mapM_cons, h1.2.2, h2.2.2.2, rows_back hs (by omega)]
    rfl
theorem spec_text {al : Str} {rows : List (List MV)} (h : VRows al 0 rows) (h1 : 1 ≤ rows.length) (hl : rows.length ≤ 400) : specR al (textR rows) = some rows := by
  have e : cutAt 10 (textR rows) = rows.map rowTxt := by
    unfold textR
    rw [litN]
    exact cut_joined (by decide) (fun e => by rw [List.map_eq_nil_iff] at e; rw [e] at h1; simp at h1) fun p hp => (h.txts hl p hp).2
  unfold specR rowsO
  rw [e, rows_back h (by omega)]
  show (if isRec al rows = true then some rows else none) = _
  rw [if_pos (h.isRec h1 hl)]
end K84

namespace K84
open PySem L2 TL MR
theorem len_app (x y : Str) : (x ++ y).length = x.length + y.length := by
  rw [len_tl, tl_append, List.length_append, ← len_tl, ← len_tl]
theorem itemsOf_stsM (ps : List Str) (st : Sto) : (itemsOf (.lst (sts ps)) st).bind strsOf = some ps := by
  show strsOf (ps.map .str) = some ps
  exact strsOf_map ps
theorem gJoin_lst {y : Str} {ps : List Str} {B : Nat} (h : ∀ p ∈ ps, p.length ≤ B) (hy : y.length ≤ 1) (hb : ps.length * (B + 1) ≤ 16777216) (st : Sto) : gJoin (.str y) [.lst (sts ps)] st = .ok (.str (Txt.join y ps)) st := by
  have hs : ∀ l : List Str, (∀ p ∈ l, p.length ≤ B) → (l.map (·.length)).sum ≤ l.length * B := by
    intro l
    induction l with
    | nil => intro _; simp
    | cons a l ih =>
      intro h
      have h1 := h a List.mem_cons_self
      have h2 := ih fun p hp => h p (List.mem_cons_of_mem _ hp)
      simp only [List.map_cons, List.sum_cons, List.length_cons]
      rw [Nat.add_mul]
      omega
  have c1 : (ps.map (·.length)).sum + ps.length * y.length ≤ 16777216 := by
    have e1 := hs ps h
    have e2 : ps.length * y.length ≤ ps.length * 1 := Nat.mul_le_mul_left _ hy
    rw [Nat.mul_add] at hb
    omega
  have := itemsOf_stsM ps st
  simp only [gJoin, this, c1, if_true]
/-! the text, row by row -/
theorem row_join2 (k a : Str) : k ++ Str.ofString " " ++ a = Txt.join (Str.ofString " ") [k, a] := by
  rw [join_eq]
  rfl
theorem row_join3 (k a b : Str) : k ++ Str.ofString " " ++ a ++ Str.ofString " " ++ b = Txt.join (Str.ofString " ") [k, a, b] := by
  rw [join_eq]
  apply ext_tl
  show _ = tl (k ++ Str.ofString " " ++ (a ++ Str.ofString " " ++ b))
  simp [tl_append]
abbrev bodyI : MS := (sSet 3 (m2 MR.gAdd (m2 MR.gAdd (mVar 3) (mC (.str " "))) (mCall gStr (aCons (mVar 4) aNil))))
abbrev bodyT : MS := (sSeq (sSet 3 (m2 gIx (mVar 2) (mC (.int 0))))
  (sSeq (sFor (iAll (mSl gSlice (mVar 2) (oSome (mC (.int 1))) oNone)) (gN 4) bodyI)
  (sExpr (mMethT isLst gAppend (mVar 1) (aCons (mVar 3) aNil)))))
theorem lenS1 : (Str.ofString " ").length = 1 := by rw [len_tl, lit_tl]; rfl
theorem stepI {m : MV} {x : Str} {e0 e1 e2 e4 : Option MV} {acc : Str} {st : Sto} (hm : gStr [m] st = .ok (.str x) st) (hx : x.length ≤ 100) (ha : acc.length ≤ 1000) : bodyI [e0, e1, e2, some (.str acc), some m] st = .nx [e0, e1, e2, some (.str (acc ++ Str.ofString " " ++ x)), some m] st := by
  have h1 : acc.length + (Str.ofString " ").length ≤ 16777216 := by rw [lenS1]; omega
  have h2 : (acc ++ Str.ofString " ").length + x.length ≤ 16777216 := by rw [len_app, lenS1]; omega
  simp [hm, MR.gAdd, h1, h2]
theorem stepT {al : Str} {k : Nat} {r : List MV} (h : VRow al k r) (hk : k ≤ 400) (st : Sto) (acc : List MV) (ha : acc.length < 16777216) (e0 e3 e4 : Option MV) : ∃ e3' e4', bodyT [e0, some (.obj st.length), some (.tup r), e3, e4] (st ++ [.lst acc]) =
    .nx [e0, some (.obj st.length), some (.tup r), e3', e4'] (st ++ [.lst (acc ++ [.str (rowTxt r)])]) := by
  cases h with
  | letter c h1 h2 =>
    have l1 : ((⟨#[c]⟩ : Str)).length ≤ 100 := Nat.le_trans (low_asc h1).1 (by decide)
    have s1 := stepI (m := .str ⟨#[c]⟩) (e0 := e0) (e1 := some (.obj st.length)) (e2 := some (.tup [.str sLetter, .str ⟨#[c]⟩])) (e4 := e4) (acc := sLetter) (st := st ++ [.lst acc]) rfl l1 (Nat.le_trans asc_letter.1 (by decide))
    have f1 : forM (gN 4) bodyI [.str ⟨#[c]⟩] [e0, some (.obj st.length), some (.tup [.str sLetter, .str ⟨#[c]⟩]), some (.str sLetter), e4] (st ++ [.lst acc]) = .nx [e0, some (.obj st.length), some (.tup [.str sLetter, .str ⟨#[c]⟩]), some (.str (rowTxt [.str sLetter, .str ⟨#[c]⟩])), some (.str ⟨#[c]⟩)] (st ++ [.lst acc]) := by
      rw [forM_step (env1 := [e0, some (.obj st.length), some (.tup [.str sLetter, .str ⟨#[c]⟩]), some (.str sLetter), some (.str ⟨#[c]⟩)]) rfl s1, row_join2]
      rfl
    simp only [bodyI] at f1
    exact ⟨_, _, by simp [gIxT0, gSlT1, f1, isLst_last, append_last, ha]; exact ⟨rfl, rfl⟩⟩
  | both a b h1 h2 =>
    have la := (num3 (n := a) (by omega)).1
    have lb := (num3 (n := b) (by omega)).1
    have s1 := stepI (m := .int a) (e0 := e0) (e1 := some (.obj st.length)) (e2 := some (.tup [.str sThen, .int a, .int b])) (e4 := e4) (acc := sThen) (gStr_nat (by omega) (st ++ [.lst acc])) (Nat.le_trans la (by decide)) (Nat.le_trans asc_then.1 (by decide))
    have s2 := stepI (m := .int b) (e0 := e0) (e1 := some (.obj st.length)) (e2 := some (.tup [.str sThen, .int a, .int b])) (e4 := e4) (acc := sThen ++ Str.ofString " " ++ numS a) (gStr_nat (by omega) (st ++ [.lst acc])) (Nat.le_trans lb (by decide)) (by
      have := asc_then.1
      rw [len_app, len_app, lenS1]; omega)
    have f1 : forM (gN 4) bodyI [.int a, .int b] [e0, some (.obj st.length), some (.tup [.str sThen, .int a, .int b]), some (.str sThen), e4] (st ++ [.lst acc]) = .nx [e0, some (.obj st.length), some (.tup [.str sThen, .int a, .int b]), some (.str (rowTxt [.str sThen, .int a, .int b])), some (.int b)] (st ++ [.lst acc]) := by
      rw [forM_step (env1 := [e0, some (.obj st.length), some (.tup [.str sThen, .int a, .int b]), some (.str sThen), some (.int a)]) rfl s1,
        forM_step (env1 := [e0, some (.obj st.length), some (.tup [.str sThen, .int a, .int b]), some (.str (sThen ++ Str.ofString " " ++ numS a)), some (.int b)]) rfl s2, row_join3]
      rfl
    simp only [bodyI] at f1
    exact ⟨_, _, by simp [gIxT0, gSlT1, f1, isLst_last, append_last, ha]; exact ⟨rfl, rfl⟩⟩
  | pump a h1 =>
    have la := (num3 (n := a) (by omega)).1
    have s1 := stepI (m := .int a) (e0 := e0) (e1 := some (.obj st.length)) (e2 := some (.tup [.str sPump, .int a])) (e4 := e4) (acc := sPump) (gStr_nat (by omega) (st ++ [.lst acc])) (Nat.le_trans la (by decide)) (Nat.le_trans asc_pump.1 (by decide))
    have f1 : forM (gN 4) bodyI [.int a] [e0, some (.obj st.length), some (.tup [.str sPump, .int a]), some (.str sPump), e4] (st ++ [.lst acc]) = .nx [e0, some (.obj st.length), some (.tup [.str sPump, .int a]), some (.str (rowTxt [.str sPump, .int a])), some (.int a)] (st ++ [.lst acc]) := by
      rw [forM_step (env1 := [e0, some (.obj st.length), some (.tup [.str sPump, .int a]), some (.str sPump), some (.int a)]) rfl s1, row_join2]
      rfl
    simp only [bodyI] at f1
    exact ⟨_, _, by simp [gIxT0, gSlT1, f1, isLst_last, append_last, ha]; exact ⟨rfl, rfl⟩⟩
theorem loopT {al : Str} (st : Sto) (e0 : Option MV) : ∀ {k : Nat} {rows : List (List MV)} (acc : List MV) (e2 e3 e4 : Option MV), VRows al k rows → k + rows.length ≤ 400 → acc.length + rows.length ≤ 400 → ∃ e2' e3' e4',
    forM (gN 2) bodyT (rows.map .tup) [e0, some (.obj st.length), e2, e3, e4] (st ++ [.lst acc]) =
    .nx [e0, some (.obj st.length), e2', e3', e4'] (st ++ [.lst (acc ++ rows.map fun r => .str (rowTxt r))])
  | k, _, acc, e2, e3, e4, .nil _, _, _ => ⟨e2, e3, e4, by simp⟩
  | k, _, acc, e2, e3, e4, .cons (r := r) (rs := rs) h hs, hl, h2 => by
    simp at hl h2
    obtain ⟨f3, f4, s1⟩ := stepT h (by omega) st acc (by omega) e0 e3 e4
    obtain ⟨g2, g3, g4, s2⟩ := loopT st e0 (acc ++ [.str (rowTxt r)]) (some (.tup r)) f3 f4 hs (by omega) (by simp; omega)
    refine ⟨g2, g3, g4, ?_⟩
    rw [List.map_cons, forM_step (env1 := [e0, some (.obj st.length), some (.tup r), e3, e4]) rfl s1, s2]
    simp
theorem text_of_eq {al : Str} {rows : List (List MV)} (h : VRows al 0 rows) (hl : rows.length ≤ 400) (st : Sto) : ∃ x, f__law_text_of [.tup (rows.map .tup)] st = .ok (.str (textR rows)) (st ++ [x]) := by
  obtain ⟨e2, e3, e4, lp⟩ := loopT st (some (.tup (rows.map .tup))) [] none none none h (by omega) (by simpa using hl)
  simp only [bodyT, bodyI, List.nil_append] at lp
  have er : (rows.map fun r => MV.str (rowTxt r)) = sts (rows.map rowTxt) := by unfold sts; rw [List.map_map]; rfl
  rw [er] at lp
  have j1 := gJoin_lst (y := Str.ofString "\n") (ps := rows.map rowTxt) (B := 14) (fun p hp => (h.txts hl p hp).1.1) (by rw [litN]; decide) (by simp; omega)
  have j2 : gJoin (.str "\n") [.obj st.length] (st ++ [.lst (sts (rows.map rowTxt))]) = .ok (.str (textR rows)) (st ++ [.lst (sts (rows.map rowTxt))]) := by
    have := j1 (st ++ [.lst (sts (rows.map rowTxt))])
    unfold gJoin at this ⊢
    simp only [items_last] at this ⊢
    exact this
  refine ⟨.lst (sts (rows.map rowTxt)), ?_⟩
  simp [f__law_text_of, b__law_text_of, defM, lp, j2, -List.map_map]
end K84

namespace K84
open PySem L2 TL MR
theorem VRow.item {al : Str} {k : Nat} {r : List MV} (h : VRow al k r) (hk : k ≤ 400) : RowOk 8000 r := by
  cases h with
  | letter c h1 h2 =>
    refine ⟨fun m hm => ?_, by simp⟩
    rcases List.mem_cons.mp hm with e | e
    · rw [e]; exact .str _ (asc_letter.mono (by decide))
    · rw [List.mem_singleton.mp e]; exact .str _ ((low_asc h1).mono (by decide))
  | both a b h1 h2 =>
    refine ⟨fun m hm => ?_, by simp⟩
    rcases List.mem_cons.mp hm with e | e
    · rw [e]; exact .str _ (asc_then.mono (by decide))
    · rcases List.mem_cons.mp e with e | e
      · rw [e]; exact .int _
      · rw [List.mem_singleton.mp e]; exact .int _
  | pump a h1 =>
    refine ⟨fun m hm => ?_, by simp⟩
    rcases List.mem_cons.mp hm with e | e
    · rw [e]; exact .str _ (asc_pump.mono (by decide))
    · rw [List.mem_singleton.mp e]; exact .int _
theorem VRows.item {al : Str} {rows : List (List MV)} (h : VRows al 0 rows) (hl : rows.length ≤ 400) : ∀ r ∈ rows, RowOk 8000 r := fun r hr => by
  obtain ⟨j, hj, hv⟩ := h.mem hr
  exact hv.item (by omega)
theorem VRow.strs {al : Str} {k : Nat} {r : List MV} (h : VRow al k r) (hk : k ≤ 400) (st : Sto) : ∀ m ∈ r, gStr [m] st = .ok (.str (itemS m)) st := by
  cases h with
  | letter c h1 h2 =>
    intro m hm
    rcases List.mem_cons.mp hm with e | e
    · rw [e]; rfl
    · rw [List.mem_singleton.mp e]; rfl
  | both a b h1 h2 =>
    intro m hm
    rcases List.mem_cons.mp hm with e | e
    · rw [e]; rfl
    · rcases List.mem_cons.mp e with e | e
      · rw [e]; exact gStr_nat (by omega) st
      · rw [List.mem_singleton.mp e]; exact gStr_nat (by omega) st
  | pump a h1 =>
    intro m hm
    rcases List.mem_cons.mp hm with e | e
    · rw [e]; rfl
    · rw [List.mem_singleton.mp e]; exact gStr_nat (by omega) st
theorem rows_text_eq {al : Str} {rows : List (List MV)} (h : VRows al 0 rows) (hl : rows.length ≤ 400) (st : Sto) : f_rows_text [.tup (rows.map .tup)] st = .ok (.str (textR rows)) st := by
  have c1 : compM (.nm 1) tYesM (mMethT isStr gJoin (mC (.str " ")) (aCons (mLc (iAll (mVar 1)) [2] (.nm 2) tYesM (mCall gStr (aCons (mVar 2) aNil))) aNil)) (rows.map .tup) [some (.tup (rows.map .tup)), none, none] [] st =
      .ok ([] ++ (rows.map MV.tup).map fun m => match m with | .tup r => .str (rowTxt r) | _ => .non) st := by
    apply compM_map
    · intro y hy
      obtain ⟨r, hr, rfl⟩ := List.mem_map.mp hy
      obtain ⟨j, hj, hv⟩ := h.mem hr
      refine ⟨_, rfl, ?_⟩
      have c2 : compM (.nm 2) tYesM (mCall gStr (aCons (mVar 2) aNil)) r [some (.tup (rows.map .tup)), some (.tup r), none] [] st = .ok ([] ++ r.map fun m => .str (itemS m)) st := by
        apply compM_map
        · intro m hm
          refine ⟨_, rfl, ?_⟩
          simp [hv.strs (by omega) st m hm]
        · have := (hv.items (by omega)).2.1
          simp at this ⊢
          omega
      have e2 : (r.map fun m => MV.str (itemS m)) = sts (r.map itemS) := by unfold sts; rw [List.map_map]; rfl
      rw [e2, List.nil_append] at c2
      have j1 := gJoin_lst (y := Str.ofString " ") (ps := r.map itemS) (B := 6) (fun p hp => ((hv.items (by omega)).2.2.1 p hp).1.1) (by rw [lenS1]; decide) (by have := (hv.items (by omega)).2.1; omega) st
      simp [c2, j1, rowTxt, -List.map_map]
    · simp
      omega
  have e1 : ((rows.map MV.tup).map fun m => match m with | .tup r => MV.str (rowTxt r) | _ => .non) = sts (rows.map rowTxt) := by unfold sts; rw [List.map_map, List.map_map]; rfl
  rw [e1, List.nil_append] at c1
  have j1 := gJoin_lst (y := Str.ofString "\n") (ps := rows.map rowTxt) (B := 14) (fun p hp => (h.txts hl p hp).1.1) (by rw [litN]; decide) (by simp; omega) st
  simp [f_rows_text, b_rows_text, defM, c1, j1, textR, -List.map_map]
/-! ### the signs of a recipe -/
def letS (r : List MV) : List Str := match r with
  | [_, .str s] => [s]
  | _ => []
def letsR (rows : List (List MV)) : List Str := (rows.map letS).flatten
abbrev bodyG : MS := (sIf (mAndT (mB (mCall gIsi (aCons (mVar 2) (aCons (mC (.ty "tuple")) aNil)))) (mAndT (mB (m2 gEq (mCall gLen (aCons (mVar 2) aNil)) (mC (.int 2)))) (mAndT (mB (m2 gEq (m2 gIx (mVar 2) (mC (.int 0))) (mC (.str "letter")))) (mB (mFn 1 f_is_sign (aCons (m2 gIx (mVar 2) (mC (.int 1))) aNil)))))) (sExpr (mMethT isLst gAppend (mVar 1) (aCons (m2 gIx (mVar 2) (mC (.int 1))) aNil))) sNext)
theorem gIxT1 (a m : MV) (ps : List MV) (st : Sto) : gIx (.tup (a :: m :: ps)) (.int 1) st = .ok m st := by
  have : atI (a :: m :: ps) 1 = some m := by
    unfold atI ixN
    rw [if_pos (by decide), if_pos (by simp; omega)]
    rfl
  simp [gIx, this]
theorem stepG {al : Str} {k : Nat} {r : List MV} (h : VRow al k r) (st : Sto) (acc : List MV) (ha : acc.length < 16777216) (e0 : Option MV) : bodyG [e0, some (.obj st.length), some (.tup r)] (st ++ [.lst acc]) =
    .nx [e0, some (.obj st.length), some (.tup r)] (st ++ [.lst (acc ++ sts (letS r))]) := by
  cases h with
  | letter c h1 h2 =>
    have q1 := gEq_str asc_letter asc_letter (st ++ [.lst acc])
    rw [decide_eq_true rfl] at q1
    have q2 := is_sign_eq (Nat.le_of_ble_eq_true rfl : 1 ≤ 16777216) (Item.str _ (low_asc h1)) (st ++ [.lst acc])
    have e2 : isSign (.str ⟨#[c]⟩) = true := h1
    rw [e2] at q2
    have z : letS [.str sLetter, .str ⟨#[c]⟩] = [⟨#[c]⟩] := rfl
    rw [z]
    simp [gIsi, gLenT, gEq_int, gIxT0, gIxT1, q1, q2, isLst_last, append_last, ha]
  | both a b h1 h2 =>
    have z : letS [.str sThen, .int a, .int b] = [] := rfl
    rw [z]
    simp [gIsi, gLenT, gEq_int]
  | pump a h1 =>
    have q1 := gEq_str asc_pump asc_letter (st ++ [.lst acc])
    rw [decide_eq_false sNe2] at q1
    have z : letS [.str sPump, .int a] = [] := rfl
    rw [z]
    simp [gIsi, gLenT, gEq_int, gIxT0, q1]
theorem letS_len {al : Str} {k : Nat} {r : List MV} (h : VRow al k r) : (letS r).length ≤ 1 := by
  cases h with
  | letter c h1 h2 => exact Nat.le_refl 1
  | both a b h1 h2 => exact Nat.zero_le 1
  | pump a h1 => exact Nat.zero_le 1
theorem loopG {al : Str} (st : Sto) (e0 : Option MV) : ∀ {k : Nat} {rows : List (List MV)} (acc : List MV) (e2 : Option MV), VRows al k rows → acc.length + rows.length ≤ 400 → ∃ e2',
    forM (gN 2) bodyG (rows.map .tup) [e0, some (.obj st.length), e2] (st ++ [.lst acc]) =
    .nx [e0, some (.obj st.length), e2'] (st ++ [.lst (acc ++ sts (letsR rows))])
  | k, _, acc, e2, .nil _, _ => ⟨e2, by simp [letsR]⟩
  | k, _, acc, e2, .cons (r := r) (rs := rs) h hs, h2 => by
    have := letS_len h
    simp at h2
    have s1 := stepG h st acc (by omega) e0
    obtain ⟨g2, s2⟩ := loopG st e0 (acc ++ sts (letS r)) (some (.tup r)) hs (by simp; omega)
    refine ⟨g2, ?_⟩
    rw [List.map_cons, forM_step (env1 := [e0, some (.obj st.length), some (.tup r)]) rfl s1, s2]
    simp [letsR]
theorem nodup_len : ∀ {l m : List Nat}, l.Nodup → (∀ x ∈ l, x ∈ m) → l.length ≤ m.length
  | [], m, _, _ => Nat.zero_le _
  | a :: l, m, nd, h => by
    obtain ⟨n1, n2⟩ := List.nodup_cons.mp nd
    have ha := h a List.mem_cons_self
    have ih := nodup_len (l := l) (m := m.erase a) n2 fun x hx => by
      have : x ≠ a := fun e => n1 (e ▸ hx)
      exact (List.mem_erase_of_ne this).mpr (h x (List.mem_cons_of_mem _ hx))
    rw [List.length_erase_of_mem ha] at ih
    have : 1 ≤ m.length := List.length_pos_iff.mpr (List.ne_nil_of_mem ha)
    simp
    omega
theorem lets_one {al : Str} : ∀ {k : Nat} {rows : List (List MV)}, VRows al k rows → ∀ s ∈ letsR rows, ∃ c, s = ⟨#[c]⟩ ∧ lowc c = true ∧ c ∈ tl al
  | _, _, .nil _, s, h => by cases h
  | k, _, .cons (r := r) (rs := rs) h hs, s, hm => by
    have e : letsR (r :: rs) = letS r ++ letsR rs := by simp [letsR]
    rw [e] at hm
    rcases List.mem_append.mp hm with hm | hm
    · cases h with
      | letter c h1 h2 => exact ⟨c, List.mem_singleton.mp hm, h1, h2⟩
      | both a b h1 h2 => cases hm
      | pump a h1 => cases hm
    · exact lets_one hs s hm
theorem VRows.narrow {al A : Str} : ∀ {k : Nat} {rows : List (List MV)}, VRows al k rows → (∀ c, (⟨#[c]⟩ : Str) ∈ letsR rows → c ∈ tl A) → VRows A k rows
  | _, _, .nil k, _ => .nil k
  | k, _, .cons (r := r) (rs := rs) h hs, hm => by
    have e : letsR (r :: rs) = letS r ++ letsR rs := by simp [letsR]
    refine .cons ?_ (hs.narrow fun c hc => hm c (by rw [e]; exact List.mem_append_right _ hc))
    cases h with
    | letter c h1 h2 => exact .letter c h1 (hm c (by rw [e]; exact List.mem_append_left _ List.mem_cons_self))
    | both a b h1 h2 => exact .both a b h1 h2
    | pump a h1 => exact .pump a h1
theorem ones_of : ∀ {l : List Str}, (∀ s ∈ l, ∃ c : Nat, s = ⟨#[c]⟩) → ∃ cs : List Nat, l = cs.map fun c => ⟨#[c]⟩
  | [], _ => ⟨[], rfl⟩
  | s :: l, h => by
    obtain ⟨c, rfl⟩ := h s List.mem_cons_self
    obtain ⟨cs, rfl⟩ := ones_of fun x hx => h x (List.mem_cons_of_mem _ hx)
    exact ⟨c :: cs, rfl⟩
theorem joinL_ones : ∀ cs : List Nat, joinL [] (cs.map fun c => [c]) = cs
  | [] => rfl
  | [c] => rfl
  | c :: d :: r => by
    show [c] ++ ([] ++ joinL [] ((d :: r).map fun c => [c])) = c :: d :: r
    rw [joinL_ones (d :: r)]
    rfl
theorem litE : Str.ofString "" = ⟨#[]⟩ := ext_tl (tl_ofString "")
theorem rising_cs : ∀ {cs : List Nat}, cs.Pairwise (· < ·) → rising cs = true
  | [], _ => rfl
  | [a], _ => rfl
  | a :: b :: r, h => by
    obtain ⟨h1, h2⟩ := List.pairwise_cons.mp h
    show (decide (a < b) && rising (b :: r)) = true
    rw [rising_cs h2, decide_eq_true (h1 b List.mem_cons_self)]
    rfl
theorem signs_join {al : Str} (hal : isAlph al = true) {rows : List (List MV)} (h : VRows al 0 rows) (h1 : 1 ≤ rows.length) :
    isAlph (Txt.join (Str.ofString "") (sortT (letsR rows))) = true ∧ Asc 4 (Txt.join (Str.ofString "") (sortT (letsR rows))) ∧ VRows (Txt.join (Str.ofString "") (sortT (letsR rows))) 0 rows ∧ (sortT (letsR rows)).length ≤ 4 ∧ ∀ p ∈ sortT (letsR rows), p.length ≤ 1 := by
  obtain ⟨cs, ecs⟩ := ones_of (l := sortT (letsR rows)) fun s hs => by
    obtain ⟨c, e, _⟩ := lets_one h s ((sortT_mem _ s).mp hs)
    exact ⟨c, e⟩
  have hcs : ∀ c ∈ cs, lowc c = true ∧ c ∈ tl al := fun c hc => by
    obtain ⟨d, e, e1, e2⟩ := lets_one h ⟨#[c]⟩ ((sortT_mem _ _).mp (by rw [ecs]; exact List.mem_map.mpr ⟨c, hc, rfl⟩))
    have : c = d := by injection e with e; injection e with e; injection e
    rw [this]; exact ⟨e1, e2⟩
  have et : tl (Txt.join (Str.ofString "") (sortT (letsR rows))) = cs := by
    rw [litE, join_eq, tl_join, ecs, List.map_map]
    exact joinL_ones cs
  have pw : cs.Pairwise (· < ·) := by
    have := sortT_rising (letsR rows)
    rw [ecs] at this
    have := List.pairwise_map.mp this
    refine this.imp fun {a b} hab => ?_
    have : (decide (a < b) || ((a == b) && false)) = true := hab
    simpa using this
  have nd : cs.Nodup := pw.imp fun {a b} hab => Nat.ne_of_lt hab
  have hal4 : (tl al).length ≤ 4 := by
    unfold isAlph at hal
    simp only [Bool.and_eq_true, decide_eq_true_eq] at hal
    exact hal.1.1.2
  have l4 : cs.length ≤ 4 := Nat.le_trans (nodup_len nd fun c hc => (hcs c hc).2) hal4
  have l1 : 1 ≤ cs.length := by
    cases h with
    | nil => simp at h1
    | cons h hs =>
      rename_i r rs
      cases h with
      | letter c h1 h2 =>
        have : (⟨#[c]⟩ : Str) ∈ sortT (letsR ([.str sLetter, .str ⟨#[c]⟩] :: rs)) := (sortT_mem _ _).mpr (by simp [letsR, letS])
        rw [ecs] at this
        obtain ⟨d, hd, _⟩ := List.mem_map.mp this
        exact List.length_pos_iff.mpr (List.ne_nil_of_mem hd)
      | both a b h1 h2 => omega
      | pump a h1 => omega
  refine ⟨?_, ⟨?_, ?_⟩, h.narrow fun c hc => ?_, ?_, fun p hp => ?_⟩
  · unfold isAlph
    rw [et, decide_eq_true l1, decide_eq_true l4, rising_cs pw]
    have : cs.all lowc = true := List.all_eq_true.mpr fun c hc => (hcs c hc).1
    rw [this]
    rfl
  · rw [len_tl, et]; exact l4
  · rw [et]
    intro c hc
    exact (low_asc (hcs c hc).1).2 c (by simp)
  · rw [et]
    have : (⟨#[c]⟩ : Str) ∈ sortT (letsR rows) := (sortT_mem _ _).mpr hc
    rw [ecs] at this
    obtain ⟨d, hd, e⟩ := List.mem_map.mp this
    have : d = c := by injection e with e; injection e with e; injection e
    rw [← this]; exact hd
  · rw [ecs, List.length_map]; exact l4
  · rw [ecs] at hp
    obtain ⟨d, hd, rfl⟩ := List.mem_map.mp hp
    exact Nat.le_refl 1
theorem signs_in_eq {al : Str} (hal : isAlph al = true) {rows : List (List MV)} (h : VRows al 0 rows) (h1 : 1 ≤ rows.length) (hl : rows.length ≤ 400) (hf : (letsR rows).length < 63) (st : Sto) : ∃ x, f_signs_in [.tup (rows.map .tup)] st = .ok (.str (Txt.join (Str.ofString "") (sortT (letsR rows)))) (st ++ [x]) := by
  obtain ⟨e2, lp⟩ := loopG st (some (.tup (rows.map .tup))) [] none h (by simpa using hl)
  simp only [bodyG, List.nil_append] at lp
  obtain ⟨_, _, _, s4, s5⟩ := signs_join hal h h1
  have g1 : gSortSet [.obj st.length] (st ++ [.lst (sts (letsR rows))]) = .ok (.lst (sts (sortT (letsR rows)))) (st ++ [.lst (sts (letsR rows))]) := by
    have : (MR.listOf (.obj st.length) (st ++ [.lst (sts (letsR rows))])).bind strsOf = some (letsR rows) := by
      have : MR.listOf (.obj st.length) (st ++ [.lst (sts (letsR rows))]) = some (sts (letsR rows)) := by simp [MR.listOf]
      rw [this]
      exact strsOf_map _
    simp only [gSortSet, this, hf, if_true]
  have j1 := gJoin_lst (y := Str.ofString "") (ps := sortT (letsR rows)) (B := 1) s5 (by rw [litE]; decide) (by omega) (st ++ [.lst (sts (letsR rows))])
  refine ⟨.lst (sts (letsR rows)), ?_⟩
  simp [f_signs_in, b_signs_in, defM, gIsi, lp, g1, j1, -List.map_map]
theorem recipe_text_eq {al : Str} (hal : isAlph al = true) {rows : List (List MV)} (h : VRows al 0 rows) (h1 : 1 ≤ rows.length) (hl : rows.length ≤ 400) (hf : (letsR rows).length < 63) (st : Sto) : ∃ x, f_recipe_text [.tup (rows.map .tup)] st = .ok (.str (textR rows)) (st ++ [x]) := by
  obtain ⟨x, e1⟩ := signs_in_eq hal h h1 hl hf st
  obtain ⟨s1, s2, s3, _, _⟩ := signs_join hal h h1
  have e2 := is_alphabet_eq (Nat.le_of_ble_eq_true rfl : 4 ≤ 16777216) s2 (st ++ [x])
  rw [s1] at e2
  have e3 := is_recipe_in_eq (Nat.le_of_ble_eq_true rfl : 8000 ≤ 16777216) (al := Txt.join (Str.ofString "") (sortT (letsR rows))) (h.item hl) (st ++ [x])
  rw [s3.isRec h1 hl] at e3
  refine ⟨x, ?_⟩
  simp [f_recipe_text, b_recipe_text, defM, e1, e2, e3, rows_text_eq h hl]
end K84

namespace K84
open PySem L2 TL MR
/-! ### the stream -/
def Strm (k : Nat) (st : Sto) : Prop := ∃ a b c : Int, st[k]? = some (.lst [.int a, .int b, .int c])
theorem Strm.app {k : Nat} {st : Sto} (h : Strm k st) (tail : Sto) : Strm k (st ++ tail) := by
  obtain ⟨a, b, c, e⟩ := h
  exact ⟨a, b, c, by rw [List.getElem?_append_left (List.getElem?_eq_some_iff.mp e).1]; exact e⟩
theorem setIx_simp {o i e : ME} {env : MEnv} {st : Sto} : sSetIx o i e env st = bindE (e env st) env fun v st1 => bindE (noExc (o env st1)) env fun m st2 => bindE (noExc (i env st2)) env fun n st3 => match n with
  | .int j => match setAt m j v st3 with
    | some st4 => .nx env st4
    | none => .bad
  | _ => .bad := rfl
theorem mul_l {i j : Int} (h : -(2 ^ 64) < i ∧ i < 2 ^ 64) (st : Sto) : gMulS (.int i) (.int j) st = .ok (.int (i * j)) st := by
  have : mulOk i j = true := by unfold mulOk; rw [decide_eq_true_iff]; exact .inl (.inl h)
  show (if mulOk i j = true then Res.ok (MV.int (i * j)) st else .bad) = _
  rw [if_pos this]
theorem mul_r {i j : Int} (h : -(2 ^ 64) < j ∧ j < 2 ^ 64) (st : Sto) : gMulS (.int i) (.int j) st = .ok (.int (i * j)) st := by
  have : mulOk i j = true := by unfold mulOk; rw [decide_eq_true_iff]; exact .inl (.inr h)
  show (if mulOk i j = true then Res.ok (MV.int (i * j)) st else .bad) = _
  rw [if_pos this]
theorem gMod_eq {i j : Int} (h : 0 < j) (st : Sto) : gMod (.int i) (.int j) st = .ok (.int (i % j)) st := by
  simp [gMod, gI, h]
theorem gDiv_eq {i j : Int} (h : 0 < j) (h2 : j < 2 ^ 64) (st : Sto) : gDiv (.int i) (.int j) st = .ok (.int (i / j)) st := by
  have : j.natAbs.log2 < 9000 := by
    have := (Nat.log2_lt (n := j.natAbs) (k := 64) (by omega)).mpr (by omega)
    omega
  simp [gDiv, gI, h, this]
theorem gAddI (i j : Int) (st : Sto) : MR.gAdd (.int i) (.int j) st = .ok (.int (i + j)) st := rfl
theorem gSubI (i j : Int) (st : Sto) : MR.gSub (.int i) (.int j) st = .ok (.int (i - j)) st := rfl
theorem gLtI (i j : Int) (st : Sto) : gLt (.int i) (.int j) st = .ok (.bl (decide (i < j))) st := rfl
theorem gGtI (i j : Int) (st : Sto) : gGt (.int i) (.int j) st = .ok (.bl (decide (j < i))) st := rfl
theorem ix_obj {k : Nat} {st : Sto} {a b c : Int} (h : st[k]? = some (.lst [.int a, .int b, .int c])) : gIx (.obj k) (.int 0) st = .ok (.int a) st ∧ gIx (.obj k) (.int 1) st = .ok (.int b) st ∧ gIx (.obj k) (.int 2) st = .ok (.int c) st := by
  refine ⟨?_, ?_, ?_⟩ <;> simp [gIx, itemsOf, h, atI, ixN]
theorem set_obj {k : Nat} {st : Sto} {a b c : Int} (h : st[k]? = some (.lst [.int a, .int b, .int c])) (x : Int) : setAt (.obj k) 0 (.int x) st = some (st.set k (.lst [.int x, .int b, .int c])) ∧ setAt (.obj k) 2 (.int x) st = some (st.set k (.lst [.int a, .int b, .int x])) := by
  refine ⟨?_, ?_⟩ <;> simp [setAt, h, ixN]
theorem draw_eq {k : Nat} {st : Sto} (h : Strm k st) {d : Nat} (hd : 0 < d) (hd2 : d < 2 ^ 60) (tail : Sto) : ∃ (r : Nat) (s2 : Sto), f__law_draw [.obj k, .int d] (st ++ tail) = .ok (.int r) (s2 ++ tail) ∧ r < d ∧ s2.length = st.length ∧ Strm k s2 := by
  obtain ⟨a, b, c, e⟩ := h
  have hk : k < st.length := (List.getElem?_eq_some_iff.mp e).1
  have e' : (st ++ tail)[k]? = some (.lst [.int a, .int b, .int c]) := by rw [List.getElem?_append_left hk]; exact e
  obtain ⟨i0, i1, i2⟩ := ix_obj e'
  have hdi : (0 : Int) < d := by omega
  have hdj : (d : Int) < 2 ^ 64 := by omega
  have fin : ∀ x : Int, ∃ r : Nat, r < d ∧ x % d = r := fun x => ⟨(x % d).toNat, by
    have h1 := Int.emod_nonneg x (b := d) (by omega)
    have h2 := Int.emod_lt_of_pos x hdi
    omega, by
    have h1 := Int.emod_nonneg x (b := d) (by omega)
    omega⟩
  have fs : ∀ y : MO, (st ++ tail).set k y = st.set k y ++ tail := fun y => List.set_append_left _ _ hk
  by_cases ha : 0 < a
  · obtain ⟨r, hr, er⟩ := fin a
    refine ⟨r, st.set k (.lst [.int (a / d), .int b, .int c]), ?_, hr, by simp, ⟨a / d, b, c, by simp [hk]⟩⟩
    have s1 := (set_obj e' (a / d)).1
    rw [fs] at s1
    simp [f__law_draw, b__law_draw, defM, i0, gGtI, ha, gMod_eq hdi, gDiv_eq hdi hdj, setIx_simp, s1, er]
  · have s1 := (set_obj e' (c + 1)).2
    rw [fs] at s1
    have e2 : (st.set k (.lst [.int a, .int b, .int (c + 1)]) ++ tail)[k]? = some (.lst [.int a, .int b, .int (c + 1)]) := by
      rw [List.getElem?_append_left (by simpa using hk)]
      simp [hk]
    obtain ⟨j0, j1, j2⟩ := ix_obj e2
    have p1 : (0 : Int) < 2305843009213693951 := by decide
    have p2 : (0 : Int) < 2305843009213693921 := by decide
    have p3 : (0 : Int) < 2305843009213693907 := by decide
    have p4 : (0 : Int) < 4096 := by decide
    have p5 : (4096 : Int) < 2 ^ 64 := by decide
    have b1 : ∀ x : Int, -(2 ^ 64) < x % 2305843009213693951 ∧ x % 2305843009213693951 < 2 ^ 64 := fun x => by omega
    have m1 : ∀ (x : Int) s, gMulS (.int 1000003) (.int x) s = .ok (.int (1000003 * x)) s := fun x s => mul_l (by decide) s
    have m2 : ∀ (x : Int) s, gMulS (.int 8191) (.int x) s = .ok (.int (8191 * x)) s := fun x s => mul_l (by decide) s
    have m3 : ∀ (x y : Int) s, gMulS (.int x) (.int (y % 2305843009213693951)) s = .ok (.int (x * (y % 2305843009213693951))) s := fun x y s => mul_r (b1 y) s
    generalize hw : ((b + 1000003 * (c + 1)) % 2305843009213693951) = w at *
    obtain ⟨r, hr, er⟩ := fin ((w * w % 2305843009213693921 * w + 8191 * (c + 1)) % 2305843009213693907 / 4096)
    have bw : -(2 ^ 64) < w ∧ w < 2 ^ 64 := by rw [← hw]; exact b1 _
    have m4 : ∀ (x : Int) s, gMulS (.int x) (.int w) s = .ok (.int (x * w)) s := fun x s => mul_r bw s
    refine ⟨r, st.set k (.lst [.int a, .int b, .int (c + 1)]), ?_, hr, by simp, ⟨a, b, c + 1, by simp [hk]⟩⟩
    simp [f__law_draw, b__law_draw, defM, i0, i1, i2, j0, j1, j2, gGtI, ha, gMod_eq hdi, gDiv_eq p4 p5, setIx_simp, s1, er, gAddI, gMod_eq p1, gMod_eq p2, gMod_eq p3, m1, m2, m4, hw]
theorem pow1 (st : Sto) : gPow (.int 10) (.int 60) st = .ok (.int ((10 : Int) ^ 60)) st := by
  show (if (decide ((0 : Int) ≤ 60 ∧ (60 : Int) ≤ 1000 ∧ (10 : Int).natAbs.log2 < 1000)) = true then Res.ok (MV.int ((10 : Int) ^ (60 : Int).toNat)) st else .bad) = _
  rw [if_pos (by decide +kernel)]
  rfl
theorem pow3 (st : Sto) : gPow (.int 10) (.int 18) st = .ok (.int ((10 : Int) ^ 18)) st := by
  show (if (decide ((0 : Int) ≤ 18 ∧ (18 : Int) ≤ 1000 ∧ (10 : Int).natAbs.log2 < 1000)) = true then Res.ok (MV.int ((10 : Int) ^ (18 : Int).toNat)) st else .bad) = _
  rw [if_pos (by decide +kernel)]
  rfl
theorem pow2 (st : Sto) : ∃ z : Int, 0 < z ∧ gPow (.int ((10 : Int) ^ 60)) (.int 12) st = .ok (.int z) st := by
  refine ⟨((10 : Int) ^ 60) ^ (12 : Int).toNat, by decide +kernel, ?_⟩
  show (if (decide ((0 : Int) ≤ 12 ∧ (12 : Int) ≤ 1000 ∧ ((10 : Int) ^ 60).natAbs.log2 < 1000)) = true then Res.ok (MV.int (((10 : Int) ^ 60) ^ (12 : Int).toNat)) st else .bad) = _
  rw [if_pos (by decide +kernel)]
end K84

namespace K84
open PySem L2 TL MR
theorem stream_eq {ns : List Int} {t : Nat} (st : Sto) : ∃ a b c : Int, f__law_stream [.scr ns, .int t] st = .ok (.obj st.length) (st ++ [.lst [.int a, .int b, .int c]]) := by
  obtain ⟨z, hz, p2⟩ := pow2 st
  have hp1 := pow1 st
  have hp3 := pow3 st
  generalize (10 : Int) ^ 60 = P at hp1 p2
  generalize (10 : Int) ^ 18 = Q at hp3
  obtain ⟨v0, a1⟩ : ∃ y : Int, gMulS (.int 7) (.int t) st = .ok (.int y) st := ⟨_, mul_l (by decide) st⟩
  obtain ⟨v1, a2⟩ : ∃ y : Int, MR.gAdd (.int v0) (.int 3) st = .ok (.int y) st := ⟨_, rfl⟩
  have gl : gLen [.scr ns] st = .ok (.int ns.length) st := rfl
  have tail : ∀ v : Int, ∃ w x y p q r i j s u m n o : Int, ∃ b : Bool, gAbs [.int v] st = .ok (.int w) st ∧ gMod (.int w) (.int z) st = .ok (.int x) st ∧ gMod (.int x) (.int 2147483629) st = .ok (.int y) st ∧
      gMulS (.int y) (.int 48271) st = .ok (.int p) st ∧ gMulS (.int 977) (.int t) st = .ok (.int q) st ∧ MR.gAdd (.int p) (.int q) st = .ok (.int r) st ∧ gLt (.int v) (.int 0) st = .ok (.bl b) st ∧ gInt [.bl b] st = .ok (.int i) st ∧
      gMulS (.int 2) (.int i) st = .ok (.int j) st ∧ MR.gAdd (.int r) (.int j) st = .ok (.int s) st ∧ MR.gAdd (.int s) (.int 11) st = .ok (.int u) st ∧ gMod (.int u) (.int 2147483647) st = .ok (.int m) st ∧
      MR.gSub (.int x) (.int Q) st = .ok (.int n) st ∧ gMax [.int 0, .int n] st = .ok (.int o) st := fun v =>
    ⟨_, _, _, _, _, _, _, _, _, _, _, _, _, _, rfl, gMod_eq hz st, gMod_eq (by decide) st, mul_r (by decide) st, mul_l (by decide) st, rfl, rfl, rfl, mul_l (by decide) st, rfl, rfl, gMod_eq (by decide) st, rfl, rfl⟩
  have g0 := gLtI t ns.length st
  by_cases h : (t : Int) < ns.length
  · rw [decide_eq_true h] at g0
    have h : t < ns.length := by omega
    have gi : gIx (.scr ns) (.int t) st = .ok (.int ns[t]) st := by
      have : atI ns (t : Int) = some ns[t] := by simp [atI, ixN, h]
      simp [gIx, this]
    generalize ns[t] = v at gi
    obtain ⟨w, x, y, p, q, r, i, j, s, u, m, n, o, b, c1, c2, c3, c4, c5, c6, c7, c8, c9, c10, c11, c12, c13, c14⟩ := tail v
    refine ⟨o, m, 0, ?_⟩
    simp [f__law_stream, b__law_stream, defM, a1, a2, gl, g0, gi, hp1, p2, hp3, c1, c2, c3, c4, c5, c6, c7, c8, c9, c10, c11, c12, c13, c14]
  · rw [decide_eq_false h] at g0
    obtain ⟨w, x, y, p, q, r, i, j, s, u, m, n, o, b, c1, c2, c3, c4, c5, c6, c7, c8, c9, c10, c11, c12, c13, c14⟩ := tail v1
    refine ⟨o, m, 0, ?_⟩
    simp [f__law_stream, b__law_stream, defM, a1, a2, gl, g0, hp1, p2, hp3, c1, c2, c3, c4, c5, c6, c7, c8, c9, c10, c11, c12, c13, c14]
end K84

namespace K84
open PySem L2 TL MR
theorem gLen_str {N : Nat} {s : Str} (h : Asc N s) (hN : N ≤ 16777216) (st : Sto) : gLen [.str s] st = .ok (.int s.length) st := by
  have : s.length ≤ 16777216 := Nat.le_trans h.1 hN
  show (if s.length ≤ 16777216 then Res.ok (MV.int s.length) st else .bad) = _
  rw [if_pos this]
theorem gIx_str {N : Nat} {s : Str} (h : Asc N s) (hN : N ≤ 16777216) {d : Nat} (hd : d < s.length) (st : Sto) : ∃ c, c ∈ tl s ∧ c < 128 ∧ gIx (.str s) (.int d) st = .ok (.str ⟨#[c]⟩) st := by
  have hl : s.length ≤ 16777216 := Nat.le_trans h.1 hN
  have hd' : d < (tl s).length := by rw [← len_tl]; exact hd
  refine ⟨(tl s)[d], List.getElem_mem hd', h.2 _ (List.getElem_mem hd'), ?_⟩
  have : atI s.cps.toList (d : Int) = some (tl s)[d] := by
    unfold atI ixN
    have hd2 : d < s.cps.toList.length := hd'
    rw [if_pos (by omega), if_pos (by omega)]
    show (tl s)[(d : Int).toNat]? = _
    rw [Int.toNat_natCast, List.getElem?_eq_getElem hd']
  simp [gIx, hl, this]
abbrev bodyR : MS := (sSeq (sSet 5 (mIf (mB (m2 gGt (mVar 4) (mC (.int 0)))) (mFn 2 f__law_draw (aCons (mVar 0) (aCons (mC (.int 3)) aNil))) (mC (.int 0))))
  (sIf (mB (m2 gEq (mVar 5) (mC (.int 0)))) (sExpr (mMethT isLst gAppend (mVar 3) (aCons (mTup (aCons (mC (.str "letter")) (aCons (m2 gIx (mVar 1) (mFn 2 f__law_draw (aCons (mVar 0) (aCons (mCall gLen (aCons (mVar 1) aNil)) aNil)))) aNil))) aNil))) (sIf (mB (m2 gEq (mVar 5) (mC (.int 1)))) (sExpr (mMethT isLst gAppend (mVar 3) (aCons (mTup (aCons (mC (.str "then")) (aCons (mFn 2 f__law_draw (aCons (mVar 0) (aCons (mVar 4) aNil))) (aCons (mFn 2 f__law_draw (aCons (mVar 0) (aCons (mVar 4) aNil))) aNil)))) aNil))) (sExpr (mMethT isLst gAppend (mVar 3) (aCons (mTup (aCons (mC (.str "pump")) (aCons (mFn 2 f__law_draw (aCons (mVar 0) (aCons (mVar 4) aNil))) aNil))) aNil))))))
theorem isLst_at {n : Nat} {s : Sto} (h : s.length = n) (xs : List MV) : isLst (.obj n) (s ++ [.lst xs]) = true := by subst h; exact isLst_last s xs
theorem append_at {n : Nat} {s : Sto} (h : s.length = n) (xs : List MV) (m : MV) (hx : xs.length < 16777216) : gAppend (.obj n) [m] (s ++ [.lst xs]) = .ok .non (s ++ [.lst (xs ++ [m])]) := by subst h; exact append_last s xs m hx
theorem alph_pos {al : Str} (hal : isAlph al = true) : 1 ≤ al.length ∧ al.length ≤ 4 ∧ ∀ c ∈ tl al, lowc c = true := by
  unfold isAlph at hal
  simp only [Bool.and_eq_true, decide_eq_true_eq] at hal
  rw [len_tl]
  exact ⟨hal.1.1.1, hal.1.1.2, fun c hc => List.all_eq_true.mp hal.1.2 c hc⟩
theorem alph_asc {al : Str} (hal : isAlph al = true) : Asc 4 al := by
  obtain ⟨h1, h2, h3⟩ := alph_pos hal
  refine ⟨h2, fun c hc => ?_⟩
  have := h3 c hc
  unfold lowc at this
  simp at this
  omega
theorem stepR {al : Str} (hal : isAlph al = true) {k n : Nat} {s1 : Sto} (hs : Strm k s1) (hn : s1.length = n) (acc : List MV) (ha : acc.length < 16777216) (e2 e5 : Option MV) {i : Nat} (hi : i ≤ 400) : ∃ r s2 e5', VRow al i r ∧ Strm k s2 ∧ s2.length = n ∧
    bodyR [some (.obj k), some (.str al), e2, some (.obj n), some (.int i), e5] (s1 ++ [.lst acc]) = .nx [some (.obj k), some (.str al), e2, some (.obj n), some (.int i), e5'] (s2 ++ [.lst (acc ++ [.tup r])]) := by
  obtain ⟨p1, p2, p3⟩ := alph_pos hal
  have hasc := alph_asc hal
  have K : ∃ (kd : Nat) (s2 : Sto), Strm k s2 ∧ s2.length = n ∧ (i = 0 → kd = 0) ∧
      (mIf (mB (m2 gGt (mVar 4) (mC (.int 0)))) (mFn 2 f__law_draw (aCons (mVar 0) (aCons (mC (.int 3)) aNil))) (mC (.int 0))) [some (.obj k), some (.str al), e2, some (.obj n), some (.int i), e5] (s1 ++ [.lst acc]) = .ok (.int kd) (s2 ++ [.lst acc]) := by
    by_cases h0 : i = 0
    · subst h0
      exact ⟨0, s1, hs, hn, fun _ => rfl, by simp [gGtI]⟩
    · obtain ⟨d, s2, e1, hd, hl, hs2⟩ := draw_eq hs (d := 3) (by decide) (by decide) [.lst acc]
      have hp : (0 : Int) < i := by omega
      have e1' : f__law_draw [.obj k, .int 3] (s1 ++ [.lst acc]) = .ok (.int d) (s2 ++ [.lst acc]) := e1
      have g1 := gGtI i 0 (s1 ++ [.lst acc])
      rw [decide_eq_true hp] at g1
      exact ⟨d, s2, hs2, by omega, fun z => absurd z h0, by simp [g1, e1']⟩
  obtain ⟨kd, s2, hs2, hn2, hk0, eK⟩ := K
  generalize eE : [some (MV.obj k), some (.str al), e2, some (.obj n), some (.int i), some (.int (kd : Int))] = env
  have first : ∃ r s3, VRow al i r ∧ Strm k s3 ∧ s3.length = n ∧
    (mTup (aCons (mC (.str "letter")) (aCons (m2 gIx (mVar 1) (mFn 2 f__law_draw (aCons (mVar 0) (aCons (mCall gLen (aCons (mVar 1) aNil)) aNil)))) aNil))) env (s2 ++ [.lst acc]) = .ok (.tup r) (s3 ++ [.lst acc]) := by
    obtain ⟨d, s3, e1, hd, hl, hs3⟩ := draw_eq hs2 (d := al.length) p1 (by omega) [.lst acc]
    obtain ⟨c, hc, h128, e3⟩ := gIx_str hasc (by decide) hd (s3 ++ [.lst acc])
    refine ⟨[.str sLetter, .str ⟨#[c]⟩], s3, .letter c (p3 c hc) hc, hs3, by omega, ?_⟩
    rw [← eE]
    simp [gLen_str hasc (by decide), e1, e3]
  have second : i ≠ 0 → ∃ r s3, VRow al i r ∧ Strm k s3 ∧ s3.length = n ∧
    (mTup (aCons (mC (.str "then")) (aCons (mFn 2 f__law_draw (aCons (mVar 0) (aCons (mVar 4) aNil))) (aCons (mFn 2 f__law_draw (aCons (mVar 0) (aCons (mVar 4) aNil))) aNil)))) env (s2 ++ [.lst acc]) = .ok (.tup r) (s3 ++ [.lst acc]) := by
    intro h0
    obtain ⟨d, s3, e1, hd, hl, hs3⟩ := draw_eq hs2 (d := i) (by omega) (by omega) [.lst acc]
    obtain ⟨f, s4, e2, hf, hl2, hs4⟩ := draw_eq hs3 (d := i) (by omega) (by omega) [.lst acc]
    refine ⟨[.str sThen, .int d, .int f], s4, .both d f hd hf, hs4, by omega, ?_⟩
    rw [← eE]
    simp [e1, e2]
  have third : i ≠ 0 → ∃ r s3, VRow al i r ∧ Strm k s3 ∧ s3.length = n ∧
    (mTup (aCons (mC (.str "pump")) (aCons (mFn 2 f__law_draw (aCons (mVar 0) (aCons (mVar 4) aNil))) aNil))) env (s2 ++ [.lst acc]) = .ok (.tup r) (s3 ++ [.lst acc]) := by
    intro h0
    obtain ⟨d, s3, e1, hd, hl, hs3⟩ := draw_eq hs2 (d := i) (by omega) (by omega) [.lst acc]
    refine ⟨[.str sPump, .int d], s3, .pump d hd, hs3, by omega, ?_⟩
    rw [← eE]
    simp [e1]
  have e3 : env[3]? = some (some (.obj n)) := by rw [← eE]; rfl
  have e5' : env[5]? = some (some (.int kd)) := by rw [← eE]; rfl
  have app : ∀ (T : ME) r s3, s3.length = n → T env (s2 ++ [.lst acc]) = .ok (.tup r) (s3 ++ [.lst acc]) → sExpr (mMethT isLst gAppend (mVar 3) (aCons T aNil)) env (s2 ++ [.lst acc]) = .nx env (s3 ++ [.lst (acc ++ [.tup r])]) := by
    intro T r s3 hn3 hT
    simp [e3, isLst_at hn2, hT, append_at hn3, ha]
  have sset : sSet 5 (mIf (mB (m2 gGt (mVar 4) (mC (.int 0)))) (mFn 2 f__law_draw (aCons (mVar 0) (aCons (mC (.int 3)) aNil))) (mC (.int 0))) [some (.obj k), some (.str al), e2, some (.obj n), some (.int i), e5] (s1 ++ [.lst acc]) = .nx env (s2 ++ [.lst acc]) := by
    rw [s_set, eK, bindE_ok, ← eE]
    rfl
  have t0 : ∀ j : Int, (mB (m2 gEq (mVar 5) (mC (.int j)))) env (s2 ++ [.lst acc]) = .ok (decide ((kd : Int) = j)) (s2 ++ [.lst acc]) := fun j => by simp [e5', gEq_int]
  have done : ∀ r s3, VRow al i r → Strm k s3 → s3.length = n → ∀ {F : Flw}, F = .nx env (s3 ++ [.lst (acc ++ [.tup r])]) → bodyR [some (.obj k), some (.str al), e2, some (.obj n), some (.int i), e5] (s1 ++ [.lst acc]) = F →
      ∃ r s2 e5', VRow al i r ∧ Strm k s2 ∧ s2.length = n ∧
        bodyR [some (.obj k), some (.str al), e2, some (.obj n), some (.int i), e5] (s1 ++ [.lst acc]) = .nx [some (.obj k), some (.str al), e2, some (.obj n), some (.int i), e5'] (s2 ++ [.lst (acc ++ [.tup r])]) := by
    intro r s3 h1 h2 h3 F h4 h5
    refine ⟨r, s3, some (.int kd), h1, h2, h3, ?_⟩
    rw [h5, h4, ← eE]
  by_cases c0 : kd = 0
  · obtain ⟨r, s3, h1, h2, h3, h4⟩ := first
    refine done r s3 h1 h2 h3 (app _ r s3 h3 h4) ?_
    unfold bodyR; rw [s_seq, sset]
    show sIf _ _ _ env (s2 ++ [.lst acc]) = _
    rw [s_if, t0, bindE_ok, decide_eq_true (by omega), if_pos rfl]
  · have hi0 : i ≠ 0 := fun z => c0 (hk0 z)
    by_cases c1 : kd = 1
    · obtain ⟨r, s3, h1, h2, h3, h4⟩ := second hi0
      refine done r s3 h1 h2 h3 (app _ r s3 h3 h4) ?_
      unfold bodyR; rw [s_seq, sset]
      show sIf _ _ _ env (s2 ++ [.lst acc]) = _
      rw [s_if, t0, bindE_ok, decide_eq_false (by omega), if_neg (by decide), s_if, t0, bindE_ok, decide_eq_true (by omega), if_pos rfl]
    · obtain ⟨r, s3, h1, h2, h3, h4⟩ := third hi0
      refine done r s3 h1 h2 h3 (app _ r s3 h3 h4) ?_
      unfold bodyR; rw [s_seq, sset]
      show sIf _ _ _ env (s2 ++ [.lst acc]) = _
      rw [s_if, t0, bindE_ok, decide_eq_false (by omega), if_neg (by decide), s_if, t0, bindE_ok, decide_eq_false (by omega), if_neg (by decide)]
theorem loopR {al : Str} (hal : isAlph al = true) {k n : Nat} (e2 : Option MV) : ∀ (m i : Nat) (s1 : Sto) (acc : List MV) (e4 e5 : Option MV), Strm k s1 → s1.length = n → acc.length + m ≤ 400 → i + m ≤ 400 → ∃ rows s2 e4' e5', VRows al i rows ∧ rows.length = m ∧ Strm k s2 ∧ s2.length = n ∧
    forM (gN 4) bodyR ((List.range' i m).map fun (j : Nat) => .int (0 + (j : Int))) [some (.obj k), some (.str al), e2, some (.obj n), e4, e5] (s1 ++ [.lst acc]) = .nx [some (.obj k), some (.str al), e2, some (.obj n), e4', e5'] (s2 ++ [.lst (acc ++ rows.map .tup)])
  | 0, i, s1, acc, e4, e5, hs, hn, _, _ => ⟨[], s1, e4, e5, .nil _, rfl, hs, hn, by simp⟩
  | m + 1, i, s1, acc, e4, e5, hs, hn, ha, hi => by
    obtain ⟨r, s2, e5', h1, h2, h3, h4⟩ := stepR hal hs hn acc (by omega) e2 e5 (i := i) (by omega)
    obtain ⟨rows, s3, f4, f5, g1, g2, g3, g4, g5⟩ := loopR hal e2 m (i + 1) s2 (acc ++ [.tup r]) (some (.int i)) e5' h2 h3 (by simp; omega) (by omega)
    refine ⟨r :: rows, s3, f4, f5, .cons h1 g1, by simp [g2], g3, g4, ?_⟩
    rw [List.range'_succ, List.map_cons, forM_step (env1 := [some (.obj k), some (.str al), e2, some (.obj n), some (.int i), e5]) (by simp) h4, g5]
    simp
theorem recipe_eq {al : Str} (hal : isAlph al = true) {k m : Nat} {st : Sto} (hs : Strm k st) (hm : m ≤ 400) : ∃ rows st', VRows al 0 rows ∧ rows.length = m ∧ Strm k st' ∧ f__law_recipe [.obj k, .str al, .int m] st = .ok (.tup (rows.map .tup)) st' := by
  obtain ⟨rows, s2, e4, e5, h1, h2, h3, h4, h5⟩ := loopR hal (k := k) (n := st.length) (some (.int m)) m 0 st [] none none hs rfl (by simpa using hm) (by omega)
  refine ⟨rows, s2 ++ [.lst (rows.map .tup)], h1, h2, h3.app _, ?_⟩
  rw [← List.range_eq_range'] at h5
  have er : rngL 0 m = (List.range m).map fun (j : Nat) => .int (0 + (j : Int)) := rfl
  rw [← er] at h5
  simp only [bodyR, List.nil_append] at h5
  have t := tuple_last s2 (rows.map .tup)
  rw [h4] at t
  have c1 : (-1000000000 : Int) ≤ m := by omega
  have c2 : (m : Int) ≤ 1000000000 := by omega
  simp [f__law_recipe, b__law_recipe, defM, c1, c2, h5, t]
end K84

namespace K84
open PySem L2 TL MR
theorem cutS_asc {N : Nat} {z : Str} (h : Asc N z) (lo hi : Option Int) : Asc N (cutS z lo hi) := by
  have sub : ∀ (a b : Nat), List.Sublist (((tl z).drop a).take b) (tl z) := fun a b => (List.take_sublist _ _).trans (List.drop_sublist _ _)
  have s := sub (HT.sIx z.length 0 lo) (HT.sIx z.length z.length hi - HT.sIx z.length 0 lo)
  refine ⟨?_, fun c hc => h.2 c (s.subset hc)⟩
  have h1 := h.1
  have := s.length_le
  rw [len_tl] at h1 ⊢
  exact Nat.le_trans this h1
theorem gSl_str {N : Nat} {z : Str} (h : Asc N z) (hN : N ≤ 8000) (lo hi : Option Int) (st : Sto) : ∃ y, gSlice (.str z) lo hi st = .ok (.str y) st ∧ Asc N y := by
  have hl : z.length ≤ 16777216 := by have := h.1; omega
  refine ⟨cutS z lo hi, ?_, cutS_asc h lo hi⟩
  show (if z.length ≤ 16777216 then Res.ok (MV.str (cutS z lo hi)) st else .bad) = _
  rw [if_pos hl]
theorem gAdd_str {N M : Nat} {a b : Str} (ha : Asc N a) (hb : Asc M b) (h : N + M ≤ 8000) (st : Sto) : ∃ y, MR.gAdd (.str a) (.str b) st = .ok (.str y) st ∧ Asc (N + M) y := by
  have h1 := ha.1
  have h2 := hb.1
  refine ⟨a ++ b, ?_, ?_, fun c hc => ?_⟩
  · show (if a.length + b.length ≤ 16777216 then Res.ok (MV.str (a ++ b)) st else .bad) = _
    rw [if_pos (by omega)]
  · rw [len_app]; omega
  · rw [tl_append] at hc
    rcases List.mem_append.mp hc with hc | hc
    · exact ha.2 c hc
    · exact hb.2 c hc
theorem gSl_sts (ls : List Str) (lo hi : Option Int) (st : Sto) : ∃ l2 : List Str, gSlice (.lst (sts ls)) lo hi st = .ok (.lst (sts l2)) st ∧ l2.length ≤ ls.length ∧ ∀ p ∈ l2, p ∈ ls := by
  have e : cutM (sts ls) lo hi = sts ((ls.drop (HT.sIx (sts ls).length 0 lo)).take (HT.sIx (sts ls).length (sts ls).length hi - HT.sIx (sts ls).length 0 lo)) := by
    unfold cutM sts
    rw [List.map_take, List.map_drop]
  have s : List.Sublist ((ls.drop (HT.sIx (sts ls).length 0 lo)).take (HT.sIx (sts ls).length (sts ls).length hi - HT.sIx (sts ls).length 0 lo)) ls := (List.take_sublist _ _).trans (List.drop_sublist _ _)
  refine ⟨_, ?_, s.length_le, fun p hp => s.subset hp⟩
  rw [← e]
  rfl
theorem gAdd_sts (a b : List Str) (h : a.length + b.length ≤ 16777216) (st : Sto) : MR.gAdd (.lst (sts a)) (.lst (sts b)) st = .ok (.lst (sts (a ++ b))) st := by
  show (if (sts a).length + (sts b).length ≤ 16777216 then Res.ok (MV.lst (sts a ++ sts b)) st else .bad) = _
  rw [if_pos (by simpa using h)]
  unfold sts
  rw [List.map_append]
theorem spoilt_eq {k : Nat} {st : Sto} (hs : Strm k st) {t : Str} (h : Asc 180 t) (h1 : 1 ≤ t.length) (hl : (cutAt 10 t).length ≤ 12) (ha : ∀ p ∈ cutAt 10 t, Asc 14 p) : ∃ y st', Asc 8000 y ∧ Strm k st' ∧ f__law_spoilt [.obj k, .str t] st = .ok (.str y) st' := by
  have h8 : Asc 8000 t := h.mono (by decide)
  obtain ⟨d, s1, e1, hd, _, hs1⟩ := draw_eq hs (d := t.length) h1 (by have := h.1; omega) []
  obtain ⟨w, s2, e2, hw, _, hs2⟩ := draw_eq hs1 (d := 5) (by decide) (by decide) []
  obtain ⟨g, s3, e3, hg, _, hs3⟩ := draw_eq hs2 (d := 13) (by decide) (by decide) []
  simp only [List.append_nil] at e1 e2 e3
  obtain ⟨c, _, hc, e4⟩ := gIx_str (s := Str.ofString "ab01239 ,-\nxp") (N := 13) asc_lit (by decide) (d := g) (by rw [len_tl, lit_tl]; exact hg) s3
  have ac : Asc 1 ⟨#[c]⟩ := one_asc hc
  obtain ⟨x0, f0, a0⟩ := gSl_str h (by decide) none (some (d : Int)) s3
  obtain ⟨x1, f1, a1⟩ := gSl_str h (by decide) (some ((d : Int) + 1)) none s3
  obtain ⟨x2, f2, a2⟩ := gSl_str h (by decide) (some (d : Int)) none s3
  obtain ⟨y1, g1, b1⟩ := gAdd_str a0 a1 (by decide) s3
  obtain ⟨y2, g2, b2⟩ := gAdd_str a0 ac (by decide) s3
  obtain ⟨y3, g3, b3⟩ := gAdd_str b2 a2 (by decide) s3
  obtain ⟨y4, g4, b4⟩ := gAdd_str b2 a1 (by decide) s3
  have e2' : f__law_draw [.obj k, .int 5] s1 = .ok (.int w) s2 := e2
  have e3' : f__law_draw [.obj k, .int 13] s2 = .ok (.int g) s3 := e3
  have q0 := gEq_int w 0 s3
  have q1 := gEq_int w 1 s3
  have q4 := gLtI w 4 s3
  have gl := gLen_str h (by decide) st
  by_cases w0 : (w : Int) = 0
  · rw [decide_eq_true w0] at q0
    exact ⟨y1, s3, b1.mono (by decide), hs3, by simp [f__law_spoilt, b__law_spoilt, defM, gl, e1, e2', e3', e4, q0, f0, f1, g1, gAddI]⟩
  rw [decide_eq_false w0] at q0
  by_cases w1 : (w : Int) = 1
  · rw [decide_eq_true w1] at q1
    exact ⟨y3, s3, b3.mono (by decide), hs3, by simp [f__law_spoilt, b__law_spoilt, defM, gl, e1, e2', e3', e4, q0, q1, f0, f2, g2, g3, gAddI]⟩
  rw [decide_eq_false w1] at q1
  by_cases w4 : (w : Int) < 4
  · rw [decide_eq_true w4] at q4
    exact ⟨y4, s3, b4.mono (by decide), hs3, by simp [f__law_spoilt, b__law_spoilt, defM, gl, e1, e2', e3', e4, q0, q1, q4, f0, f1, g2, g4, gAddI]⟩
  rw [decide_eq_false w4] at q4
  have ls1 := (cut_len (c := 10) h).1
  have sp := gSplit_nl h8 s3
  generalize cutAt 10 t = ls at *
  obtain ⟨m, s4, e5, hm, _, hs4⟩ := draw_eq hs3 (d := ls.length) ls1 (by omega) []
  simp only [List.append_nil] at e5
  obtain ⟨l1, u1, v1, z1⟩ := gSl_sts ls none (some (m : Int)) s4
  obtain ⟨l2, u2, v2, z2⟩ := gSl_sts ls (some (m : Int)) (some ((m : Int) + 1)) s4
  obtain ⟨l3, u3, v3, z3⟩ := gSl_sts ls (some (m : Int)) none s4
  have k1 := gAdd_sts l1 l2 (by omega) s4
  have k2 := gAdd_sts (l1 ++ l2) l3 (by simp; omega) s4
  have am : ∀ p ∈ l1 ++ l2 ++ l3, Asc 14 p := fun p hp => by
    rcases List.mem_append.mp hp with hp | hp
    · rcases List.mem_append.mp hp with hp | hp
      · exact ha p (z1 p hp)
      · exact ha p (z2 p hp)
    · exact ha p (z3 p hp)
  have nl : (l1 ++ l2 ++ l3).length ≤ 36 := by simp; omega
  have j1 := gJoin_lst (y := Str.ofString "\n") (ps := l1 ++ l2 ++ l3) (B := 14) (fun p hp => (am p hp).1) (by rw [litN]; decide) (by omega) s4
  have aj := joined_asc (c := 10) (by decide) am
  rw [← litN] at aj
  exact ⟨_, s4, aj.mono (by omega), hs4, by simp [f__law_spoilt, b__law_spoilt, defM, gl, e1, e2', e3', e4, q0, q1, q4, sp, gLenL, e5, u1, u2, u3, k1, k2, j1, gAddI, -List.append_assoc, -List.map_append]⟩
end K84

namespace K84
open PySem L2 TL MR
/-! ### repr -/
theorem hex_asc : ∀ c, c < 128 → ∀ d ∈ (Nat.toDigits 16 c).map Char.toNat, d < 128 := by decide +kernel
theorem reprChar_asc {q c : Nat} (hc : c < 128) : ∀ d ∈ Builtin.Str.reprChar q c, d < 128 := by
  have hx := hex_asc c hc
  unfold Builtin.Str.reprChar
  intro d hd
  repeat' split at hd
  · simp at hd; omega
  · simp at hd; omega
  · simp at hd; omega
  · simp at hd; omega
  · simp at hd; omega
  · rcases List.mem_append.mp hd with hd | hd
    · simp at hd; omega
    · rcases List.mem_append.mp hd with hd | hd
      · have := (List.mem_replicate.mp hd).2; omega
      · exact hx d hd
  · omega
  · omega
theorem foldl_asc (q : Nat) : ∀ (l : List Nat) (acc : Array Nat), (∀ c ∈ l, c < 128) → (∀ c ∈ acc.toList, c < 128) → ∀ d ∈ (l.foldl (fun out c => out ++ (Builtin.Str.reprChar q c).toArray) acc).toList, d < 128
  | [], acc, _, ha => ha
  | c :: r, acc, h, ha => by
    refine foldl_asc q r _ (fun d hd => h d (List.mem_cons_of_mem _ hd)) fun d hd => ?_
    rw [Array.toList_append] at hd
    rcases List.mem_append.mp hd with hd | hd
    · exact ha d hd
    · exact reprChar_asc (h c List.mem_cons_self) d hd
theorem repr_asc {N : Nat} {x : Str} (h : Asc N x) : Asc (10 * N + 2) (reprText x) := by
  have hq : reprQuote x < 128 := by unfold reprQuote; split <;> decide
  refine ⟨?_, fun d hd => ?_⟩
  · have := StrLaws.reprText_len x fun c hc => Nat.lt_trans (h.2 c hc) (by decide)
    have := h.1
    omega
  · unfold reprText at hd
    have hd : d ∈ ((x.cps.foldl (fun out c => out ++ (Builtin.Str.reprChar (reprQuote x) c).toArray) #[reprQuote x]).push (reprQuote x)).toList := hd
    rw [Array.toList_push, ← Array.foldl_toList] at hd
    rcases List.mem_append.mp hd with hd | hd
    · exact foldl_asc (reprQuote x) x.cps.toList #[reprQuote x] h.2 (fun c hc => by simp at hc; omega) d hd
    · rw [List.mem_singleton.mp hd]; exact hq
/-- data that is shown in few plain signs -/
structure Good (N : Nat) (d : PyData) : Prop where
  asc : Asc N d.shown
  sh : d.showable = true
  dep : d.depth ≤ 2
theorem joinS_mem {S : List Nat} {d : Nat} : ∀ {ps : List (List Nat)}, d ∈ joinL S ps → d ∈ S ∨ ∃ p ∈ ps, d ∈ p
  | [], h => by cases h
  | [p], h => .inr ⟨p, List.mem_cons_self, h⟩
  | p :: q :: r, h => by
    have h : d ∈ p ++ (S ++ joinL S (q :: r)) := h
    rcases List.mem_append.mp h with h | h
    · exact .inr ⟨p, List.mem_cons_self, h⟩
    · rcases List.mem_append.mp h with h | h
      · exact .inl h
      · rcases joinS_mem h with h | ⟨x, hx, h⟩
        · exact .inl h
        · exact .inr ⟨x, List.mem_cons_of_mem _ hx, h⟩
theorem tupleText_asc {N : Nat} {ts : List Str} (h : ∀ t ∈ ts, Asc N t) : Asc (ts.length * (N + 2) + 3) (tupleText ts) := by
  have hs : ∀ l : List Str, (∀ p ∈ l, Asc N p) → (l.map (·.length)).sum ≤ l.length * N := by
    intro l
    induction l with
    | nil => intro _; simp
    | cons a l ih =>
      intro h
      have h1 := (h a List.mem_cons_self).1
      have h2 := ih fun p hp => h p (List.mem_cons_of_mem _ hp)
      simp only [List.map_cons, List.sum_cons, List.length_cons]
      rw [Nat.add_mul]
      omega
  refine ⟨?_, fun d hd => ?_⟩
  · have := tupleText_len_le ts
    have := hs ts h
    rw [Nat.mul_add]
    omega
  · unfold tupleText at hd
    rw [tl_append, tl_append] at hd
    rcases List.mem_append.mp hd with hd | hd
    · rcases List.mem_append.mp hd with hd | hd
      · rw [lit_tl] at hd
        have : ∀ c ∈ "(".toList.map Char.toNat, c < 128 := by decide
        exact this d hd
      · rw [tl_join] at hd
        rcases joinS_mem hd with hd | ⟨p, hp, hd⟩
        · rw [lit_tl] at hd
          have : ∀ c ∈ ", ".toList.map Char.toNat, c < 128 := by decide
          exact this d hd
        · obtain ⟨t, ht, rfl⟩ := List.mem_map.mp hp
          exact (h t ht).2 d hd
    · split at hd
      · rw [lit_tl] at hd
        have : ∀ c ∈ ",)".toList.map Char.toNat, c < 128 := by decide
        exact this d hd
      · rw [lit_tl] at hd
        have : ∀ c ∈ ")".toList.map Char.toNat, c < 128 := by decide
        exact this d hd
theorem Good.strd {N : Nat} {x : Str} (h : Asc N x) : Good (10 * N + 2) (.str x) := ⟨by simp only [PyData.shown]; exact repr_asc h, by simp only [PyData.showable], by simp [PyData.depth]⟩
theorem Good.num {n : Nat} (h : n < 400) : Good 62 (.int n) := ⟨by
    have e : (PyData.int (n : Int)).shown = numS n := by simp only [PyData.shown]; rfl
    rw [e]
    exact (num3 h).mono (by decide), by
    have := log2_small (n := n) (by omega)
    simp only [PyData.showable]
    simpa using this, by simp [PyData.depth]⟩
theorem Good.mono {N M : Nat} {d : PyData} (h : Good N d) (hn : N ≤ M) : Good M d := ⟨h.asc.mono hn, h.sh, h.dep⟩
structure GoodAll (N D : Nat) (ds : List PyData) : Prop where
  asc : ∀ t ∈ PyData.shownAll ds, Asc N t
  sh : PyData.showableAll ds = true
  dep : PyData.depthAll ds ≤ D
theorem shownAll_len : ∀ ds : List PyData, (PyData.shownAll ds).length = ds.length
  | [] => by simp only [PyData.shownAll]; rfl
  | d :: ds => by simp only [PyData.shownAll, List.length_cons, shownAll_len ds]
theorem GoodAll.nil (N D : Nat) : GoodAll N D [] := ⟨(fun t ht => by simp only [PyData.shownAll] at ht; cases ht), by simp only [PyData.showableAll], by simp [PyData.depthAll]⟩
theorem GoodAll.cons {N D : Nat} {d : PyData} {ds : List PyData} (h1 : Asc N d.shown) (h2 : d.showable = true) (h3 : d.depth ≤ D) (h : GoodAll N D ds) : GoodAll N D (d :: ds) :=
  ⟨fun t ht => by
    simp only [PyData.shownAll] at ht
    rcases List.mem_cons.mp ht with e | e
    · rw [e]; exact h1
    · exact h.asc t e, by simp only [PyData.showableAll, h2, h.sh]; rfl, by simp only [PyData.depthAll]; exact Nat.max_le.mpr ⟨h3, h.dep⟩⟩
theorem GoodAll.tuple {N D : Nat} {ds : List PyData} (h : GoodAll N D ds) : Asc (ds.length * (N + 2) + 3) (PyData.tuple ds).shown ∧ (PyData.tuple ds).showable = true ∧ (PyData.tuple ds).depth ≤ D + 1 := by
  refine ⟨?_, by simp only [PyData.showable]; exact h.sh, by simp only [PyData.depth]; have := h.dep; omega⟩
  simp only [PyData.shown]
  have := tupleText_asc h.asc
  rw [shownAll_len] at this
  exact this
theorem zero_dep (x : Str) : (PyData.str x).depth ≤ 0 := by simp [PyData.depth]
theorem zero_depI (x : Int) : (PyData.int x).depth ≤ 0 := by simp [PyData.depth]
theorem VRow.good {al : Str} {k : Nat} {r : List MV} (h : VRow al k r) (hk : k ≤ 400) : ∃ ds, toDs r = some ds ∧ ds.length ≤ 3 ∧ GoodAll 62 0 ds := by
  cases h with
  | letter c h1 h2 =>
    have g1 := Good.strd asc_letter
    have g2 := (Good.strd (low_asc h1)).mono (M := 62) (by decide)
    exact ⟨[.str sLetter, .str ⟨#[c]⟩], rfl, by simp, .cons g1.asc g1.sh (zero_dep _) (.cons g2.asc g2.sh (zero_dep _) (.nil _ _))⟩
  | both a b h1 h2 =>
    have g1 := Good.strd asc_then
    have g2 := Good.num (n := a) (by omega)
    have g3 := Good.num (n := b) (by omega)
    exact ⟨[.str sThen, .int a, .int b], rfl, by simp, .cons g1.asc g1.sh (zero_dep _) (.cons g2.asc g2.sh (zero_depI _) (.cons g3.asc g3.sh (zero_depI _) (.nil _ _)))⟩
  | pump a h1 =>
    have g1 := Good.strd asc_pump
    have g2 := Good.num (n := a) (by omega)
    exact ⟨[.str sPump, .int a], rfl, by simp, .cons g1.asc g1.sh (zero_dep _) (.cons g2.asc g2.sh (zero_depI _) (.nil _ _))⟩
theorem VRows.good {al : Str} : ∀ {k : Nat} {rows : List (List MV)}, VRows al k rows → k + rows.length ≤ 400 → ∃ ds, toDs (rows.map .tup) = some ds ∧ ds.length = rows.length ∧ GoodAll 200 1 ds
  | _, _, .nil _, _ => ⟨[], rfl, rfl, .nil _ _⟩
  | k, _, .cons (r := r) (rs := rs) h hs, hl => by
    simp at hl
    obtain ⟨d, e1, l1, g1⟩ := h.good (by omega)
    obtain ⟨ds, e2, l2, g2⟩ := hs.good (by omega)
    obtain ⟨t1, t2, t3⟩ := g1.tuple
    exact ⟨.tuple d :: ds, by simp [toDs, toD, e1, e2], by simp [l2], .cons (t1.mono (by omega)) t2 t3 g2⟩
theorem repr_rows {al : Str} {rows : List (List MV)} (h : VRows al 0 rows) (hl : rows.length ≤ 400) : ∃ y, Asc 90000 y ∧ ∀ st, gRepr [.tup (rows.map .tup)] st = .ok (.str y) st := by
  obtain ⟨ds, e1, l1, g1⟩ := h.good (by omega)
  obtain ⟨t1, t2, t3⟩ := g1.tuple
  have t1 : Asc 90000 (PyData.tuple ds).shown := t1.mono (by omega)
  refine ⟨(PyData.tuple ds).shown, t1, fun st => ?_⟩
  have et : topD (.tup (rows.map .tup)) st = some (.tuple ds) := by simp [topD, toD, e1]
  have c : ((PyData.tuple ds).showable = true ∧ (PyData.tuple ds).depth ≤ 60) ∧ (PyData.tuple ds).shown.length ≤ 16777216 := ⟨⟨t2, by omega⟩, by have := t1.1; omega⟩
  simp only [gRepr, et, c, and_self, if_true]
theorem repr_str {N : Nat} {x : Str} (h : Asc N x) (hN : N ≤ 8000) : ∃ y, Asc 90000 y ∧ ∀ st, gRepr [.str x] st = .ok (.str y) st := by
  have g := Good.strd h
  refine ⟨(PyData.str x).shown, g.asc.mono (by omega), fun st => ?_⟩
  have et : topD (.str x) st = some (.str x) := rfl
  have c : ((PyData.str x).showable = true ∧ (PyData.str x).depth ≤ 60) ∧ (PyData.str x).shown.length ≤ 16777216 := ⟨⟨g.sh, by have := g.dep; omega⟩, by have := g.asc.1; omega⟩
  simp only [gRepr, et, c, and_self, if_true]
theorem repr_non : ∃ y, Asc 90000 y ∧ ∀ st, gRepr [.non] st = .ok (.str y) st := by
  have e : (PyData.none).shown = Str.ofString "None" := by simp only [PyData.shown]
  refine ⟨Str.ofString "None", asc_lit (n := 4) |>.mono (by decide), fun st => ?_⟩
  have et : topD .non st = some .none := rfl
  have c : ((PyData.none).showable = true ∧ (PyData.none).depth ≤ 60) ∧ (PyData.none).shown.length ≤ 16777216 := ⟨⟨by simp only [PyData.showable], by simp [PyData.depth]⟩, by rw [e]; decide⟩
  rw [← e]
  simp only [gRepr, et, c, and_self, if_true]
theorem VRow.of {al : Str} {k : Nat} {r : List MV} (h : isRow al k r = true) : VRow al k r := by
  have hi : ∀ m : MV, isInt m 0 ((k : Int) - 1) = true → ∃ n : Nat, m = .int n ∧ n < k := fun m hm => by
    unfold isInt at hm
    split at hm
    · rename_i i
      simp only [Bool.and_eq_true, decide_eq_true_eq] at hm
      exact ⟨i.toNat, by congr 1; omega, by omega⟩
    · cases hm
  match r, h with
  | .str s :: ps, h =>
    rw [isRow_cons] at h
    by_cases k1 : s = sLetter
    · rw [if_pos k1] at h
      match ps, h with
      | [m], h =>
        cases m with
        | str x =>
          have h : (match tl x with | [c] => lowc c && decide (c ∈ tl al) | _ => false) = true := h
          cases e : tl x with
          | nil => rw [e] at h; cases h
          | cons c q =>
            cases q with
            | nil =>
              rw [e] at h
              have h : (lowc c && decide (c ∈ tl al)) = true := h
              rw [Bool.and_eq_true, decide_eq_true_eq] at h
              have : x = ⟨#[c]⟩ := ext_tl e
              rw [this, k1]
              exact .letter c h.1 h.2
            | cons d q => rw [e] at h; cases h
        | _ => cases h
    · rw [if_neg k1] at h
      by_cases k2 : s = sThen
      · rw [if_pos k2] at h
        match ps, h with
        | [x, y], h =>
          simp only [Bool.and_eq_true] at h
          obtain ⟨a, e1, h1⟩ := hi x h.1
          obtain ⟨b, e2, h2⟩ := hi y h.2
          rw [k2, e1, e2]
          exact .both a b h1 h2
      · rw [if_neg k2] at h
        by_cases k3 : s = sPump
        · rw [if_pos k3] at h
          match ps, h with
          | [x], h =>
            obtain ⟨a, e1, h1⟩ := hi x h
            rw [k3, e1]
            exact .pump a h1
        · rw [if_neg k3] at h
          cases h
theorem VRows.of {al : Str} : ∀ {k : Nat} {rows : List (List MV)}, (rowsL al k rows).all id = true → VRows al k rows
  | _, [], _ => .nil _
  | k, r :: rs, h => by
    have h : (isRow al k r && (rowsL al (k + 1) rs).all id) = true := h
    rw [Bool.and_eq_true] at h
    exact .cons (.of h.1) (.of h.2)
theorem repr_spec (al t : Str) : ∃ y, Asc 90000 y ∧ ∀ st, gRepr [outR (specR al t)] st = .ok (.str y) st := by
  unfold specR
  cases e : rowsO t with
  | none => exact repr_non
  | some rows =>
    by_cases q : isRec al rows = true
    · have e2 : ((some rows).bind fun rows => if isRec al rows = true then some rows else none) = some rows := by show (if isRec al rows = true then some rows else none) = _; rw [if_pos q]
      rw [e2]
      unfold isRec at q
      simp only [Bool.and_eq_true, decide_eq_true_eq] at q
      exact repr_rows (VRows.of q.2) q.1.2
    · have e2 : ((some rows).bind fun rows => if isRec al rows = true then some rows else none) = none := by show (if isRec al rows = true then some rows else none) = _; rw [if_neg q]
      rw [e2]
      exact repr_non
end K84

namespace K84
open PySem L2 TL MR
theorem gNe_same {N : Nat} {y : Str} (h : Asc N y) (st : Sto) : gNe (.str y) (.str y) st = .ok (.bl false) st := by
  rw [gNe_str h h, decide_eq_true rfl]
  rfl
theorem lets_len {al : Str} : ∀ {k : Nat} {rows : List (List MV)}, VRows al k rows → (letsR rows).length ≤ rows.length
  | _, _, .nil _ => Nat.le_refl 0
  | k, _, .cons (r := r) (rs := rs) h hs => by
    have e : letsR (r :: rs) = letS r ++ letsR rs := by simp [letsR]
    have h1 := letS_len h
    have h2 := lets_len hs
    rw [e, List.length_append, List.length_cons]
    omega
abbrev bodyV : MS := (sSeq (sSet 8 (mFn 2 f__law_spoilt (aCons (mVar 2) (aCons (mVar 5) aNil))))
  (sIf (mB (m2 gNe (mCall gRepr (aCons (mFn 2 f__law_read_back (aCons (mVar 3) (aCons (mVar 8) aNil))) aNil)) (mCall gRepr (aCons (mFn 2 f__law_parsed (aCons (mVar 3) (aCons (mVar 8) aNil))) aNil)))) (sRet (mC (.bl false))) sNext))
/-- a text that may be spoilt -/
structure Sp (t : Str) : Prop where
  a : Asc 180 t
  l : 1 ≤ t.length
  n : (cutAt 10 t).length ≤ 12
  p : ∀ p ∈ cutAt 10 t, Asc 14 p
theorem stepV {al t : Str} (hal : isAlph al = true) (ht : Sp t) {k : Nat} {st : Sto} (hs : Strm k st) (e0 e1 e4 e6 e7 e8 e9 e10 e11 : Option MV) : ∃ f8 st', Strm k st' ∧
    bodyV [e0, e1, some (.obj k), some (.str al), e4, some (.str t), e6, e7, e8, e9, e10, e11] st = .nx [e0, e1, some (.obj k), some (.str al), e4, some (.str t), e6, e7, f8, e9, e10, e11] st' := by
  obtain ⟨y, s1, hy, hs1, e⟩ := spoilt_eq hs ht.a ht.l ht.n ht.p
  have rb := read_back_eq (Nat.le_of_ble_eq_true rfl : 4 ≤ 16777216) hal (alph_asc hal) hy s1
  obtain ⟨x, pr⟩ := law_parsed_eq (Nat.le_of_ble_eq_true rfl : 4 ≤ 16777216) hal (alph_asc hal) hy s1
  rw [← spec_law hy] at pr
  obtain ⟨z, hz, rz⟩ := repr_spec al y
  exact ⟨_, s1 ++ [x], hs1.app _, by simp [e, rb, rz, pr, gNe_same hz]; exact rfl⟩
theorem loopV {al t : Str} (hal : isAlph al = true) (ht : Sp t) {k : Nat} (e0 e1 e4 e6 e9 e10 e11 : Option MV) : ∀ (ys : List MV) (st : Sto) (e7 e8 : Option MV), Strm k st → ∃ f7 f8 st', Strm k st' ∧
    forM (gN 7) bodyV ys [e0, e1, some (.obj k), some (.str al), e4, some (.str t), e6, e7, e8, e9, e10, e11] st = .nx [e0, e1, some (.obj k), some (.str al), e4, some (.str t), e6, f7, f8, e9, e10, e11] st'
  | [], st, e7, e8, hs => ⟨e7, e8, st, hs, rfl⟩
  | y :: ys, st, e7, e8, hs => by
    obtain ⟨f8, s1, hs1, h1⟩ := stepV hal ht hs e0 e1 e4 e6 (some y) e8 e9 e10 e11
    obtain ⟨g7, g8, s2, hs2, h2⟩ := loopV hal ht e0 e1 e4 e6 e9 e10 e11 ys s1 (some y) f8 hs1
    exact ⟨g7, g8, s2, hs2, by rw [forM_step (env1 := [e0, e1, some (.obj k), some (.str al), e4, some (.str t), e6, some y, e8, e9, e10, e11]) rfl h1, h2]⟩
theorem textR_sp {al : Str} {rows : List (List MV)} (h : VRows al 0 rows) (h1 : 1 ≤ rows.length) (hl : rows.length ≤ 12) : Sp (textR rows) := by
  have e : cutAt 10 (textR rows) = rows.map rowTxt := by
    unfold textR
    rw [litN]
    exact cut_joined (by decide) (fun e => by rw [List.map_eq_nil_iff] at e; rw [e] at h1; simp at h1) fun p hp => (h.txts (by omega) p hp).2
  refine ⟨(textR_asc h (by omega)).mono (by omega), ?_, by rw [e]; simpa using hl, by rw [e]; exact fun p hp => (h.txts (by omega) p hp).1⟩
  rw [len_tl]
  apply List.length_pos_iff.mpr
  intro q
  have e2 : cutAt 10 (textR rows) = [⟨#[]⟩] := by
    unfold cutAt
    rw [q, spl_nil]
    rfl
  rw [e] at e2
  cases h with
  | nil => simp at h1
  | cons h hs =>
    rename_i r rs
    simp only [List.map_cons] at e2
    injection e2 with e2 _
    have h3 := (h.txt (by decide)).2.2
    rw [e2] at h3
    have h4 := congrArg List.length h3
    have : (cutAt 32 ⟨#[]⟩).length = 1 := by decide +kernel
    rw [this, List.length_map] at h4
    cases h with
    | letter c h1 h2 => cases h4
    | both a b h1 h2 => cases h4
    | pump a h1 => cases h4
abbrev alphs : ME := mLst (aCons (mC (.str "a")) (aCons (mC (.str "ab")) (aCons (mC (.str "acx")) (aCons (mC (.str "bxyz")) aNil))))
theorem alph_at {d : Nat} (h : d < 4) : ∃ al, isAlph al = true ∧ ∀ st, gIx (.lst [.str "a", .str "ab", .str "acx", .str "bxyz"]) (.int d) st = .ok (.str al) st := by
  match d, h with
  | 0, _ => exact ⟨Str.ofString "a", by decide +kernel, fun _ => rfl⟩
  | 1, _ => exact ⟨Str.ofString "ab", by decide +kernel, fun _ => rfl⟩
  | 2, _ => exact ⟨Str.ofString "acx", by decide +kernel, fun _ => rfl⟩
  | 3, _ => exact ⟨Str.ofString "bxyz", by decide +kernel, fun _ => rfl⟩
abbrev bodyL : MS := (sSeq (sSet 2 (mFn 2 f__law_stream (aCons (mVar 0) (aCons (mVar 1) aNil))))
  (sSeq (sSet 3 (m2 gIx (mLst (aCons (mC (.str "a")) (aCons (mC (.str "ab")) (aCons (mC (.str "acx")) (aCons (mC (.str "bxyz")) aNil))))) (mFn 2 f__law_draw (aCons (mVar 2) (aCons (mC (.int 4)) aNil)))))
  (sSeq (sSet 4 (mFn 3 f__law_recipe (aCons (mVar 2) (aCons (mVar 3) (aCons (m2 MR.gAdd (mC (.int 1)) (mFn 2 f__law_draw (aCons (mVar 2) (aCons (mC (.int 12)) aNil)))) aNil)))))
  (sSeq (sPar 5 6 (aCons (mFn 1 f__law_text_of (aCons (mVar 4) aNil)) (aCons (mCall gRepr (aCons (mVar 4) aNil)) aNil)))
  (sSeq (sIf (mOrT (mB (m2 gNe (mCall gRepr (aCons (mFn 1 f_recipe_text (aCons (mVar 4) aNil)) aNil)) (mCall gRepr (aCons (mVar 5) aNil)))) (mB (m2 gNe (mCall gRepr (aCons (mVar 4) aNil)) (mVar 6)))) (sRet (mC (.bl false))) sNext)
  (sSeq (sIf (mOrT (mB (m2 gNe (mCall gRepr (aCons (mFn 2 f__law_read_back (aCons (mVar 3) (aCons (mVar 5) aNil))) aNil)) (mVar 6))) (mB (m2 gNe (mCall gRepr (aCons (mFn 2 f__law_parsed (aCons (mVar 3) (aCons (mVar 5) aNil))) aNil)) (mVar 6)))) (sRet (mC (.bl false))) sNext)
  (sFor (MR.iRng (aCons (mC (.int 14)) aNil)) (gN 7) bodyV)))))))
theorem stepL {ns : List Int} {t : Nat} (st : Sto) (e2 e3 e4 e5 e6 e7 e8 e9 e10 e11 : Option MV) : ∃ f2 f3 f4 f5 f6 f7 f8 st',
    bodyL [some (.scr ns), some (.int t), e2, e3, e4, e5, e6, e7, e8, e9, e10, e11] st = .nx [some (.scr ns), some (.int t), f2, f3, f4, f5, f6, f7, f8, e9, e10, e11] st' := by
  obtain ⟨a, b, c, h1⟩ := stream_eq (ns := ns) (t := t) st
  have hs0 : Strm st.length (st ++ [.lst [.int a, .int b, .int c]]) := ⟨a, b, c, by simp⟩
  generalize st ++ [.lst [.int a, .int b, .int c]] = s1 at h1 hs0
  generalize st.length = k at h1 hs0
  obtain ⟨d, s2, h2, hd, _, hs2⟩ := draw_eq hs0 (d := 4) (by decide) (by decide) []
  obtain ⟨al, hal, h3⟩ := alph_at hd
  obtain ⟨m, s3, h4, hm, _, hs3⟩ := draw_eq hs2 (d := 12) (by decide) (by decide) []
  simp only [List.append_nil] at h2 h4
  have h2 : f__law_draw [.obj k, .int 4] s1 = .ok (.int d) s2 := h2
  have h4 : f__law_draw [.obj k, .int 12] s2 = .ok (.int m) s3 := h4
  obtain ⟨rows, s4, hv, hl, hs4, h5⟩ := recipe_eq hal hs3 (m := 1 + m) (by omega)
  rw [show (((1 + m : Nat)) : Int) = 1 + (m : Int) from by omega] at h5
  have l1 : 1 ≤ rows.length := by omega
  have l12 : rows.length ≤ 12 := by omega
  obtain ⟨x1, h6⟩ := text_of_eq hv (by omega) s4
  obtain ⟨y1, r1, q1⟩ := repr_rows hv (by omega)
  obtain ⟨x2, h7⟩ := recipe_text_eq hal hv l1 (by omega) (by have := lets_len hv; omega) (s4 ++ [x1])
  have sp := textR_sp hv l1 l12
  obtain ⟨y2, r2, q2⟩ := repr_str sp.a (by decide)
  have rb := fun s => read_back_eq (Nat.le_of_ble_eq_true rfl : 4 ≤ 16777216) hal (alph_asc hal) (sp.a.mono (by decide)) s
  obtain ⟨x3, pr⟩ := law_parsed_eq (Nat.le_of_ble_eq_true rfl : 4 ≤ 16777216) hal (alph_asc hal) (sp.a.mono (by decide)) (s4 ++ [x1] ++ [x2])
  rw [← spec_law (sp.a.mono (by decide)), spec_text hv l1 (by omega)] at pr
  have st := spec_text hv l1 (by omega)
  rw [st] at rb
  have eo : outR (some rows) = .tup (rows.map .tup) := rfl
  rw [eo] at rb pr
  obtain ⟨f7, f8, s5, hs5, lp⟩ := loopV hal sp (k := k) (some (.scr ns)) (some (.int t)) (some (.tup (rows.map .tup))) (some (.str y1)) e9 e10 e11 (rngL 0 14) (s4 ++ [x1] ++ [x2] ++ [x3]) e7 e8 (((hs4.app _).app _).app _)
  simp only [bodyV] at lp
  generalize textR rows = tx at *
  exact ⟨_, _, _, _, _, _, _, _, by simp [h1, h2, h3, h4, gAddI, h5, h6, q1, h7, q2, gNe_same r1, gNe_same r2, rb, pr, lp, -List.append_assoc]; exact ⟨⟨rfl, rfl, rfl, rfl, rfl, rfl, rfl⟩, rfl⟩⟩
end K84

namespace K84
open PySem L2 TL MR
theorem loopL {ns : List Int} (e9 e10 e11 : Option MV) : ∀ (ts : List Nat) (st : Sto) (e1 e2 e3 e4 e5 e6 e7 e8 : Option MV), ∃ f1 f2 f3 f4 f5 f6 f7 f8 st',
    MR.forM (gN 1) bodyL (ts.map fun (i : Nat) => MV.int (0 + (i : Int))) [some (.scr ns), e1, e2, e3, e4, e5, e6, e7, e8, e9, e10, e11] st = .nx [some (.scr ns), f1, f2, f3, f4, f5, f6, f7, f8, e9, e10, e11] st'
  | [], st, e1, e2, e3, e4, e5, e6, e7, e8 => ⟨_, _, _, _, _, _, _, _, _, rfl⟩
  | t :: ts, st, e1, e2, e3, e4, e5, e6, e7, e8 => by
    obtain ⟨f2, f3, f4, f5, f6, f7, f8, s1, h1⟩ := stepL (ns := ns) (t := t) st e2 e3 e4 e5 e6 e7 e8 e9 e10 e11
    obtain ⟨g1, g2, g3, g4, g5, g6, g7, g8, s2, h2⟩ := loopL (ns := ns) e9 e10 e11 ts s1 (some (.int t)) f2 f3 f4 f5 f6 f7 f8
    refine ⟨g1, g2, g3, g4, g5, g6, g7, g8, s2, ?_⟩
    rw [List.map_cons, forM_step (env1 := [some (.scr ns), some (.int t), e2, e3, e4, e5, e6, e7, e8, e9, e10, e11]) (by simp) h1, h2]
/-! ### the long recipe -/
def longR : List (List MV) := [.str sLetter, .str ⟨#[97]⟩] :: [.str sLetter, .str ⟨#[122]⟩] :: (List.range 398).map fun (i : Nat) => [.str sThen, .int (1 + (i : Int)), .int 1]
theorem long_tail (al : Str) : ∀ (m i : Nat), VRows al (i + 2) ((List.range' i m).map fun (j : Nat) => [.str sThen, .int (1 + (j : Int)), .int 1])
  | 0, _ => .nil _
  | m + 1, i => by
    rw [List.range'_succ, List.map_cons]
    refine .cons ?_ (long_tail al m (i + 1))
    have := VRow.both (al := al) (k := i + 2) (1 + i) 1 (by omega) (by omega)
    rw [show (((1 + i : Nat)) : Int) = 1 + (i : Int) from by omega] at this
    exact this
theorem long_ok {al : Str} (h1 : 97 ∈ tl al) (h2 : 122 ∈ tl al) : VRows al 0 longR := by
  refine .cons (.letter 97 (by decide) h1) (.cons (.letter 122 (by decide) h2) ?_)
  have := long_tail al 398 0
  rw [← List.range_eq_range'] at this
  exact this
theorem long_len : longR.length = 400 := by simp [longR]
theorem long_lets : (letsR longR).length < 63 := by
  have : ((List.range 398).map fun (i : Nat) => ([.str sThen, .int (1 + (i : Int)), .int 1] : List MV)).map letS = (List.range 398).map fun _ => [] := by
    rw [List.map_map]
    rfl
  have e : letsR longR = [⟨#[97]⟩] ++ ([⟨#[122]⟩] ++ (((List.range 398).map fun (i : Nat) => ([.str sThen, .int (1 + (i : Int)), .int 1] : List MV)).map letS).flatten) := by
    simp [letsR, longR, letS]
  have e2 : ∀ n : Nat, ((List.range n).map fun _ => ([] : List Str)).flatten = [] := by
    intro n
    rw [List.flatten_eq_nil_iff]
    intro l hl
    obtain ⟨_, _, rfl⟩ := List.mem_map.mp hl
    rfl
  rw [e, this, e2]
  simp
abbrev az : Str := Str.ofString "az"
theorem az_a : isAlph az = true := by decide +kernel
theorem abz_a : isAlph (Str.ofString "abz") = true := by decide +kernel
theorem z_a : isAlph (Str.ofString "z") = true := by decide +kernel
theorem long_az : VRows az 0 longR := long_ok (by decide +kernel) (by decide +kernel)
theorem long_abz : VRows (Str.ofString "abz") 0 longR := long_ok (by decide +kernel) (by decide +kernel)
/-! ### equal data -/
theorem items_data : ∀ {rows : List (List MV)}, (∀ r ∈ rows, RowOk 8000 r) → ∃ ds, toDs (rows.map .tup) = some ds ∧ PyData.canLayAll0 ds = true ∧ PyData.depthAll ds ≤ 1
  | [], _ => ⟨[], rfl, by simp [PyData.canLayAll0], by simp [PyData.depthAll]⟩
  | r :: rs, h => by
    obtain ⟨d, e1, c1, p1, _⟩ := toDs_items (h r List.mem_cons_self).items
    obtain ⟨ds, e2, c2, p2⟩ := items_data fun x hx => h x (List.mem_cons_of_mem _ hx)
    exact ⟨.tuple d :: ds, by simp [toDs, toD, e1, e2], by simp [PyData.canLayAll0, PyData.canLay0, c1, c2], by simp [PyData.depthAll, PyData.depth, p1]; omega⟩
theorem rows_data {rows : List (List MV)} (h : ∀ r ∈ rows, RowOk 8000 r) : ∃ d, toD (.tup (rows.map .tup)) = some d ∧ SeqAt.shaped d = true ∧ PyData.eqv d d = true := by
  obtain ⟨ds, e, c, p⟩ := items_data h
  have c2 : (PyData.tuple ds).canLay0 = true := by simp [PyData.canLay0, c]
  refine ⟨.tuple ds, by simp [toD, e], ?_, SeqAt.eqv_refl _ c2⟩
  unfold SeqAt.shaped
  rw [c2]
  simp [PyData.depth]
  omega
theorem gNe_rows {rows : List (List MV)} (h : ∀ r ∈ rows, RowOk 8000 r) (st : Sto) : gNe (.tup (rows.map .tup)) (.tup (rows.map .tup)) st = .ok (.bl false) st := by
  obtain ⟨d, e, s, q⟩ := rows_data h
  have et : topD (.tup (rows.map .tup)) st = some d := e
  simp [gNe, et, s, q]
/-! ### the texts -/
theorem join_snoc (y : Str) (q : Str) : ∀ {ps : List Str}, ps ≠ [] → Txt.join y ps ++ y ++ q = Txt.join y (ps ++ [q]) := by
  have key : ∀ (S q : List Nat) (ps : List (List Nat)), ps ≠ [] → joinL S ps ++ S ++ q = joinL S (ps ++ [q]) := by
    intro S q ps
    induction ps with
    | nil => intro h; exact absurd rfl h
    | cons a r ih =>
      intro _
      cases r with
      | nil => show a ++ S ++ q = a ++ (S ++ q); rw [List.append_assoc]
      | cons b r =>
        show a ++ (S ++ joinL S (b :: r)) ++ S ++ q = a ++ (S ++ joinL S (b :: r ++ [q]))
        rw [← ih (by simp)]
        simp
  intro ps h
  apply ext_tl
  rw [tl_append, tl_append, join_eq, join_eq, tl_join, tl_join, List.map_append]
  exact key _ _ _ (fun e => h (List.map_eq_nil_iff.mp e))
theorem spec_none {al t : Str} (h : (rowsO t).any (fun rows => isRec al rows) = false) : specR al t = none := by
  unfold specR
  cases e : rowsO t with
  | none => rfl
  | some rows =>
    rw [e] at h
    have h : isRec al rows = false := h
    show (if isRec al rows = true then some rows else none) = none
    rw [h]
    rfl
theorem t1_eq : textR longR ++ Str.ofString "\npump 399" = Txt.join (Str.ofString "\n") (longR.map rowTxt ++ [Str.ofString "pump 399"]) := by
  rw [← join_snoc _ _ (by simp [longR])]
  apply ext_tl
  unfold textR
  rw [tl_append, tl_append, tl_append, List.append_assoc, lit_tl, lit_tl, lit_tl]
  rfl
theorem t1_none : specR az (textR longR ++ Str.ofString "\npump 399") = none := by
  apply spec_none
  cases e : rowsO (textR longR ++ Str.ofString "\npump 399") with
  | none => rfl
  | some rows =>
    have hl := (mapM_mem e).1
    rw [t1_eq, litN, cut_joined (by decide) (by simp) (fun p hp => by
      rcases List.mem_append.mp hp with hp | hp
      · exact (long_az.txts (by rw [long_len]; exact Nat.le_refl _) p hp).2
      · rw [List.mem_singleton.mp hp, lit_tl]; decide)] at hl
    rw [List.length_append, List.length_map, long_len] at hl
    have hl : rows.length = 401 := hl
    show isRec az rows = false
    unfold isRec
    rw [hl]
    rfl
theorem tl_rep (x : Str) (n : Nat) : ∀ c ∈ tl (repS x n), c ∈ tl x := by
  have key : ∀ (m : Nat) (acc : Array Nat), (∀ c ∈ acc.toList, c ∈ tl x) → ∀ c ∈ ((List.replicate m x.cps).foldl (· ++ ·) acc).toList, c ∈ tl x := by
    intro m
    induction m with
    | zero => intro acc h; exact h
    | succ m ih =>
      intro acc h
      rw [List.replicate_succ, List.foldl_cons]
      apply ih
      intro c hc
      rw [Array.toList_append] at hc
      rcases List.mem_append.mp hc with hc | hc
      · exact h c hc
      · exact hc
  exact key n #[] (by simp)
theorem rep_len (x : Str) (n : Nat) : (repS x n).length = n * x.length := by
  have key : ∀ (m : Nat) (acc : Array Nat), ((List.replicate m x.cps).foldl (· ++ ·) acc).size = acc.size + m * x.cps.size := by
    intro m
    induction m with
    | zero => intro acc; simp
    | succ m ih =>
      intro acc
      rw [List.replicate_succ, List.foldl_cons, ih, Array.size_append, Nat.succ_mul]
      omega
  have := key n #[]
  show ((List.replicate n x.cps).foldl (· ++ ·) #[]).size = n * x.cps.size
  rw [this]
  simp
abbrev nines : Str := repS (Str.ofString "9") 5000
theorem nines_asc : Asc 5000 nines := ⟨by rw [rep_len]; decide +kernel, fun c hc => by
  have := tl_rep _ _ c hc
  rw [lit_tl] at this
  have h : ∀ c ∈ "9".toList.map Char.toNat, c < 128 := by decide
  exact h c this⟩
theorem nines_free {s : Nat} (h : s ≠ 57) : s ∉ tl nines := fun hc => by
  have := tl_rep _ _ s hc
  rw [lit_tl] at this
  have h2 : ∀ c ∈ "9".toList.map Char.toNat, c = 57 := by decide
  exact h (h2 s this)
theorem t9_eq : Str.ofString "letter a\npump " ++ nines = Txt.join (Str.ofString "\n") [Str.ofString "letter a", Txt.join (Str.ofString " ") [Str.ofString "pump", nines]] := by
  apply ext_tl
  rw [join_eq, join_eq, tl_append, tl_join]
  show _ = tl (Str.ofString "letter a") ++ (tl (Str.ofString "\n") ++ tl (Str.join (Str.ofString " ") [Str.ofString "pump", nines]))
  rw [tl_join]
  show _ = tl (Str.ofString "letter a") ++ (tl (Str.ofString "\n") ++ (tl (Str.ofString "pump") ++ (tl (Str.ofString " ") ++ tl nines)))
  rw [lit_tl, lit_tl, lit_tl, lit_tl, lit_tl]
  simp
theorem t9_none : specR az (Str.ofString "letter a\npump " ++ nines) = none := by
  apply spec_none
  have f1 : 10 ∉ tl (Txt.join (Str.ofString " ") [Str.ofString "pump", nines]) := fun h => by
    rw [litS, tl_joined] at h
    rcases join_mem h with h | ⟨p, hp, h⟩
    · cases h
    · rcases List.mem_cons.mp hp with e | e
      · rw [e, lit_tl] at h; revert h; decide
      · rw [List.mem_singleton.mp e] at h; exact nines_free (by decide) h
  have c1 : cutAt 10 (Str.ofString "letter a\npump " ++ nines) = [Str.ofString "letter a", Txt.join (Str.ofString " ") [Str.ofString "pump", nines]] := by
    rw [t9_eq, litN]
    refine cut_joined (by decide) (by simp) fun p hp => ?_
    rcases List.mem_cons.mp hp with e | e
    · rw [e, lit_tl]; decide
    · rw [List.mem_singleton.mp e]; exact f1
  have c2 : cutAt 32 (Txt.join (Str.ofString " ") [Str.ofString "pump", nines]) = [Str.ofString "pump", nines] := by
    rw [litS]
    refine cut_joined (by decide) (by simp) fun p hp => ?_
    rcases List.mem_cons.mp hp with e | e
    · rw [e, lit_tl]; decide
    · rw [List.mem_singleton.mp e]; exact nines_free (by decide)
  have n1 : numO nines = none := by
    unfold numO
    rw [← len_tl, rep_len]
    have : decide (5000 * (Str.ofString "9").length ≤ 6) = false := by decide +kernel
    rw [this]
    simp
  have r2 : rowO [Str.ofString "pump", nines] = none := by
    show (if Str.ofString "pump" = sLetter then some (MV.str sPump :: sts [nines]) else (([nines] : List Str).mapM numO).map fun ns => MV.str sPump :: ns.map fun (n : Nat) => .int n) = none
    rw [if_neg sNe2, List.mapM_cons, n1]
    rfl
  unfold rowsO
  rw [c1, List.mapM_cons, List.mapM_cons, c2, r2]
  cases rowO (cutAt 32 (Str.ofString "letter a")) <;> rfl
theorem t2_some : specR az (Str.ofString "letter a\npump 0\nthen 1 0") = some [[.str sLetter, .str ⟨#[97]⟩], [.str sPump, .int 0], [.str sThen, .int 1, .int 0]] := by
  have v : VRows az 0 [[.str sLetter, .str ⟨#[97]⟩], [.str sPump, .int (0 : Nat)], [.str sThen, .int (1 : Nat), .int (0 : Nat)]] := .cons (.letter 97 (by decide) (by decide +kernel)) (.cons (.pump 0 (by decide)) (.cons (.both 1 0 (by decide) (by decide)) (.nil _)))
  have e : textR [[.str sLetter, .str ⟨#[97]⟩], [.str sPump, .int (0 : Nat)], [.str sThen, .int (1 : Nat), .int (0 : Nat)]] = Str.ofString "letter a\npump 0\nthen 1 0" := by decide +kernel
  have := spec_text v (by decide) (by decide)
  rw [e] at this
  exact this
theorem t3_none : specR az (Str.ofString "letter a\npump 1") = none := spec_none (by decide +kernel)
theorem t4_none : specR az (Str.ofString "letter a\nthen 0") = none := spec_none (by decide +kernel)
theorem t5_none : specR az (Str.ofString "letter aa") = none := spec_none (by decide +kernel)
theorem t6_none : specR az (Str.ofString "pump 0") = none := spec_none (by decide +kernel)
theorem t7_none : specR az (Str.ofString "letter a\n") = none := spec_none (by decide +kernel)
theorem t8_none : specR az (Str.ofString "letter  a") = none := spec_none (by decide +kernel)
theorem t10_none : specR az (Str.ofString "letter a\npump 00") = none := spec_none (by decide +kernel)
theorem t11_none : specR az (Str.ofString "letter a\npump -1") = none := spec_none (by decide +kernel)
theorem t12_none : specR az (Str.ofString "") = none := spec_none (by decide +kernel)
theorem z_none : specR (Str.ofString "z") (Str.ofString "letter a") = none := spec_none (by decide +kernel)
end K84

namespace K84
open PySem L2 TL MR
theorem litA : Str.ofString "a" = ⟨#[97]⟩ := ext_tl (tl_ofString "a")
theorem litZ : Str.ofString "z" = ⟨#[122]⟩ := ext_tl (tl_ofString "z")
def tailR : List (List MV) := (List.range 398).map fun (i : Nat) => [.str sThen, .int (1 + (i : Int)), .int 1]
theorem tailR_len : tailR.length = 398 := by simp [tailR]
theorem long_comp (env : MEnv) (h : 1 < env.length) (s : Sto) : compM (.nm 1) tYesM (mTup (aCons (mC (.str "then")) (aCons (mVar 1) (aCons (mC (.int 1)) aNil)))) (rngL 1 398) env [] s = .ok (tailR.map .tup) s := by
  have c1 : compM (.nm 1) tYesM (mTup (aCons (mC (.str "then")) (aCons (mVar 1) (aCons (mC (.int 1)) aNil)))) (rngL 1 398) env [] s = .ok ([] ++ (rngL 1 398).map fun m => .tup [.str sThen, m, .int 1]) s := by
    apply compM_map
    · intro y hy
      exact ⟨env.set 1 (some y), rfl, by simp [h]⟩
    · simp [rngL]
  rw [c1]
  unfold rngL tailR
  rw [List.map_map, List.map_map]
  rfl
theorem long_add (s : Sto) : MR.gAdd (.tup [.tup [.str sLetter, .str ⟨#[97]⟩], .tup [.str sLetter, .str ⟨#[122]⟩]]) (.tup (tailR.map .tup)) s = .ok (.tup (longR.map .tup)) s := by
  have : ([MV.tup [.str sLetter, .str ⟨#[97]⟩], .tup [.str sLetter, .str ⟨#[122]⟩]]).length + (tailR.map MV.tup).length ≤ 16777216 := by rw [List.length_map, tailR_len]; decide
  show (if ([MV.tup [.str sLetter, .str ⟨#[97]⟩], .tup [.str sLetter, .str ⟨#[122]⟩]]).length + (tailR.map MV.tup).length ≤ 16777216 then Res.ok (MV.tup ([MV.tup [.str sLetter, .str ⟨#[97]⟩], .tup [.str sLetter, .str ⟨#[122]⟩]] ++ tailR.map MV.tup)) s else .bad) = _
  rw [if_pos this]
  rfl
theorem gAddLst (a b : List MV) (h : a.length + b.length ≤ 16777216) (s : Sto) : MR.gAdd (.lst a) (.lst b) s = .ok (.lst (a ++ b)) s := by
  show (if a.length + b.length ≤ 16777216 then Res.ok (MV.lst (a ++ b)) s else .bad) = _
  rw [if_pos h]
theorem gAddStr (a b : Str) (h : a.length + b.length ≤ 16777216) (s : Sto) : MR.gAdd (.str a) (.str b) s = .ok (.str (a ++ b)) s := by
  show (if a.length + b.length ≤ 16777216 then Res.ok (MV.str (a ++ b)) s else .bad) = _
  rw [if_pos h]
theorem long_asc : Asc 6000 (textR longR) := by
  have := textR_asc long_az (by rw [long_len]; exact Nat.le_refl _)
  rw [long_len] at this
  exact this
theorem mul9 (s : Sto) : gMulS (.str (Str.ofString "9")) (.int 5000) s = .ok (.str nines) s := by
  have h : ((2 : Int) ≤ 5000 ∧ (5000 : Int) ≤ 1000000) ∧ 1 ≤ (Str.ofString "9").length ∧ (Str.ofString "9").length * (5000 : Int).toNat ≤ 16777216 := by decide +kernel
  show (if ((2 : Int) ≤ 5000 ∧ (5000 : Int) ≤ 1000000) ∧ 1 ≤ (Str.ofString "9").length ∧ (Str.ofString "9").length * (5000 : Int).toNat ≤ 16777216 then Res.ok (MV.str (repS (Str.ofString "9") (5000 : Int).toNat)) s else .bad) = _
  rw [if_pos h]
  rfl
theorem mulN (s : Sto) : gMulS (.lst [.non]) (.int 10) s = .ok (.lst [.non, .non, .non, .non, .non, .non, .non, .non, .non, .non]) s := by
  have h : (-(2 ^ 63) ≤ (10 : Int) ∧ (10 : Int) < 2 ^ 63) ∧ ([MV.non]).length * (10 : Int).toNat ≤ 16777216 := by decide +kernel
  show (if (-(2 ^ 63) ≤ (10 : Int) ∧ (10 : Int) < 2 ^ 63) ∧ ([MV.non]).length * (10 : Int).toNat ≤ 16777216 then Res.ok (MV.lst (List.replicate (10 : Int).toNat [MV.non]).flatten) s else .bad) = _
  rw [if_pos h]
  rfl
abbrev txs : List Str := [textR longR ++ Str.ofString "\npump 399", Str.ofString "letter a\npump 0\nthen 1 0", Str.ofString "letter a\npump 1", Str.ofString "letter a\nthen 0",
  Str.ofString "letter aa", Str.ofString "pump 0", Str.ofString "letter a\n", Str.ofString "letter  a", Str.ofString "letter a\npump 00", Str.ofString "letter a\npump -1",
  Str.ofString "letter a\npump " ++ nines, Str.ofString ""]
theorem app_asc {N M : Nat} {a b : Str} (ha : Asc N a) (hb : Asc M b) : Asc (N + M) (a ++ b) := by
  refine ⟨by rw [len_app]; exact Nat.add_le_add ha.1 hb.1, fun c hc => ?_⟩
  rw [tl_append] at hc
  rcases List.mem_append.mp hc with hc | hc
  · exact ha.2 c hc
  · exact hb.2 c hc
theorem txs_asc : ∀ t ∈ txs, Asc 8000 t := by
  intro t ht
  simp only [txs, List.mem_cons, List.not_mem_nil, or_false] at ht
  rcases ht with h | h | h | h | h | h | h | h | h | h | h | h
  · rw [h]; exact (app_asc long_asc (asc_lit (s := "\npump 399") (n := 100))).mono (by decide)
  · rw [h]; exact asc_lit
  · rw [h]; exact asc_lit
  · rw [h]; exact asc_lit
  · rw [h]; exact asc_lit
  · rw [h]; exact asc_lit
  · rw [h]; exact asc_lit
  · rw [h]; exact asc_lit
  · rw [h]; exact asc_lit
  · rw [h]; exact asc_lit
  · rw [h]; exact (app_asc (asc_lit (s := "letter a\npump ") (n := 100)) nines_asc).mono (by decide)
  · rw [h]; exact asc_lit
abbrev dueL : List MV := [.non, .tup [.tup [.str sLetter, .str ⟨#[97]⟩], .tup [.str sPump, .int 0], .tup [.str sThen, .int 1, .int 0]], .non, .non, .non, .non, .non, .non, .non, .non, .non, .non]
theorem txs_out : txs.map (fun t => outR (specR az t)) = dueL := by
  simp only [txs, List.map_cons, List.map_nil, t1_none, t2_some, t3_none, t4_none, t5_none, t6_none, t7_none, t8_none, t9_none, t10_none, t11_none, t12_none]
  rfl
theorem due_comp (l : List Str) (hl : l.length ≤ 100) (ha : ∀ t ∈ l, Asc 8000 t) (env : MEnv) (h : 5 < env.length) (s : Sto) : compM (.nm 5) tYesM (mFn 2 f__law_read_back (aCons (mC (.str "az")) (aCons (mVar 5) aNil))) (sts l) env [] s = .ok (l.map fun t => outR (specR az t)) s := by
  have c1 : compM (.nm 5) tYesM (mFn 2 f__law_read_back (aCons (mC (.str "az")) (aCons (mVar 5) aNil))) (sts l) env [] s = .ok ([] ++ (sts l).map fun m => match m with | .str t => outR (specR az t) | _ => .non) s := by
    apply compM_map
    · intro y hy
      obtain ⟨t, ht, rfl⟩ := List.mem_map.mp hy
      refine ⟨env.set 5 (some (.str t)), rfl, ?_⟩
      have := read_back_eq (Nat.le_of_ble_eq_true rfl : 4 ≤ 16777216) az_a (alph_asc az_a) (ha t ht) s
      simp [h, this]
    · simp
      omega
  rw [c1]
  unfold sts
  rw [List.map_map]
  rfl
theorem due_eq (s : Sto) : gEq (.lst dueL) (.lst dueL) s = .ok (.bl true) s := by
  have e : topD (.lst dueL) s = some (.list [.none, .tuple [.tuple [.str sLetter, .str ⟨#[97]⟩], .tuple [.str sPump, .int 0], .tuple [.str sThen, .int 1, .int 0]], .none, .none, .none, .none, .none, .none, .none, .none, .none, .none]) := rfl
  have h : SeqAt.shaped (.list [.none, .tuple [.tuple [.str sLetter, .str ⟨#[97]⟩], .tuple [.str sPump, .int 0], .tuple [.str sThen, .int 1, .int 0]], .none, .none, .none, .none, .none, .none, .none, .none, .none, .none]) = true := by decide +kernel
  have h2 := SeqAt.eqv_refl _ (SeqAt.canLay_of_shaped h)
  unfold gEq
  rw [e]
  simp only [h, h2]
  rfl
theorem z_back (s : Sto) : f__law_read_back [.str (Str.ofString "z"), .str (Str.ofString "letter a")] s = .ok .non s := by
  have := read_back_eq (Nat.le_of_ble_eq_true rfl : 4 ≤ 16777216) z_a (alph_asc z_a) (asc_lit (s := "letter a") (n := 8000)) s
  rw [z_none] at this
  exact this
abbrev B0 : MS := (sFor (MR.iRng (aCons (mCall gMax (aCons (mC (.int 1)) (aCons (mCall gMin (aCons (mC (.int 8)) (aCons (mCall gLen (aCons (mVar 0) aNil)) aNil))) aNil))) aNil)) (gN 1) (sSeq (sSet 2 (mFn 2 f__law_stream (aCons (mVar 0) (aCons (mVar 1) aNil))))
  (sSeq (sSet 3 (m2 gIx (mLst (aCons (mC (.str "a")) (aCons (mC (.str "ab")) (aCons (mC (.str "acx")) (aCons (mC (.str "bxyz")) aNil))))) (mFn 2 f__law_draw (aCons (mVar 2) (aCons (mC (.int 4)) aNil)))))
  (sSeq (sSet 4 (mFn 3 f__law_recipe (aCons (mVar 2) (aCons (mVar 3) (aCons (m2 MR.gAdd (mC (.int 1)) (mFn 2 f__law_draw (aCons (mVar 2) (aCons (mC (.int 12)) aNil)))) aNil)))))
  (sSeq (sPar 5 6 (aCons (mFn 1 f__law_text_of (aCons (mVar 4) aNil)) (aCons (mCall gRepr (aCons (mVar 4) aNil)) aNil)))
  (sSeq (sIf (mOrT (mB (m2 gNe (mCall gRepr (aCons (mFn 1 f_recipe_text (aCons (mVar 4) aNil)) aNil)) (mCall gRepr (aCons (mVar 5) aNil)))) (mB (m2 gNe (mCall gRepr (aCons (mVar 4) aNil)) (mVar 6)))) (sRet (mC (.bl false))) sNext)
  (sSeq (sIf (mOrT (mB (m2 gNe (mCall gRepr (aCons (mFn 2 f__law_read_back (aCons (mVar 3) (aCons (mVar 5) aNil))) aNil)) (mVar 6))) (mB (m2 gNe (mCall gRepr (aCons (mFn 2 f__law_parsed (aCons (mVar 3) (aCons (mVar 5) aNil))) aNil)) (mVar 6)))) (sRet (mC (.bl false))) sNext)
  (sFor (MR.iRng (aCons (mC (.int 14)) aNil)) (gN 7) (sSeq (sSet 8 (mFn 2 f__law_spoilt (aCons (mVar 2) (aCons (mVar 5) aNil))))
  (sIf (mB (m2 gNe (mCall gRepr (aCons (mFn 2 f__law_read_back (aCons (mVar 3) (aCons (mVar 8) aNil))) aNil)) (mCall gRepr (aCons (mFn 2 f__law_parsed (aCons (mVar 3) (aCons (mVar 8) aNil))) aNil)))) (sRet (mC (.bl false))) sNext))))))))))
abbrev B1 : MS := (sSet 9 (m2 MR.gAdd (mTup (aCons (mTup (aCons (mC (.str "letter")) (aCons (mC (.str "a")) aNil))) (aCons (mTup (aCons (mC (.str "letter")) (aCons (mC (.str "z")) aNil))) aNil))) (mCall gTuple (aCons (mLc (MR.iRng2 (aCons (mC (.int 1)) (aCons (mC (.int 399)) aNil))) [1] (.nm 1) tYesM (mTup (aCons (mC (.str "then")) (aCons (mVar 1) (aCons (mC (.int 1)) aNil))))) aNil))))
abbrev B2 : MS := (sSet 5 (mFn 1 f__law_text_of (aCons (mVar 9) aNil)))
abbrev B3 : MS := (sIf (mOrT (mB (m2 gNe (mFn 1 f_recipe_text (aCons (mVar 9) aNil)) (mVar 5))) (mOrT (mB (m2 gNe (mFn 2 f_parse_recipe (aCons (mC (.str "az")) (aCons (mVar 5) aNil))) (mVar 9))) (mB (m2 gNe (mFn 2 f_parse_recipe (aCons (mC (.str "abz")) (aCons (mVar 5) aNil))) (mVar 9))))) (sRet (mC (.bl false))) sNext)
abbrev B4 : MS := (sSet 10 (mLst (aCons (m2 MR.gAdd (mVar 5) (mC (.str "\npump 399"))) (aCons (mC (.str "letter a\npump 0\nthen 1 0")) (aCons (mC (.str "letter a\npump 1")) (aCons (mC (.str "letter a\nthen 0")) aNil))))))
abbrev B5 : MS := (sSet 10 (m2 MR.gAdd (mVar 10) (mLst (aCons (mC (.str "letter aa")) (aCons (mC (.str "pump 0")) (aCons (mC (.str "letter a\n")) (aCons (mC (.str "letter  a")) (aCons (mC (.str "letter a\npump 00")) (aCons (mC (.str "letter a\npump -1")) aNil)))))))))
abbrev B6 : MS := (sSet 10 (m2 MR.gAdd (mVar 10) (mLst (aCons (m2 MR.gAdd (mC (.str "letter a\npump ")) (m2 gMulS (mC (.str "9")) (mC (.int 5000)))) (aCons (mC (.str "")) aNil)))))
abbrev B7 : MS := (sSet 11 (m2 MR.gAdd (mLst (aCons (mC .non) (aCons (mTup (aCons (mTup (aCons (mC (.str "letter")) (aCons (mC (.str "a")) aNil))) (aCons (mTup (aCons (mC (.str "pump")) (aCons (mC (.int 0)) aNil))) (aCons (mTup (aCons (mC (.str "then")) (aCons (mC (.int 1)) (aCons (mC (.int 0)) aNil)))) aNil)))) aNil))) (m2 gMulS (mLst (aCons (mC .non) aNil)) (mC (.int 10)))))
abbrev B8 : MS := (sRet (mAnd (m2 gEq (mLc (iAll (mVar 10)) [5] (.nm 5) tYesM (mFn 2 f__law_read_back (aCons (mC (.str "az")) (aCons (mVar 5) aNil)))) (mVar 11)) (m2 gIs (mFn 2 f__law_read_back (aCons (mC (.str "z")) (aCons (mC (.str "letter a")) aNil))) (mC .non))))
theorem lstC {r : MA} {xs : List MV} {env : MEnv} {st : Sto} (h : r env st = .ok xs st) (hl : xs.length ≤ 16777216) : mLst r env st = .ok (.lst xs) st := by
  rw [e_lst, h, bind_ok, if_pos hl]
theorem setX {i : Nat} {a : ME} {m : MV} {env : MEnv} {st : Sto} (h : a env st = .ok m st) : sSet i a env st = .nx (env.set i (some m)) st := by
  rw [s_set, h, bindE_ok]
theorem twoX {g : G2} {a b : ME} {x y z : MV} {env : MEnv} {st : Sto} (h : a env st = .ok x st) (h2 : b env st = .ok y st) (h3 : g x y st = .ok z st) : m2 g a b env st = .ok z st := by
  rw [e_2, h, bind_ok, h2, bind_ok, h3, noExc_ok]
theorem consX {a : ME} {r : MA} {x : MV} {xs : List MV} {env : MEnv} {st : Sto} (h : a env st = .ok x st) (h2 : r env st = .ok xs st) : aCons a r env st = .ok (x :: xs) st := by
  rw [e_cons, h, bind_ok, h2, bind_ok]
theorem tupC {r : MA} {xs : List MV} {env : MEnv} {st : Sto} (h : r env st = .ok xs st) (hl : xs.length ≤ 16777216) : mTup r env st = .ok (.tup xs) st := by
  rw [e_tup, h, bind_ok, if_pos hl]
theorem retX {a : ME} {m : MV} {env : MEnv} {st : Sto} (h : a env st = .ok m st) : sRet a env st = .rt m st := by
  rw [s_ret, h, bindE_ok]
theorem andX {a b : ME} {m : MV} {env : MEnv} {st : Sto} (h : a env st = .ok (.bl true) st) (h2 : b env st = .ok m st) : mAnd a b env st = .ok m st := by
  rw [e_and, h, bind_ok, e_toB, bind_ok, if_pos rfl, h2]
theorem lcX {a : ME} {own : List Nat} {t : Tgt} {elt : ME} {xs ys : List MV} {env : MEnv} {st : Sto} (h : a env st = .ok (.lst xs) st) (h2 : compM t tYesM elt xs (wipeM env own) [] st = .ok ys st) : mLc (iAll a) own t tYesM elt env st = .ok (.lst ys) st := by
  have e : iAll a env st = .ok xs st := by rw [i_all, h, bind_ok]; rfl
  rw [e_lc, e, bind_ok, h2, bind_ok]
theorem seq_nx {s1 s2 : MS} {env env' : MEnv} {st st' : Sto} {F : Flw} (h : s1 env st = .nx env' st') (h2 : s2 env' st' = F) : sSeq s1 s2 env st = F := by
  rw [s_seq, h]
  exact h2
theorem law_true : ∀ ns : List Int, ns.length ≤ 63 → ∃ st, f_law [.scr ns] [] = .ok (.bl true) st := by
  intro ns hns
  obtain ⟨m, hm, em⟩ : ∃ m : Nat, m ≤ 8 ∧ iRng (aCons (mCall gMax (aCons (mC (.int 1)) (aCons (mCall gMin (aCons (mC (.int 8)) (aCons (mCall gLen (aCons (mVar 0) aNil)) aNil))) aNil))) aNil) [some (.scr ns), none, none, none, none, none, none, none, none, none, none, none] [] = .ok (rngL 0 m) [] := by
    have gl : gLen [.scr ns] ([] : Sto) = .ok (.int ns.length) [] := rfl
    by_cases h1 : (ns.length : Int) < 8
    · by_cases h2 : (1 : Int) < ns.length
      · refine ⟨ns.length, by omega, ?_⟩
        have b : (-1000000000 ≤ (ns.length : Int) ∧ (ns.length : Int) ≤ 1000000000) := by omega
        simp [gl, gMin, gMax, h1, h2, b]
      · refine ⟨1, by omega, ?_⟩
        simp [gl, gMin, gMax, h1, h2]
    · refine ⟨8, by omega, ?_⟩
      simp [gl, gMin, gMax, h1]
  obtain ⟨f1, f2, f3, f4, f5, f6, f7, f8, s, lp⟩ := loopL (ns := ns) none none none (List.range m) [] none none none none none none none none
  have er : ((List.range m).map fun (i : Nat) => MV.int (0 + (i : Int))) = rngL 0 m := rfl
  rw [er] at lp
  simp only [bodyL, bodyV] at lp
  obtain ⟨x1, h1⟩ := text_of_eq long_az (by rw [long_len]; exact Nat.le_refl _) s
  obtain ⟨x2, h2⟩ := recipe_text_eq az_a long_az (by rw [long_len]; decide) (by rw [long_len]; exact Nat.le_refl _) long_lets (s ++ [x1])
  have p1 := fun s => parse_recipe_eq (Nat.le_of_ble_eq_true rfl : 4 ≤ 16777216) az_a (alph_asc az_a) (long_asc.mono (by decide)) s
  rw [spec_text long_az (by rw [long_len]; decide) (by rw [long_len]; exact Nat.le_refl _)] at p1
  have p2 := fun s => parse_recipe_eq (Nat.le_of_ble_eq_true rfl : 4 ≤ 16777216) abz_a (alph_asc abz_a) (long_asc.mono (by decide)) s
  rw [spec_text long_abz (by rw [long_len]; decide) (by rw [long_len]; exact Nat.le_refl _)] at p2
  simp only [] at p1 p2
  have nt := gNe_rows (long_az.item (by rw [long_len]; exact Nat.le_refl _))
  have ns1 := gNe_same long_asc
  have a1 := gAddStr (textR longR) (Str.ofString "\npump 399") (by have := long_asc.1; have h2 := (asc_lit (s := "\npump 399") (n := 100)).1; omega)
  have a2 := gAddStr (Str.ofString "letter a\npump ") nines (by have := nines_asc.1; have h2 := (asc_lit (s := "letter a\npump ") (n := 100)).1; omega)
  have dc := fun env h s => due_comp txs (by decide) txs_asc env h s
  rw [txs_out] at dc
  simp only [sts, txs, List.map_cons, List.map_nil] at dc
  have lc := fun env h s => long_comp env h s
  have la := fun s => long_add s
  have de := due_eq
  simp only [dueL, ← litA, ← litZ] at la dc de
  have m9 := mul9
  have mN := mulN
  have zb := z_back
  generalize textR longR = T at *
  generalize longR.map MV.tup = L at *
  generalize tailR.map MV.tup = R at *
  generalize nines = N9 at *
  refine ⟨s ++ [x1] ++ [x2], ?_⟩
  clear hns hm er
  have E : b_law [some (.scr ns), none, none, none, none, none, none, none, none, none, none, none] [] = .rt (.bl true) (s ++ [x1] ++ [x2]) := by
    refine seq_nx (s1 := B0) (env' := [some (.scr ns), f1, f2, f3, f4, f5, f6, f7, f8, none, none, none]) (st' := s) (by unfold B0; rw [s_for, em, bindE_ok]; exact lp) ?_
    refine seq_nx (s1 := B1) (env' := [some (.scr ns), f1, f2, f3, f4, f5, f6, f7, f8, some (.tup L), none, none]) (st' := s) (by simp [lc, gTuple, la]) ?_
    refine seq_nx (s1 := B2) (env' := [some (.scr ns), f1, f2, f3, f4, some (.str T), f6, f7, f8, some (.tup L), none, none]) (st' := s ++ [x1]) (by simp [h1]) ?_
    have hB3 : B3 [some (.scr ns), f1, f2, f3, f4, some (.str T), f6, f7, f8, some (.tup L), none, none] (s ++ [x1]) = .nx [some (.scr ns), f1, f2, f3, f4, some (.str T), f6, f7, f8, some (.tup L), none, none] (s ++ [x1] ++ [x2]) := by
      have eE : ∀ st : Sto, (mVar 9) [some (.scr ns), f1, f2, f3, f4, some (.str T), f6, f7, f8, some (.tup L), none, none] st = .ok (.tup L) st := fun st => rfl
      have eT : ∀ st : Sto, (mVar 5) [some (.scr ns), f1, f2, f3, f4, some (.str T), f6, f7, f8, some (.tup L), none, none] st = .ok (.str T) st := fun st => rfl
      generalize [some (.scr ns), f1, f2, f3, f4, some (.str T), f6, f7, f8, some (.tup L), none, none] = env at *
      have u1 : (mB (m2 gNe (mFn 1 f_recipe_text (aCons (mVar 9) aNil)) (mVar 5))) env (s ++ [x1]) = .ok false (s ++ [x1] ++ [x2]) := by
        have v1 : (mFn 1 f_recipe_text (aCons (mVar 9) aNil)) env (s ++ [x1]) = .ok (.str T) (s ++ [x1] ++ [x2]) := by
          rw [e_fn, e_cons, eE, bind_ok, e_nil, bind_ok, bind_ok, if_pos (by rfl), h2]
        clear h2
        generalize s ++ [x1] ++ [x2] = s2 at *
        generalize s ++ [x1] = s1 at *
        rw [e_B, e_2, v1, bind_ok, eT, bind_ok, ns1, noExc_ok, bind_ok, e_toB]
      have u2 : ∀ st, (mB (m2 gNe (mFn 2 f_parse_recipe (aCons (mC (.str "az")) (aCons (mVar 5) aNil))) (mVar 9))) env st = .ok false st := fun st => by
        have v1 : (mFn 2 f_parse_recipe (aCons (mC (.str "az")) (aCons (mVar 5) aNil))) env st = .ok (.tup L) st := by
          rw [e_fn, e_cons, e_C, bind_ok, e_cons, eT, bind_ok, e_nil, bind_ok, bind_ok, bind_ok, if_pos (by rfl), p1]
        rw [e_B, e_2, v1, bind_ok, eE, bind_ok, nt, noExc_ok, bind_ok, e_toB]
      have u3 : ∀ st, (mB (m2 gNe (mFn 2 f_parse_recipe (aCons (mC (.str "abz")) (aCons (mVar 5) aNil))) (mVar 9))) env st = .ok false st := fun st => by
        have v1 : (mFn 2 f_parse_recipe (aCons (mC (.str "abz")) (aCons (mVar 5) aNil))) env st = .ok (.tup L) st := by
          rw [e_fn, e_cons, e_C, bind_ok, e_cons, eT, bind_ok, e_nil, bind_ok, bind_ok, bind_ok, if_pos (by rfl), p2]
        rw [e_B, e_2, v1, bind_ok, eE, bind_ok, nt, noExc_ok, bind_ok, e_toB]
      unfold B3; rw [s_if, e_orT, u1, bind_ok, if_neg (by decide), e_orT, u2, bind_ok, if_neg (by decide), u3, bindE_ok, if_neg (by decide)]; rfl
    refine seq_nx (s1 := B3) hB3 ?_
    generalize s ++ [x1] ++ [x2] = s2
    clear h1 h2 hB3 lp em
    let l1 : List MV := [.str (T ++ Str.ofString "\npump 399"), .str (Str.ofString "letter a\npump 0\nthen 1 0"), .str (Str.ofString "letter a\npump 1"), .str (Str.ofString "letter a\nthen 0")]
    let l2 : List MV := [.str (Str.ofString "letter aa"), .str (Str.ofString "pump 0"), .str (Str.ofString "letter a\n"), .str (Str.ofString "letter  a"), .str (Str.ofString "letter a\npump 00"), .str (Str.ofString "letter a\npump -1")]
    let l3 : List MV := [.str (Str.ofString "letter a\npump " ++ N9), .str (Str.ofString "")]
    refine seq_nx (s1 := B4) (env' := [some (.scr ns), f1, f2, f3, f4, some (.str T), f6, f7, f8, some (.tup L), some (.lst l1), none]) (st' := s2) (setX (lstC (consX (twoX rfl rfl (a1 _)) rfl) (Nat.le_of_ble_eq_true rfl))) ?_
    refine seq_nx (s1 := B5) (env' := [some (.scr ns), f1, f2, f3, f4, some (.str T), f6, f7, f8, some (.tup L), some (.lst (l1 ++ l2)), none]) (st' := s2) (setX (twoX rfl (lstC rfl (Nat.le_of_ble_eq_true rfl)) (gAddLst l1 l2 (Nat.le_of_ble_eq_true rfl) _))) ?_
    refine seq_nx (s1 := B6) (env' := [some (.scr ns), f1, f2, f3, f4, some (.str T), f6, f7, f8, some (.tup L), some (.lst (l1 ++ l2 ++ l3)), none]) (st' := s2) (setX (twoX rfl (lstC (consX (twoX rfl (twoX rfl rfl (m9 _)) (a2 _)) rfl) (Nat.le_of_ble_eq_true rfl)) (gAddLst (l1 ++ l2) l3 (Nat.le_of_ble_eq_true rfl) _))) ?_
    let d1 : List MV := [.non, .tup [.tup [.str sLetter, .str (Str.ofString "a")], .tup [.str sPump, .int 0], .tup [.str sThen, .int 1, .int 0]]]
    let d2 : List MV := [.non, .non, .non, .non, .non, .non, .non, .non, .non, .non]
    refine seq_nx (s1 := B7) (env' := [some (.scr ns), f1, f2, f3, f4, some (.str T), f6, f7, f8, some (.tup L), some (.lst (l1 ++ l2 ++ l3)), some (.lst (d1 ++ d2))]) (st' := s2)
      (setX (twoX (lstC (consX rfl (consX (tupC (consX (tupC rfl (Nat.le_of_ble_eq_true rfl)) (consX (tupC rfl (Nat.le_of_ble_eq_true rfl)) (consX (tupC rfl (Nat.le_of_ble_eq_true rfl)) rfl))) (Nat.le_of_ble_eq_true rfl)) rfl)) (Nat.le_of_ble_eq_true rfl)) (twoX (lstC rfl (Nat.le_of_ble_eq_true rfl)) rfl (mN _)) (gAddLst d1 d2 (Nat.le_of_ble_eq_true rfl) _))) ?_
    have c := dc (wipeM [some (.scr ns), f1, f2, f3, f4, some (.str T), f6, f7, f8, some (.tup L), some (.lst (l1 ++ l2 ++ l3)), some (.lst (d1 ++ d2))] [5]) (by simp) s2
    have zz : (mFn 2 f__law_read_back (aCons (mC (.str "z")) (aCons (mC (.str "letter a")) aNil))) [some (.scr ns), f1, f2, f3, f4, some (.str T), f6, f7, f8, some (.tup L), some (.lst (l1 ++ l2 ++ l3)), some (.lst (d1 ++ d2))] s2 = .ok .non s2 := by
      rw [e_fn, e_cons, e_C, bind_ok, e_cons, e_C, bind_ok, e_nil, bind_ok, bind_ok, bind_ok, if_pos (by rfl), zb]
    exact retX (andX (twoX (lcX rfl c) rfl (de s2)) (twoX zz rfl rfl))
  show (match b_law [some (.scr ns), none, none, none, none, none, none, none, none, none, none, none] [] with
    | .nx _ st' => Res.ok MV.non st'
    | .rt m st' => .ok m st'
    | .exc c _ st' => .exc c st'
    | _ => .bad) = _
  rw [E]
end K84

open PySem PySem.W PyProof.Rows
set_option maxRecDepth 100000 in
set_option maxHeartbeats 40000000 in
theorem PySem.Challenge.cw_openlimit_k84_texts_of_recipes_holds : PySem.Challenge.rw_openlimit_k84_texts_of_recipes.Holds := by
  w_on; o_law; k_head; (case hw => w_witness2)
  k_fill
  refine MR.walk_ofG (l := PySem.Challenge.rw_openlimit_k84_texts_of_recipes) (n := 63) (k := 7) (x := "script") (sp := fun w => MR.spLaw _) rfl (by decide) rfl ⟨rfl, by decide, by decide⟩ (fun w h Y => PySem.W.kIn_of Y) ?F (fun _ _ a ns hl _ hS => ⟨a, ns, rfl, hS, hl, fun _ => rfl⟩)
  intro w mg fa h KX G hmg
  refine' K84.law_mk KX G hmg ?x_LimitError ?x_InvalidMachine ?x_InvalidRecipe ?x_ParseError ?s_LimitError_LimitError ?s_LimitError_InvalidMachine ?s_LimitError_InvalidRecipe ?s_LimitError_ParseError ?s_ParseError_LimitError ?d_ParseError_LimitError ?s_ParseError_InvalidMachine ?d_ParseError_InvalidMachine ?s_ParseError_InvalidRecipe ?d_ParseError_InvalidRecipe ?s_ParseError_ParseError ?n_abs ?n_all ?n_bool ?n_enumerate ?n_int ?n_isinstance ?n_len ?n_max ?n_min ?n_range ?n_repr ?n_set ?n_sorted ?n_str ?n_tuple ?n_zip ?c_DIGITS ?v_DIGITS ?c_LETTER ?v_LETTER ?c_MAX_DIGITS ?c_MAX_LETTERS ?c_MAX_ROWS ?c_PUMP ?v_PUMP ?c_SIGNS ?v_SIGNS ?c_THEN ?v_THEN ?a_is_sign ?l_is_sign ?q_is_sign ?k_is_sign ?a_is_alphabet ?l_is_alphabet ?q_is_alphabet ?k_is_alphabet ?a_is_integer ?l_is_integer ?q_is_integer ?k_is_integer ?a_is_letter ?l_is_letter ?q_is_letter ?k_is_letter ?a_is_recipe_row ?l_is_recipe_row ?q_is_recipe_row ?k_is_recipe_row ?a_is_recipe_in ?l_is_recipe_in ?q_is_recipe_in ?k_is_recipe_in ?a_signs_in ?l_signs_in ?q_signs_in ?k_signs_in ?a_rows_text ?l_rows_text ?q_rows_text ?k_rows_text ?a_recipe_text ?l_recipe_text ?q_recipe_text ?k_recipe_text ?a_lines_of ?l_lines_of ?q_lines_of ?k_lines_of ?a_number_of ?l_number_of ?q_number_of ?k_number_of ?a_parsed_row ?l_parsed_row ?q_parsed_row ?k_parsed_row ?a_parse_recipe ?l_parse_recipe ?q_parse_recipe ?k_parse_recipe ?a__law_stream ?l__law_stream ?q__law_stream ?k__law_stream ?a__law_draw ?l__law_draw ?q__law_draw ?k__law_draw ?a__law_recipe ?l__law_recipe ?q__law_recipe ?k__law_recipe ?a__law_text_of ?l__law_text_of ?q__law_text_of ?k__law_text_of ?a_is_recipe ?l_is_recipe ?q_is_recipe ?k_is_recipe ?a__law_number ?l__law_number ?q__law_number ?k__law_number ?a__law_parsed ?l__law_parsed ?q__law_parsed ?k__law_parsed ?a__law_read_back ?l__law_read_back ?q__law_read_back ?k__law_read_back ?a__law_spoilt ?l__law_spoilt ?q__law_spoilt ?k__law_spoilt ?a_law ?l_law ?q_law ?k_law K84.law_true
  (case x_LimitError => exact ⟨by k_is, by k_exc, by k_is, by k_is, by k_is, by k_is, by k_is, by k_is, by k_is, by k_is, by k_is, by k_is, by k_is⟩)
  (case x_InvalidMachine => exact ⟨by k_is, by k_exc, by k_is, by k_is, by k_is, by k_is, by k_is, by k_is, by k_is, by k_is, by k_is, by k_is, by k_is⟩)
  (case x_InvalidRecipe => exact ⟨by k_is, by k_exc, by k_is, by k_is, by k_is, by k_is, by k_is, by k_is, by k_is, by k_is, by k_is, by k_is, by k_is⟩)
  (case x_ParseError => exact ⟨by k_is, by k_exc, by k_is, by k_is, by k_is, by k_is, by k_is, by k_is, by k_is, by k_is, by k_is, by k_is, by k_is⟩)
  (case s_LimitError_LimitError => first | rfl | k_is)
  (case s_LimitError_InvalidMachine => first | rfl | k_is)
  (case s_LimitError_InvalidRecipe => first | rfl | k_is)
  (case s_LimitError_ParseError => first | rfl | k_is)
  (case s_ParseError_LimitError => first | rfl | k_is)
  (case d_ParseError_LimitError => decide)
  (case s_ParseError_InvalidMachine => first | rfl | k_is)
  (case d_ParseError_InvalidMachine => decide)
  (case s_ParseError_InvalidRecipe => first | rfl | k_is)
  (case d_ParseError_InvalidRecipe => decide)
  (case s_ParseError_ParseError => first | rfl | k_is)
  (case n_abs => k_is)
  (case n_all => k_is)
  (case n_bool => k_is)
  (case n_enumerate => k_is)
  (case n_int => k_is)
  (case n_isinstance => k_is)
  (case n_len => k_is)
  (case n_max => k_is)
  (case n_min => k_is)
  (case n_range => k_is)
  (case n_repr => k_is)
  (case n_set => k_is)
  (case n_sorted => k_is)
  (case n_str => k_is)
  (case n_tuple => k_is)
  (case n_zip => k_is)
  (case c_DIGITS => k_is)
  (case v_DIGITS => decide +kernel)
  (case c_LETTER => k_is)
  (case v_LETTER => decide +kernel)
  (case c_MAX_DIGITS => k_is)
  (case c_MAX_LETTERS => k_is)
  (case c_MAX_ROWS => k_is)
  (case c_PUMP => k_is)
  (case v_PUMP => decide +kernel)
  (case c_SIGNS => k_is)
  (case v_SIGNS => decide +kernel)
  (case c_THEN => k_is)
  (case v_THEN => decide +kernel)
  (case a_is_sign => k_is)
  (case l_is_sign => k_is)
  (case q_is_sign => k_is)
  (case k_is_sign => k_is)
  (case a_is_alphabet => k_is)
  (case l_is_alphabet => k_is)
  (case q_is_alphabet => k_is)
  (case k_is_alphabet => k_is)
  (case a_is_integer => k_is)
  (case l_is_integer => k_is)
  (case q_is_integer => k_is)
  (case k_is_integer => k_is)
  (case a_is_letter => k_is)
  (case l_is_letter => k_is)
  (case q_is_letter => k_is)
  (case k_is_letter => k_is)
  (case a_is_recipe_row => k_is)
  (case l_is_recipe_row => k_is)
  (case q_is_recipe_row => k_is)
  (case k_is_recipe_row => k_is)
  (case a_is_recipe_in => k_is)
  (case l_is_recipe_in => k_is)
  (case q_is_recipe_in => k_is)
  (case k_is_recipe_in => k_is)
  (case a_signs_in => k_is)
  (case l_signs_in => k_is)
  (case q_signs_in => k_is)
  (case k_signs_in => k_is)
  (case a_rows_text => k_is)
  (case l_rows_text => k_is)
  (case q_rows_text => k_is)
  (case k_rows_text => k_is)
  (case a_recipe_text => k_is)
  (case l_recipe_text => k_is)
  (case q_recipe_text => k_is)
  (case k_recipe_text => k_is)
  (case a_lines_of => k_is)
  (case l_lines_of => k_is)
  (case q_lines_of => k_is)
  (case k_lines_of => k_is)
  (case a_number_of => k_is)
  (case l_number_of => k_is)
  (case q_number_of => k_is)
  (case k_number_of => k_is)
  (case a_parsed_row => k_is)
  (case l_parsed_row => k_is)
  (case q_parsed_row => k_is)
  (case k_parsed_row => k_is)
  (case a_parse_recipe => k_is)
  (case l_parse_recipe => k_is)
  (case q_parse_recipe => k_is)
  (case k_parse_recipe => k_is)
  (case a__law_stream => k_is)
  (case l__law_stream => k_is)
  (case q__law_stream => k_is)
  (case k__law_stream => k_is)
  (case a__law_draw => k_is)
  (case l__law_draw => k_is)
  (case q__law_draw => k_is)
  (case k__law_draw => k_is)
  (case a__law_recipe => k_is)
  (case l__law_recipe => k_is)
  (case q__law_recipe => k_is)
  (case k__law_recipe => k_is)
  (case a__law_text_of => k_is)
  (case l__law_text_of => k_is)
  (case q__law_text_of => k_is)
  (case k__law_text_of => k_is)
  (case a_is_recipe => k_is)
  (case l_is_recipe => k_is)
  (case q_is_recipe => k_is)
  (case k_is_recipe => k_is)
  (case a__law_number => k_is)
  (case l__law_number => k_is)
  (case q__law_number => k_is)
  (case k__law_number => k_is)
  (case a__law_parsed => k_is)
  (case l__law_parsed => k_is)
  (case q__law_parsed => k_is)
  (case k__law_parsed => k_is)
  (case a__law_read_back => k_is)
  (case l__law_read_back => k_is)
  (case q__law_read_back => k_is)
  (case k__law_read_back => k_is)
  (case a__law_spoilt => k_is)
  (case l__law_spoilt => k_is)
  (case q__law_spoilt => k_is)
  (case k__law_spoilt => k_is)
  (case a_law => k_is)
  (case l_law => k_is)
  (case q_law => k_is)
  (case k_law => k_is)
