import PyProof.Rows.All
import Wide.All
import OpenK.AllK
import Wide.FinOn
import HandS.ForMost
import HandS.ForExc
import HandS.Walk
import HandS.CallSlots
import HandS.Star
import HandS.IsInst
import KE.KDictKeyed
import KE.KeyNested
import KE.SortData
import KE.DataCmp
import HandS.EndBits
import HandS.Text
import HandS.List
import HandS.TupAny
import HandS.TupMul
import HandS.Deep
import HandS.Wide
import HandS.WideBits
import HandS.RaiseMore
import HandS.StrMore
import HandS.Iter
import HandS.Zip0
import KE.GoesEnum
import KE.GoesMore
import HandS.Set
import HandS.SetFor
import HandS.Strs
import KE.GoesRaise
import KE.KUnpackStar
import HandS.ExcIs
import HandS.ExcOwn
import PyProof.ReprRoads
import PyProof.StrOps2
import HandS.FStr
import HandS.Words
import KE.KDictCopyH
import KE.KDictSum
import HandS.Small
import HandS.NoneIn
import HandS.Conv
import PySem.Challenge.RW_openlimit_k83_texts_of_machines
set_option Elab.async false
set_option linter.all false
set_option maxRecDepth 100000
/-! A second layer over HandS: mirrors. A def's body is matched by a total Lean function over data (MV) and a store of
changeable lists; PM says that an expression does what its mirror does. -/
namespace MR
open PySem L2

/-- data of the mirrors: what does not change is held by value, what changes stands in a store -/
inductive MV where
  | non
  | bl (b : Bool)
  | int (i : Int)
  | str (s : Str)
  | ty (n : String)
  | gl (x : Str)
  | tup (xs : List MV)
  | lst (xs : List MV)
  | obj (k : Nat)
  | scr (ns : List Int)
  /-- an instance that does not change: its class, its attributes; a dict that does not change -/
  | ins (c : Str) (ns : List Str) (xs : List MV)
  | dct (ks xs : List MV)

inductive MO where
  | lst (xs : List MV)
  | dict (ks xs : List MV)
  | ins (c : Str) (ns : List Str) (xs : List MV)

/-- an error: its class, its attributes -/
structure Ex where
  c : Str
  ns : List Str := []
  xs : List MV := []

abbrev Sto := List MO
abbrev MEnv := List (Option MV)

inductive Res (α : Type) where
  | ok (a : α) (st : Sto)
  | exc (c : Ex) (st : Sto)
  | bad

def Res.post {α : Type} (r : Res α) (P : α → Sto → Prop) (E : Ex → Sto → Prop) : Prop := match r with
  | .ok a st => P a st
  | .exc c st => E c st
  | .bad => False
def Res.bind {α β : Type} (r : Res α) (f : α → Sto → Res β) : Res β := match r with
  | .ok a st => f a st
  | .exc c st => .exc c st
  | .bad => .bad
theorem Res.post_bind {α β : Type} {r : Res α} {f : α → Sto → Res β} {P : β → Sto → Prop} {E : Ex → Sto → Prop} :
    (r.bind f).post P E ↔ r.post (fun a st => (f a st).post P E) E := by
  cases r <;> exact Iff.rfl
theorem Res.post.mono {α : Type} {r : Res α} {P P' : α → Sto → Prop} {E E' : Ex → Sto → Prop} (h : r.post P E)
    (hp : ∀ a st, P a st → P' a st) (he : ∀ c st, E c st → E' c st) : r.post P' E' := by
  cases r with
  | ok a st => exact hp a st h
  | exc c st => exact he c st h
  | bad => exact h

/-- where the store's objects stand (by their numbers), and what is fenced off: lists that are being made -/
structure Ad where
  ix : List Addr
  fn : List Addr
def Ad.has (A : Ad) (a : Addr) : Prop := a ∈ A.ix ∨ a ∈ A.fn

/-- what is written of the module -/
structure Gm where
  K : PySem.W.Frag
  mg : Str → Option Value
  P : Program
  w : World
abbrev gmOf (X : Cx) : Gm := ⟨X.K, X.mg, X.prog, X.w⟩
/-- keys of dicts: whole numbers and texts; tuples -/
def keyM : L2.Key → MV
  | .inl i => .int i
  | .inr x => .str x
mutual
def toN : MV → Option NestedKey
  | .non => some .none
  | .bl b => some (.num (if b = true then 1 else 0))
  | .int i => some (.num i)
  | .str x => some (.text x)
  | .tup xs => (toNs xs).map .tup
  | .ty _ => none
  | .gl _ => none
  | .lst _ => none
  | .obj _ => none
  | .scr _ => none
  | .ins _ _ _ => none
  | .dct _ _ => none
def toNs : List MV → Option (List NestedKey)
  | [] => some []
  | x :: xs => (toN x).bind fun d => (toNs xs).map (d :: ·)
end
/-- a dict whose keys are tuples -/
def DN (P : Program) (w : World) (a : Addr) (es : List (NestedKey × Addr × V)) (h : Heap) : Prop :=
  (a == sysModules) = false ∧ es.length ≤ sizeLine ∧ ∃ xs : List (NestedKey × Addr × Value), Paired (fun (p : NestedKey × Addr × V) (q : NestedKey × Addr × Value) => p.1 = q.1 ∧ p.2.1 = q.2.1 ∧ RelV p.2.2 q.2.2) es xs ∧
    ∃ o es' ep, h.get? a = some o ∧ o.ExactDict ∧ o.data = .dict es' ep ∧ es'.toList = xs.map (entryOfKey (nestedKind P w)) ∧ (xs.map (·.1)).Nodup
abbrev DNO (G : Gm) (a : Addr) (es : List (NestedKey × Addr × V)) : HO := .ext (DN G.P G.w a es)
def FzO (A : Ad) (H : Hp) (a : Addr) (o : HO) : Prop := Rd H a o ∧ ¬ A.has a

/-- a list (a tuple) that is read by value: tracked outside the store, or written -/
def FzL (G : Gm) (A : Ad) (H : Hp) (a : Addr) (xs : List V) : Prop := (Rd H a (.lst xs) ∧ ¬ A.has a) ∨ SqL G.K (fun _ => none) a xs
def FzT (G : Gm) (A : Ad) (H : Hp) (a : Addr) (xs : List V) : Prop := (Rd H a (.tup xs) ∧ ¬ A.has a) ∨ SqT G.K (fun _ => none) a xs
theorem rd_empty {a : Addr} {u : HO} (h : Rd (fun _ => none) a u) : False := by
  rcases h with h | ⟨_, h⟩ <;> cases h
theorem FzL.sq {G : Gm} {A : Ad} {H : Hp} {a : Addr} {xs : List V} (h : FzL G A H a xs) : SqL G.K H a xs := by
  rcases h with h | h
  · exact .inl h.1
  · rcases h with h | h
    · exact (rd_empty h).elim
    · exact .inr h
theorem FzT.sq {G : Gm} {A : Ad} {H : Hp} {a : Addr} {xs : List V} (h : FzT G A H a xs) : SqT G.K H a xs := by
  rcases h with h | h
  · exact .inl h.1
  · rcases h with h | h
    · exact (rd_empty h).elim
    · exact .inr h

mutual
inductive Rep (G : Gm) (A : Ad) (H : Hp) : V → MV → Prop
  | non : Rep G A H .non .non
  | bl (b : Bool) : Rep G A H (.bl b) (.bl b)
  | int (i : Int) : Rep G A H (.int i) (.int i)
  | str (s : Str) : Rep G A H (.str s) (.str s)
  | ty (n : String) : Rep G A H (.ty n) (.ty n)
  | gl {x : Str} {f : Addr} : G.mg x = some (.ref f) → Rep G A H (.ref f) (.gl x)
  | tup {a : Addr} {vs : List V} {ms : List MV} : FzT G A H a vs → RepAll G A H vs ms → Rep G A H (.ref a) (.tup ms)
  | lst {a : Addr} {vs : List V} {ms : List MV} : H a = some (.lst vs) → ¬ A.has a → RepAll G A H vs ms → Rep G A H (.ref a) (.lst ms)
  | obj {a : Addr} {k : Nat} : A.ix[k]? = some a → Rep G A H (.ref a) (.obj k)
  | scr {a : Addr} {ns : List Int} : FzL G A H a (ns.map V.int) → Rep G A H (.ref a) (.scr ns)
  | ins {a C dx : Addr} {c : Str} {ns : List Str} {vs : List V} {ms : List MV} : G.mg c = some (.ref C) → FzO A H a (.ins C dx (ns.zip vs)) → ns.length = ms.length → RepAll G A H vs ms → Rep G A H (.ref a) (.ins c ns ms)
  | dctL {a : Addr} {kvs : List (L2.Key × V)} {ks ms : List MV} : FzO A H a (.dK kvs) → ks = kvs.map (fun p => keyM p.1) → RepAll G A H (kvs.map (·.2)) ms → Rep G A H (.ref a) (.dct ks ms)
  | dctN {a : Addr} {es : List (NestedKey × Addr × V)} {ks ms : List MV} : FzO A H a (DNO G a es) → es ≠ [] → toNs ks = some (es.map (·.1)) → RepAll G A H (es.map fun e => V.ref e.2.1) ks → RepAll G A H (es.map (·.2.2)) ms → Rep G A H (.ref a) (.dct ks ms)
inductive RepAll (G : Gm) (A : Ad) (H : Hp) : List V → List MV → Prop
  | nil : RepAll G A H [] []
  | cons {v : V} {vs : List V} {m : MV} {ms : List MV} : Rep G A H v m → RepAll G A H vs ms → RepAll G A H (v :: vs) (m :: ms)
end

inductive ObjR (G : Gm) (A : Ad) (H : Hp) (a : Addr) : MO → Prop
  | lst {vs : List V} {ms : List MV} : H a = some (.lst vs) → RepAll G A H vs ms → ObjR G A H a (.lst ms)
  | ins {C dx : Addr} {c : Str} {ns : List Str} {vs : List V} {ms : List MV} : G.mg c = some (.ref C) → H a = some (.ins C dx (ns.zip vs)) → ns.length = ms.length → RepAll G A H vs ms → ObjR G A H a (.ins c ns ms)
  | dctL {kvs : List (L2.Key × V)} {ks ms : List MV} : H a = some (.dK kvs) → ks = kvs.map (fun p => keyM p.1) → RepAll G A H (kvs.map (·.2)) ms → ObjR G A H a (.dict ks ms)
  | dctN {es : List (NestedKey × Addr × V)} {ks ms : List MV} : H a = some (DNO G a es) → es ≠ [] → toNs ks = some (es.map (·.1)) → RepAll G A H (es.map fun e => V.ref e.2.1) ks → RepAll G A H (es.map (·.2.2)) ms → ObjR G A H a (.dict ks ms)

/-- the store stands in the heap, its k-th object at A.ix[k] -/
structure SR (G : Gm) (A : Ad) (H : Hp) (st : Sto) : Prop where
  len : A.ix.length = st.length
  nd : (A.ix ++ A.fn).Nodup
  ob : ∀ (k : Nat) (a : Addr) (o : MO), A.ix[k]? = some a → st[k]? = some o → ObjR G A H a o
  ft : ∀ b, b ∈ A.fn → ∃ o, H b = some o
theorem SR.at {G : Gm} {A : Ad} {H : Hp} {st : Sto} (s : SR G A H st) {k : Nat} {o : MO} (h : st[k]? = some o) : ∃ a, A.ix[k]? = some a ∧ ObjR G A H a o := by
  have h1 : k < A.ix.length := by rw [s.len]; exact (List.getElem?_eq_some_iff.mp h).1
  exact ⟨A.ix[k], List.getElem?_eq_getElem h1, s.ob k _ o (List.getElem?_eq_getElem h1) h⟩
theorem SR.tracked {G : Gm} {A : Ad} {H : Hp} {st : Sto} (s : SR G A H st) {a : Addr} (h : A.has a) : ∃ o, H a = some o := by
  rcases h with h | h
  · obtain ⟨k, hk, e⟩ := List.mem_iff_getElem.mp h
    have h2 : k < st.length := by rw [← s.len]; exact hk
    have q := s.ob k a (st[k]) (by rw [List.getElem?_eq_getElem hk, e]) (List.getElem?_eq_getElem h2)
    generalize st[k] = o at q
    cases q with
    | lst h _ => exact ⟨_, h⟩
    | ins _ h _ _ => exact ⟨_, h⟩
    | dctL h _ _ => exact ⟨_, h⟩
    | dctN h _ _ _ _ => exact ⟨_, h⟩
  · exact s.ft a h
theorem SR.new_out {G : Gm} {A : Ad} {H : Hp} {st : Sto} (s : SR G A H st) {p : Addr} (h : H p = none) : ¬ A.has p := fun m => by
  obtain ⟨o', e⟩ := s.tracked m
  rw [h] at e; cases e

/-- later: what the store does not hold stands as it was; the store's new objects are new; the fence stands -/
structure Ext (A : Ad) (H : Hp) (A' : Ad) (H' : Hp) : Prop where
  pre : ∃ B, A'.ix = A.ix ++ B
  fen : A'.fn = A.fn
  keep : ∀ b o, ¬ A.has b → H b = some o → H' b = some o
  new : ∀ p, A'.has p → A.has p ∨ H p = none
  fk : ∀ b, b ∈ A.fn → H' b = H b
theorem Ext.refl (A : Ad) (H : Hp) : Ext A H A H := ⟨⟨[], by simp⟩, rfl, fun _ _ _ h => h, fun _ h => .inl h, fun _ _ => rfl⟩
theorem Ext.at {A A' : Ad} {H H' : Hp} (e : Ext A H A' H') {k : Nat} {a : Addr} (h : A.ix[k]? = some a) : A'.ix[k]? = some a := by
  obtain ⟨B, q⟩ := e.pre
  rw [q, List.getElem?_append_left (List.getElem?_eq_some_iff.mp h).1]
  exact h
theorem Ext.out {A A' : Ad} {H H' : Hp} (e : Ext A H A' H') {a : Addr} {o : HO} (h : H a = some o) (n : ¬ A.has a) : ¬ A'.has a := fun m => by
  rcases e.new a m with z | z
  · exact n z
  · rw [h] at z; cases z
theorem Ext.trans {A A1 A2 : Ad} {H H1 H2 : Hp} (a : Ext A H A1 H1) (b : Ext A1 H1 A2 H2) : Ext A H A2 H2 where
  pre := by
    obtain ⟨B, q⟩ := a.pre
    obtain ⟨C, q'⟩ := b.pre
    exact ⟨B ++ C, by rw [q', q]; simp⟩
  fen := b.fen.trans a.fen
  keep := fun c o n h => b.keep c o (a.out h n) (a.keep c o n h)
  new := fun p m => by
    rcases b.new p m with z | z
    · exact a.new p z
    · cases q : H p with
      | none => exact .inr rfl
      | some o =>
        by_cases hp : A.has p
        · exact .inl hp
        · rw [a.keep p o hp q] at z; cases z
  fk := fun c m => (b.fk c (by rw [a.fen]; exact m)).trans (a.fk c m)
/-- later, with more fences perhaps -/
structure ExtW (A : Ad) (H : Hp) (A' : Ad) (H' : Hp) : Prop where
  pre : ∃ B, A'.ix = A.ix ++ B
  keep : ∀ b o, ¬ A.has b → H b = some o → H' b = some o
  new : ∀ p, A'.has p → A.has p ∨ H p = none
theorem Ext.w {A A' : Ad} {H H' : Hp} (e : Ext A H A' H') : ExtW A H A' H' := ⟨e.pre, e.keep, e.new⟩
theorem ExtW.at {A A' : Ad} {H H' : Hp} (e : ExtW A H A' H') {k : Nat} {a : Addr} (h : A.ix[k]? = some a) : A'.ix[k]? = some a := by
  obtain ⟨B, q⟩ := e.pre
  rw [q, List.getElem?_append_left (List.getElem?_eq_some_iff.mp h).1]
  exact h
theorem ExtW.out {A A' : Ad} {H H' : Hp} (e : ExtW A H A' H') {a : Addr} {o : HO} (h : H a = some o) (n : ¬ A.has a) : ¬ A'.has a := fun m => by
  rcases e.new a m with z | z
  · exact n z
  · rw [h] at z; cases z
theorem ExtW.trans {A A1 A2 : Ad} {H H1 H2 : Hp} (a : ExtW A H A1 H1) (b : ExtW A1 H1 A2 H2) : ExtW A H A2 H2 where
  pre := by
    obtain ⟨B, q⟩ := a.pre
    obtain ⟨C, q'⟩ := b.pre
    exact ⟨B ++ C, by rw [q', q]; simp⟩
  keep := fun c o n h => b.keep c o (a.out h n) (a.keep c o n h)
  new := fun p m => by
    rcases b.new p m with z | z
    · exact a.new p z
    · cases q : H p with
      | none => exact .inr rfl
      | some o =>
        by_cases hp : A.has p
        · exact .inl hp
        · rw [a.keep p o hp q] at z; cases z
theorem ExtW.fence {A A' : Ad} {H H' : Hp} {d : Addr} (e : ExtW A H A' H') (hd : H d = none) : ExtW A H ⟨A'.ix, d :: A'.fn⟩ H' :=
  ⟨e.pre, e.keep, fun p m => by
    rcases m with m | m
    · exact e.new p (.inl m)
    · rcases List.mem_cons.mp m with m | m
      · rw [m]; exact .inr hd
      · exact e.new p (.inr m)⟩
/-- a new object that the store does not hold -/
theorem Ext.laid {G : Gm} {A : Ad} {H : Hp} {st : Sto} {p : Addr} {o : HO} (s : SR G A H st) (h : H p = none) : Ext A H A (upd H p o) :=
  ⟨⟨[], by simp⟩, rfl, fun b u _ e => by rw [upd_ne (ne_of_none e h)]; exact e, fun _ m => .inl m, fun b m => upd_ne fun z => by
    obtain ⟨u, e⟩ := s.ft b m
    rw [z, h] at e; cases e⟩
abbrev Ad.more (A : Ad) (p : Addr) : Ad := ⟨A.ix ++ [p], A.fn⟩
/-- a new object of the store -/
theorem Ext.made {G : Gm} {A : Ad} {H : Hp} {st : Sto} {p : Addr} {o : HO} (s : SR G A H st) (h : H p = none) : Ext A H (A.more p) (upd H p o) :=
  ⟨⟨[p], rfl⟩, rfl, fun b u _ e => by rw [upd_ne (ne_of_none e h)]; exact e, fun q m => by
    rcases m with m | m
    · rcases List.mem_append.mp m with m | m
      · exact .inl (.inl m)
      · rw [List.mem_singleton.mp m]; exact .inr h
    · exact .inl (.inr m), fun b m => upd_ne fun z => by
    obtain ⟨u, e⟩ := s.ft b m
    rw [z, h] at e; cases e⟩
/-- an object of the store is changed -/
theorem Ext.set {G : Gm} {A : Ad} {H : Hp} {st : Sto} {p : Addr} {o : HO} (s : SR G A H st) (h : p ∈ A.ix) : Ext A H A (upd H p o) :=
  ⟨⟨[], by simp⟩, rfl, fun b u n e => by rw [upd_ne (fun z => n (by rw [z]; exact .inl h))]; exact e, fun _ m => .inl m, fun b m => upd_ne fun z => by
    subst z
    exact (List.nodup_append.mp s.nd).2.2 b h b m rfl⟩

section
variable {G : Gm} {A A' : Ad} {H H' : Hp}
theorem FzL.extW {a : Addr} {xs : List V} (e : ExtW A H A' H') (h : FzL G A H a xs) : FzL G A' H' a xs := by
  rcases h with ⟨h, n⟩ | h
  · rcases h with h | ⟨o, h⟩
    · exact .inl ⟨.inl (e.keep a _ n h), e.out h n⟩
    · exact .inl ⟨.inr ⟨o, e.keep a _ n h⟩, e.out h n⟩
  · exact .inr h
theorem FzT.extW {a : Addr} {xs : List V} (e : ExtW A H A' H') (h : FzT G A H a xs) : FzT G A' H' a xs := by
  rcases h with ⟨h, n⟩ | h
  · rcases h with h | ⟨o, h⟩
    · exact .inl ⟨.inl (e.keep a _ n h), e.out h n⟩
    · exact .inl ⟨.inr ⟨o, e.keep a _ n h⟩, e.out h n⟩
  · exact .inr h
theorem FzO.extW {a : Addr} {o : HO} (e : ExtW A H A' H') (h : FzO A H a o) : FzO A' H' a o := by
  rcases h with ⟨h | ⟨o, h⟩, n⟩
  · exact ⟨.inl (e.keep a _ n h), e.out h n⟩
  · exact ⟨.inr ⟨o, e.keep a _ n h⟩, e.out h n⟩
mutual
theorem Rep.extW (e : ExtW A H A' H') : ∀ {v : V} {m : MV}, Rep G A H v m → Rep G A' H' v m
  | _, _, .non => .non
  | _, _, .bl b => .bl b
  | _, _, .int i => .int i
  | _, _, .str s => .str s
  | _, _, .ty n => .ty n
  | _, _, .gl h => .gl h
  | _, _, .tup h r => .tup (h.extW e) (RepAll.extW e r)
  | _, _, .lst h n r => .lst (e.keep _ _ n h) (e.out h n) (RepAll.extW e r)
  | _, _, .obj h => .obj (e.at h)
  | _, _, .scr h => .scr (h.extW e)
  | _, _, .ins c h l r => .ins c (h.extW e) l (RepAll.extW e r)
  | _, _, .dctL h k r => .dctL (h.extW e) k (RepAll.extW e r)
  | _, _, .dctN h ne k r q => .dctN (h.extW e) ne k (RepAll.extW e r) (RepAll.extW e q)
theorem RepAll.extW (e : ExtW A H A' H') : ∀ {vs : List V} {ms : List MV}, RepAll G A H vs ms → RepAll G A' H' vs ms
  | _, _, .nil => .nil
  | _, _, .cons r rs => .cons (Rep.extW e r) (RepAll.extW e rs)
end
theorem FzL.ext {a : Addr} {xs : List V} (e : Ext A H A' H') (h : FzL G A H a xs) : FzL G A' H' a xs := h.extW e.w
theorem FzT.ext {a : Addr} {xs : List V} (e : Ext A H A' H') (h : FzT G A H a xs) : FzT G A' H' a xs := h.extW e.w
theorem Rep.ext (e : Ext A H A' H') {v : V} {m : MV} (h : Rep G A H v m) : Rep G A' H' v m := h.extW e.w
theorem RepAll.ext (e : Ext A H A' H') {vs : List V} {ms : List MV} (h : RepAll G A H vs ms) : RepAll G A' H' vs ms := h.extW e.w
theorem RepAll.length {vs : List V} {ms : List MV} : RepAll G A H vs ms → vs.length = ms.length := by
  intro h
  induction vs generalizing ms with
  | nil => cases h; rfl
  | cons v vs ih =>
    cases h with
    | cons r rs => rw [List.length_cons, List.length_cons, ih rs]
theorem RepAll.append {vs vs' : List V} {ms ms' : List MV} (h : RepAll G A H vs ms) (h' : RepAll G A H vs' ms') : RepAll G A H (vs ++ vs') (ms ++ ms') := by
  induction vs generalizing ms with
  | nil => cases h; exact h'
  | cons v vs ih =>
    cases h with
    | cons r rs => exact .cons r (ih rs)
theorem RepAll.at {vs : List V} {ms : List MV} (h : RepAll G A H vs ms) {i : Nat} {m : MV} (hm : ms[i]? = some m) : ∃ v, vs[i]? = some v ∧ Rep G A H v m := by
  induction vs generalizing ms i with
  | nil => cases h; simp at hm
  | cons v vs ih =>
    cases h with
    | cons r rs =>
      cases i with
      | zero => simp at hm; subst hm; exact ⟨v, rfl, r⟩
      | succ i => simpa using ih rs (i := i) (by simpa using hm)
theorem RepAll.at' {vs : List V} {ms : List MV} (h : RepAll G A H vs ms) {i : Nat} {v : V} (hv : vs[i]? = some v) : ∃ m, ms[i]? = some m ∧ Rep G A H v m := by
  have hl := h.length
  have h1 : i < ms.length := by rw [← hl]; exact (List.getElem?_eq_some_iff.mp hv).1
  obtain ⟨v', e, r⟩ := h.at (List.getElem?_eq_getElem h1)
  rw [hv] at e; cases e
  exact ⟨_, List.getElem?_eq_getElem h1, r⟩
theorem RepAll.take {vs : List V} {ms : List MV} (h : RepAll G A H vs ms) (n : Nat) : RepAll G A H (vs.take n) (ms.take n) := by
  induction vs generalizing ms n with
  | nil => cases h; simp; exact .nil
  | cons v vs ih =>
    cases h with
    | cons r rs =>
      cases n with
      | zero => exact .nil
      | succ n => exact .cons r (ih rs n)
theorem RepAll.drop {vs : List V} {ms : List MV} (h : RepAll G A H vs ms) (n : Nat) : RepAll G A H (vs.drop n) (ms.drop n) := by
  induction vs generalizing ms n with
  | nil => cases h; simp; exact .nil
  | cons v vs ih =>
    cases h with
    | cons r rs =>
      cases n with
      | zero => exact .cons r rs
      | succ n => exact ih rs n
theorem RepAll.set {vs : List V} {ms : List MV} (h : RepAll G A H vs ms) (n : Nat) {v : V} {m : MV} (r : Rep G A H v m) : RepAll G A H (vs.set n v) (ms.set n m) := by
  induction vs generalizing ms n with
  | nil => cases h; simp; exact .nil
  | cons w vs ih =>
    cases h with
    | cons r' rs =>
      cases n with
      | zero => exact .cons r rs
      | succ n => exact .cons r' (ih rs n)
theorem RepAll.map_of {α : Type} {f : α → V} {g : α → MV} (h : ∀ a, Rep G A H (f a) (g a)) : ∀ l : List α, RepAll G A H (l.map f) (l.map g)
  | [] => .nil
  | a :: l => .cons (h a) (RepAll.map_of h l)
theorem RepAll.repl {v : V} {m : MV} (r : Rep G A H v m) : ∀ n : Nat, RepAll G A H (List.replicate n v) (List.replicate n m)
  | 0 => .nil
  | n + 1 => .cons r (RepAll.repl r n)
theorem ObjR.ext_other {a : Addr} {o : MO} (e : Ext A H A' H') (h : ObjR G A H a o) (k : H' a = H a) : ObjR G A' H' a o := by
  cases h with
  | lst h r => exact .lst (k.trans h) (r.ext e)
  | ins c h l r => exact .ins c (k.trans h) l (r.ext e)
  | dctL h z r => exact .dctL (k.trans h) z (r.ext e)
  | dctN h ne z r q => exact .dctN (k.trans h) ne z (r.ext e) (q.ext e)

/-- the store in the heap, one more object not of the store laid -/
theorem SR.ext_same {st : Sto} (s : SR G A H st) (e : Ext A H A H') (k : ∀ a ∈ A.ix, H' a = H a) : SR G A H' st :=
  ⟨s.len, s.nd, fun i a o ha ho => (s.ob i a o ha ho).ext_other e (k a (List.mem_of_getElem? ha)), fun b m => by rw [e.fk b m]; exact s.ft b m⟩
theorem SR.laid {st : Sto} (s : SR G A H st) {p : Addr} {o : HO} (h : H p = none) : SR G A (upd H p o) st :=
  s.ext_same (Ext.laid s h) fun a ha => upd_ne fun z => by
    obtain ⟨o', e⟩ := s.tracked (.inl ha)
    rw [z, h] at e; cases e
/-- a new object of the store -/
theorem SR.madeO {st : Sto} (s : SR G A H st) {p : Addr} {hob : HO} {mo : MO} (h : H p = none) (r : ObjR G (A.more p) (upd H p hob) p mo) : SR G (A.more p) (upd H p hob) (st ++ [mo]) where
  len := by simp [s.len]
  nd := by
    have h1 := List.nodup_append.mp s.nd
    have hp := s.new_out h
    show ((A.ix ++ [p]) ++ A.fn).Nodup
    rw [List.nodup_append]
    refine ⟨?_, h1.2.1, fun a ha b hb e => ?_⟩
    · rw [List.nodup_append]
      refine ⟨h1.1, by simp, fun a ha b hb e => ?_⟩
      rw [List.mem_singleton.mp hb] at e
      subst e
      exact hp (.inl ha)
    · subst e
      rcases List.mem_append.mp ha with ha | ha
      · exact h1.2.2 a ha a hb rfl
      · rw [List.mem_singleton.mp ha] at hb
        exact hp (.inr hb)
  ob := fun k a o ha ho => by
    have e : Ext A H (A.more p) (upd H p hob) := Ext.made s h
    have ha : (A.ix ++ [p])[k]? = some a := ha
    by_cases hk : k < A.ix.length
    · rw [List.getElem?_append_left hk] at ha
      rw [List.getElem?_append_left (by rw [← s.len]; exact hk)] at ho
      refine (s.ob k a o ha ho).ext_other e (upd_ne fun z => ?_)
      exact s.new_out h (.inl (by rw [← z]; exact List.mem_of_getElem? ha))
    · have hk' : k = A.ix.length := by
        have := (List.getElem?_eq_some_iff.mp ha).1
        simp at this
        omega
      subst hk'
      simp at ha
      rw [s.len] at ho
      simp at ho
      subst ha
      subst ho
      exact r
  ft := fun b m => by
    obtain ⟨o, e⟩ := s.ft b m
    exact ⟨o, by rw [upd_ne (fun z => by rw [z, h] at e; cases e)]; exact e⟩
/-- a new list of the store -/
theorem SR.made {st : Sto} (s : SR G A H st) {p : Addr} {vs : List V} {ms : List MV} (h : H p = none) (r : RepAll G A H vs ms) : SR G (A.more p) (upd H p (.lst vs)) (st ++ [.lst ms]) :=
  s.madeO h (.lst upd_same (r.ext (Ext.made s h)))
theorem SR.obj_ne {st : Sto} (s : SR G A H st) {i j : Nat} {a : Addr} (h : A.ix[i]? = some a) (h' : A.ix[j]? = some a) : i = j := by
  obtain ⟨h1, e1⟩ := List.getElem?_eq_some_iff.mp h
  obtain ⟨h2, e2⟩ := List.getElem?_eq_some_iff.mp h'
  exact (List.getElem_inj (List.nodup_append.mp s.nd).1).mp (e1.trans e2.symm)
/-- an object of the store changed -/
theorem SR.setO {st : Sto} (s : SR G A H st) {k : Nat} {a : Addr} {hob : HO} {mo : MO} (h : A.ix[k]? = some a) (r : ObjR G A (upd H a hob) a mo) : SR G A (upd H a hob) (st.set k mo) where
  len := by simp [s.len]
  nd := s.nd
  ob := fun j b o hb ho => by
    have e : Ext A H A (upd H a hob) := Ext.set s (List.mem_of_getElem? h)
    by_cases hj : j = k
    · subst hj
      rw [h] at hb; cases hb
      have hl : j < st.length := by rw [← s.len]; exact (List.getElem?_eq_some_iff.mp h).1
      rw [List.getElem?_set_self hl] at ho
      cases ho
      exact r
    · rw [List.getElem?_set_ne (Ne.symm hj)] at ho
      exact (s.ob j b o hb ho).ext_other e (upd_ne fun z => hj (s.obj_ne (by rw [← z]; exact hb) h))
  ft := fun b m => by
    obtain ⟨o, e⟩ := s.ft b m
    exact ⟨o, by rw [(Ext.set (o := hob) s (List.mem_of_getElem? h)).fk b m]; exact e⟩
/-- a list of the store changed -/
theorem SR.set {st : Sto} (s : SR G A H st) {k : Nat} {a : Addr} {vs : List V} {ms : List MV} (h : A.ix[k]? = some a) (r : RepAll G A H vs ms) : SR G A (upd H a (.lst vs)) (st.set k (.lst ms)) :=
  s.setO h (.lst upd_same (r.ext (Ext.set s (List.mem_of_getElem? h))))
/-! ### the fence: a list that is being made -/
abbrev Ad.fence (A : Ad) (d : Addr) : Ad := ⟨A.ix, d :: A.fn⟩
theorem FzL.fence {d a : Addr} {xs : List V} (h : FzL G A H a xs) (hd : H d = none) (k : ∀ b o, b ≠ d → H b = some o → H' b = some o) : FzL G (A.fence d) H' a xs := by
  have ne : ∀ o, H a = some o → a ≠ d := fun o e z => by rw [z, hd] at e; cases e
  have no : ∀ o, H a = some o → ¬ A.has a → ¬ (A.fence d).has a := fun o e n m => by
    rcases m with m | m
    · exact n (.inl m)
    · rcases List.mem_cons.mp m with m | m
      · exact ne o e m
      · exact n (.inr m)
  rcases h with ⟨h | ⟨o, h⟩, n⟩ | h
  · exact .inl ⟨.inl (k a _ (ne _ h) h), no _ h n⟩
  · exact .inl ⟨.inr ⟨o, k a _ (ne _ h) h⟩, no _ h n⟩
  · exact .inr h
theorem FzT.fence {d a : Addr} {xs : List V} (h : FzT G A H a xs) (hd : H d = none) (k : ∀ b o, b ≠ d → H b = some o → H' b = some o) : FzT G (A.fence d) H' a xs := by
  have ne : ∀ o, H a = some o → a ≠ d := fun o e z => by rw [z, hd] at e; cases e
  have no : ∀ o, H a = some o → ¬ A.has a → ¬ (A.fence d).has a := fun o e n m => by
    rcases m with m | m
    · exact n (.inl m)
    · rcases List.mem_cons.mp m with m | m
      · exact ne o e m
      · exact n (.inr m)
  rcases h with ⟨h | ⟨o, h⟩, n⟩ | h
  · exact .inl ⟨.inl (k a _ (ne _ h) h), no _ h n⟩
  · exact .inl ⟨.inr ⟨o, k a _ (ne _ h) h⟩, no _ h n⟩
  · exact .inr h
theorem FzO.fence {d a : Addr} {u : HO} (h : FzO A H a u) (hd : H d = none) (k : ∀ b o, b ≠ d → H b = some o → H' b = some o) : FzO (A.fence d) H' a u := by
  have ne : ∀ o, H a = some o → a ≠ d := fun o e z => by rw [z, hd] at e; cases e
  have no : ∀ o, H a = some o → ¬ A.has a → ¬ (A.fence d).has a := fun o e n m => by
    rcases m with m | m
    · exact n (.inl m)
    · rcases List.mem_cons.mp m with m | m
      · exact ne o e m
      · exact n (.inr m)
  rcases h with ⟨h | ⟨o, h⟩, n⟩
  · exact ⟨.inl (k a _ (ne _ h) h), no _ h n⟩
  · exact ⟨.inr ⟨o, k a _ (ne _ h) h⟩, no _ h n⟩
section
variable {d : Addr} (hd : H d = none) (k : ∀ b o, b ≠ d → H b = some o → H' b = some o)
include hd k
mutual
theorem Rep.fence : ∀ {v : V} {m : MV}, Rep G A H v m → Rep G (A.fence d) H' v m
  | _, _, .non => .non
  | _, _, .bl b => .bl b
  | _, _, .int i => .int i
  | _, _, .str s => .str s
  | _, _, .ty n => .ty n
  | _, _, .gl h => .gl h
  | _, _, .tup h r => .tup (h.fence hd k) (RepAll.fence r)
  | _, _, @Rep.lst _ _ _ a vs ms h n r => .lst (k a _ (fun z => by rw [z, hd] at h; cases h) h) (fun m => by
      rcases m with m | m
      · exact n (.inl m)
      · rcases List.mem_cons.mp m with m | m
        · rw [m, hd] at h; cases h
        · exact n (.inr m)) (RepAll.fence r)
  | _, _, .obj h => .obj h
  | _, _, .scr h => .scr (h.fence hd k)
  | _, _, .ins c h l r => .ins c (h.fence hd k) l (RepAll.fence r)
  | _, _, .dctL h z r => .dctL (h.fence hd k) z (RepAll.fence r)
  | _, _, .dctN h ne z r q => .dctN (h.fence hd k) ne z (RepAll.fence r) (RepAll.fence q)
theorem RepAll.fence : ∀ {vs : List V} {ms : List MV}, RepAll G A H vs ms → RepAll G (A.fence d) H' vs ms
  | _, _, .nil => .nil
  | _, _, .cons r rs => .cons (Rep.fence r) (RepAll.fence rs)
end
end
/-- the fence goes -/
theorem FzL.unfence {d a : Addr} {xs : List V} (h : FzL G (A.fence d) H a xs) : FzL G A H a xs := by
  rcases h with ⟨h, n⟩ | h
  · exact .inl ⟨h, fun m => n (m.elim .inl fun z => .inr (List.mem_cons_of_mem _ z))⟩
  · exact .inr h
theorem FzT.unfence {d a : Addr} {xs : List V} (h : FzT G (A.fence d) H a xs) : FzT G A H a xs := by
  rcases h with ⟨h, n⟩ | h
  · exact .inl ⟨h, fun m => n (m.elim .inl fun z => .inr (List.mem_cons_of_mem _ z))⟩
  · exact .inr h
theorem FzO.unfence {d a : Addr} {u : HO} (h : FzO (A.fence d) H a u) : FzO A H a u := ⟨h.1, fun m => h.2 (m.elim .inl fun z => .inr (List.mem_cons_of_mem _ z))⟩
mutual
theorem Rep.unfence {d : Addr} : ∀ {v : V} {m : MV}, Rep G (A.fence d) H v m → Rep G A H v m
  | _, _, .non => .non
  | _, _, .bl b => .bl b
  | _, _, .int i => .int i
  | _, _, .str s => .str s
  | _, _, .ty n => .ty n
  | _, _, .gl h => .gl h
  | _, _, .tup h r => .tup h.unfence (RepAll.unfence r)
  | _, _, .lst h n r => .lst h (fun m => n (m.elim .inl fun z => .inr (List.mem_cons_of_mem _ z))) (RepAll.unfence r)
  | _, _, .obj h => .obj h
  | _, _, .scr h => .scr h.unfence
  | _, _, .ins c h l r => .ins c h.unfence l (RepAll.unfence r)
  | _, _, .dctL h z r => .dctL h.unfence z (RepAll.unfence r)
  | _, _, .dctN h ne z r q => .dctN h.unfence ne z (RepAll.unfence r) (RepAll.unfence q)
theorem RepAll.unfence {d : Addr} : ∀ {vs : List V} {ms : List MV}, RepAll G (A.fence d) H vs ms → RepAll G A H vs ms
  | _, _, .nil => .nil
  | _, _, .cons r rs => .cons (Rep.unfence r) (RepAll.unfence rs)
end
theorem SR.fence {st : Sto} {d : Addr} (s : SR G A H st) (hd : H d = none) (o : HO) : SR G (A.fence d) (upd H d o) st where
  len := s.len
  nd := by
    have h1 := List.nodup_append.mp s.nd
    have hp := s.new_out hd
    show (A.ix ++ d :: A.fn).Nodup
    rw [List.nodup_append]
    refine ⟨h1.1, List.nodup_cons.mpr ⟨fun m => hp (.inr m), h1.2.1⟩, fun a ha b hb e => ?_⟩
    subst e
    rcases List.mem_cons.mp hb with m | m
    · exact hp (.inl (by rw [← m]; exact ha))
    · exact h1.2.2 a ha a m rfl
  ob := fun i a u ha hu => by
    have q := s.ob i a u ha hu
    have up : ∀ {u : HO}, H a = some u → upd H d o a = some u := fun h => by rw [upd_ne (fun z => by rw [z, hd] at h; cases h)]; exact h
    have fe : ∀ {vs : List V} {ms : List MV}, RepAll G A H vs ms → RepAll G (A.fence d) (upd H d o) vs ms := fun r => r.fence hd fun b o n e => by rw [upd_ne n]; exact e
    cases q with
    | lst h r => exact .lst (up h) (fe r)
    | ins c h l r => exact .ins c (up h) l (fe r)
    | dctL h z r => exact .dctL (up h) z (fe r)
    | dctN h ne z r q => exact .dctN (up h) ne z (fe r) (fe q)
  ft := fun b m => by
    rcases List.mem_cons.mp m with m | m
    · subst m; exact ⟨o, upd_same⟩
    · obtain ⟨u, e⟩ := s.ft b m
      exact ⟨u, by rw [upd_ne (fun z => by rw [z, hd] at e; cases e)]; exact e⟩
theorem SR.unfence {st : Sto} {d : Addr} (s : SR G (A.fence d) H st) : SR G A H st where
  len := s.len
  nd := by
    have h1 := List.nodup_append.mp s.nd
    rw [List.nodup_append]
    exact ⟨h1.1, (List.nodup_cons.mp h1.2.1).2, fun a ha b hb e => h1.2.2 a ha b (List.mem_cons_of_mem _ hb) e⟩
  ob := fun i a u ha hu => by
    have q := s.ob i a u ha hu
    cases q with
    | lst h r => exact .lst h r.unfence
    | ins c h l r => exact .ins c h l r.unfence
    | dctL h z r => exact .dctL h z r.unfence
    | dctN h ne z r q => exact .dctN h ne z r.unfence q.unfence
  ft := fun b m => s.ft b (List.mem_cons_of_mem _ m)
theorem fence_ne {d a : Addr} (n : ¬ (A.fence d).has a) : a ≠ d := fun z => n (.inr (by rw [z]; exact List.mem_cons_self))
theorem FzL.grow {d a : Addr} {xs : List V} (o : HO) (h : FzL G (A.fence d) H a xs) : FzL G (A.fence d) (upd H d o) a xs := by
  rcases h with ⟨h | ⟨u, h⟩, n⟩ | h
  · exact .inl ⟨.inl (by rw [upd_ne (fence_ne n)]; exact h), n⟩
  · exact .inl ⟨.inr ⟨u, by rw [upd_ne (fence_ne n)]; exact h⟩, n⟩
  · exact .inr h
theorem FzT.grow {d a : Addr} {xs : List V} (o : HO) (h : FzT G (A.fence d) H a xs) : FzT G (A.fence d) (upd H d o) a xs := by
  rcases h with ⟨h | ⟨u, h⟩, n⟩ | h
  · exact .inl ⟨.inl (by rw [upd_ne (fence_ne n)]; exact h), n⟩
  · exact .inl ⟨.inr ⟨u, by rw [upd_ne (fence_ne n)]; exact h⟩, n⟩
  · exact .inr h
theorem FzO.grow {d a : Addr} {u : HO} (o : HO) (h : FzO (A.fence d) H a u) : FzO (A.fence d) (upd H d o) a u := by
  rcases h with ⟨h | ⟨v, h⟩, n⟩
  · exact ⟨.inl (by rw [upd_ne (fence_ne n)]; exact h), n⟩
  · exact ⟨.inr ⟨v, by rw [upd_ne (fence_ne n)]; exact h⟩, n⟩
mutual
theorem Rep.grow {d : Addr} (o : HO) : ∀ {v : V} {m : MV}, Rep G (A.fence d) H v m → Rep G (A.fence d) (upd H d o) v m
  | _, _, .non => .non
  | _, _, .bl b => .bl b
  | _, _, .int i => .int i
  | _, _, .str s => .str s
  | _, _, .ty n => .ty n
  | _, _, .gl h => .gl h
  | _, _, .tup h r => .tup (h.grow o) (RepAll.grow o r)
  | _, _, .lst h n r => .lst (by rw [upd_ne (fence_ne n)]; exact h) n (RepAll.grow o r)
  | _, _, .obj h => .obj h
  | _, _, .scr h => .scr (h.grow o)
  | _, _, .ins c h l r => .ins c (h.grow o) l (RepAll.grow o r)
  | _, _, .dctL h z r => .dctL (h.grow o) z (RepAll.grow o r)
  | _, _, .dctN h ne z r q => .dctN (h.grow o) ne z (RepAll.grow o r) (RepAll.grow o q)
theorem RepAll.grow {d : Addr} (o : HO) : ∀ {vs : List V} {ms : List MV}, RepAll G (A.fence d) H vs ms → RepAll G (A.fence d) (upd H d o) vs ms
  | _, _, .nil => .nil
  | _, _, .cons r rs => .cons (Rep.grow o r) (RepAll.grow o rs)
end
/-- the fenced list grows -/
theorem SR.grow {st : Sto} {d : Addr} (s : SR G (A.fence d) H st) (o : HO) : SR G (A.fence d) (upd H d o) st where
  len := s.len
  nd := s.nd
  ob := fun i a u ha hu => by
    have q := s.ob i a u ha hu
    have h1 := List.nodup_append.mp s.nd
    have ne : a ≠ d := fun z => h1.2.2 a (List.mem_of_getElem? ha) d List.mem_cons_self z
    cases q with
    | lst h r => exact .lst (by rw [upd_ne ne]; exact h) (r.grow o)
    | ins c h l r => exact .ins c (by rw [upd_ne ne]; exact h) l (r.grow o)
    | dctL h z r => exact .dctL (by rw [upd_ne ne]; exact h) z (r.grow o)
    | dctN h ne' z r q => exact .dctN (by rw [upd_ne ne]; exact h) ne' z (r.grow o) (q.grow o)
  ft := fun b m => by
    by_cases e : b = d
    · subst e; exact ⟨o, upd_same⟩
    · obtain ⟨u, q⟩ := s.ft b m
      exact ⟨u, by rw [upd_ne e]; exact q⟩
end

/-- the slots of a frame -/
structure EnvR (G : Gm) (A : Ad) (H : Hp) (σ : St) (env : MEnv) : Prop where
  len : σ.length = env.length
  get : ∀ (i : Nat) (m : MV), env[i]? = some (some m) → ∃ v, σ[i]? = some (some v) ∧ Rep G A H v m
theorem EnvR.ext {G : Gm} {A A' : Ad} {H H' : Hp} {σ : St} {env : MEnv} (e : Ext A H A' H') (h : EnvR G A H σ env) : EnvR G A' H' σ env :=
  ⟨h.len, fun i m hm => let ⟨v, a, r⟩ := h.get i m hm; ⟨v, a, r.ext e⟩⟩
theorem EnvR.set {G : Gm} {A : Ad} {H : Hp} {σ : St} {env : MEnv} (h : EnvR G A H σ env) (i : Nat) {v : V} {m : MV} (r : Rep G A H v m) : EnvR G A H (σ.set i (some v)) (env.set i (some m)) := by
  refine ⟨by simp [h.len], fun j m' hj => ?_⟩
  by_cases e : i = j
  · subst e
    have hl : i < env.length := by
      have := (List.getElem?_eq_some_iff.mp hj).1
      simpa using this
    rw [List.getElem?_set_self hl] at hj
    cases hj
    exact ⟨v, List.getElem?_set_self (by rw [h.len]; exact hl), r⟩
  · rw [List.getElem?_set_ne e] at hj
    obtain ⟨w, a, q⟩ := h.get j m' hj
    exact ⟨w, by rw [List.getElem?_set_ne e]; exact a, q⟩
theorem EnvR.fence {G : Gm} {A : Ad} {H : Hp} {σ : St} {env : MEnv} {d : Addr} (o : HO) (hd : H d = none) (h : EnvR G A H σ env) : EnvR G (A.fence d) (upd H d o) σ env :=
  ⟨h.len, fun i m hm => let ⟨v, a, r⟩ := h.get i m hm; ⟨v, a, r.fence hd fun b u n e => by rw [upd_ne n]; exact e⟩⟩
theorem EnvR.grow {G : Gm} {A : Ad} {H : Hp} {σ : St} {env : MEnv} {d : Addr} (o : HO) (h : EnvR G (A.fence d) H σ env) : EnvR G (A.fence d) (upd H d o) σ env :=
  ⟨h.len, fun i m hm => let ⟨v, a, r⟩ := h.get i m hm; ⟨v, a, r.grow o⟩⟩
theorem SR.fence_out {G : Gm} {A : Ad} {H : Hp} {st : Sto} {d : Addr} (s : SR G (A.fence d) H st) : ¬ A.has d := fun m => by
  have h1 := List.nodup_append.mp s.nd
  rcases m with m | m
  · exact h1.2.2 d m d List.mem_cons_self rfl
  · exact (List.nodup_cons.mp h1.2.1).1 m
/-- behind the fence a part was evaluated -/
theorem Ext.unfence {G : Gm} {A A' : Ad} {H H' : Hp} {st : Sto} {d : Addr} (s : SR G (A'.fence d) H' st) (e : Ext (A.fence d) H (A'.fence d) H') : Ext A H A' H' where
  pre := e.pre
  fen := (List.cons.inj e.fen).2
  keep := fun b o n h => by
    by_cases z : b = d
    · rw [z, e.fk d List.mem_cons_self, ← z]; exact h
    · exact e.keep b o (fun m => by
        rcases m with m | m
        · exact n (.inl m)
        · rcases List.mem_cons.mp m with m | m
          · exact z m
          · exact n (.inr m)) h
  new := fun p m => by
    rcases e.new p (m.elim .inl fun z => .inr (List.mem_cons_of_mem _ z)) with q | q
    · rcases q with q | q
      · exact .inl (.inl q)
      · rcases List.mem_cons.mp q with q | q
        · subst q; exact (s.fence_out m).elim
        · exact .inl (.inr q)
    · exact .inr q
  fk := fun b m => e.fk b (List.mem_cons_of_mem _ m)
/-- the list that is being made, new since A1 H1, has grown -/
theorem Ext.grown {G : Gm} {A1 A : Ad} {H1 H : Hp} {st : Sto} {d : Addr} (o : HO) (s : SR G A1 H1 st) (hd : H1 d = none) (e : Ext A1 H1 A H) : Ext A1 H1 A (upd H d o) where
  pre := e.pre
  fen := e.fen
  keep := fun b u n h => by rw [upd_ne (fun z => by rw [z, hd] at h; cases h)]; exact e.keep b u n h
  new := e.new
  fk := fun b m => by
    obtain ⟨u, h⟩ := s.ft b m
    rw [upd_ne (fun z => by rw [z, hd] at h; cases h)]; exact e.fk b m
end MR

/-! readings of mirrors; the judgements PM (expressions), PMT (tests), PMA (arguments); the rules that need no data of their own -/
namespace MR
open PySem L2

abbrev ME := MEnv → Sto → Res MV
abbrev MT := MEnv → Sto → Res Bool
abbrev MA := MEnv → Sto → Res (List MV)

def okP (G : Gm) (A : Ad) (H : Hp) (Q : VK) : MV → Sto → Prop := fun m st => ∀ A' H' v, Ext A H A' H' → SR G A' H' st → Rep G A' H' v m → Q v H'
def okT (G : Gm) (A : Ad) (H : Hp) (Q : Bool → Hp → Prop) : Bool → Sto → Prop := fun b st => ∀ A' H', Ext A H A' H' → SR G A' H' st → Q b H'
def okA (G : Gm) (A : Ad) (H : Hp) (Q : List V → Hp → Prop) : List MV → Sto → Prop := fun ms st => ∀ A' H' vs, Ext A H A' H' → SR G A' H' st → RepAll G A' H' vs ms → Q vs H'
/-- an error at hand: its class, its attributes -/
def ExR (G : Gm) (A : Ad) (H : Hp) (c : Ex) (C : Addr) (d : Option Addr) : Prop := G.mg c.c = some (.ref C) ∧ ((c.ns = [] ∧ c.xs = [] ∧ d = none) ∨ ∃ p vs, c.ns ≠ [] ∧ d = some p ∧ H p = some (.xd (c.ns.zip vs)) ∧ ¬ A.has p ∧ c.ns.length = c.xs.length ∧ RepAll G A H vs c.xs)
theorem ExR.ext {G : Gm} {A A' : Ad} {H H' : Hp} {c : Ex} {C : Addr} {d : Option Addr} (e : Ext A H A' H') (h : ExR G A H c C d) : ExR G A' H' c C d := by
  obtain ⟨h1, h | ⟨p, vs, h0, h2, h3, h4, h5, h6⟩⟩ := h
  · exact ⟨h1, .inl h⟩
  · exact ⟨h1, .inr ⟨p, vs, h0, h2, e.keep _ _ h4 h3, e.out h3 h4, h5, h6.ext e⟩⟩
theorem ExR.unfence {G : Gm} {A : Ad} {H : Hp} {dd : Addr} {c : Ex} {C : Addr} {d : Option Addr} (h : ExR G (A.fence dd) H c C d) : ExR G A H c C d := by
  obtain ⟨h1, h | ⟨p, vs, h0, h2, h3, h4, h5, h6⟩⟩ := h
  · exact ⟨h1, .inl h⟩
  · exact ⟨h1, .inr ⟨p, vs, h0, h2, h3, fun m => h4 (m.elim .inl fun z => .inr (List.mem_cons_of_mem _ z)), h5, h6.unfence⟩⟩
def exP (G : Gm) (A : Ad) (H : Hp) (W : XK) : Ex → Sto → Prop := fun c st => ∀ A' H' C d, Ext A H A' H' → SR G A' H' st → ExR G A' H' c C d → W (.ref C) d H'

section
variable {G : Gm} {A A' : Ad} {H H' : Hp}
theorem okP.ext {Q : VK} (e : Ext A H A' H') {m : MV} {st : Sto} (h : okP G A H Q m st) : okP G A' H' Q m st := fun B I v f s r => h B I v (e.trans f) s r
theorem okT.ext {Q : Bool → Hp → Prop} (e : Ext A H A' H') {m : Bool} {st : Sto} (h : okT G A H Q m st) : okT G A' H' Q m st := fun B I f s => h B I (e.trans f) s
theorem okA.ext {Q : List V → Hp → Prop} (e : Ext A H A' H') {m : List MV} {st : Sto} (h : okA G A H Q m st) : okA G A' H' Q m st := fun B I v f s r => h B I v (e.trans f) s r
theorem exP.ext {W : XK} (e : Ext A H A' H') {c : Ex} {st : Sto} (h : exP G A H W c st) : exP G A' H' W c st := fun B I C d f s r => h B I C d (e.trans f) s r
end

def tE (G : Gm) (W : WX) (m : ME) : TE := fun σ H Q => ∃ A env st, SR G A H st ∧ EnvR G A H σ env ∧ (m env st).post (okP G A H Q) (exP G A H (WE W σ))
def tT (G : Gm) (W : WX) (m : MT) : TT := fun σ H Q => ∃ A env st, SR G A H st ∧ EnvR G A H σ env ∧ (m env st).post (okT G A H Q) (exP G A H (WE W σ))
def tA (G : Gm) (W : WX) (m : MA) : TA := fun σ H Q => ∃ A env st, SR G A H st ∧ EnvR G A H σ env ∧ (m env st).post (okA G A H Q) (exP G A H (WE W σ))

abbrev PM (X : Cx) (W : WX) (e : Expr) (m : ME) : Prop := PE X e (tE (gmOf X) W m)
abbrev PMT (X : Cx) (W : WX) (e : Expr) (m : MT) : Prop := PT X e (tT (gmOf X) W m)
abbrev PMW (X : Cx) (W : WX) (e : Expr) (m : MT) : Prop := PW X e (tT (gmOf X) W m)
abbrev PMA (X : Cx) (W : WX) (es : List Expr) (m : MA) : Prop := PA X es (tA (gmOf X) W m)

section
variable {X : Cx} {e : Expr} {es : List Expr}
theorem PE_imp {t t' : TE} (h : PE X e t) (i : ∀ σ H Q, t' σ H Q → t σ H Q) : PE X e t' := ⟨fun pins s σ H Q I q => h.run pins s σ H Q I (i σ H Q q)⟩
theorem PT_imp {t t' : TT} (h : PT X e t) (i : ∀ σ H Q, t' σ H Q → t σ H Q) : PT X e t' := ⟨fun pins s σ H Q I q => h.run pins s σ H Q I (i σ H Q q)⟩
theorem PW_imp {t t' : TT} (h : PW X e t) (i : ∀ σ H Q, t' σ H Q → t σ H Q) : PW X e t' := ⟨fun w pins s σ H Q I q => h.run w pins s σ H Q I (i σ H Q q)⟩
theorem PA_imp {t t' : TA} (h : PA X es t) (i : ∀ σ H Q, t' σ H Q → t σ H Q) : PA X es t' := ⟨fun p pins s σ H Q I q => h.run p pins s σ H Q I (i σ H Q q)⟩
end

section
variable {G : Gm} {W : WX} {A A0 : Ad} {H H0 : Hp} {σ : St} {env : MEnv} {st : Sto}
/-- into a part: what the part gives is told from its own ground -/
theorem inE {m : ME} {Q : VK} (s : SR G A H st) (r : EnvR G A H σ env) (e0 : Ext A0 H0 A H) (h : (m env st).post (okP G A H Q) (exP G A0 H0 (WE W σ))) : tE G W m σ H Q :=
  ⟨A, env, st, s, r, h.mono (fun _ _ q => q) fun _ _ q => q.ext e0⟩
theorem inT {m : MT} {Q : Bool → Hp → Prop} (s : SR G A H st) (r : EnvR G A H σ env) (e0 : Ext A0 H0 A H) (h : (m env st).post (okT G A H Q) (exP G A0 H0 (WE W σ))) : tT G W m σ H Q :=
  ⟨A, env, st, s, r, h.mono (fun _ _ q => q) fun _ _ q => q.ext e0⟩
theorem inA {m : MA} {Q : List V → Hp → Prop} (s : SR G A H st) (r : EnvR G A H σ env) (e0 : Ext A0 H0 A H) (h : (m env st).post (okA G A H Q) (exP G A0 H0 (WE W σ))) : tA G W m σ H Q :=
  ⟨A, env, st, s, r, h.mono (fun _ _ q => q) fun _ _ q => q.ext e0⟩
end

/-! ### constants and names -/
def mC (m : MV) : ME := fun _ st => .ok m st
def mVar (i : Nat) : ME := fun env st => match env[i]? with
  | some (some m) => .ok m st
  | _ => .bad
section
variable {X : Cx} {W : WX} {pos : Pos}
theorem pm_C {e : Expr} {v : V} {m : MV} (h : PE X e (tC v)) (r : ∀ A H, Rep (gmOf X) A H v m) : PM X W e (mC m) :=
  PE_imp h fun σ H Q ⟨A, env, st, s, _, q⟩ => q A H v (Ext.refl A H) s (r A H)
theorem pm_int {i : Int} {j : Nat} : PM X W (.Constant (.int i) j pos) (mC (.int i)) := pm_C pe_int fun _ _ => (.int i)
theorem pm_bl {b : Bool} {j : Nat} : PM X W (.Constant (.bool b) j pos) (mC (.bl b)) := pm_C pe_bl fun _ _ => (.bl b)
theorem pm_non {j : Nat} : PM X W (.Constant .none j pos) (mC .non) := pm_C pe_non fun _ _ => .non
theorem pm_str {x : Str} {j : Nat} : PM X W (.Constant (.str x) j pos) (mC (.str x)) := pm_C pe_str fun _ _ => (.str x)
theorem pm_var {x : Str} (i : Nat) (hN : X.N[i]? = some x := by rfl) (hv : Vis X.env.scope x := by first | exact Or.inl rfl | exact Or.inr (Or.inl rfl) | exact Or.inr (Or.inr rfl)) (hd : (x == ("__debug__" : Str)) = false := by decide)
    (hcd : (x == ("__classdict__" : Str)) = false := by decide) : PM X W (.Name x pos) (mVar i) :=
  PE_imp (pe_var hN hv hd hcd) fun σ H Q ⟨A, env, st, s, r, q⟩ => by
    unfold mVar at q
    split at q
    · rename_i m e
      obtain ⟨v, e1, r1⟩ := r.get i m e
      exact ⟨v, e1, q A H v (Ext.refl A H) s r1⟩
    · exact q.elim
/-- a module's constant -/
theorem pm_glob {x : Str} {v : V} {u : Value} {m : MV} (hm : X.mg x = some u) (r : RelV v u) (q : ∀ A H, Rep (gmOf X) A H v m) (hg : Gl X x := by rfl) (hd : (x == ("__debug__" : Str)) = false := by decide) : PM X W (.Name x pos) (mC m) :=
  pm_C (pe_glob hg hm r hd) q
/-- a def or class of the module -/
theorem pm_fn {x : Str} {f : Addr} (hm : X.mg x = some (.ref f)) (hg : Gl X x := by rfl) (hd : (x == ("__debug__" : Str)) = false := by decide) : PM X W (.Name x pos) (mC (.gl x)) :=
  pm_C (pe_glob (v := .ref f) hg hm rfl hd) fun _ _ => .gl hm
/-- a built-in type -/
theorem pm_ty {x : Str} {n : String} (hm : X.mg x = none) (hv : bootBuiltins x = some (.type n)) (hg : Gl X x := by rfl) (hn : x ≠ "__name__" := by decide) (hd : (x == ("__debug__" : Str)) = false := by decide) : PM X W (.Name x pos) (mC (.ty n)) :=
  pm_C (pe_bltn (v := .ty n) hg hm hv rfl hn hd) fun _ _ => .ty n
end

/-! ### operators by values -/
abbrev G2 := MV → MV → Sto → Res MV
def OpM (G : Gm) (r : R2) (g : G2) : Prop := ∀ (A : Ad) (H : Hp) (st : Sto) (x y : V) (mx my : MV) (Q : VK) (E : Ex → Sto → Prop), SR G A H st → Rep G A H x mx → Rep G A H y my → (g mx my st).post (okP G A H Q) E → (∀ c st, g mx my st ≠ .exc c st) → r x y H Q
def noExc (r : Res MV) : Res MV := match r with
  | .exc _ _ => .bad
  | r => r
theorem noExc_ne {r : Res MV} (c : Ex) (st : Sto) : noExc r ≠ .exc c st := by
  cases r <;> intro h <;> cases h
def m2 (g : G2) (a b : ME) : ME := fun env st => (a env st).bind fun x st1 => (b env st1).bind fun y st2 => noExc (g x y st2)
def m1 (g : MV → Sto → Res MV) (a : ME) : ME := fun env st => (a env st).bind fun x st1 => noExc (g x st1)
/-- by values, all in all -/
def Op2 (G : Gm) (r : R2) (g : G2) : Prop := ∀ {A : Ad} {H : Hp} {st : Sto} {x y : V} {mx my : MV} {Q : VK} {m : MV} {st' : Sto}, SR G A H st → Rep G A H x mx → Rep G A H y my → g mx my st = .ok m st' → okP G A H Q m st' → r x y H Q
def Op1 (G : Gm) (r : V → Hp → VK → Prop) (g : MV → Sto → Res MV) : Prop := ∀ {A : Ad} {H : Hp} {st : Sto} {x : V} {mx : MV} {Q : VK} {m : MV} {st' : Sto}, SR G A H st → Rep G A H x mx → g mx st = .ok m st' → okP G A H Q m st' → r x H Q
def OpN (G : Gm) (r : List V → Hp → VK → Prop) (g : List MV → Sto → Res MV) : Prop := ∀ {A : Ad} {H : Hp} {st : Sto} {xs : List V} {ms : List MV} {Q : VK} {m : MV} {st' : Sto}, SR G A H st → RepAll G A H xs ms → g ms st = .ok m st' → okP G A H Q m st' → r xs H Q
def OpMt (G : Gm) (r : V → List V → Hp → VK → Prop) (g : MV → List MV → Sto → Res MV) : Prop := ∀ {A : Ad} {H : Hp} {st : Sto} {x : V} {mx : MV} {xs : List V} {ms : List MV} {Q : VK} {m : MV} {st' : Sto}, SR G A H st → Rep G A H x mx → RepAll G A H xs ms → g mx ms st = .ok m st' → okP G A H Q m st' → r x xs H Q
theorem post_noExc {r : Res MV} {P : MV → Sto → Prop} {E : Ex → Sto → Prop} (h : (noExc r).post P E) : ∃ m st, r = .ok m st ∧ P m st := by
  cases r with
  | ok m st => exact ⟨m, st, rfl, h⟩
  | exc c st => exact h.elim
  | bad => exact h.elim

section
variable {X : Cx} {W : WX} {pos : Pos} {a b c : Expr} {ma mb mc : ME}
/-- two parts in a row, then an operation by values -/
theorem two {r : R2} {g : G2} (hr : Op2 (gmOf X) r g) {σ : St} {H : Hp} {Q : VK} (h : tE (gmOf X) W (m2 g ma mb) σ H Q) : tOp r (tE (gmOf X) W ma) (tE (gmOf X) W mb) σ H Q := by
  obtain ⟨A, env, st, s, q, h⟩ := h
  unfold m2 at h
  rw [Res.post_bind] at h
  refine inE s q (Ext.refl A H) (h.mono (fun mx st1 h1 A1 H1 x e1 s1 r1 => ?_) fun _ _ z => z)
  rw [Res.post_bind] at h1
  refine inE s1 (q.ext e1) e1 (h1.mono (fun my st2 h2 A2 H2 y e2 s2 r2 => ?_) fun _ _ z => z)
  obtain ⟨m, st', e, k⟩ := post_noExc h2
  exact hr s2 (r1.ext e2) r2 e (okP.ext (e1.trans e2) k)
theorem pm_bin {op : Operator} {r : R2} {g : G2} (ho : OpR X (binaryOp op) r) (hr : Op2 (gmOf X) r g) (ha : PM X W a ma) (hb : PM X W b mb) : PM X W (.BinOp a op b pos) (m2 g ma mb) :=
  PE_imp (pe_op ho ha hb) fun _ _ _ h => two hr h
theorem pm_cmp {op : CmpOp} {r : R2} {g : G2} (ho : OpR X (compareOp op) r) (hr : Op2 (gmOf X) r g) (ha : PM X W a ma) (hb : PM X W b mb) (hm : behindInMarks op b = false := by first | exact nomark _ | rfl) : PM X W (.Compare a [op] [b] pos) (m2 g ma mb) :=
  PE_imp (pe_cmpR ho ha hb hm) fun _ _ _ h => two hr h
theorem pm_ix {r : R2} {g : G2} (ho : IxR X r) (hr : Op2 (gmOf X) r g) (ha : PM X W a ma) (hb : PM X W b mb) (hs : PlainIx b := by exact fun _ _ => rfl) : PM X W (.Subscript a b pos) (m2 g ma mb) :=
  PE_imp (pe_ix ho ha hb hs) fun _ _ _ h => two hr h
theorem pm_un {op : UnaryOp} {r : V → Hp → VK → Prop} {g : MV → Sto → Res MV} (ho : UnR X (unaryOp op) r) (hr : Op1 (gmOf X) r g) (ha : PM X W a ma) : PM X W (.UnaryOp op a pos) (m1 g ma) :=
  PE_imp (pe_un ho ha) fun σ H Q ⟨A, env, st, s, q, h⟩ => by
    unfold m1 at h
    rw [Res.post_bind] at h
    refine inE s q (Ext.refl A H) (h.mono (fun mx st1 h1 A1 H1 x e1 s1 r1 => ?_) fun _ _ z => z)
    obtain ⟨m, st', e, k⟩ := post_noExc h1
    exact hr s1 r1 e (k.ext e1)

/-! ### and, or, not; tests -/
def toB (m : MV) (st : Sto) : Res Bool := match m with
  | .bl b => .ok b st
  | _ => .bad
/-- a value that is a bool, as a test -/
def mB (a : ME) : MT := fun env st => (a env st).bind toB
def mAndT (a b : MT) : MT := fun env st => (a env st).bind fun x st1 => if x = true then b env st1 else .ok false st1
def mOrT (a b : MT) : MT := fun env st => (a env st).bind fun x st1 => if x = true then .ok true st1 else b env st1
def mNotT (a : MT) : MT := fun env st => (a env st).bind fun x st1 => .ok (!x) st1
def mAnd (a b : ME) : ME := fun env st => (a env st).bind fun x st1 => (toB x st1).bind fun x st1 => if x = true then b env st1 else .ok (.bl false) st1
def mOr (a b : ME) : ME := fun env st => (a env st).bind fun x st1 => (toB x st1).bind fun x st1 => if x = true then .ok (.bl true) st1 else b env st1
def mNot (a : ME) : ME := fun env st => (a env st).bind fun x st1 => (toB x st1).bind fun x st1 => .ok (.bl (!x)) st1
def mIf (c : MT) (a b : ME) : ME := fun env st => (c env st).bind fun x st1 => if x = true then a env st1 else b env st1
theorem post_toB {m : MV} {st : Sto} {P : Bool → Sto → Prop} {E : Ex → Sto → Prop} (h : (toB m st).post P E) : ∃ b, m = .bl b ∧ P b st := by
  unfold toB at h
  split at h
  · exact ⟨_, rfl, h⟩
  · exact h.elim
theorem tB_of {σ : St} {H : Hp} {Q : Bool → Hp → Prop} (h : tT (gmOf X) W (mB ma) σ H Q) : tB (tE (gmOf X) W ma) σ H Q := by
  obtain ⟨A, env, st, s, q, h⟩ := h
  unfold mB at h
  rw [Res.post_bind] at h
  refine inE s q (Ext.refl A H) (h.mono (fun mx st1 h1 A1 H1 x e1 s1 r1 => ?_) fun _ _ z => z)
  obtain ⟨b, e, k⟩ := post_toB h1
  subst e
  cases r1
  exact ⟨b, rfl, k A1 H1 e1 s1⟩
theorem pmt_val (ha : PM X W a ma) (he : ∀ whole, isTrue a X.env whole = (do let v ← whole; standAt a.pos; holding [v] (truthy v)) := by intro _; rfl) : PMT X W a (mB ma) :=
  PT_imp (pt_val ha he) fun _ _ _ h => tB_of h
theorem pmt_cmp {op : CmpOp} {r : R2} {g : G2} (ho : OpR X (compareOp op) r) (hr : Op2 (gmOf X) r g) (ha : PM X W a ma) (hb : PM X W b mb) (hm : behindInMarks op b = false := by first | exact nomark _ | rfl) : PMT X W (.Compare a [op] [b] pos) (mB (m2 g ma mb)) :=
  PT_imp (pt_cmpR ho ha hb hm) fun σ H Q h => two (ma := ma) (mb := mb) (W := W) (g := g) hr (by
    obtain ⟨A, env, st, s, q, h⟩ := h
    unfold mB at h
    rw [Res.post_bind] at h
    refine inE s q (Ext.refl A H) (h.mono (fun mx st1 h1 A1 H1 x e1 s1 r1 => ?_) fun _ _ z => z)
    obtain ⟨b, e, k⟩ := post_toB h1
    subst e
    cases r1
    exact ⟨b, rfl, k A1 H1 e1 s1⟩)
variable {ta tb : MT} {rest : List Expr}
theorem in2T {σ : St} {H : Hp} {Q : Bool → Hp → Prop} (h : tT (gmOf X) W (mAndT ta tb) σ H Q) : tAnd (tT (gmOf X) W ta) (tT (gmOf X) W tb) σ H Q := by
  obtain ⟨A, env, st, s, q, h⟩ := h
  unfold mAndT at h
  rw [Res.post_bind] at h
  refine inT s q (Ext.refl A H) (h.mono (fun b st1 h1 A1 H1 e1 s1 => ?_) fun _ _ z => z)
  cases b with
  | true => exact inT s1 (q.ext e1) e1 (h1.mono (fun b st2 h2 => h2.ext e1) fun _ _ z => z)
  | false => exact h1 A1 H1 e1 s1
theorem in2O {σ : St} {H : Hp} {Q : Bool → Hp → Prop} (h : tT (gmOf X) W (mOrT ta tb) σ H Q) : tOr (tT (gmOf X) W ta) (tT (gmOf X) W tb) σ H Q := by
  obtain ⟨A, env, st, s, q, h⟩ := h
  unfold mOrT at h
  rw [Res.post_bind] at h
  refine inT s q (Ext.refl A H) (h.mono (fun b st1 h1 A1 H1 e1 s1 => ?_) fun _ _ z => z)
  cases b with
  | false => exact inT s1 (q.ext e1) e1 (h1.mono (fun b st2 h2 => h2.ext e1) fun _ _ z => z)
  | true => exact h1 A1 H1 e1 s1
theorem pmw_and1 (ha : PMT X W a ta) : PMW X W (.BoolOp .And [a] pos) ta := pw_and1 ha
theorem pmw_or1 (ha : PMT X W a ta) : PMW X W (.BoolOp .Or [a] pos) ta := pw_or1 ha
theorem pmw_and (ha : PMT X W a ta) (hb : PMW X W (.BoolOp .And (b :: rest) pos) tb) : PMW X W (.BoolOp .And (a :: b :: rest) pos) (mAndT ta tb) := PW_imp (pw_and ha hb) fun _ _ _ h => in2T h
theorem pmw_or (ha : PMT X W a ta) (hb : PMW X W (.BoolOp .Or (b :: rest) pos) tb) : PMW X W (.BoolOp .Or (a :: b :: rest) pos) (mOrT ta tb) := PW_imp (pw_or ha hb) fun _ _ _ h => in2O h
theorem pmt_not (ha : PMT X W a ta) : PMT X W (.UnaryOp .Not a pos) (mNotT ta) := PT_imp (pt_not ha) fun σ H Q ⟨A, env, st, s, q, h⟩ => by
  unfold mNotT at h
  rw [Res.post_bind] at h
  exact inT s q (Ext.refl A H) (h.mono (fun b st1 h1 A1 H1 e1 s1 => h1 A1 H1 e1 s1) fun _ _ z => z)
theorem pm_one {op : PySem.BoolOp} (ha : PM X W a ma) : PM X W (.BoolOp op [a] pos) ma := pe_one ha
theorem pm_and (ha : PM X W a ma) (hb : PM X W (.BoolOp .And (b :: rest) pos) mb) : PM X W (.BoolOp .And (a :: b :: rest) pos) (mAnd ma mb) := PE_imp (pe_and ha hb) fun σ H Q ⟨A, env, st, s, q, h⟩ => by
  unfold mAnd at h
  rw [Res.post_bind] at h
  refine inE s q (Ext.refl A H) (h.mono (fun x st1 h1 A1 H1 v e1 s1 r1 => ?_) fun _ _ z => z)
  rw [Res.post_bind] at h1
  obtain ⟨c, e, k⟩ := post_toB h1
  subst e
  cases r1
  refine ⟨c, rfl, ?_⟩
  cases c with
  | true => exact inE s1 (q.ext e1) e1 (Res.post.mono k (fun b st2 h2 => h2.ext e1) fun _ _ z => z)
  | false => exact k A1 H1 _ e1 s1 (.bl false)
theorem pm_or (ha : PM X W a ma) (hb : PM X W (.BoolOp .Or (b :: rest) pos) mb) : PM X W (.BoolOp .Or (a :: b :: rest) pos) (mOr ma mb) := PE_imp (pe_or ha hb) fun σ H Q ⟨A, env, st, s, q, h⟩ => by
  unfold mOr at h
  rw [Res.post_bind] at h
  refine inE s q (Ext.refl A H) (h.mono (fun x st1 h1 A1 H1 v e1 s1 r1 => ?_) fun _ _ z => z)
  rw [Res.post_bind] at h1
  obtain ⟨c, e, k⟩ := post_toB h1
  subst e
  cases r1
  refine ⟨c, rfl, ?_⟩
  cases c with
  | false => exact inE s1 (q.ext e1) e1 (Res.post.mono k (fun b st2 h2 => h2.ext e1) fun _ _ z => z)
  | true => exact k A1 H1 _ e1 s1 (.bl true)
theorem pm_not (ha : PM X W a ma) : PM X W (.UnaryOp .Not a pos) (mNot ma) := PE_imp (pe_not ha) fun σ H Q ⟨A, env, st, s, q, h⟩ => by
  unfold mNot at h
  rw [Res.post_bind] at h
  refine inE s q (Ext.refl A H) (h.mono (fun x st1 h1 A1 H1 v e1 s1 r1 => ?_) fun _ _ z => z)
  rw [Res.post_bind] at h1
  obtain ⟨c, e, k⟩ := post_toB h1
  subst e
  cases r1
  exact ⟨c, rfl, k A1 H1 _ e1 s1 (.bl (!c))⟩
theorem pm_if {tc : MT} (hc : PMT X W c tc) (ha : PM X W a ma) (hb : PM X W b mb) : PM X W (.IfExp c a b pos) (mIf tc ma mb) := PE_imp (pe_ifExp hc ha hb) fun σ H Q ⟨A, env, st, s, q, h⟩ => by
  unfold mIf at h
  rw [Res.post_bind] at h
  refine inT s q (Ext.refl A H) (h.mono (fun x st1 h1 A1 H1 e1 s1 => ?_) fun _ _ z => z)
  cases x with
  | true => exact inE s1 (q.ext e1) e1 (Res.post.mono h1 (fun b st2 h2 => h2.ext e1) fun _ _ z => z)
  | false => exact inE s1 (q.ext e1) e1 (Res.post.mono h1 (fun b st2 h2 => h2.ext e1) fun _ _ z => z)
/-- a < b < c -/
def mChain (g g' : G2) (a b c : ME) : ME := fun env st => (a env st).bind fun x st1 => (b env st1).bind fun y st2 => (noExc (g x y st2)).bind fun z st3 => (toB z st3).bind fun k st4 => if k = true then (c env st4).bind fun w st5 => noExc (g' y w st5) else .ok (.bl false) st4
theorem chainE {r r' : R2} {g g' : G2} (hr : Op2 (gmOf X) r g) (hr' : Op2 (gmOf X) r' g') {σ : St} {H : Hp} {Q : VK} (h : tE (gmOf X) W (mChain g g' ma mb mc) σ H Q) : tChain r r' (tE (gmOf X) W ma) (tE (gmOf X) W mb) (tE (gmOf X) W mc) σ H Q := by
  obtain ⟨A, env, st, s, q, h⟩ := h
  unfold mChain at h
  rw [Res.post_bind] at h
  refine inE s q (Ext.refl A H) (h.mono (fun mx st1 h1 A1 H1 x e1 s1 r1 => ?_) fun _ _ z => z)
  rw [Res.post_bind] at h1
  refine inE s1 (q.ext e1) e1 (h1.mono (fun my st2 h2 A2 H2 y e2 s2 r2 => ?_) fun _ _ z => z)
  rw [Res.post_bind] at h2
  obtain ⟨m, st', e, k⟩ := post_noExc h2
  refine hr s2 (r1.ext e2) r2 e (fun A3 H3 z e3 s3 r3 => ?_)
  rw [Res.post_bind] at k
  obtain ⟨b, eb, k⟩ := post_toB k
  subst eb
  cases r3
  refine ⟨b, rfl, ?_⟩
  have e03 := (e1.trans e2).trans e3
  cases b with
  | false => exact k A3 H3 _ e03 s3 (.bl false)
  | true =>
    have k : ((mc env st').bind fun w st5 => noExc (g' my w st5)).post _ _ := k
    rw [Res.post_bind] at k
    show tE (gmOf X) W mc σ H3 _
    refine inE s3 (q.ext e03) e03 (k.mono (fun mw st5 h5 A5 H5 w e5 s5 r5 => ?_) fun _ _ z => z)
    obtain ⟨m5, st6, e6, k6⟩ := post_noExc h5
    exact hr' s5 ((r2.ext e3).ext e5) r5 e6 (okP.ext (e03.trans e5) k6)
theorem pm_chain {op op' : CmpOp} {r r' : R2} {g g' : G2} (ho : OpR X (compareOp op) r) (ho' : OpR X (compareOp op') r') (hr : Op2 (gmOf X) r g) (hr' : Op2 (gmOf X) r' g') (ha : PM X W a ma) (hb : PM X W b mb) (hc : PM X W c mc)
    (hm : lastMarks [op, op'] [b, c] = false := by with_unfolding_all rfl) : PM X W (.Compare a [op, op'] [b, c] pos) (mChain g g' ma mb mc) :=
  PE_imp (pe_chain ho ho' ha hb hc hm) fun _ _ _ h => chainE hr hr' h
theorem tTest_of {t : TE} {m : ME} (i : ∀ σ H Q, tE (gmOf X) W m σ H Q → t σ H Q) {σ : St} {H : Hp} {Q : Bool → Hp → Prop} (h : tT (gmOf X) W (mB m) σ H Q) : tTest t σ H Q := by
  refine i σ H _ ?_
  obtain ⟨A, env, st, s, q, h⟩ := h
  unfold mB at h
  rw [Res.post_bind] at h
  refine inE s q (Ext.refl A H) (h.mono (fun mx st1 h1 A1 H1 x e1 s1 r1 => ?_) fun _ _ z => z)
  obtain ⟨b, e, k⟩ := post_toB h1
  subst e
  cases r1
  exact ⟨b, rfl, k A1 H1 e1 s1⟩
theorem pmt_chain {op op' : CmpOp} {r r' : R2} {g g' : G2} (ho : OpR X (compareOp op) r) (ho' : OpR X (compareOp op') r') (hr : Op2 (gmOf X) r g) (hr' : Op2 (gmOf X) r' g') (ha : PM X W a ma) (hb : PM X W b mb) (hc : PM X W c mc)
    (hm : lastMarks [op, op'] [b, c] = false := by with_unfolding_all rfl) : PMT X W (.Compare a [op, op'] [b, c] pos) (mB (mChain g g' ma mb mc)) :=
  PT_imp (pt_chain ho ho' ha hb hc hm) fun _ _ _ h => tTest_of (fun _ _ _ q => chainE hr hr' q) h
/-! ### arguments, displays, calls -/
def aNil : MA := fun _ st => .ok [] st
def aCons (a : ME) (r : MA) : MA := fun env st => (a env st).bind fun x st1 => (r env st1).bind fun xs st2 => .ok (x :: xs) st2
/-- the items of a list or a tuple -/
def itemsOf (m : MV) (st : Sto) : Option (List MV) := match m with
  | .tup xs => some xs
  | .lst xs => some xs
  | .obj k => match st[k]? with
    | some (.lst xs) => some xs
    | _ => none
  | _ => none
def aStar (a : ME) (r : MA) : MA := fun env st => (a env st).bind fun x st1 => match itemsOf x st1 with
  | some ys => (r env st1).bind fun xs st2 => .ok (ys ++ xs) st2
  | none => .bad
theorem items_rep {G : Gm} {A : Ad} {H : Hp} {st : Sto} {v : V} {m : MV} {xs : List MV} (s : SR G A H st) (r : Rep G A H v m) (h : itemsOf m st = some xs) :
    ∃ a vs, v = .ref a ∧ (SqT G.K H a vs ∨ SqL G.K H a vs) ∧ RepAll G A H vs xs := by
  cases r with
  | tup h1 h2 => cases h; exact ⟨_, _, rfl, .inl h1.sq, h2⟩
  | lst h1 h2 h3 => cases h; exact ⟨_, _, rfl, .inr (SqL.of h1), h3⟩
  | @obj a k h1 =>
    simp only [itemsOf] at h
    split at h
    · rename_i ys e
      cases h
      cases s.ob k a _ h1 e with
      | lst h2 h3 => exact ⟨_, _, rfl, .inr (SqL.of h2), h3⟩
    · cases h
  | non => cases h
  | bl => cases h
  | int => cases h
  | str => cases h
  | ty => cases h
  | gl => cases h
  | scr => cases h
  | ins => cases h
  | dctL => cases h
  | dctN => cases h
variable {es : List Expr} {mr : MA}
theorem pma_nil : PMA X W [] aNil := PA_imp pa_nil fun σ H Q ⟨A, env, st, s, q, h⟩ => h A H [] (Ext.refl A H) s .nil
theorem pma_cons (ha : PM X W a ma) (hr : PMA X W es mr) (hs : starEach (a :: es) X.env = (false, eval a X.env) :: starEach es X.env := by rfl) : PMA X W (a :: es) (aCons ma mr) :=
  PA_imp (pa_cons ha hr hs) fun σ H Q ⟨A, env, st, s, q, h⟩ => by
    unfold aCons at h
    rw [Res.post_bind] at h
    refine inE s q (Ext.refl A H) (h.mono (fun mx st1 h1 A1 H1 x e1 s1 r1 => ?_) fun _ _ z => z)
    rw [Res.post_bind] at h1
    refine inA s1 (q.ext e1) e1 (h1.mono (fun my st2 h2 A2 H2 y e2 s2 r2 => ?_) fun _ _ z => z)
    exact h2 A2 H2 _ (e1.trans e2) s2 (.cons (r1.ext e2) r2)
theorem pma_star {p : Pos} (ha : PM X W a ma) (hr : PMA X W es mr) (hs : starEach (.Starred a p :: es) X.env = (true, eval a X.env) :: starEach es X.env := by rfl) : PMA X W (.Starred a p :: es) (aStar ma mr) :=
  PA_imp (StX.pa_star ha hr hs) fun σ H Q ⟨A, env, st, s, q, h⟩ => by
    unfold aStar at h
    rw [Res.post_bind] at h
    refine inE s q (Ext.refl A H) (h.mono (fun mx st1 h1 A1 H1 x e1 s1 r1 => ?_) fun _ _ z => z)
    cases hi : itemsOf mx st1 with
    | none => rw [hi] at h1; exact h1.elim
    | some ys =>
      rw [hi] at h1
      obtain ⟨p, vs, ev, sq, rv⟩ := items_rep s1 r1 hi
      refine ⟨p, vs, ev, sq, ?_⟩
      have h1 : ((mr env st1).bind fun xs st2 => Res.ok (ys ++ xs) st2).post _ _ := h1
      rw [Res.post_bind] at h1
      refine inA s1 (q.ext e1) e1 (h1.mono (fun my st2 h2 A2 H2 y e2 s2 r2 => ?_) fun _ _ z => z)
      exact h2 A2 H2 _ (e1.trans e2) s2 ((rv.ext e2).append r2)
/-- (a, b, ..) -/
def mTup (r : MA) : ME := fun env st => (r env st).bind fun xs st1 => if xs.length ≤ 16777216 then .ok (.tup xs) st1 else .bad
/-- [a, b, ..] that never changes; one that may change -/
def mLst (r : MA) : ME := fun env st => (r env st).bind fun xs st1 => if xs.length ≤ 16777216 then .ok (.lst xs) st1 else .bad
def mLstN (r : MA) : ME := fun env st => (r env st).bind fun xs st1 => if xs.length ≤ 16777216 then .ok (.obj st1.length) (st1 ++ [.lst xs]) else .bad
theorem line_of {n : Nat} (h : n ≤ 16777216) : n ≤ sizeLine := by rw [sizeLine_eq]; exact h
theorem of_line {n : Nat} (h : n ≤ sizeLine) : n ≤ 16777216 := by rw [sizeLine_eq] at h; exact h
/-- a new tuple, a new list outside the store, a new list of the store -/
theorem fin_tup {G : Gm} {A : Ad} {H : Hp} {st : Sto} {Q : VK} {vs : List V} {ms : List MV} (s : SR G A H st) (r : RepAll G A H vs ms) (k : okP G A H Q (.tup ms) st) : ∀ p, H p = none → Q (.ref p) (upd H p (.tup vs)) := fun p hp =>
  k A _ _ (Ext.laid s hp) (s.laid hp) (.tup (.inl ⟨.inl upd_same, s.new_out hp⟩) (r.ext (Ext.laid s hp)))
theorem fin_lst {G : Gm} {A : Ad} {H : Hp} {st : Sto} {Q : VK} {vs : List V} {ms : List MV} (s : SR G A H st) (r : RepAll G A H vs ms) (k : okP G A H Q (.lst ms) st) : ∀ p, H p = none → Q (.ref p) (upd H p (.lst vs)) := fun p hp =>
  k A _ _ (Ext.laid s hp) (s.laid hp) (.lst upd_same (s.new_out hp) (r.ext (Ext.laid s hp)))
theorem fin_lstN {G : Gm} {A : Ad} {H : Hp} {st : Sto} {Q : VK} {vs : List V} {ms : List MV} (s : SR G A H st) (r : RepAll G A H vs ms) (k : okP G A H Q (.obj st.length) (st ++ [.lst ms])) : ∀ p, H p = none → Q (.ref p) (upd H p (.lst vs)) := fun p hp =>
  k (A.more p) _ _ (Ext.made s hp) (s.made hp r) (.obj (by rw [← s.len]; simp))
theorem post_ite {α : Type} {c : Prop} [Decidable c] {a : Res α} {P : α → Sto → Prop} {E : Ex → Sto → Prop} (h : (if c then a else .bad).post P E) : c ∧ a.post P E := by
  by_cases hc : c
  · rw [if_pos hc] at h; exact ⟨hc, h⟩
  · rw [if_neg hc] at h; exact h.elim
theorem pm_tup {x1 : Nat} (h : PMA X W es mr) : PM X W (.Tuple es x1 pos) (mTup mr) := PE_imp (pe_tup h) fun σ H Q ⟨A, env, st, s, q, h⟩ => by
  unfold mTup at h
  rw [Res.post_bind] at h
  refine inA s q (Ext.refl A H) (h.mono (fun mx st1 h1 A1 H1 x e1 s1 r1 => ?_) fun _ _ z => z)
  obtain ⟨hl, k⟩ := post_ite h1
  exact ⟨by rw [r1.length]; exact line_of hl, fin_tup s1 r1 (okP.ext e1 k)⟩
theorem pm_lst (h : PMA X W es mr) : PM X W (.List es pos) (mLst mr) := PE_imp (pe_lst h) fun σ H Q ⟨A, env, st, s, q, h⟩ => by
  unfold mLst at h
  rw [Res.post_bind] at h
  refine inA s q (Ext.refl A H) (h.mono (fun mx st1 h1 A1 H1 x e1 s1 r1 => ?_) fun _ _ z => z)
  obtain ⟨hl, k⟩ := post_ite h1
  exact ⟨by rw [r1.length]; exact line_of hl, fin_lst s1 r1 (okP.ext e1 k)⟩
theorem pm_lstN (h : PMA X W es mr) : PM X W (.List es pos) (mLstN mr) := PE_imp (pe_lst h) fun σ H Q ⟨A, env, st, s, q, h⟩ => by
  unfold mLstN at h
  rw [Res.post_bind] at h
  refine inA s q (Ext.refl A H) (h.mono (fun mx st1 h1 A1 H1 x e1 s1 r1 => ?_) fun _ _ z => z)
  obtain ⟨hl, k⟩ := post_ite h1
  exact ⟨by rw [r1.length]; exact line_of hl, fin_lstN s1 r1 (okP.ext e1 k)⟩
/-- a call of a builtin by values -/
def mCall (g : List MV → Sto → Res MV) (r : MA) : ME := fun env st => (r env st).bind fun xs st1 => noExc (g xs st1)
theorem callE {r : List V → Hp → VK → Prop} {g : List MV → Sto → Res MV} (hr : OpN (gmOf X) r g) {σ : St} {H : Hp} {Q : VK} (h : tE (gmOf X) W (mCall g mr) σ H Q) : tCB r (tA (gmOf X) W mr) σ H Q := by
  obtain ⟨A, env, st, s, q, h⟩ := h
  unfold mCall at h
  rw [Res.post_bind] at h
  refine inA s q (Ext.refl A H) (h.mono (fun mx st1 h1 A1 H1 x e1 s1 r1 => ?_) fun _ _ z => z)
  obtain ⟨m, st', e, k⟩ := post_noExc h1
  exact hr s1 r1 e (okP.ext e1 k)
theorem pm_callB {x : Str} {id : String} {p : Pos} {r : List V → Hp → VK → Prop} {g : List MV → Sto → Res MV} (hc : CallR X (.builtin id) r) (hr : OpN (gmOf X) r g) (hm : X.mg x = none) (hv : bootBuiltins x = some (.builtin id)) (ha : PMA X W (a :: es) mr)
    (hg : Gl X x := by rfl) (hn : x ≠ "__name__" := by decide) (hdb : (x == ("__debug__" : Str)) = false := by decide)
    (he : starEach (a :: es) X.env = (false, eval a X.env) :: starEach es X.env := by rfl) (hpl : (backTo pos (starEach es X.env)).any (·.1) = false := by rfl) : PM X W (.Call (.Name x p) (a :: es) [] pos) (mCall g mr) :=
  PE_imp (pe_callB hc hg hm hv ha hn hdb he hpl) fun _ _ _ h => callE hr h
theorem pm_callTy {x : Str} {T : String} {p : Pos} {r : List V → Hp → VK → Prop} {g : List MV → Sto → Res MV} (hc : CallR X (.type T) r) (hr : OpN (gmOf X) r g) (hm : X.mg x = none) (hv : bootBuiltins x = some (.type T)) (ha : PMA X W (a :: es) mr)
    (hg : Gl X x := by rfl) (hn : x ≠ "__name__" := by decide) (hdb : (x == ("__debug__" : Str)) = false := by decide)
    (he : starEach (a :: es) X.env = (false, eval a X.env) :: starEach es X.env := by rfl) (hpl : (backTo pos (starEach es X.env)).any (·.1) = false := by rfl) : PM X W (.Call (.Name x p) (a :: es) [] pos) (mCall g mr) :=
  PE_imp (pe_callTy hc hg hm hv ha hn hdb he hpl) fun _ _ _ h => callE hr h
/-- o.m(..), m a method of a built-in type T -/
def mMeth (g : MV → List MV → Sto → Res MV) (o : ME) (r : MA) : ME := fun env st => (o env st).bind fun x st1 => (r env st1).bind fun xs st2 => noExc (g x xs st2)
/-- the method's own type: told of the receiver ahead of the arguments -/
def OpTy (G : Gm) (T : String) (c : MV → Sto → Bool) : Prop := ∀ {A : Ad} {H : Hp} {st : Sto} {v : V} {m : MV}, SR G A H st → Rep G A H v m → c m st = true → tyV G.K T v H
def mMethT (c : MV → Sto → Bool) (g : MV → List MV → Sto → Res MV) (o : ME) (r : MA) : ME := fun env st => (o env st).bind fun x st1 => if c x st1 = true then (r env st1).bind fun xs st2 => noExc (g x xs st2) else .bad
theorem pm_bm {name : Str} {apos cpos : Pos} {T id : String} {r : V → List V → Hp → VK → Prop} {c : MV → Sto → Bool} {g : MV → List MV → Sto → Res MV} {o : Expr} {mo : ME}
    (pa : PlainAttrs T) (slot : Slot T name id) (hty : typeOf (.builtin id) = pure (.type "method_descriptor")) (hm : MtR X id r) (hc : OpTy (gmOf X) T c) (hr : OpMt (gmOf X) r g) (ho : PM X W o mo) (ha : PMA X W (a :: es) mr)
    (hbase : attributeBase o name X.env (eval o X.env) = eval o X.env := by rfl)
    (hfew : ((backTo cpos (starEach (a :: es) X.env)).all (fun x => !x.1) && (backToKw cpos (keywordEach [] X.env)).all (fun x => x.1.isSome)
      && decide ((a :: es).length + ([] : List Keyword).length + (if ([] : List Keyword).isEmpty then 0 else 1) < 30)) = true := by rfl)
    (hline : (apos.endLine == cpos.line) = true := by rfl) (hs : starEach (a :: es) X.env = (false, eval a X.env) :: starEach es X.env := by rfl) (hplain : (backTo cpos (starEach es X.env)).any (·.1) = false := by rfl) :
    PM X W (.Call (.Attribute o name apos) (a :: es) [] cpos) (mMethT c g mo mr) :=
  PE_imp (pe_bm pa slot hty hm ho ha hbase hfew hline hs hplain) fun σ H Q ⟨A, env, st, s, q, h⟩ => by
    unfold mMethT at h
    rw [Res.post_bind] at h
    refine inE s q (Ext.refl A H) (h.mono (fun mx st1 h1 A1 H1 x e1 s1 r1 => ?_) fun _ _ z => z)
    obtain ⟨hl, h1⟩ := post_ite h1
    refine ⟨hc s1 r1 hl, ?_⟩
    rw [Res.post_bind] at h1
    refine inA s1 (q.ext e1) e1 (h1.mono (fun my st2 h2 A2 H2 y e2 s2 r2 => ?_) fun _ _ z => z)
    obtain ⟨m, st', e, k⟩ := post_noExc h2
    exact hr s2 (r1.ext e2) r2 e (okP.ext (e1.trans e2) k)
theorem pm_bm0 {name : Str} {apos cpos : Pos} {T id : String} {r : V → List V → Hp → VK → Prop} {c : MV → Sto → Bool} {g : MV → List MV → Sto → Res MV} {o : Expr} {mo : ME}
    (pa : PlainAttrs T) (slot : Slot T name id) (hty : typeOf (.builtin id) = pure (.type "method_descriptor")) (hm : MtR X id r) (hc : OpTy (gmOf X) T c) (hr : OpMt (gmOf X) r g) (ho : PM X W o mo)
    (hbase : attributeBase o name X.env (eval o X.env) = eval o X.env := by rfl) (hline : (apos.endLine == cpos.line) = true := by rfl) :
    PM X W (.Call (.Attribute o name apos) [] [] cpos) (mMethT c g mo aNil) :=
  PE_imp (pe_bm0 pa slot hty hm ho hbase hline) fun σ H Q ⟨A, env, st, s, q, h⟩ => by
    unfold mMethT at h
    rw [Res.post_bind] at h
    refine inE s q (Ext.refl A H) (h.mono (fun mx st1 h1 A1 H1 x e1 s1 r1 => ?_) fun _ _ z => z)
    obtain ⟨hl, h1⟩ := post_ite h1
    refine ⟨hc s1 r1 hl, ?_⟩
    obtain ⟨m, st', e, k⟩ := post_noExc h1
    exact hr s1 r1 .nil e (okP.ext e1 k)
/-! ### slices -/
abbrev MOp := MEnv → Sto → Res (Option Int)
def oNone : MOp := fun _ st => .ok none st
def oSome (a : ME) : MOp := fun env st => (a env st).bind fun x st1 => match x with
  | .int i => .ok (some i) st1
  | _ => .bad
def tO (G : Gm) (W : WX) (m : MOp) : TO := fun σ H Q => ∃ A env st, SR G A H st ∧ EnvR G A H σ env ∧ (m env st).post (fun o st' => ∀ A' H', Ext A H A' H' → SR G A' H' st' → Q o H') (exP G A H (WE W σ))
abbrev PMO (X : Cx) (W : WX) (e : Option Expr) (m : MOp) : Prop := PO X e (tO (gmOf X) W m)
theorem PO_imp {e : Option Expr} {t t' : TO} (h : PO X e t) (i : ∀ σ H Q, t' σ H Q → t σ H Q) : PO X e t' := ⟨fun pins s σ H Q I q => h.run pins s σ H Q I (i σ H Q q)⟩
theorem pmo_none : PMO X W none oNone := PO_imp po_none fun σ H Q ⟨A, env, st, s, q, h⟩ => h A H (Ext.refl A H) s
theorem pmo_some (ha : PM X W a ma) : PMO X W (some a) (oSome ma) := PO_imp (po_some ha) fun σ H Q ⟨A, env, st, s, q, h⟩ => by
  unfold oSome at h
  rw [Res.post_bind] at h
  refine inE s q (Ext.refl A H) (h.mono (fun mx st1 h1 A1 H1 x e1 s1 r1 => ?_) fun _ _ z => z)
  split at h1
  · cases r1
    exact ⟨_, rfl, h1 A1 H1 e1 s1⟩
  · exact h1.elim
abbrev GSl := MV → Option Int → Option Int → Sto → Res MV
def mSl (g : GSl) (a : ME) (lo hi : MOp) : ME := fun env st => (a env st).bind fun x st1 => (lo env st1).bind fun l st2 => (hi env st2).bind fun u st3 => noExc (g x l u st3)
def OpSl (G : Gm) (r : V → Option Int → Option Int → Hp → VK → Prop) (g : GSl) : Prop := ∀ {A : Ad} {H : Hp} {st : Sto} {x : V} {mx : MV} {l u : Option Int} {Q : VK} {m : MV} {st' : Sto}, SR G A H st → Rep G A H x mx → g mx l u st = .ok m st' → okP G A H Q m st' → r x l u H Q
theorem inO {G : Gm} {A A0 : Ad} {H H0 : Hp} {σ : St} {env : MEnv} {st : Sto} {m : MOp} {Q : Option Int → Hp → Prop} (s : SR G A H st) (r : EnvR G A H σ env) (e0 : Ext A0 H0 A H) (h : (m env st).post (fun o st' => ∀ A' H', Ext A H A' H' → SR G A' H' st' → Q o H') (exP G A0 H0 (WE W σ))) : tO G W m σ H Q :=
  ⟨A, env, st, s, r, h.mono (fun _ _ q => q) fun _ _ q => q.ext e0⟩
theorem pm_sl {r : V → Option Int → Option Int → Hp → VK → Prop} {g : GSl} {lo hi : Option Expr} {ml mh : MOp} {p2 : Pos} (hs : SlR X r) (hr : OpSl (gmOf X) r g) (ha : PM X W a ma) (hl : PMO X W lo ml) (hh : PMO X W hi mh) :
    PM X W (.Subscript a (.Slice lo hi none p2) pos) (mSl g ma ml mh) := PE_imp (pe_slice hs ha hl hh) fun σ H Q ⟨A, env, st, s, q, h⟩ => by
  unfold mSl at h
  rw [Res.post_bind] at h
  refine inE s q (Ext.refl A H) (h.mono (fun mx st1 h1 A1 H1 x e1 s1 r1 => ?_) fun _ _ z => z)
  rw [Res.post_bind] at h1
  refine inO s1 (q.ext e1) e1 (h1.mono (fun l st2 h2 A2 H2 e2 s2 => ?_) fun _ _ z => z)
  rw [Res.post_bind] at h2
  have e02 := e1.trans e2
  refine inO s2 (q.ext e02) e02 (h2.mono (fun u st3 h3 A3 H3 e3 s3 => ?_) fun _ _ z => z)
  obtain ⟨m, st', e, k⟩ := post_noExc h3
  exact hr s3 ((r1.ext e2).ext e3) e (okP.ext (e02.trans e3) k)
end
end MR

/-! Promises of defs that also know that no repr runs around them (guards), and the end of a law over such a promise.
Why: HandS' own promise (FnOk) says nothing of the guards, and repr of a tuple or a list asks for them. -/
namespace MR
open PySem L2

/-- nothing of what runs around is a repr -/
abbrev NoG (A : Around) : Prop := A.guards = some []

/-- as FnOk, where no repr runs -/
structure FnG (P : Program) (w : World) (K : PySem.W.Frag) (mg : Str → Option Value) (base : Heap) (k : Nat) (f : Addr) (fd : FuncData) (ps : List Str) (sp : Sp) : Prop where
  len : ∀ vs H Q E, sp vs H Q E → vs.length = ps.length
  run : ∀ (A : Around) (outer : List Env) (s : Shared) (H : Hp) (args : Args) (us : List Value) (vs : List V) (Q : VK) (E : XK), Room k A → NoG A → Env0 P w K mg base A outer s H → BindsTo s fd args (ps.zip us) → Vals vs us → sp vs H Q E →
    codeAny (model P w) A (.call (.ref f) args) (CR (L2.CX P w) outer P w H s Q E) s

theorem FnG.mono {P : Program} {w : World} {K : PySem.W.Frag} {mg : Str → Option Value} {base : Heap} {j k : Nat} {f : Addr} {fd : FuncData} {ps : List Str} {sp : Sp} (F : FnG P w K mg base j f fd ps sp) (h : j ≤ k) : FnG P w K mg base k f fd ps sp :=
  { len := F.len, run := fun A outer s H args us vs Q E hr => F.run A outer s H args us vs Q E (hr.mono h) }
theorem FnG.of {P : Program} {w : World} {K : PySem.W.Frag} {mg : Str → Option Value} {base : Heap} {k : Nat} {f : Addr} {fd : FuncData} {ps : List Str} {sp : Sp} (F : FnOk P w K mg base (L2.CX P w) k f fd ps sp) : FnG P w K mg base k f fd ps sp :=
  { len := F.len, run := fun A outer s H args us vs Q E hr _ => F.run A outer s H args us vs Q E hr }

/-- a def of the text by its body -/
theorem fn_ofG {P : Program} {w : World} {K : PySem.W.Frag} {mg : Str → Option Value} {base : Heap} {x qual : Str} {st : Stmt} {f : Addr} {fd : FuncData} {N ps : List Str} {k : Nat} {sp : Sp} (F : Fun K x qual st f fd) (S : FnScope N ps (defScope st))
    (len : ∀ vs H Q E, sp vs H Q E → vs.length = ps.length)
    (body : ∀ (cdv : Value) (A : Around) (outer : List Env) (s : Shared) (H : Hp) (vs : List V) (Q : VK) (E : XK), NoG A → Room k (A.deeper (PyProof.Rows.envOfC qual (defScope st) s.heap.objs.size f cdv)) → sp vs H Q E →
      ∃ t, PSs (cxOf (L2.CX P w) P w K mg base N qual (defScope st) f cdv A outer s H E) (defBody st) t ∧ t { nx := fun _ H' => Q .non H', rt := Q } (start N vs) H) : FnG P w K mg base (k + 1) f fd ps sp := by
  obtain ⟨oc, od, kV, doc, pm, an, cdv, ct, osl, rfl, look, code⟩ := F.ex
  constructor
  · exact len
  intro A outer s H args us vs Q E room noG e0 binds rv hsp
  have hlen := len _ _ _ _ hsp
  have inK : K.In s.heap := e0.mod.kin.keeps fun b o e => (e0.bs b o e).1
  have noL : s.heap.NoLimit := e0.mod.nolimit.keeps fun b o e => (e0.bs b o e).1
  have kinds : ∀ y ∈ ps.zip us, (defScope st).names.lookup y.1 = some .local ∨ ((defScope st).names.lookup y.1 = some .cell ∧ ((cellsFrom (s.heap.objs.size + 1) (defScope st).names []).lookup y.1).isSome = true) := by
    rintro ⟨n, v⟩ hy
    rcases S.par n (List.of_mem_zip hy).1 with q | q
    · left; exact q
    · right; exact ⟨q, PySem.W.cellsFrom_some _ _ _ (.inl q)⟩
  apply codeAny_call_function room.depth (inK _ _ look) rfl S.co S.gen rfl (PySem.W.codeRec_of inK code) (binds _ _ _ _ _)
  apply PySem.wpAny_newFunctionEnv_cells S.kind kinds
  intro env he s1 ic
  subst he
  refine ⟨noL.keeps ic.toInCall.keep, codeAny_func ?_⟩
  obtain ⟨t, pt, qt⟩ := body cdv A outer s H vs Q E noG (room.deeper _) hsp
  have inv := inv_start (CX := L2.CX P w) (E := E) (cd := cdv) (qual := qual) (f := f) S room.hd e0 hlen rv ic
  refine wpAny_mono (pt.run [] s1 (start N vs) H _ inv qt) ?_ fun _ _ z => z
  intro fl s' hs
  cases fl with
  | ret u =>
    obtain ⟨v, _, H', J, r, q⟩ := hs
    exact ⟨v, H', J.os, J.bare, J.base, J.hok, r, q⟩
  | next =>
    obtain ⟨_, H', J, q⟩ := hs
    exact ⟨.non, H', J.os, J.bare, J.base, J.hok, rfl, q⟩
  | brk => exact hs.elim fun _ z => z.elim fun _ z => z.2.elim
  | cont => exact hs.elim fun _ z => z.elim fun _ z => z.2.elim
/-- f(e, ..) over such a promise; what is raised is wished for at the caller's slots -/
theorem pe_callG {X : Cx} {k : Nat} {f : Addr} {fd : FuncData} {ps : List Str} {sp : Sp} {E : L2.St → XK} {x : Str} {p pos : Pos} {e : Expr} {es : List Expr} {t : TA} (F : FnG X.prog X.w X.K X.mg X.base k f fd ps sp) (room : Room k X.A) (gd : NoG X.A)
    (hg : Gl X x) (hm : X.mg x = some (.ref f)) (hk : PySem.W.keepIn X.K (.ref f) = true) (hb : Binds X.K fd ps []) (hx : ∀ σ, PassesAt (L2.CX X.prog X.w) X σ (E σ))
    (ha : PA X (e :: es) t) (hdb : (x == ("__debug__" : Str)) = false := by decide) (he : starEach (e :: es) X.env = (false, eval e X.env) :: starEach es X.env := by rfl) (hpl : (backTo pos (starEach es X.env)).any (·.1) = false := by rfl) :
    PE X (.Call (.Name x p) (e :: es) [] pos) (tCallS sp E t) := by
  constructor
  intro pins s σ H Q I h
  apply PySem.wpAny_Call_Name_kw
  apply ld_glob I hg hm _ hdb
  refine PySem.W.callWith_K (h₀ := X.base) I.ok.mod.kin hk (wpAny_mono (ha.run pos pins s σ H _ I h) ?_ fun _ _ z => z) he hpl
  rintro us s1 ⟨vs, H1, J, r, q⟩
  refine ⟨J.kIn, ?_⟩
  have len : us.length = ps.length := r.length.symm.trans (F.len _ _ _ _ q)
  have b := hb s1 us J.kIn (by rw [List.append_nil]; exact len)
  rw [List.append_nil] at b
  apply wpAny_call
  refine codeAny_mono (F.run X.A X.stack s1 H1 ⟨us, []⟩ us vs Q (E σ) room gd J.env0 b r q) ?_
  intro res s2 hq
  cases res with
  | ok fl =>
    cases fl with
    | ret u => exact J.after hq
    | next => exact hq.elim
    | brk => exact hq.elim
    | cont => exact hq.elim
  | error err => exact hx σ pins H1 s1 err s2 J hq

/-- the heap in which the script alone is tracked, frozen -/
def scriptHp (a : Addr) (o : Obj) (ns : List Int) : Hp := fun b => if b = a then some (.frz o (.lst (ns.map V.int))) else none

/-- what is needed of an abstract heap at the law's entry -/
structure Entry (P : Program) (w : World) (K : PySem.W.Frag) (h : Heap) (a : Addr) (o : Obj) (ns : List Int) (H : Hp) : Prop where
  only : Only H
  scr : SqL K H a (ns.map V.int)
  ok : HOk P w H h
  at_a : ∀ b, H b ≠ none → b = a ∧ K.lookup a = none

theorem entry_of {P : Program} {w : World} {K : PySem.W.Frag} {h : Heap} {a : Addr} {vs : List Value} {ns : List Int} (inK : K.In h) (ha : h.get? a = some { cls := .type "list", data := .seq vs.toArray }) (hi : PyProof.Rows.IntsAre vs ns) (hl : ns.length ≤ sizeLine) :
    ∃ H, Entry P w K h a { cls := .type "list", data := .seq vs.toArray } ns H := by
  have lens := hi.length
  have rv := vals_ints hi
  cases hk : K.lookup a with
  | some o =>
    have same := inK a o hk
    rw [ha] at same
    cases same
    refine ⟨fun _ => none, fun _ => .inl rfl, .inr ⟨_, vs.toArray, _, hk, rfl, rfl, rfl, ?_, ?_⟩, fun b u z => (by cases z), fun b z => absurd rfl z⟩
    · rw [List.size_toArray, lens]; exact hl
    · simpa using rv
  | none =>
    refine ⟨scriptHp a { cls := .type "list", data := .seq vs.toArray } ns, fun b => ?_, .inl (.inr ⟨_, if_pos rfl⟩), fun b u z => ?_, fun b z => ⟨?_, hk⟩⟩
    · by_cases e : b = a
      · right; exact ⟨_, _, if_pos e⟩
      · left; exact if_neg e
    · by_cases e : b = a
      · subst e
        have z := (if_pos rfl).symm.trans z
        cases z
        refine ⟨ha, ?_, vs, _, rv, ha⟩
        rw [List.length_map]; exact hl
      · have z := (if_neg e).symm.trans z
        cases z
    · by_cases e : b = a
      · exact e
      · exact absurd (if_neg e) z

theorem law_callG {P : Program} {w : World} {K : PySem.W.Frag} {mg mb : Str → Option Value} {k : Nat} {fa a : Addr} {fd : FuncData} {x : Str} {sp : Sp} {s1 : Shared} {vs : List Value} {ns : List Int}
    (inK : K.In s1.heap) (hns : s1.heap.Ns mainGlobals mg) (hb : s1.heap.Ns builtinsNs mb) (hbb : ∀ x : Str, x ≠ "__name__" → mb x = bootBuiltins x) (noL : s1.heap.NoLimit) (hg : s1.gens = #[])
    (ha : s1.heap.get? a = some { cls := .type "list", data := .seq vs.toArray }) (hi : PyProof.Rows.IntsAre vs ns) (hl : ns.length ≤ sizeLine) (room : Room k callerA)
    (F : ∀ base : Heap, K.In base → base.Ns mainGlobals mg → FnG P w K mg base k fa fd [x] sp) (bind : ∀ (s : Shared) (u : Value), BindsTo s fd ⟨[u], []⟩ [(x, u)])
    (hsp : ∀ H : Hp, Only H → SqL K H a (ns.map V.int) → sp [.ref a] H (fun v _ => v = .bl true) fun _ _ _ => False) :
    codeAny (model P w) callerA (.call (.ref fa) ⟨[.ref a], []⟩) (fun r s' => r = .ok (.ret (.bool true)) ∧ OldK s1.heap s'.heap ∧ s'.os = s1.os ∧ PyProof.Rows.AllBare s'.gens) s1 := by
  obtain ⟨H, en⟩ := entry_of (P := P) (w := w) inK ha hi hl
  have low : ∀ {b : Addr} {o : Obj}, s1.heap.get? b = some o → H b = none → (hidT s1.heap H).get? b = some o := fun e n => hidT_get e n
  have dictLow : ∀ {b : Addr} {o : Obj} {es : Array DictEntry} {ep : Nat}, s1.heap.get? b = some o → o.data = .dict es ep → H b = none := by
    intro b o es ep e d
    apply Classical.byContradiction
    intro n
    obtain ⟨rfl, _⟩ := en.at_a b n
    rw [ha] at e
    cases e
    cases d
  have nsLow : ∀ {b : Addr} {m : Str → Option Value}, s1.heap.Ns b m → (hidT s1.heap H).Ns b m := by
    rintro b m ⟨o, es, ep, e, d, r⟩
    exact ⟨o, es, ep, low e (dictLow e d), d, r⟩
  have kLow : K.In (hidT s1.heap H) := by
    intro b o e
    apply low (inK b o e)
    apply Classical.byContradiction
    intro n
    obtain ⟨rfl, z⟩ := en.at_a b n
    rw [z] at e
    cases e
  have limLow : (hidT s1.heap H).NoLimit := by
    obtain ⟨mc, h1, h2⟩ := noL
    exact ⟨mc, nsLow h1, h2⟩
  have e0 : Env0 P w K mg (hidT s1.heap H) callerA [] s1 H := ⟨rfl, ⟨kLow, nsLow hns, ⟨mb, nsLow hb, hbb⟩, limLow⟩, fun b o e => of_hidT e, Nat.le_of_eq (hidT_size _ _), trivial, fun b m => absurd (show b ∈ ([] : List Addr) from m) (by simp), en.ok, .of_eq hg⟩
  have main := (F _ kLow (nsLow hns)).run callerA [] s1 H ⟨[.ref a], []⟩ [.ref a] [.ref a] _ _ room rfl e0 (bind s1 (.ref a)) (.cons rfl .nil) (hsp H en.only en.scr)
  refine codeAny_mono main fun r s' q => ?_
  cases r with
  | error e =>
    obtain ⟨_, _, _, _, _, _, _, _, _, _, _, _, z⟩ := q
    exact z.elim
  | ok fl =>
    cases fl with
    | ret u =>
      obtain ⟨v, H', os, bare, un, ok', rel, rfl⟩ := q
      obtain rfl : u = Value.bool true := rel
      refine ⟨rfl, OldK.of_keep fun b o e => ?_, os, bare⟩
      rcases en.only b with z | ⟨ob, xs, z⟩
      · exact un.keep b o e z (fun m => absurd (show b ∈ ([] : List Addr) from m) (by simp)) (by simp)
      · have e1 := (en.ok b _ z).1
        have e2 := (ok' b _ (un.frzs b ob _ z)).1
        rw [e] at e1
        cases e1
        exact e2
    | next => exact q.elim
    | brk => exact q.elim
    | cont => exact q.elim

/-- the end of a law's walk over such a promise (as L2's walk_of) -/
theorem walk_ofG {l : PySem.W.OpenLaw} {n k : Nat} {q : Program} {loose : List Str} {XP : (Str → Option Value) → Heap → Prop} {YP : World → Heap → Prop} {d : PySem.DefRec} {K : PySem.Params → PySem.W.Frag} {sp : World → Sp} {x : Str}
    (hn : l.most = some n) (hn2 : n ≤ sizeLine) (hdf : d.params.defaults = []) (room : Room k callerA)
    (hY : ∀ (w : World) (h : Heap), YP w h → (K w.params).In h)
    (F : ∀ (w : World) (mg : Str → Option Value) (fa : Addr) (h : Heap), (K w.params).In h → h.Ns mainGlobals mg → mg d.name = some (.ref fa) →
      ∃ fd : FuncData, (∀ (s : Shared) (u : Value), BindsTo s fd ⟨[u], []⟩ [(x, u)]) ∧ ∀ base : Heap, (K w.params).In base → base.Ns mainGlobals mg → FnG l.prog w (K w.params) mg base k fa fd [x] (sp w))
    (hsp : ∀ (w : World) (H : Hp) (a : Addr) (ns : List Int), ns.length ≤ n → Only H → SqL (K w.params) H a (ns.map V.int) → sp w [.ref a] H (fun v _ => v = .bl true) fun _ _ _ => False) :
    PySem.W.WalkO q loose XP YP l.row.toRowW d [] (fun f vs => PySem.call f vs) :=
  Att.attach_call hn hdf fun w s0 s1 mg mb fa o pm cd doc a vs ns G Y ho hd hcd hmg hobj hints hlen hg => by
    obtain ⟨fd, bind, FF⟩ := F w mg fa _ (hY w _ Y) G.T.g hmg
    exact law_callG (hY w _ Y) G.T.g G.T.b G.T.builtins G.T.nolimit hg hobj hints (Nat.le_trans hlen hn2) room FF bind fun H hO hS => hsp w H a ns hlen hO hS
end MR

/-! mirrors of statements, loops, comprehensions, defs -/
namespace MR
open PySem L2

/-! ### the call of a def -/
abbrev FM := List MV → Sto → Res MV
def spM (G : Gm) (n : Nat) (f : FM) : Sp := fun vs H Q E => ∃ A st ms, SR G A H st ∧ RepAll G A H vs ms ∧ ms.length = n ∧ (f ms st).post (okP G A H Q) (exP G A H E)
/-- the def x of the module does what f says -/
structure FnM (P : Program) (w : World) (K : PySem.W.Frag) (mg : Str → Option Value) (base : Heap) (k : Nat) (x : Str) (n : Nat) (f : FM) : Prop where
  ex : ∃ a fd ps, mg x = some (.ref a) ∧ PySem.W.keepIn K (.ref a) = true ∧ Binds K fd ps [] ∧ FnG P w K mg base k a fd ps (spM ⟨K, mg, P, w⟩ n f)
theorem FnM.mono {P : Program} {w : World} {K : PySem.W.Frag} {mg : Str → Option Value} {base : Heap} {j k : Nat} {x : Str} {n : Nat} {f : FM} (F : FnM P w K mg base j x n f) (h : j ≤ k) : FnM P w K mg base k x n f := by
  obtain ⟨a, fd, ps, h1, h2, h3, h4⟩ := F.ex
  exact ⟨a, fd, ps, h1, h2, h3, h4.mono h⟩
def mFn (n : Nat) (f : FM) (r : MA) : ME := fun env st => (r env st).bind fun xs st1 => if xs.length = n then f xs st1 else .bad
/-- what a call of a def lets out is wished for -/
abbrev Lets (X : Cx) (W : WX) : Prop := ∀ σ, PassesAt (L2.CX X.prog X.w) X σ (WE W σ)
theorem lets_of {X : Cx} {W : WX} (tk : Takes X W) : Lets X W := fun σ => passAt tk σ
def W0 : WX := fun _ _ _ _ => False
theorem lets0 {X : Cx} : Lets X W0 := fun σ pins H s e s' I c => by
  obtain ⟨_, _, _, _, _, _, _, _, _, _, _, _, z⟩ := c
  exact z.elim
section
variable {X : Cx} {W : WX} {pos : Pos} {a : Expr} {es : List Expr} {mr : MA}
theorem pm_fn_call {x : Str} {p : Pos} {k n : Nat} {f : FM} (F : FnM X.prog X.w X.K X.mg X.base k x n f) (hr : Room k X.A) (gd : NoG X.A) (tk : Lets X W) (ha : PMA X W (a :: es) mr) (hg : Gl X x := by rfl) (hdb : (x == ("__debug__" : Str)) = false := by decide)
    (he : starEach (a :: es) X.env = (false, eval a X.env) :: starEach es X.env := by rfl) (hpl : (backTo pos (starEach es X.env)).any (·.1) = false := by rfl) : PM X W (.Call (.Name x p) (a :: es) [] pos) (mFn n f mr) := by
  obtain ⟨c, fd, ps, h1, h2, h3, h4⟩ := F.ex
  refine PE_imp (pe_callG (E := WE W) h4 hr gd hg h1 h2 h3 tk ha hdb he hpl) fun σ H Q ⟨A, env, st, s, q, h⟩ => ?_
  unfold mFn at h
  rw [Res.post_bind] at h
  refine inA s q (Ext.refl A H) (h.mono (fun mx st1 h1 A1 H1 x e1 s1 r1 => ?_) fun _ _ z => z)
  obtain ⟨hl, k⟩ := post_ite h1
  exact ⟨A1, st1, mx, s1, r1, hl, k.mono (fun _ _ q => q.ext e1) fun _ _ q => q.ext e1⟩
end

/-! ### statements -/
inductive Flw where
  | nx (env : MEnv) (st : Sto)
  | rt (m : MV) (st : Sto)
  | bk (env : MEnv) (st : Sto)
  | ct (env : MEnv) (st : Sto)
  | exc (c : Ex) (env : MEnv) (st : Sto)
  | bad
abbrev MS := MEnv → Sto → Flw
def stP (G : Gm) (A : Ad) (H : Hp) (P : St → Hp → Prop) (env : MEnv) (st : Sto) : Prop := ∀ A' H' σ', Ext A H A' H' → SR G A' H' st → EnvR G A' H' σ' env → P σ' H'
def exS (G : Gm) (A : Ad) (H : Hp) (W : WX) (c : Ex) (env : MEnv) (st : Sto) : Prop := ∀ A' H' σ' C d, Ext A H A' H' → SR G A' H' st → EnvR G A' H' σ' env → ExR G A' H' c C d → W (.ref C) d σ' H'
def Flw.post (f : Flw) (G : Gm) (A : Ad) (H : Hp) (W : WX) (D : Ends) : Prop := match f with
  | .nx env st => stP G A H D.nx env st
  | .rt m st => okP G A H D.rt m st
  | .bk env st => stP G A H D.bk env st
  | .ct env st => stP G A H D.ct env st
  | .exc c env st => exS G A H W c env st
  | .bad => False
section
variable {G : Gm} {A A' : Ad} {H H' : Hp} {W : WX}
theorem stP.ext {P : St → Hp → Prop} {env : MEnv} {st : Sto} (e : Ext A H A' H') (h : stP G A H P env st) : stP G A' H' P env st := fun B I σ f s r => h B I σ (e.trans f) s r
theorem exS.ext {env : MEnv} {st : Sto} {c : Ex} (e : Ext A H A' H') (h : exS G A H W c env st) : exS G A' H' W c env st := fun B I σ C d f s r => h B I σ C d (e.trans f) s r
theorem Flw.post.ext {f : Flw} {D : Ends} (e : Ext A H A' H') (h : f.post G A H W D) : f.post G A' H' W D := by
  cases f with
  | nx env st => exact stP.ext e h
  | rt m st => exact okP.ext e h
  | bk env st => exact stP.ext e h
  | ct env st => exact stP.ext e h
  | exc c env st => exact exS.ext e h
  | bad => exact h
end
def tS (G : Gm) (W : WX) (m : MS) : TS := fun D σ H => ∃ A env st, SR G A H st ∧ EnvR G A H σ env ∧ (m env st).post G A H W D
abbrev PMS (X : Cx) (W : WX) (s : Stmt) (m : MS) : Prop := PS X s (tS (gmOf X) W m)
abbrev PMSs (X : Cx) (W : WX) (s : List Stmt) (m : MS) : Prop := PSs X s (tS (gmOf X) W m)
section
variable {X : Cx}
theorem PS_imp {s : Stmt} {t t' : TS} (h : PS X s t) (i : ∀ D σ H, t' D σ H → t D σ H) : PS X s t' := ⟨fun pins s σ H D I q => h.run pins s σ H D I (i D σ H q)⟩
theorem PSs_imp {s : List Stmt} {t t' : TS} (h : PSs X s t) (i : ∀ D σ H, t' D σ H → t D σ H) : PSs X s t' := ⟨fun pins s σ H D I q => h.run pins s σ H D I (i D σ H q)⟩
end
theorem inS {G : Gm} {W : WX} {A A0 : Ad} {H H0 : Hp} {σ : St} {env : MEnv} {st : Sto} {m : MS} {D : Ends} (s : SR G A H st) (r : EnvR G A H σ env) (e0 : Ext A0 H0 A H) (h : (m env st).post G A0 H0 W D) : tS G W m D σ H :=
  ⟨A, env, st, s, r, h.ext e0⟩
/-- an expression within a statement -/
def bindE {α : Type} (r : Res α) (env : MEnv) (f : α → Sto → Flw) : Flw := match r with
  | .ok a st => f a st
  | .exc c st => .exc c env st
  | .bad => .bad
theorem post_bindE {α : Type} {r : Res α} {env : MEnv} {f : α → Sto → Flw} {G : Gm} {A : Ad} {H : Hp} {W : WX} {D : Ends} (h : (bindE r env f).post G A H W D) : r.post (fun a st => (f a st).post G A H W D) (fun c st => exS G A H W c env st) := by
  cases r <;> exact h
theorem exP_of {G : Gm} {A : Ad} {H : Hp} {W : WX} {env : MEnv} {σ : St} (q : EnvR G A H σ env) {c : Ex} {st : Sto} (h : exS G A H W c env st) : exP G A H (WE W σ) c st := fun A' H' C d e s m => h A' H' σ C d e s (q.ext e) m
def sNext : MS := fun env st => .nx env st
def sSeq (a b : MS) : MS := fun env st => match a env st with
  | .nx env' st' => b env' st'
  | r => r
def sSet (i : Nat) (a : ME) : MS := fun env st => bindE (a env st) env fun m st' => .nx (env.set i (some m)) st'
def sExpr (a : ME) : MS := fun env st => bindE (a env st) env fun _ st' => .nx env st'
def sRet (a : ME) : MS := fun env st => bindE (a env st) env fun m st' => .rt m st'
def sRetN : MS := fun _ st => .rt .non st
def sIf (c : MT) (a b : MS) : MS := fun env st => bindE (c env st) env fun k st' => if k = true then a env st' else b env st'
def sBreak : MS := fun env st => .bk env st
def sCont : MS := fun env st => .ct env st
def sRaise (x : Str) : MS := fun env st => .exc ⟨x, [], []⟩ env st
section
variable {X : Cx} {W : WX} {pos : Pos} {a c : Expr} {ma : ME} {mc : MT} {s : Stmt} {rest s1 s2 : List Stmt} {m1 m2 : MS}
theorem pms_nil : PMSs X W [] sNext := PSs_imp pss_nil fun D σ H ⟨A, env, st, s, q, h⟩ => h A H σ (Ext.refl A H) s q
theorem pms_cons (h1 : PMS X W s m1) (h2 : PMSs X W rest m2) : PMSs X W (s :: rest) (sSeq m1 m2) := PSs_imp (pss_cons h1 h2) fun D σ H ⟨A, env, st, s, q, h⟩ => by
  refine ⟨A, env, st, s, q, ?_⟩
  unfold sSeq at h
  cases e : m1 env st with
  | nx env' st' => rw [e] at h; exact fun A1 H1 σ1 e1 s1 q1 => inS s1 q1 e1 h
  | rt m st' => rw [e] at h; exact h
  | bk env' st' => rw [e] at h; exact h
  | ct env' st' => rw [e] at h; exact h
  | exc c env' st' => rw [e] at h; exact h
  | bad => rw [e] at h; exact h
theorem pms_one (h1 : PMS X W s m1) : PMSs X W [s] m1 := pss_one h1
theorem pms_set {x : Str} {pos' : Pos} (i : Nat) (hN : X.N.Nodup) (he : PM X W a ma) (hi : X.N[i]? = some x := by rfl) (hx : Loc X.env.scope x := by first | exact .inl rfl | exact .inr rfl) (hs : swapsWith a (some (.Name x pos')) pos.line X.env = pure false := by rfl)
    (hf : X.fn x = true ∨ X.env.scope.names.lookup x = some .local := by first | exact .inl rfl | exact .inr rfl | assumption) : PMS X W (.Assign [.Name x pos'] a pos) (sSet i ma) :=
  PS_imp (ps_set hN hi hx he hs hf) fun D σ H ⟨A, env, st, s, q, h⟩ => by
    refine inE s q (Ext.refl A H) ((post_bindE h).mono (fun mx st1 h1 A1 H1 x e1 s1 r1 => ?_) fun _ _ z => exP_of q z)
    exact h1 A1 H1 _ e1 s1 ((q.ext e1).set i r1)
theorem pms_expr (he : PM X W a ma) (hs : swapsWith a none pos.line X.env = pure false := by rfl) : PMS X W (.Expr a pos) (sExpr ma) := PS_imp (ps_expr he hs) fun D σ H ⟨A, env, st, s, q, h⟩ =>
  inE s q (Ext.refl A H) ((post_bindE h).mono (fun mx st1 h1 A1 H1 x e1 s1 r1 => h1 A1 H1 _ e1 s1 (q.ext e1)) fun _ _ z => exP_of q z)
theorem pms_ret (he : PM X W a ma) : PMS X W (.Return (some a) pos) (sRet ma) := PS_imp (ps_ret he) fun D σ H ⟨A, env, st, s, q, h⟩ =>
  inE s q (Ext.refl A H) ((post_bindE h).mono (fun mx st1 h1 A1 H1 x e1 s1 r1 => h1 A1 H1 _ e1 s1 r1) fun _ _ z => exP_of q z)
theorem pms_retN : PMS X W (.Return none pos) sRetN := PS_imp ps_retN fun D σ H ⟨A, env, st, s, q, h⟩ => h A H .non (Ext.refl A H) s .non
theorem pms_if (hc : PMT X W c mc) (h1 : PMSs X W s1 m1) (h2 : PMSs X W s2 m2) : PMS X W (.If c s1 s2 pos) (sIf mc m1 m2) := PS_imp (ps_if hc h1 h2) fun D σ H ⟨A, env, st, s, q, h⟩ => by
  refine inT s q (Ext.refl A H) ((post_bindE h).mono (fun b st1 h1 A1 H1 e1 s1 => ?_) fun _ _ z => exP_of q z)
  cases b with
  | true => exact inS s1 (q.ext e1) e1 h1
  | false => exact inS s1 (q.ext e1) e1 h1
theorem pms_break : PMS X W (.Break pos) sBreak := PS_imp ps_break fun D σ H ⟨A, env, st, s, q, h⟩ => h A H σ (Ext.refl A H) s q
theorem pms_cont : PMS X W (.Continue pos) sCont := PS_imp ps_continue fun D σ H ⟨A, env, st, s, q, h⟩ => h A H σ (Ext.refl A H) s q
theorem pms_raise {x : Str} {C : Addr} {t : St → Hp → XK → Prop} (hc : X.calm = true) (tk : Takes X W) (hC : X.mg x = some (.ref C)) (he : PMk X a (fun _ H Q => Q (.ref C) none H)) : PMS X W (.Raise (some a) none pos) (sRaise x) :=
  PS_imp (ps_raise hc tk he) fun D σ H ⟨A, env, st, s, q, h⟩ => h A H σ C none (Ext.refl A H) s q ⟨hC, .inl ⟨rfl, rfl, rfl⟩⟩
end

/-! ### targets -/
abbrev MTg := MV → MEnv → Sto → Option (MEnv × Sto)
def tG (G : Gm) (g : MTg) : TG := fun v σ H Q => ∃ A env st m, SR G A H st ∧ EnvR G A H σ env ∧ Rep G A H v m ∧ ∃ env' st', g m env st = some (env', st') ∧ stP G A H Q env' st'
abbrev PMG (X : Cx) (e : Expr) (g : MTg) : Prop := PG X e (tG (gmOf X) g)
abbrev MTgs := List MV → MEnv → Sto → Option (MEnv × Sto)
def tGs (G : Gm) (g : MTgs) : TGs := fun vs σ H Q => ∃ A env st ms, SR G A H st ∧ EnvR G A H σ env ∧ RepAll G A H vs ms ∧ ∃ env' st', g ms env st = some (env', st') ∧ stP G A H Q env' st'
abbrev PMGs (X : Cx) (es : List Expr) (g : MTgs) : Prop := PGs X es (tGs (gmOf X) g)
section
variable {X : Cx} {e : Expr} {es : List Expr} {g : MTg} {gs : MTgs} {pos : Pos}
theorem PG_imp {t t' : TG} (h : PG X e t) (i : ∀ v σ H Q, t' v σ H Q → t v σ H Q) : PG X e t' := ⟨fun pins s σ H v u Q I r q => h.run pins s σ H v u Q I r (i v σ H Q q)⟩
theorem PGs_imp {t t' : TGs} (h : PGs X es t) (i : ∀ v σ H Q, t' v σ H Q → t v σ H Q) : PGs X es t' := ⟨fun pins s σ H v u Q I r q => h.run pins s σ H v u Q I r (i v σ H Q q)⟩
def gN (i : Nat) : MTg := fun m env st => some (env.set i (some m), st)
theorem pmg_name {x : Str} (i : Nat) (hN : X.N.Nodup) (hi : X.N[i]? = some x := by rfl) (hx : Loc X.env.scope x := by first | exact .inl rfl | exact .inr rfl) (hf : X.fn x = true ∨ X.env.scope.names.lookup x = some .local := by first | exact .inl rfl | exact .inr rfl | assumption) : PMG X (.Name x pos) (gN i) :=
  PG_imp (pg_name hN hi hx hf) fun v σ H Q ⟨A, env, st, m, s, q, r, env', st', e1, k⟩ => by
    cases e1
    exact k A H _ (Ext.refl A H) s (q.set i r)
def gNilM : MTgs := fun ms env st => match ms with
  | [] => some (env, st)
  | _ => none
def gConsM (g : MTg) (gs : MTgs) : MTgs := fun ms env st => match ms with
  | m :: r => (g m env st).bind fun p => gs r p.1 p.2
  | [] => none
theorem pmgs_nil : PMGs X [] gNilM := PGs_imp pgs_nil fun v σ H Q ⟨A, env, st, m, s, q, r, env', st', e1, k⟩ => by
  cases r with
  | nil => cases e1; exact ⟨rfl, k A H _ (Ext.refl A H) s q⟩
  | cons _ _ => cases e1
theorem pmgs_cons (h1 : PMG X e g) (h2 : PMGs X es gs) (hst : (assignEach (e :: es) X.env).map (·.2) = assign e X.env :: (assignEach es X.env).map (·.2) := by rfl) : PMGs X (e :: es) (gConsM g gs) :=
  PGs_imp (pgs_cons h1 h2 hst) fun v σ H Q ⟨A, env, st, m, s, q, r, env', st', e1, k⟩ => by
    cases r with
    | nil => cases e1
    | @cons v vs m ms r rs =>
      have e1 : (g m env st).bind (fun p => gs ms p.1 p.2) = some (env', st') := e1
      cases eg : g m env st with
      | none => rw [eg] at e1; cases e1
      | some p =>
        rw [eg] at e1
        obtain ⟨env1, st1⟩ := p
        refine ⟨v, vs, rfl, A, env, st, m, s, q, r, env1, st1, eg, fun A1 H1 σ1 x1 s1 q1 => ?_⟩
        exact ⟨A1, env1, st1, ms, s1, q1, rs.ext x1, env', st', e1, k.ext x1⟩
/-- a, b, .. of a tuple -/
def gT (n : Nat) (gs : MTgs) : MTg := fun m env st => match m with
  | .tup xs => if xs.length = n then gs xs env st else none
  | _ => none
theorem pmg_tup {k n : Nat} (h : PMGs X es gs) (hc : X.calm = true := by rfl) (hn : (assignEach es X.env).length = n := by rfl) (hst : (assignEach es X.env).findIdx? (·.1) = none := by rfl) : PMG X (.Tuple es k pos) (gT n gs) :=
  PG_imp (pg_tup hc h hn hst) fun v σ H Q ⟨A, env, st, m, s, q, r, env', st', e1, k⟩ => by
    cases r with
    | @tup a vs ms h1 h2 =>
      have e1 : (if ms.length = n then gs ms env st else none) = some (env', st') := e1
      by_cases hl : ms.length = n
      · rw [if_pos hl] at e1
        exact ⟨a, vs, rfl, h1.sq, by rw [h2.length]; exact hl, A, env, st, ms, s, q, h2, env', st', e1, k⟩
      · rw [if_neg hl] at e1; cases e1
    | _ => cases e1
def sAsg (g : MTg) (a : ME) : MS := fun env st => bindE (a env st) env fun m st' => match g m env st' with
  | some (env', st'') => .nx env' st''
  | none => .bad
theorem pms_asg {W : WX} {tg a : Expr} {ma : ME} (he : PM X W a ma) (hg : PMG X tg g) (hs : swapsWithSole [tg] a pos.line X.env = pure false := by rfl) (hw : swappedStores [tg] a X.env = pure none := by rfl)
    (h1 : (assignEach [tg] X.env).map (·.2) = [assign tg X.env] := by rfl) : PMS X W (.Assign [tg] a pos) (sAsg g ma) :=
  PS_imp (ps_asg he hg hs hw h1) fun D σ H ⟨A, env, st, s, q, h⟩ => by
    refine inE s q (Ext.refl A H) ((post_bindE h).mono (fun mx st1 h1 A1 H1 x e1 s1 r1 => ?_) fun _ _ z => exP_of q z)
    cases eg : g mx env st1 with
    | none => rw [eg] at h1; exact h1.elim
    | some p =>
      rw [eg] at h1
      exact ⟨A1, env, st1, mx, s1, q.ext e1, r1, p.1, p.2, by rw [eg], stP.ext e1 h1⟩
end

/-! ### what is walked -/
/-- J gives ys, one by one, as long as what is not the store's stands -/
def ItM (G : Gm) (A0 : Ad) (H0 : Hp) (J : It) (ys : List MV) : Prop := ∀ A H st, ExtW A0 H0 A H → SR G A H st →
  (∀ i, i < ys.length → J.go i H) ∧ J.stop ys.length H ∧ ∀ i x H', i < ys.length → J.yld i H x H' → Ext A H A H' ∧ SR G A H' st ∧ ∃ m, ys[i]? = some m ∧ Rep G A H' x m
def tI (G : Gm) (W : WX) (m : MA) : TI := fun σ H R => ∃ A env st, SR G A H st ∧ EnvR G A H σ env ∧ (m env st).post (fun ys st' => ∀ A' H' J, Ext A H A' H' → SR G A' H' st' → ItM G A' H' J ys → R J H') (exP G A H (WE W σ))
abbrev PMI (X : Cx) (W : WX) (tg it : Expr) (m : MA) : Prop := PI X tg it (tI (gmOf X) W m)
theorem PI_imp {X : Cx} {tg it : Expr} {t t' : TI} (h : PI X tg it t) (i : ∀ σ H R, t' σ H R → t σ H R) : PI X tg it t' := ⟨fun pins s σ H R I q => h.run pins s σ H R I (i σ H R q)⟩
theorem ItM.ext {G : Gm} {A A' : Ad} {H H' : Hp} {J : It} {ys : List MV} (e : Ext A H A' H') (h : ItM G A H J ys) : ItM G A' H' J ys := fun B I st x s => h B I st (e.w.trans x) s
theorem ItM.walk {G : Gm} {A0 : Ad} {H0 : Hp} {J : It} {ys : List MV} (h : ItM G A0 H0 J ys) : Walk J ys.length (fun H => ∃ A st, ExtW A0 H0 A H ∧ SR G A H st)
    (fun i H x H' => ∀ A st, ExtW A0 H0 A H → SR G A H st → Ext A H A H' ∧ SR G A H' st ∧ ∃ m, ys[i]? = some m ∧ Rep G A H' x m) where
  goes := fun i H hi ⟨A, st, e, s⟩ => (h A H st e s).1 i hi
  stops := fun H ⟨A, st, e, s⟩ => (h A H st e s).2.1
  yields := fun i H x H' hi _ y A st e s => (h A H st e s).2.2 i x H' hi y
/-- the items of a tuple or of a list that does not change -/
def frozen (m : MV) : Option (List MV) := match m with
  | .tup xs => some xs
  | .lst xs => some xs
  | _ => none
def iSeq (a : ME) : MA := fun env st => (a env st).bind fun m st' => match frozen m with
  | some xs => .ok xs st'
  | none => .bad
theorem itm_list {G : Gm} {A : Ad} {H : Hp} {a : Addr} {vs : List V} {ms : List MV} (h : H a = some (.lst vs)) (n : ¬ A.has a) (r : RepAll G A H vs ms) : ItM G A H (Itl G.K a) ms := fun B I st e s => by
  have h1 : I a = some (.lst vs) := e.keep a _ n h
  have r1 := r.extW e
  have hl := r.length
  refine ⟨fun i hi => ?_, ⟨vs, SqL.of h1, by omega⟩, fun i x H' hi y => ?_⟩
  · have h2 : i < vs.length := by omega
    exact ⟨vs, vs[i], SqL.of h1, List.getElem?_eq_getElem h2⟩
  · obtain ⟨rfl, y⟩ := y
    obtain ⟨m, e1, r2⟩ := r1.at' (y vs (SqL.of h1))
    exact ⟨Ext.refl _ _, s, m, e1, r2⟩
theorem itm_tup {G : Gm} {A : Ad} {H : Hp} {a : Addr} {vs : List V} {ms : List MV} (h : FzT G A H a vs) (r : RepAll G A H vs ms) : ItM G A H (Itt G.K a) ms := fun B I st e s => by
  have h1 : SqT G.K I a vs := (h.extW e).sq
  have r1 := r.extW e
  have hl := r.length
  refine ⟨fun i hi => ?_, ⟨vs, h1, by omega⟩, fun i x H' hi y => ?_⟩
  · have h2 : i < vs.length := by omega
    exact ⟨vs, vs[i], h1, List.getElem?_eq_getElem h2⟩
  · obtain ⟨rfl, y⟩ := y
    obtain ⟨m, e1, r2⟩ := r1.at' (y vs h1)
    exact ⟨Ext.refl _ _, s, m, e1, r2⟩
theorem PI_or {X : Cx} {tg it : Expr} {t t' u : TI} (h : PI X tg it t) (h' : PI X tg it t') (i : ∀ σ H R, u σ H R → t σ H R ∨ t' σ H R) : PI X tg it u := ⟨fun pins s σ H R I q => by
  rcases i σ H R q with q | q
  · exact h.run pins s σ H R I q
  · exact h'.run pins s σ H R I q⟩
/-- for x in e, e a list or a tuple, as its value tells -/
def iSq (K : PySem.W.Frag) (te : TE) : TI := fun σ H R => te σ H fun x H1 => ∃ a, x = .ref a ∧ (((∃ xs, SqL K H1 a xs) ∧ R (Itl K a) H1) ∨ ((∃ xs, SqT K H1 a xs) ∧ R (Itt K a) H1))
theorem pi_sq {X : Cx} {tg l : Expr} {tl : TE} (hl : PE X l tl) : PI X tg l (iSq X.K tl) := by
  refine ⟨fun pins s σ H R I h => ?_⟩
  refine thn (hl.run pins s σ H _ I h) fun v s1 ⟨x, H1, I1, r1, a, ex, q⟩ => ?_
  subst ex
  cases r1
  rcases q with ⟨⟨xs, hq⟩, q⟩ | ⟨⟨xs, hq⟩, q⟩
  · obtain ⟨its, rv, p, hz⟩ := I1.list hq
    refine wpAny_pyIter_list p.isList ?_
    refine ⟨s1.heap.objs.size, [s1.heap.objs.size], _, _, H1, rfl, I1.kept (t' := s1.toks) fun b o e => Heap.get?_push_of_some _ e, turn_list a _, ⟨_, Heap.get?_push_size _ rfl, rfl, rfl⟩, fun b hb => ?_, q⟩
    rw [List.mem_singleton.mp hb]
    exact I1.fpOk (Nat.le_refl _) (I1.hok.fresh (Nat.le_refl _))
  · obtain ⟨its, rv, p, hz⟩ := I1.tuple hq
    refine wpAny_pyIter_tuple (show s1.heap.IsTuple a its.toArray from p) ?_
    refine ⟨s1.heap.objs.size, [s1.heap.objs.size], _, _, H1, rfl, I1.kept (t' := s1.toks) fun b o e => Heap.get?_push_of_some _ e, turn_tuple a _, ⟨_, Heap.get?_push_size _ rfl, rfl, rfl⟩, fun b hb => ?_, q⟩
    rw [List.mem_singleton.mp hb]
    exact I1.fpOk (Nat.le_refl _) (I1.hok.fresh (Nat.le_refl _))
section
variable {X : Cx} {W : WX} {tg it : Expr} {ma : ME}
theorem pmi_seq (ha : PM X W it ma) : PMI X W tg it (iSeq ma) := PI_imp (pi_sq ha) fun σ H R ⟨A, env, st, s, q, h⟩ => by
  unfold iSeq at h
  rw [Res.post_bind] at h
  refine inE s q (Ext.refl A H) (h.mono (fun mx st1 h1 A1 H1 x e1 s1 r1 => ?_) fun _ _ z => z)
  cases r1 with
  | @tup a vs ms f r => exact ⟨a, rfl, .inr ⟨⟨vs, f.sq⟩, h1 A1 H1 _ e1 s1 (itm_tup f r)⟩⟩
  | @lst a vs ms f n r => exact ⟨a, rfl, .inl ⟨⟨vs, SqL.of f⟩, h1 A1 H1 _ e1 s1 (itm_list f n r)⟩⟩
  | _ => exact h1.elim
/-- a text, sign by sign -/
def iTxt (a : ME) : MA := fun env st => (a env st).bind fun m st' => match m with
  | .str z => .ok (z.cps.toList.map fun c => .str ⟨#[c]⟩) st'
  | _ => .bad
theorem pmi_txt (ha : PM X W it ma) : PMI X W tg it (iTxt ma) := PI_imp (pi_str ha) fun σ H R ⟨A, env, st, s, q, h⟩ => by
  unfold iTxt at h
  rw [Res.post_bind] at h
  refine inE s q (Ext.refl A H) (h.mono (fun mx st1 h1 A1 H1 x e1 s1 r1 => ?_) fun _ _ z => z)
  cases r1 with
  | str z =>
    refine ⟨z, rfl, h1 A1 H1 _ e1 s1 fun B I st e s => ?_⟩
    have w := walk_str (z := z)
    have hl : (z.cps.toList.map fun c => MV.str ⟨#[c]⟩).length = z.cps.size := by simp
    rw [hl]
    refine ⟨fun i hi => w.goes i I hi trivial, w.stops I trivial, fun i x H' hi y => ?_⟩
    obtain ⟨rfl, c, ec, ex⟩ := w.yields i I x H' hi trivial y
    subst ex
    refine ⟨Ext.refl _ _, s, .str ⟨#[c]⟩, ?_, .str _⟩
    rw [List.getElem?_map]
    have : z.cps.toList[i]? = some c := by simpa using ec
    rw [this]
    rfl
  | _ => exact h1.elim
/-- range(n), range(a, b) -/
def rngL (lo : Int) (n : Nat) : List MV := (List.range n).map fun (i : Nat) => .int (lo + (i : Int))
def iRng (r : MA) : MA := fun env st => (r env st).bind fun xs st' => match xs with
  | [.int n] => if -1000000000 ≤ n ∧ n ≤ 1000000000 then .ok (rngL 0 n.toNat) st' else .bad
  | _ => .bad
def iRng2 (r : MA) : MA := fun env st => (r env st).bind fun xs st' => match xs with
  | [.int a, .int b] => if (-1000000000 ≤ a ∧ a ≤ 1000000000) ∧ (-1000000000 ≤ b ∧ b ≤ 1000000000) then .ok (rngL a (b - a).toNat) st' else .bad
  | _ => .bad
theorem itm_rng {G : Gm} {A : Ad} {H : Hp} {lo : Int} {n : Nat} : ItM G A H (Itr lo n) (rngL lo n) := fun B I st e s => by
  have w := walk_range (lo := lo) (n := n)
  have hl : (rngL lo n).length = n := by simp [rngL]
  rw [hl]
  refine ⟨fun i hi => w.goes i I hi trivial, w.stops I trivial, fun i x H' hi y => ?_⟩
  obtain ⟨rfl, ex⟩ := w.yields i I x H' hi trivial y
  subst ex
  refine ⟨Ext.refl _ _, s, .int (lo + i), ?_, .int _⟩
  simp [rngL, List.getElem?_range hi]
variable {mr : MA} {a b : Expr} {p pos : Pos}
theorem pmi_rng (hm : X.mg "range" = none) (ha : PMA X W [a] mr) (hg : Gl X "range" := by rfl) (hs : starEach [a] X.env = [(false, eval a X.env)] := by rfl) : PMI X W tg (.Call (.Name "range" p) [a] [] pos) (iRng mr) :=
  PI_imp (pi_range1 hg hm ha hs) fun σ H R ⟨A, env, st, s, q, h⟩ => by
    unfold iRng at h
    rw [Res.post_bind] at h
    refine inA s q (Ext.refl A H) (h.mono (fun mx st1 h1 A1 H1 x e1 s1 r1 => ?_) fun _ _ z => z)
    split at h1
    · obtain ⟨hl, k⟩ := post_ite h1
      cases r1 with
      | cons r rs =>
        cases rs
        cases r
        exact ⟨_, rfl, by omega, by omega, k A1 H1 _ e1 s1 itm_rng⟩
    · exact h1.elim
end

/-! ### for -/
def forM (g : MTg) (body : MS) : List MV → MEnv → Sto → Flw
  | [], env, st => .nx env st
  | y :: ys, env, st => match g y env st with
    | none => .bad
    | some (env1, st1) => match body env1 st1 with
      | .nx env2 st2 => forM g body ys env2 st2
      | .ct env2 st2 => forM g body ys env2 st2
      | .bk env2 st2 => .nx env2 st2
      | .rt m st2 => .rt m st2
      | .exc c env2 st2 => .exc c env2 st2
      | .bad => .bad
def sFor (mi : MA) (g : MTg) (body : MS) : MS := fun env st => bindE (mi env st) env fun ys st1 => forM g body ys env st1
theorem pms_for {X : Cx} {W : WX} {tg it : Expr} {mi : MA} {g : MTg} {body : List Stmt} {mb : MS} {pos : Pos} (hp : PassesOwn (model X.prog X.w) X.A X.env X.xe) (hi : PMI X W tg it mi) (hg : PMG X tg g) (hb : PMSs X W body mb) (hc : X.calm = true := by rfl)
    (hs : ∀ x, foldedSetIterable it X.env x = pure x := by intro _; rfl) : PMS X W (.For tg it body [] pos) (sFor mi g mb) :=
  PS_imp (ps_for hp hc hi hg hb hs) fun D σ H ⟨A, env, st, s, q, h⟩ => by
    refine ⟨A, env, st, s, q, (post_bindE h).mono (fun ys st1 h1 A1 H1 J e1 s1 it => ?_) fun _ _ z => exP_of q z⟩
    refine for_it it.walk (fun i σ' H' => ∃ A' env' st', Ext A1 H1 A' H' ∧ SR (gmOf X) A' H' st' ∧ EnvR (gmOf X) A' H' σ' env' ∧ (forM g mb (ys.drop i) env' st').post (gmOf X) A' H' W D)
      ⟨A1, env, st1, Ext.refl _ _, s1, q.ext e1, Flw.post.ext e1 h1⟩ (fun i σ' H' _ ⟨A', env', st', x', s', _, _⟩ => ⟨A', st', x'.w, s'⟩) (fun i x σ' H' H2 hlt ⟨A', env', st', x', s', q', h'⟩ y => ?_) (fun σ' H' ⟨A', env', st', x', s', q', h'⟩ => ?_)
    · obtain ⟨x2, s2, m, em, r2⟩ := y A' st' x'.w s'
      have ed : ys.drop i = m :: ys.drop (i + 1) := by
        rw [List.drop_eq_getElem_cons hlt]
        rw [List.getElem?_eq_getElem hlt] at em
        rw [Option.some.inj em]
      rw [ed] at h'
      unfold forM at h'
      cases eg : g m env' st' with
      | none => rw [eg] at h'; exact h'.elim
      | some p =>
        obtain ⟨env1, st2⟩ := p
        rw [eg] at h'
        refine ⟨A', env', st', m, s2, q'.ext x2, r2, env1, st2, eg, fun A3 H3 σ3 x3 s3 q3 => ?_⟩
        refine ⟨A3, env1, st2, s3, q3, ?_⟩
        have x13 := (x'.trans x2).trans x3
        have go : ∀ {env2 : MEnv} {st4 : Sto}, (forM g mb (ys.drop (i + 1)) env2 st4).post (gmOf X) A' H' W D → stP (gmOf X) A3 H3 (fun σ' H' => ∃ A' env' st', Ext A1 H1 A' H' ∧ SR (gmOf X) A' H' st' ∧ EnvR (gmOf X) A' H' σ' env' ∧ (forM g mb (ys.drop (i + 1)) env' st').post (gmOf X) A' H' W D) env2 st4 :=
          fun {env2 st4} hh A4 H4 σ4 x4 s4 q4 => ⟨A4, env2, st4, x13.trans x4, s4, q4, hh.ext ((x2.trans x3).trans x4)⟩
        have h' : Flw.post (match mb env1 st2 with
          | .nx env2 st2 => forM g mb (ys.drop (i + 1)) env2 st2
          | .ct env2 st2 => forM g mb (ys.drop (i + 1)) env2 st2
          | .bk env2 st2 => .nx env2 st2
          | .rt m st2 => .rt m st2
          | .exc c env2 st2 => .exc c env2 st2
          | .bad => .bad) (gmOf X) A' H' W D := h'
        cases eb : mb env1 st2 with
        | nx env2 st4 => rw [eb] at h'; exact go h'
        | ct env2 st4 => rw [eb] at h'; exact go h'
        | bk env2 st4 => rw [eb] at h'; exact stP.ext (x2.trans x3) h'
        | rt m st4 => rw [eb] at h'; exact okP.ext (x2.trans x3) h'
        | exc c env2 st4 => rw [eb] at h'; exact exS.ext (x2.trans x3) h'
        | bad => rw [eb] at h'; exact h'
    · rw [List.drop_length] at h'
      exact h' A' H' σ' (Ext.refl _ _) s' q'
end MR

/-! mirrors of comprehensions and of whole defs -/
namespace MR
open PySem L2

/-! ### comprehensions -/
def wipeM (env : MEnv) : List Nat → MEnv
  | [] => env
  | v :: vs => (wipeM env vs).set v none
theorem EnvR.drop1 {G : Gm} {A : Ad} {H : Hp} {σ : St} {env : MEnv} (h : EnvR G A H σ env) (i : Nat) : EnvR G A H (σ.set i none) (env.set i none) := by
  refine ⟨by simp [h.len], fun j m' hj => ?_⟩
  by_cases e : i = j
  · subst e
    by_cases hl : i < env.length
    · rw [List.getElem?_set_self hl] at hj; cases hj
    · rw [List.getElem?_eq_none (by simpa using hl)] at hj; cases hj
  · rw [List.getElem?_set_ne e] at hj
    obtain ⟨w, a, q⟩ := h.get j m' hj
    exact ⟨w, by rw [List.getElem?_set_ne e]; exact a, q⟩
theorem EnvR.wipe {G : Gm} {A : Ad} {H : Hp} {σ : St} {env : MEnv} (h : EnvR G A H σ env) : ∀ vs : List Nat, EnvR G A H (L2.wipe σ vs) (wipeM env vs)
  | [] => h
  | v :: vs => (EnvR.wipe h vs).drop1 v
theorem wipe_set {σ : St} {i : Nat} {x : Option V} : ∀ {vs : List Nat}, i ∈ vs → wipe (σ.set i x) vs = wipe σ vs
  | [], h => by cases h
  | v :: vs, h => by
    unfold wipe
    by_cases e : i ∈ vs
    · rw [wipe_set e]
    · have e2 : i = v := by
        rcases List.mem_cons.mp h with h | h
        · exact h
        · exact absurd h e
      subst e2
      have z : ∀ {us : List Nat} {τ : St}, i ∉ us → wipe (τ.set i x) us = (wipe τ us).set i x := by
        intro us
        induction us with
        | nil => intro τ _; rfl
        | cons u us ih =>
          intro τ hn
          have h1 : i ≠ u := fun q => hn (by rw [q]; exact List.mem_cons_self)
          have h2 : i ∉ us := fun q => hn (List.mem_cons_of_mem _ q)
          show (wipe (τ.set i x) us).set u Option.none = ((wipe τ us).set u Option.none).set i x
          rw [ih h2]
          exact List.set_comm _ _ h1
      rw [z e, List.set_set]
theorem wipe_wipe {σ : St} : ∀ {us vs : List Nat}, (∀ i ∈ us, i ∈ vs) → wipe (wipe σ us) vs = wipe σ vs
  | [], vs, _ => rfl
  | u :: us, vs, h => by
    show wipe ((wipe σ us).set u Option.none) vs = wipe σ vs
    rw [wipe_set (h u List.mem_cons_self)]
    exact wipe_wipe fun i m => h i (List.mem_cons_of_mem _ m)
/-- the targets of a comprehension: a name, or names in a tuple -/
inductive Tgt where
  | nm (i : Nat)
  | tp (is : List Nat)
def Tgt.slots : Tgt → List Nat
  | .nm i => [i]
  | .tp is => is
def gNames : List Nat → TGs
  | [] => gNil
  | i :: is => gCons (gName i) (gNames is)
def Tgt.tg (K : PySem.W.Frag) : Tgt → TG
  | .nm i => gName i
  | .tp is => gTup K is.length (gNames is)
def setAll : List Nat → List MV → MEnv → MEnv
  | i :: is, m :: ms, env => setAll is ms (env.set i (some m))
  | _, _, env => env
def Tgt.bind : Tgt → MV → MEnv → Option MEnv
  | .nm i, m, env => some (env.set i (some m))
  | .tp is, .tup ms, env => if ms.length = is.length then some (setAll is ms env) else none
  | _, _, _ => none
theorem names_ok {G : Gm} {A : Ad} {H : Hp} : ∀ {is : List Nat} {vs : List V} {ms : List MV} {σ : St} {env : MEnv} {Q : St → Hp → Prop} {own : List Nat}, RepAll G A H vs ms → ms.length = is.length → EnvR G A H σ env → (∀ i ∈ is, i ∈ own) →
    (∀ σ', EnvR G A H σ' (setAll is ms env) → wipe σ' own = wipe σ own → Q σ' H) → gNames is vs σ H Q
  | [], _, _, σ, env, Q, own, r, hl, q, _, k => by
    cases r with
    | nil => exact ⟨rfl, k σ q rfl⟩
    | cons _ _ => cases hl
  | i :: is, _, _, σ, env, Q, own, r, hl, q, hs, k => by
    cases r with
    | nil => cases hl
    | @cons v vs m ms r rs =>
      refine ⟨v, vs, rfl, names_ok (own := own) rs (by simpa using hl) (q.set i r) (fun j m => hs j (List.mem_cons_of_mem _ m)) fun σ' q' w => k σ' q' (w.trans (wipe_set (hs i List.mem_cons_self)))⟩
theorem Tgt.ok {G : Gm} {A : Ad} {H : Hp} {t : Tgt} {v : V} {m : MV} {σ : St} {env env' : MEnv} {Q : St → Hp → Prop} {own : List Nat} (r : Rep G A H v m) (q : EnvR G A H σ env) (e : t.bind m env = some env') (hs : ∀ i ∈ t.slots, i ∈ own)
    (k : ∀ σ', EnvR G A H σ' env' → wipe σ' own = wipe σ own → Q σ' H) : t.tg G.K v σ H Q := by
  cases t with
  | nm i => cases e; exact k _ (q.set i r) (wipe_set (hs i List.mem_cons_self))
  | tp is =>
    cases r with
    | @tup a vs ms f r =>
      have e : (if ms.length = is.length then some (setAll is ms env) else none) = some env' := e
      by_cases hl : ms.length = is.length
      · rw [if_pos hl] at e
        cases e
        exact ⟨a, vs, rfl, f.sq, by rw [r.length]; exact hl, names_ok r hl q hs k⟩
      · rw [if_neg hl] at e; cases e
    | _ => cases e
def compM (t : Tgt) (tst : MT) (elt : ME) : List MV → MEnv → List MV → Sto → Res (List MV)
  | [], _, acc, st => .ok acc st
  | y :: ys, env, acc, st => match t.bind y env with
    | none => .bad
    | some env1 => match tst env1 st with
      | .ok true st1 => match elt env1 st1 with
        | .ok v st2 => if acc.length < 16777216 then compM t tst elt ys env (acc ++ [v]) st2 else .bad
        | _ => .bad
      | .ok false st1 => compM t tst elt ys env acc st1
      | _ => .bad
def tYesM : MT := fun _ st => .ok true st
def mLc (mi : MA) (own : List Nat) (t : Tgt) (tst : MT) (elt : ME) : ME := fun env st => (mi env st).bind fun ys st1 => (compM t tst elt ys (wipeM env own) [] st1).bind fun zs st2 => .ok (.lst zs) st2
theorem compM_noexc {t : Tgt} {tst : MT} {elt : ME} : ∀ {ys : List MV} {env : MEnv} {acc : List MV} {st : Sto} {c : Ex} {st' : Sto}, compM t tst elt ys env acc st ≠ .exc c st'
  | [], env, acc, st, c, st', h => by cases h
  | y :: ys, env, acc, st, c, st', h => by
    unfold compM at h
    split at h
    · cases h
    · split at h
      · split at h
        · split at h
          · exact compM_noexc h
          · cases h
        · cases h
      · exact compM_noexc h
      · cases h
theorem post_ok {α : Type} {r : Res α} {a : α} {st : Sto} {P : α → Sto → Prop} {E : Ex → Sto → Prop} (e : r = .ok a st) (h : P a st) : r.post P E := by rw [e]; exact h
section
variable {X : Cx} {W : WX} {tg it elt : Expr} {ifs : List Expr} {scope : Scope} {pos : Pos} {mi : MA} {mt : MT} {me : ME}
theorem pmts_nil : PTs X [] (tT (gmOf X) W tYesM) := ⟨fun pins s σ H Q I ⟨A, env, st, sr, q, h⟩ => pts_nil.run pins s σ H Q I (h A H (Ext.refl A H) sr)⟩
theorem pmts_one {c : Expr} (h : PMT X W c mt) : PTs X [c] (tT (gmOf X) W mt) := pts_one h
theorem lcE {vs : List Nat} {t : Tgt} (hsub : ∀ i ∈ t.slots, i ∈ vs) {σ : St} {H : Hp} {Q : VK} (h : tE (gmOf X) W (mLc mi vs t mt me) σ H Q) : tLc (tI (gmOf X) W mi) (t.tg X.K) (tT (gmOf X) W0 mt) (tE (gmOf X) W0 me) vs σ H Q := by
    obtain ⟨A, env, st, s, q, h⟩ := h
    unfold mLc at h
    rw [Res.post_bind] at h
    refine ⟨A, env, st, s, q, h.mono (fun ys st1 h1 A1 H1 J e1 s1 itm D hD => ?_) fun _ _ z => z⟩
    rw [Res.post_bind] at h1
    refine lc_it itm.walk (fun i H' => ∃ A' st' acc accV, Ext A1 H1 A' H' ∧ SR (gmOf X) (A'.fence D) H' st' ∧ H' D = some (.lst accV) ∧ RepAll (gmOf X) (A'.fence D) H' accV acc ∧
        ∃ zs st2, compM t mt me (ys.drop i) (wipeM env vs) acc st' = .ok zs st2 ∧ okP (gmOf X) A1 H1 Q (.lst zs) st2) ?_ (fun i H' _ ⟨A', st', acc, accV, x', s', _⟩ => ⟨A', st', x'.w, s'.unfence⟩) (fun i x H' H2 hlt ⟨A', st', acc, accV, x', s', hDv, ra, zs, st2, ec, k⟩ y => ?_) (fun H' ⟨A', st', acc, accV, x', s', hDv, ra, zs, st2, ec, k⟩ => ?_)
    · refine ⟨A1, st1, [], [], Ext.grown _ s1 hD (Ext.refl A1 H1), s1.fence hD _, upd_same, .nil, ?_⟩
      cases hr : compM t mt me ys (wipeM env vs) [] st1 with
      | ok zs st2 =>
        rw [hr] at h1
        exact ⟨zs, st2, by rw [List.drop_zero]; exact hr, okP.ext e1 h1⟩
      | exc c st2 => exact (compM_noexc hr).elim
      | bad => rw [hr] at h1; exact h1.elim
    · obtain ⟨x2, s2, m, em, r2⟩ := y (A'.fence D) st' (x'.w.fence hD) s'
      have ed : ys.drop i = m :: ys.drop (i + 1) := by
        rw [List.drop_eq_getElem_cons hlt]
        rw [List.getElem?_eq_getElem hlt] at em
        rw [Option.some.inj em]
      rw [ed] at ec
      unfold compM at ec
      cases eb : t.bind m (wipeM env vs) with
      | none => rw [eb] at ec; cases ec
      | some env1 =>
        rw [eb] at ec
        have q2 : EnvR (gmOf X) (A'.fence D) H2 (wipe σ vs) (wipeM env vs) := by
          have q1 := (q.ext e1)
          refine EnvR.wipe ⟨q1.len, fun j mj hj => ?_⟩ vs
          obtain ⟨v, a, r⟩ := q1.get j mj hj
          exact ⟨v, a, (r.extW (x'.w.fence hD)).ext x2⟩
        refine Tgt.ok (own := vs) r2 q2 eb hsub fun σ2 q3 hw => ⟨by rw [hw]; exact wipe_wipe fun _ m => m, ?_⟩
        have hD2 : H2 D = some (.lst accV) := (x2.fk D List.mem_cons_self).trans hDv
        have ec : (match mt env1 st' with
          | .ok true st1 => (match me env1 st1 with
            | .ok v st2 => if acc.length < 16777216 then compM t mt me (ys.drop (i + 1)) (wipeM env vs) (acc ++ [v]) st2 else .bad
            | _ => .bad)
          | .ok false st1 => compM t mt me (ys.drop (i + 1)) (wipeM env vs) acc st1
          | _ => .bad) = Res.ok zs st2 := ec
        cases et : mt env1 st' with
        | exc c st3 => rw [et] at ec; cases ec
        | bad => rw [et] at ec; cases ec
        | ok b st3 =>
          rw [et] at ec
          refine ⟨A'.fence D, env1, st', s2, q3, post_ok et fun A3 H3 x3 s3 => ?_⟩
          have fA3 : A3 = (⟨A3.ix, A'.fn⟩ : Ad).fence D := by
            obtain ⟨ix, fn⟩ := A3
            have : fn = D :: A'.fn := x3.fen
            subst this
            rfl
          have hD3 : H3 D = some (.lst accV) := (x3.fk D List.mem_cons_self).trans hD2
          have ra3 : RepAll (gmOf X) A3 H3 accV acc := (ra.ext x2).ext x3
          cases b with
          | false =>
            rw [fA3] at x3 s3 ra3
            exact ⟨_, st3, acc, accV, x'.trans (Ext.unfence s3 (x2.trans x3)), s3, hD3, ra3, zs, st2, ec, k⟩
          | true =>
            have ec : (match me env1 st3 with
              | .ok v st2 => if acc.length < 16777216 then compM t mt me (ys.drop (i + 1)) (wipeM env vs) (acc ++ [v]) st2 else .bad
              | _ => .bad) = Res.ok zs st2 := ec
            cases ee : me env1 st3 with
            | exc c st4 => rw [ee] at ec; cases ec
            | bad => rw [ee] at ec; cases ec
            | ok v st4 =>
              rw [ee] at ec
              have ec : (if acc.length < 16777216 then compM t mt me (ys.drop (i + 1)) (wipeM env vs) (acc ++ [v]) st4 else .bad) = Res.ok zs st2 := ec
              by_cases hl : acc.length < 16777216
              · rw [if_pos hl] at ec
                show tE (gmOf X) W0 me σ2 H3 _
                refine ⟨A3, env1, st3, s3, q3.ext x3, post_ok ee fun A4 H4 vv x4 s4 r4 => ?_⟩
                have fA4 : A4 = (⟨A4.ix, A'.fn⟩ : Ad).fence D := by
                  obtain ⟨ix, fn⟩ := A4
                  have : fn = D :: A'.fn := x4.fen.trans x3.fen
                  subst this
                  rfl
                have hD4 : H4 D = some (.lst accV) := (x4.fk D (by rw [x3.fen]; exact List.mem_cons_self)).trans hD3
                have ra4 := ra3.ext x4
                have x24 := (x2.trans x3).trans x4
                rw [fA4] at x24 s4 ra4 r4
                refine ⟨accV, hD4, by rw [ra4.length, sizeLine_eq]; exact hl, _, st4, acc ++ [v], accV ++ [vv], Ext.grown _ s1 hD (x'.trans (Ext.unfence s4 x24)), s4.grow _, upd_same, (ra4.append (.cons r4 .nil)).grow _, zs, st2, ec, k⟩
              · rw [if_neg hl] at ec; cases ec
    · rw [List.drop_length] at ec
      cases ec
      exact k A' H' _ x' s'.unfence (.lst hDv s'.fence_out ra.unfence)
theorem pm_lc {own : List (Str × Nat)} {t : Tgt} (hN : X.N.Nodup) (hi : PMI X W tg it mi) (ok : BlkOk X.N X.env.scope scope own)
    (hg : ∀ (s : Shared) (H : Hp) (C : Addr) (cl : List (Str × Addr)) (fp : List Addr), PG (X.blk s H scope (compEnvC scope cl C X.env) fp) tg (t.tg X.K))
    (ht : ∀ (s : Shared) (H : Hp) (C : Addr) (cl : List (Str × Addr)) (fp : List Addr), PTs (X.blk s H scope (compEnvC scope cl C X.env) fp) ifs (tT (gmOf X) W0 mt))
    (he : ∀ (s : Shared) (H : Hp) (C : Addr) (cl : List (Str × Addr)) (fp : List Addr), PM (X.blk s H scope (compEnvC scope cl C X.env) fp) W0 elt me)
    (hsub : ∀ i ∈ t.slots, i ∈ own.map (·.2) := by decide) (hc : X.calm = true := by rfl) (hs : ∀ x, foldedSetIterable it X.env x = pure x := by intro _; rfl) :
    PM X W (.ListComp elt [⟨tg, it, ifs, 0⟩] scope pos) (mLc mi (own.map (·.2)) t mt me) :=
  PE_imp (pe_lc hc hN hi ok hg ht he hs) fun σ H Q h => lcE hsub h
end

/-! ### defs -/
def defM (n : Nat) (body : MS) : FM := fun args st => match body (args.map some ++ List.replicate (n - args.length) none) st with
  | .nx _ st' => .ok .non st'
  | .rt m st' => .ok m st'
  | .exc c _ st' => .exc c st'
  | _ => .bad
theorem EnvR.start {G : Gm} {A : Ad} {H : Hp} {vs : List V} {ms : List MV} (r : RepAll G A H vs ms) (n : Nat) : EnvR G A H (vs.map some ++ List.replicate (n - vs.length) none) (ms.map some ++ List.replicate (n - ms.length) none) := by
  have hl := r.length
  refine ⟨by simp [hl], fun i m hm => ?_⟩
  by_cases hi : i < ms.length
  · rw [List.getElem?_append_left (by simpa using hi)] at hm
    rw [List.getElem?_map] at hm
    cases e : ms[i]? with
    | none => rw [e] at hm; cases hm
    | some m' =>
      rw [e] at hm
      cases hm
      obtain ⟨v, ev, rv⟩ := r.at e
      refine ⟨v, ?_, rv⟩
      rw [List.getElem?_append_left (by rw [List.length_map, hl]; exact hi), List.getElem?_map, ev]
      rfl
  · rw [List.getElem?_append_right (by simpa using Nat.le_of_not_lt hi)] at hm
    obtain ⟨h1, e⟩ := List.getElem?_eq_some_iff.mp hm
    rw [List.getElem_replicate] at e
    cases e
section
variable {P : Program} {w : World} {K : PySem.W.Frag} {mg : Str → Option Value} {base : Heap}
/-- a def of the text, by its body -/
theorem fn_mirrorG {x qual : Str} {st : Stmt} {f : Addr} {fd : FuncData} {N ps : List Str} {k : Nat} {body : MS} (F : Fun K x qual st f fd) (S : FnScope N ps (defScope st))
    (h : ∀ (cdv : Value) (A : Around) (outer : List Env) (s : Shared) (H : Hp) (E : XK), NoG A → Room k (A.deeper (PyProof.Rows.envOfC qual (defScope st) s.heap.objs.size f cdv)) →
      Takes (cxOf (L2.CX P w) P w K mg base N qual (defScope st) f cdv A outer s H E) (fun c d _ H => E c d H) → PMSs (cxOf (L2.CX P w) P w K mg base N qual (defScope st) f cdv A outer s H E) (fun c d _ H => E c d H) (defBody st) body) :
    FnG P w K mg base (k + 1) f fd ps (spM ⟨K, mg, P, w⟩ ps.length (defM N.length body)) :=
  fn_ofG F S (fun vs H Q E ⟨A, s, ms, sr, r, hl, _⟩ => r.length.trans hl) fun cdv A outer s H vs Q E gd hr hsp => by
    obtain ⟨A1, st1, ms, sr, r, hl, hp⟩ := hsp
    have tk : Takes (cxOf (L2.CX P w) P w K mg base N qual (defScope st) f cdv A outer s H E) (fun c d _ H => E c d H) := takes_of rfl rfl rfl rfl
    refine ⟨_, h cdv A outer s H E gd hr tk, A1, _, st1, sr, EnvR.start r N.length, ?_⟩
    unfold defM at hp
    cases eb : body (ms.map some ++ List.replicate (N.length - ms.length) none) st1 with
    | nx env st' =>
      rw [eb] at hp
      exact fun A' H' σ' e s' q' => hp A' H' .non e s' .non
    | rt m st' =>
      rw [eb] at hp
      exact hp
    | bk env st' => rw [eb] at hp; exact hp.elim
    | ct env st' => rw [eb] at hp; exact hp.elim
    | exc c env st' =>
      rw [eb] at hp
      exact fun A' H' σ' C d e s' q' hC => hp A' H' C d e s' hC
    | bad => rw [eb] at hp; exact hp.elim
theorem fn_mirror {x qual : Str} {st : Stmt} {f : Addr} {fd : FuncData} {N ps : List Str} {k : Nat} {body : MS} (F : Fun K x qual st f fd) (S : FnScope N ps (defScope st)) (hx : mg x = some (.ref f)) (hb : Binds K fd ps [])
    (h : ∀ (cdv : Value) (A : Around) (outer : List Env) (s : Shared) (H : Hp) (E : XK), NoG A → Room k (A.deeper (PyProof.Rows.envOfC qual (defScope st) s.heap.objs.size f cdv)) →
      Takes (cxOf (L2.CX P w) P w K mg base N qual (defScope st) f cdv A outer s H E) (fun c d _ H => E c d H) → PMSs (cxOf (L2.CX P w) P w K mg base N qual (defScope st) f cdv A outer s H E) (fun c d _ H => E c d H) (defBody st) body) :
    FnM P w K mg base (k + 1) x ps.length (defM N.length body) := ⟨f, fd, ps, hx, F.kp, hb, fn_mirrorG F S h⟩
end
end MR

/-! built-in operations by values -/
namespace MR
open PySem L2

abbrev sizeL : Nat := 16777216
theorem line_ok {n : Nat} (h : n ≤ sizeL) : n ≤ sizeLine := line_of h
section
variable {G : Gm} {A : Ad} {H : Hp} {st : Sto}
theorem fin0 {Q : VK} {v : V} {m : MV} (s : SR G A H st) (r : Rep G A H v m) (k : okP G A H Q m st) : Q v H := k A H v (Ext.refl A H) s r
theorem Rep.int_inv {x : V} {i : Int} (h : Rep G A H x (.int i)) : x = .int i := by cases h; rfl
theorem Rep.str_inv {x : V} {i : Str} (h : Rep G A H x (.str i)) : x = .str i := by cases h; rfl
theorem Rep.bl_inv {x : V} {i : Bool} (h : Rep G A H x (.bl i)) : x = .bl i := by cases h; rfl
theorem Rep.non_inv {x : V} (h : Rep G A H x .non) : x = .non := by cases h; rfl

/-- a list's items, in the store or not -/
def listOf (m : MV) (st : Sto) : Option (List MV) := match m with
  | .lst xs => some xs
  | .obj k => match st[k]? with
    | some (.lst xs) => some xs
    | _ => none
  | _ => none
theorem listOf_rep {v : V} {m : MV} {xs : List MV} (s : SR G A H st) (r : Rep G A H v m) (h : listOf m st = some xs) : ∃ a vs, v = .ref a ∧ H a = some (.lst vs) ∧ RepAll G A H vs xs := by
  cases r with
  | lst h1 h2 h3 => cases h; exact ⟨_, _, rfl, h1, h3⟩
  | @obj a k h1 =>
    simp only [listOf] at h
    split at h
    · rename_i ys e
      cases h
      cases s.ob k a _ h1 e with
      | lst h2 h3 => exact ⟨_, _, rfl, h2, h3⟩
    · cases h
  | _ => cases h
def strsOf : List MV → Option (List Str)
  | [] => some []
  | .str x :: r => (strsOf r).map (x :: ·)
  | _ :: _ => none
theorem strsOf_rep : ∀ {ms : List MV} {vs : List V} {ys : List Str}, RepAll G A H vs ms → strsOf ms = some ys → vs = ys.map V.str
  | [], _, _, h, e => by cases h; cases e; rfl
  | m :: ms, _, ys, h, e => by
    cases h with
    | @cons v vs m ms r rs =>
      cases m with
      | str x =>
        have e : (strsOf ms).map (x :: ·) = some ys := e
        cases e1 : strsOf ms with
        | none => rw [e1] at e; cases e
        | some zs =>
          rw [e1] at e
          cases e
          rw [strsOf_rep rs e1, r.str_inv]
          rfl
      | _ => cases e
def boolsOf : List MV → Option (List Bool)
  | [] => some []
  | .bl x :: r => (boolsOf r).map (x :: ·)
  | _ :: _ => none
theorem boolsOf_rep : ∀ {ms : List MV} {vs : List V} {ys : List Bool}, RepAll G A H vs ms → boolsOf ms = some ys → vs = ys.map V.bl
  | [], _, _, h, e => by cases h; cases e; rfl
  | m :: ms, _, ys, h, e => by
    cases h with
    | @cons v vs m ms r rs =>
      cases m with
      | bl x =>
        have e : (boolsOf ms).map (x :: ·) = some ys := e
        cases e1 : boolsOf ms with
        | none => rw [e1] at e; cases e
        | some zs =>
          rw [e1] at e
          cases e
          rw [boolsOf_rep rs e1, r.bl_inv]
          rfl
      | _ => cases e

/-! data at any depth -/
mutual
def toD : MV → Option PyData
  | .non => some .none
  | .bl b => some (.bool b)
  | .int i => some (.int i)
  | .str x => some (.str x)
  | .tup xs => (toDs xs).map .tuple
  | .lst xs => (toDs xs).map .list
  | .ty _ => none
  | .gl _ => none
  | .obj _ => none
  | .scr _ => none
  | .ins _ _ _ => none
  | .dct _ _ => none
def toDs : List MV → Option (List PyData)
  | [] => some []
  | x :: xs => (toD x).bind fun d => (toDs xs).map (d :: ·)
end
mutual
theorem Rep.dp : ∀ (m : MV) {v : V} {d : PyData}, Rep G A H v m → toD m = some d → Dp G.K H v d
  | .non, _, _, h, e => by cases h; cases e; exact .non
  | .bl b, _, _, h, e => by cases h; cases e; exact .bl b
  | .int i, _, _, h, e => by cases h; cases e; exact .int i
  | .str x, _, _, h, e => by cases h; cases e; exact .str x
  | .tup xs, _, d, h, e => by
    cases h with
    | tup f r =>
      simp only [toD] at e
      cases e1 : toDs xs with
      | none => rw [e1] at e; cases e
      | some ds => rw [e1] at e; cases e; exact .tup f.sq (RepAll.dp xs r e1)
  | .lst xs, _, d, h, e => by
    cases h with
    | lst f n r =>
      simp only [toD] at e
      cases e1 : toDs xs with
      | none => rw [e1] at e; cases e
      | some ds => rw [e1] at e; cases e; exact .lst (SqL.of f) (RepAll.dp xs r e1)
  | .ty _, _, _, _, e => by cases e
  | .gl _, _, _, _, e => by cases e
  | .obj _, _, _, _, e => by cases e
  | .scr _, _, _, _, e => by cases e
  | .ins _ _ _, _, _, _, e => by cases e
  | .dct _ _, _, _, _, e => by cases e
theorem RepAll.dp : ∀ (ms : List MV) {vs : List V} {ds : List PyData}, RepAll G A H vs ms → toDs ms = some ds → DpAll G.K H vs ds
  | [], _, _, h, e => by cases h; cases e; exact .nil
  | m :: ms, _, ds, h, e => by
    cases h with
    | cons r rs =>
      simp only [toDs] at e
      cases e1 : toD m with
      | none => rw [e1] at e; cases e
      | some d =>
        rw [e1] at e
        cases e2 : toDs ms with
        | none => rw [e2] at e; cases e
        | some es => rw [e2] at e; cases e; exact .cons (Rep.dp m r e1) (RepAll.dp ms rs e2)
end
def topD (m : MV) (st : Sto) : Option PyData := match m with
  | .obj k => match st[k]? with
    | some (.lst xs) => (toDs xs).map .list
    | _ => none
  | m => toD m
theorem Rep.top {m : MV} {v : V} {d : PyData} (s : SR G A H st) (r : Rep G A H v m) (h : topD m st = some d) : Dp G.K H v d := by
  cases m with
  | obj k =>
    cases r with
    | @obj a k h1 =>
      simp only [topD] at h
      split at h
      · rename_i ys e
        cases e1 : toDs ys with
        | none => rw [e1] at h; cases h
        | some ds =>
          rw [e1] at h
          cases h
          cases s.ob k a _ h1 e with
          | lst h2 h3 => exact .lst (SqL.of h2) (RepAll.dp ys h3 e1)
      · cases h
  | _ => exact Rep.dp _ r h
end

/-! ### operators -/
def gAdd : G2 := fun a b st => match a, b with
  | .int i, .int j => .ok (.int (i + j)) st
  | .str x, .str y => if x.length + y.length ≤ 16777216 then .ok (.str (x ++ y)) st else .bad
  | .tup xs, .tup ys => if xs.length + ys.length ≤ 16777216 then .ok (.tup (xs ++ ys)) st else .bad
  | a, b => match listOf a st, listOf b st with
    | some xs, some ys => if xs.length + ys.length ≤ 16777216 then .ok (.lst (xs ++ ys)) st else .bad
    | _, _ => .bad
abbrev rAddM (K : PySem.W.Frag) : R2 := fun x y H Q => (rI0 fun i j => .int (i + j)) x y H Q ∨ ((∃ i j, x = .str i ∧ y = .str j ∧ i.length + j.length ≤ sizeLine ∧ Q (.str (i ++ j)) H) ∨ (rCatA K x y H Q ∨ rCat x y H Q))
theorem opAdd {X : Cx} : OpR X (binaryOp .Add) (rAddM X.K) := op_add.or (op_add_str.or (op_catA.or op_cat))
theorem ite_ok {α : Type} {c : Prop} [Decidable c] {a : Res α} {m : α} {st : Sto} (h : (if c then a else .bad) = .ok m st) : c ∧ a = .ok m st := by
  by_cases hc : c
  · rw [if_pos hc] at h; exact ⟨hc, h⟩
  · rw [if_neg hc] at h; cases h
theorem o2Add {G : Gm} : Op2 G (rAddM G.K) gAdd := by
  intro A H st x y mx my Q m st' s rx ry h k
  unfold gAdd at h
  split at h
  · cases h
    exact .inl ⟨_, _, rx.int_inv, ry.int_inv, fin0 s (.int _) k⟩
  · obtain ⟨hl, h⟩ := ite_ok h
    cases h
    exact .inr (.inl ⟨_, _, rx.str_inv, ry.str_inv, line_of hl, fin0 s (.str _) k⟩)
  · obtain ⟨hl, h⟩ := ite_ok h
    cases h
    cases rx with
    | @tup a vs ms f r =>
      cases ry with
      | @tup b ws ns f' r' =>
        have hl' : vs.length + ws.length ≤ sizeLine := by rw [r.length, r'.length]; exact line_of hl
        refine .inr (.inr (.inl ⟨a, b, vs, ws, rfl, rfl, f.sq, f'.sq, hl', fun e => ?_, fun e e' => ?_, fun e e' => ?_⟩))
        · subst e
          cases r
          exact fin0 s (.tup f' r') k
        · subst e'
          cases r'
          rw [List.append_nil] at k
          exact fin0 s (.tup f r) k
        · exact fin_tup s (r.append r') k
  · split at h
    · rename_i xs ys e1 e2
      obtain ⟨hl, h⟩ := ite_ok h
      cases h
      obtain ⟨a, vs, rfl, h1, r1⟩ := listOf_rep s rx e1
      obtain ⟨b, ws, rfl, h2, r2⟩ := listOf_rep s ry e2
      exact .inr (.inr (.inr ⟨a, b, vs, ws, rfl, rfl, h1, h2, by rw [r1.length, r2.length]; exact line_of hl, fin_lst s (r1.append r2) k⟩))
    · cases h
/-- an operator of two ints -/
def gI (C : Int → Int → Bool) (g : Int → Int → MV) : G2 := fun a b st => match a, b with
  | .int i, .int j => if C i j = true then .ok (g i j) st else .bad
  | _, _ => .bad
theorem o2I {G : Gm} {C : Int → Int → Prop} {c : Int → Int → Bool} {f : Int → Int → V} {g : Int → Int → MV} (hc : ∀ i j, c i j = true → C i j) (hr : ∀ A H i j, Rep G A H (f i j) (g i j)) : Op2 G (rI C f) (gI c g) := by
  intro A H st x y mx my Q m st' s rx ry h k
  unfold gI at h
  split at h
  · obtain ⟨hl, h⟩ := ite_ok h
    cases h
    exact ⟨_, _, rx.int_inv, ry.int_inv, hc _ _ hl, fin0 s (hr A H _ _) k⟩
  · cases h
theorem o2I0 {G : Gm} {f : Int → Int → V} {g : Int → Int → MV} (hr : ∀ A H i j, Rep G A H (f i j) (g i j)) : Op2 G (rI0 f) (gI (fun _ _ => true) g) := by
  intro A H st x y mx my Q m st' s rx ry h k
  unfold gI at h
  split at h
  · obtain ⟨hl, h⟩ := ite_ok h
    cases h
    exact ⟨_, _, rx.int_inv, ry.int_inv, fin0 s (hr A H _ _) k⟩
  · cases h
def gSub : G2 := gI (fun _ _ => true) fun i j => .int (i - j)
def gMod : G2 := gI (fun _ j => decide (0 < j)) fun i j => .int (i % j)
def gDiv : G2 := gI (fun _ j => decide (0 < j ∧ j.natAbs.log2 < 9000)) fun i j => .int (i / j)
def gPow : G2 := gI (fun i j => decide (0 ≤ j ∧ j ≤ 1000 ∧ i.natAbs.log2 < 1000)) fun i j => .int (i ^ j.toNat)
theorem o2Sub {G : Gm} : Op2 G (rI0 fun i j => .int (i - j)) gSub := o2I0 fun _ _ _ _ => .int _
theorem o2Mod {G : Gm} : Op2 G (rI (fun _ j => 0 < j) fun i j => .int (i % j)) gMod := o2I (fun _ _ h => of_decide_eq_true h) fun _ _ _ _ => .int _
theorem o2Div {G : Gm} : Op2 G (rI CDivW fun i j => .int (i / j)) gDiv := o2I (fun _ _ h => of_decide_eq_true h) fun _ _ _ _ => .int _
def CPowM (i j : Int) : Prop := 0 ≤ j ∧ j ≤ 1000 ∧ i.natAbs.log2 < 1000
theorem opPow {X : Cx} : OpR X (binaryOp .Pow) (rI CPowM fun i j => .int (i ^ j.toNat)) := opI fun i j _ _ _ _ _ hc q => by
  obtain ⟨h1, h2, h3⟩ := hc
  refine PyProof.Rows.pow_int h1 ?_ q
  have b : Builtin.Int.intBits i ≤ i.natAbs.log2 + 1 := by
    unfold Builtin.Int.intBits
    split <;> omega
  have b1 : (Builtin.Int.intBits i : Int) ≤ 1001 := by omega
  have b2 : (0 : Int) ≤ Builtin.Int.intBits i := by omega
  calc (Builtin.Int.intBits i : Int) * j ≤ 1001 * 1000 := Int.mul_le_mul b1 h2 h1 (by decide)
    _ ≤ 2 ^ 27 := by decide
theorem o2Pow {G : Gm} : Op2 G (rI CPowM fun i j => .int (i ^ j.toNat)) gPow := o2I (fun _ _ h => of_decide_eq_true h) fun _ _ _ _ => .int _
/-- *: ints, and what is repeated -/
def mulOk (i j : Int) : Bool := decide (((-(2 ^ 64) < i ∧ i < 2 ^ 64) ∨ (-(2 ^ 64) < j ∧ j < 2 ^ 64)) ∨ i.natAbs.log2 + j.natAbs.log2 < 1000000)
def gMul : G2 := fun a b st => match a, b with
  | .int i, .int j => if mulOk i j = true then .ok (.int (i * j)) st else .bad
  | a, .int k => match listOf a st with
    | some xs => if (-(2 ^ 63) ≤ k ∧ k < 2 ^ 63) ∧ xs.length * k.toNat ≤ 16777216 then .ok (.lst (List.replicate k.toNat xs).flatten) st else .bad
    | none => .bad
  | _, _ => .bad
abbrev rMulM : R2 := fun x y H Q => (rI CMul fun i j => .int (i * j)) x y H Q ∨ ((rI CMulW fun i j => .int (i * j)) x y H Q ∨ rRep x y H Q)
theorem opMul {X : Cx} : OpR X (binaryOp .Mult) rMulM := op_mul.or (op_mulW.or op_rep)
theorem RepAll.flat {G : Gm} {A : Ad} {H : Hp} {vs : List V} {ms : List MV} (r : RepAll G A H vs ms) : ∀ n : Nat, RepAll G A H (List.replicate n vs).flatten (List.replicate n ms).flatten
  | 0 => .nil
  | n + 1 => by
    rw [List.replicate_succ, List.replicate_succ, List.flatten_cons, List.flatten_cons]
    exact r.append (RepAll.flat r n)
theorem o2Mul {G : Gm} : Op2 G rMulM gMul := by
  intro A H st x y mx my Q m st' s rx ry h k
  unfold gMul at h
  split at h
  · obtain ⟨hl, h⟩ := ite_ok h
    cases h
    rcases of_decide_eq_true hl with q | q
    · exact .inl ⟨_, _, rx.int_inv, ry.int_inv, q, fin0 s (.int _) k⟩
    · exact .inr (.inl ⟨_, _, rx.int_inv, ry.int_inv, q, fin0 s (.int _) k⟩)
  · split at h
    · rename_i xs e1
      obtain ⟨hl, h⟩ := ite_ok h
      cases h
      obtain ⟨a, vs, rfl, h1, r1⟩ := listOf_rep s rx e1
      exact .inr (.inr ⟨a, _, vs, rfl, ry.int_inv, h1, hl.1.1, hl.1.2, by rw [r1.length]; exact line_of hl.2, fin_lst s (r1.flat _) k⟩)
    · cases h
  · cases h
def gNeg : MV → Sto → Res MV := fun a st => match a with
  | .int i => .ok (.int (-i)) st
  | _ => .bad
theorem o1Neg {G : Gm} : Op1 G (rU fun i => .int (-i)) gNeg := by
  intro A H st x mx Q m st' s rx h k
  unfold gNeg at h
  split at h
  · cases h
    exact ⟨_, rx.int_inv, fin0 s (.int _) k⟩
  · cases h
/-! ### comparisons -/
def gEq : G2 := fun a b st => match topD a st, topD b st with
  | some d, some e => if (SeqAt.shaped d && SeqAt.shaped e) = true then .ok (.bl (PyData.eqv d e)) st else .bad
  | _, _ => .bad
def gNe : G2 := fun a b st => match topD a st, topD b st with
  | some d, some e => if (SeqAt.shaped d && SeqAt.shaped e) = true then .ok (.bl (!PyData.eqv d e)) st else .bad
  | _, _ => .bad
theorem o2Eq {G : Gm} : Op2 G (rEqD G.K) gEq := by
  intro A H st x y mx my Q m st' s rx ry h k
  unfold gEq at h
  split at h
  · rename_i d e h1 h2
    obtain ⟨hl, h⟩ := ite_ok h
    cases h
    rw [Bool.and_eq_true] at hl
    exact ⟨d, e, rx.top s h1, ry.top s h2, hl.1, hl.2, fin0 s (.bl _) k⟩
  · cases h
theorem o2Ne {G : Gm} : Op2 G (rNeD G.K) gNe := by
  intro A H st x y mx my Q m st' s rx ry h k
  unfold gNe at h
  split at h
  · rename_i d e h1 h2
    obtain ⟨hl, h⟩ := ite_ok h
    cases h
    rw [Bool.and_eq_true] at hl
    exact ⟨d, e, rx.top s h1, ry.top s h2, hl.1, hl.2, fin0 s (.bl _) k⟩
  · cases h
/-- an order: ints, texts -/
def gOrd (f : Int → Int → Bool) (g : Str → Str → Bool) : G2 := fun a b st => match a, b with
  | .int i, .int j => .ok (.bl (f i j)) st
  | .str i, .str j => .ok (.bl (g i j)) st
  | _, _ => .bad
abbrev rOrd (f : Int → Int → Bool) (g : Str → Str → Bool) : R2 := fun x y H Q => (rI0 fun i j => .bl (f i j)) x y H Q ∨ ∃ i j, x = .str i ∧ y = .str j ∧ Q (.bl (g i j)) H
theorem o2Ord {G : Gm} {f : Int → Int → Bool} {g : Str → Str → Bool} : Op2 G (rOrd f g) (gOrd f g) := by
  intro A H st x y mx my Q m st' s rx ry h k
  unfold gOrd at h
  split at h
  · cases h
    exact .inl ⟨_, _, rx.int_inv, ry.int_inv, fin0 s (.bl _) k⟩
  · cases h
    exact .inr ⟨_, _, rx.str_inv, ry.str_inv, fin0 s (.bl _) k⟩
  · cases h
abbrev sLt (i j : Str) : Bool := decide (i.cps.toList < j.cps.toList)
def gLt : G2 := gOrd (fun i j => decide (i < j)) fun i j => sLt i j
def gLe : G2 := gOrd (fun i j => decide (i ≤ j)) fun i j => !sLt j i
def gGt : G2 := gOrd (fun i j => decide (j < i)) fun i j => sLt j i
def gGe : G2 := gOrd (fun i j => decide (j ≤ i)) fun i j => !sLt i j
section
variable {X : Cx}
theorem opLt : OpR X (compareOp .Lt) (rOrd (fun i j => decide (i < j)) fun i j => sLt i j) := op_lt.or op_lt_str
theorem opLe : OpR X (compareOp .LtE) (rOrd (fun i j => decide (i ≤ j)) fun i j => !sLt j i) := op_le.or op_le_str
theorem opGt : OpR X (compareOp .Gt) (rOrd (fun i j => decide (j < i)) fun i j => sLt j i) := op_gt.or op_gt_str
theorem opGe : OpR X (compareOp .GtE) (rOrd (fun i j => decide (j ≤ i)) fun i j => !sLt i j) := op_ge.or op_ge_str
end
theorem o2Lt {G : Gm} : Op2 G (rOrd (fun i j => decide (i < j)) fun i j => sLt i j) gLt := o2Ord
theorem o2Le {G : Gm} : Op2 G (rOrd (fun i j => decide (i ≤ j)) fun i j => !sLt j i) gLe := o2Ord
theorem o2Gt {G : Gm} : Op2 G (rOrd (fun i j => decide (j < i)) fun i j => sLt j i) gGt := o2Ord
theorem o2Ge {G : Gm} : Op2 G (rOrd (fun i j => decide (j ≤ i)) fun i j => !sLt i j) gGe := o2Ord
/-- in: a sign in a text, a flat value in a list or a tuple -/
def flatM : MV → Bool
  | .non => true
  | .bl _ => true
  | .int _ => true
  | .str _ => true
  | _ => false
def toFlat : MV → V
  | .non => .non
  | .bl b => .bl b
  | .int i => .int i
  | .str x => .str x
  | _ => .non
def memM (x : MV) (xs : List MV) : Bool := xs.any fun y => eqV (toFlat y) (toFlat x)
def isInM (a b : MV) (st : Sto) : Option Bool := match a, b with
  | .str x, .str z => if x.cps.size = 1 then some (decide (x.cps.getD 0 0 ∈ z.cps.toList)) else none
  | x, m => match itemsOf m st with
    | some xs => if flatM x && xs.all flatM then some (memM x xs) else none
    | none => none
def gIn : G2 := fun a b st => match isInM a b st with
  | some b => .ok (.bl b) st
  | none => .bad
def gNotIn : G2 := fun a b st => match isInM a b st with
  | some b => .ok (.bl (!b)) st
  | none => .bad
section
variable {G : Gm} {A : Ad} {H : Hp} {st : Sto}
theorem Rep.flat {v : V} {m : MV} (r : Rep G A H v m) (h : flatM m = true) : v = toFlat m ∧ flatV v = true := by
  cases r <;> first | exact ⟨rfl, rfl⟩ | cases h
theorem RepAll.flats {vs : List V} {ms : List MV} (r : RepAll G A H vs ms) (h : ms.all flatM = true) : vs = ms.map toFlat ∧ vs.all flatV = true := by
  induction vs generalizing ms with
  | nil => cases r; exact ⟨rfl, rfl⟩
  | cons v vs ih =>
    cases r with
    | cons r rs =>
      rw [List.all_cons, Bool.and_eq_true] at h
      obtain ⟨e1, f1⟩ := r.flat h.1
      obtain ⟨e2, f2⟩ := ih rs h.2
      exact ⟨by rw [List.map_cons, ← e1, ← e2], by rw [List.all_cons, f1, f2]; rfl⟩
end
abbrev rInM (K : PySem.W.Frag) : R2 := fun x y H Q => (∃ (c : Nat) (z : Str), x = .str ⟨#[c]⟩ ∧ y = .str z ∧ Q (.bl (decide (c ∈ z.cps.toList))) H) ∨ rIn K false x y H Q
abbrev rNotInM (K : PySem.W.Frag) : R2 := fun x y H Q => (∃ (c : Nat) (z : Str), x = .str ⟨#[c]⟩ ∧ y = .str z ∧ Q (.bl (!decide (c ∈ z.cps.toList))) H) ∨ rIn K true x y H Q
theorem opIn {X : Cx} : OpR X (compareOp .In) (rInM X.K) := op_in_sign.or op_in_seq
theorem opNotIn {X : Cx} : OpR X (compareOp .NotIn) (rNotInM X.K) := op_notIn_sign.or op_notIn_seq
theorem one_sign {x : Str} (h : x.cps.size = 1) : x = ⟨#[x.cps.getD 0 0]⟩ := by
  obtain ⟨⟨l⟩⟩ := x
  simp at h
  obtain ⟨c, rfl⟩ := List.length_eq_one_iff.mp h
  rfl
theorem isIn_two {G : Gm} {A : Ad} {H : Hp} {st : Sto} {x y : V} {mx my : MV} {b : Bool} (s : SR G A H st) (rx : Rep G A H x mx) (ry : Rep G A H y my) (h : isInM mx my st = some b) :
    (∃ (c : Nat) (z : Str), x = .str ⟨#[c]⟩ ∧ y = .str z ∧ b = decide (c ∈ z.cps.toList)) ∨ ∃ p xs, y = .ref p ∧ (SqL G.K H p xs ∨ SqT G.K H p xs) ∧ flatV x = true ∧ xs.all flatV = true ∧ b = inV x xs := by
  unfold isInM at h
  split at h
  · rename_i x z
    by_cases hc : x.cps.size = 1
    · rw [if_pos hc] at h
      cases h
      exact .inl ⟨_, z, by rw [rx.str_inv]; exact congrArg V.str (one_sign hc), ry.str_inv, rfl⟩
    · rw [if_neg hc] at h; cases h
  · split at h
    · rename_i xs e
      by_cases hc : (flatM mx && xs.all flatM) = true
      · rw [if_pos hc] at h
        cases h
        rw [Bool.and_eq_true] at hc
        obtain ⟨p, vs, rfl, sq, rv⟩ := items_rep s ry e
        obtain ⟨e1, f1⟩ := rx.flat hc.1
        obtain ⟨e2, f2⟩ := rv.flats hc.2
        refine .inr ⟨p, vs, rfl, sq.symm, f1, f2, ?_⟩
        rw [e2, e1]
        simp [memM, inV, List.any_map, Function.comp_def]
      · rw [if_neg hc] at h; cases h
    · cases h
theorem o2In {G : Gm} : Op2 G (rInM G.K) gIn := by
  intro A H st x y mx my Q m st' s rx ry h k
  unfold gIn at h
  split at h
  · rename_i b e
    cases h
    rcases isIn_two s rx ry e with ⟨c, z, h1, h2, h3⟩ | ⟨p, xs, h1, h2, h3, h4, h5⟩
    · exact .inl ⟨c, z, h1, h2, by rw [← h3]; exact fin0 s (.bl _) k⟩
    · exact .inr ⟨p, xs, h1, h2, h3, h4, by rw [if_neg (by simp), ← h5]; exact fin0 s (.bl _) k⟩
  · cases h
theorem o2NotIn {G : Gm} : Op2 G (rNotInM G.K) gNotIn := by
  intro A H st x y mx my Q m st' s rx ry h k
  unfold gNotIn at h
  split at h
  · rename_i b e
    cases h
    rcases isIn_two s rx ry e with ⟨c, z, h1, h2, h3⟩ | ⟨p, xs, h1, h2, h3, h4, h5⟩
    · exact .inl ⟨c, z, h1, h2, by rw [← h3]; exact fin0 s (.bl _) k⟩
    · exact .inr ⟨p, xs, h1, h2, h3, h4, by rw [if_pos (by simp), ← h5]; exact fin0 s (.bl _) k⟩
  · cases h
/-- is None, is not None -/
def isNonM : MV → Bool
  | .non => true
  | _ => false
def gIs : G2 := fun a b st => match b with
  | .non => .ok (.bl (isNonM a)) st
  | _ => .bad
def gIsNot : G2 := fun a b st => match b with
  | .non => .ok (.bl (!isNonM a)) st
  | _ => .bad
theorem rep_non {G : Gm} {A : Ad} {H : Hp} {v : V} {m : MV} (r : Rep G A H v m) : decide (v = .non) = isNonM m := by
  cases r <;> first | rfl | exact decide_eq_false (by intro z; cases z)
theorem o2Is {G : Gm} : Op2 G (fun x y H Q => y = .non ∧ Q (.bl (decide (x = .non))) H) gIs := by
  intro A H st x y mx my Q m st' s rx ry h k
  unfold gIs at h
  split at h
  · cases h
    exact ⟨ry.non_inv, by rw [rep_non rx]; exact fin0 s (.bl _) k⟩
  · cases h
theorem o2IsNot {G : Gm} : Op2 G (fun x y H Q => y = .non ∧ Q (.bl (!decide (x = .non))) H) gIsNot := by
  intro A H st x y mx my Q m st' s rx ry h k
  unfold gIsNot at h
  split at h
  · cases h
    exact ⟨ry.non_inv, by rw [rep_non rx]; exact fin0 s (.bl _) k⟩
  · cases h
end MR

/-! subscripts, slices, calls and methods of built-ins by values -/
namespace MR
open PySem L2

section
variable {G : Gm} {A : Ad} {H : Hp} {st : Sto}
theorem RepAll.atI {vs : List V} {ms : List MV} (r : RepAll G A H vs ms) {i : Int} {m : MV} (h : atI ms i = some m) : ∃ v, L2.atI vs i = some v ∧ Rep G A H v m := by
  unfold L2.atI at h ⊢
  rw [r.length]
  cases e : ixN ms.length i with
  | none => rw [e] at h; cases h
  | some j =>
    rw [e] at h
    exact r.at h
end
/-! ### subscripts -/
def scrAt (ns : List Int) (i : Int) : Option MV := (atI ns i).map .int
def gIx : G2 := fun a b st => match a, b with
  | .str z, .int i => if z.length ≤ 16777216 then (match atI z.cps.toList i with
    | some c => .ok (.str ⟨#[c]⟩) st
    | none => .bad) else .bad
  | .scr ns, .int i => match atI ns i with
    | some n => .ok (.int n) st
    | none => .bad
  | m, .int i => match itemsOf m st with
    | some xs => (match atI xs i with
      | some x => .ok x st
      | none => .bad)
    | none => .bad
  | _, _ => .bad
theorem atI_map {α β : Type} (f : α → β) (xs : List α) (i : Int) : atI (xs.map f) i = (atI xs i).map f := by
  unfold atI
  rw [List.length_map]
  cases ixN xs.length i <;> simp
theorem o2Ix {G : Gm} : Op2 G (rIx G.K) gIx := by
  intro A H st x y mx my Q m st' s rx ry h k
  unfold gIx at h
  split at h
  · obtain ⟨hl, h⟩ := ite_ok h
    split at h
    · rename_i c e
      cases h
      exact .inr (.inr ⟨_, _, c, rx.str_inv, ry.int_inv, line_of hl, e, fin0 s (.str _) k⟩)
    · cases h
  · split at h
    · rename_i n e
      cases h
      cases rx with
      | @scr a ns f =>
        refine .inl ⟨a, _, _, .int n, rfl, ry.int_inv, f.sq, ?_, fin0 s (.int _) k⟩
        rw [atI_map, e]
        rfl
    · cases h
  · split at h
    · rename_i xs e
      split at h
      · rename_i z ez
        cases h
        obtain ⟨p, vs, rfl, sq, rv⟩ := items_rep s rx e
        obtain ⟨v, ev, rz⟩ := rv.atI ez
        rcases sq with sq | sq
        · exact .inr (.inl ⟨p, vs, _, v, rfl, ry.int_inv, sq, ev, fin0 s rz k⟩)
        · exact .inl ⟨p, vs, _, v, rfl, ry.int_inv, sq, ev, fin0 s rz k⟩
      · cases h
    · cases h
  · cases h
/-! ### slices -/
def cutM (xs : List MV) (lo hi : Option Int) : List MV := (xs.drop (HT.sIx xs.length 0 lo)).take (HT.sIx xs.length xs.length hi - HT.sIx xs.length 0 lo)
theorem cut_rep {G : Gm} {A : Ad} {H : Hp} {vs : List V} {ms : List MV} (r : RepAll G A H vs ms) (lo hi : Option Int) : RepAll G A H (cutV vs lo hi) (cutM ms lo hi) := by
  unfold cutV cutM
  rw [r.length]
  exact (r.drop _).take _
theorem cut_all {G : Gm} {A : Ad} {H : Hp} {vs : List V} {ms : List MV} (r : RepAll G A H vs ms) {lo hi : Option Int} (e : HT.sIx vs.length 0 lo = 0 ∧ HT.sIx vs.length vs.length hi = vs.length) : cutM ms lo hi = ms := by
  unfold cutM
  rw [← r.length, e.1, e.2, r.length]
  simp
def gSlice : GSl := fun a lo hi st => match a with
  | .str z => if z.length ≤ 16777216 then .ok (.str (cutS z lo hi)) st else .bad
  | .tup xs => .ok (.tup (cutM xs lo hi)) st
  | m => match listOf m st with
    | some xs => .ok (.lst (cutM xs lo hi)) st
    | none => .bad
theorem SlR.or {X : Cx} {r r' : V → Option Int → Option Int → Hp → VK → Prop} (h : SlR X r) (h' : SlR X r') : SlR X (fun x lo hi H Q => r x lo hi H Q ∨ r' x lo hi H Q) := by
  intro pins s σ H x v vl vu lo hi sl Q I rx hs pl pu q
  rcases q with q | q
  · exact h pins s σ H x v vl vu lo hi sl Q I rx hs pl pu q
  · exact h' pins s σ H x v vl vu lo hi sl Q I rx hs pl pu q
abbrev rSlM (K : PySem.W.Frag) : V → Option Int → Option Int → Hp → VK → Prop := fun x lo hi H Q => rSlS x lo hi H Q ∨ (rSlA K x lo hi H Q ∨ rSlL K x lo hi H Q)
theorem opSlice {X : Cx} : SlR X (rSlM X.K) := SlR.or sl_str (SlR.or sl_tupA sl_list)
theorem oSlice {G : Gm} : OpSl G (rSlM G.K) gSlice := by
  intro A H st x mx lo hi Q m st' s rx h k
  unfold gSlice at h
  split at h
  · obtain ⟨hl, h⟩ := ite_ok h
    cases h
    exact .inl ⟨_, rx.str_inv, line_of hl, fin0 s (.str _) k⟩
  · cases h
    cases rx with
    | @tup a vs ms f r =>
      refine .inr (.inl ⟨a, vs, rfl, f.sq, fun e => ?_, fun _ => fin_tup s (cut_rep r lo hi) k⟩)
      rw [cut_all r e] at k
      exact fin0 s (.tup f r) k
  · split at h
    · rename_i xs e
      cases h
      obtain ⟨a, vs, rfl, h1, r1⟩ := listOf_rep s rx e
      exact .inr (.inr ⟨a, vs, rfl, SqL.of h1, fin_lst s (cut_rep r1 lo hi) k⟩)
    · cases h
/-! ### calls -/
def gLen : List MV → Sto → Res MV := fun ms st => match ms with
  | [.str z] => if z.length ≤ 16777216 then .ok (.int z.length) st else .bad
  | [.scr ns] => .ok (.int ns.length) st
  | [m] => match itemsOf m st with
    | some xs => .ok (.int xs.length) st
    | none => .bad
  | _ => .bad
theorem oLen {G : Gm} : OpN G (fun xs H Q => ∃ x n, xs = [x] ∧ LenV G.K x H n ∧ Q (.int n) H) gLen := by
  intro A H st xs ms Q m st' s r h k
  unfold gLen at h
  split at h
  · obtain ⟨hl, h⟩ := ite_ok h
    cases h
    cases r with
    | cons r rs =>
      cases rs
      exact ⟨_, _, rfl, by rw [r.str_inv]; exact ⟨line_of hl, rfl⟩, fin0 s (.int _) k⟩
  · cases h
    cases r with
    | cons r rs =>
      cases rs
      cases r with
      | scr f => exact ⟨_, _, rfl, .inl ⟨_, f.sq, rfl⟩, by rw [List.length_map]; exact fin0 s (.int _) k⟩
  · split at h
    · rename_i xs e
      cases h
      cases r with
      | cons r rs =>
        cases rs
        obtain ⟨p, vs, rfl, sq, rv⟩ := items_rep s r e
        refine ⟨_, vs.length, rfl, ?_, by rw [rv.length]; exact fin0 s (.int _) k⟩
        rcases sq with sq | sq
        · exact .inr ⟨vs, sq, rfl⟩
        · exact .inl ⟨vs, sq, rfl⟩
    · cases h
  · cases h
def gAll : List MV → Sto → Res MV := fun ms st => match ms with
  | [m] => match (listOf m st).bind boolsOf with
    | some bs => .ok (.bl (bs.all id)) st
    | none => .bad
  | _ => .bad
def gAny : List MV → Sto → Res MV := fun ms st => match ms with
  | [m] => match (listOf m st).bind boolsOf with
    | some bs => .ok (.bl (bs.any id)) st
    | none => .bad
  | _ => .bad
theorem bools_rep {G : Gm} {A : Ad} {H : Hp} {st : Sto} {m : MV} {v : V} {bs : List Bool} (s : SR G A H st) (r : Rep G A H v m) (h : (listOf m st).bind boolsOf = some bs) : ∃ a, v = .ref a ∧ SqL G.K H a (bs.map V.bl) := by
  cases e : listOf m st with
  | none => rw [e] at h; cases h
  | some xs =>
    rw [e] at h
    obtain ⟨a, vs, rfl, h1, r1⟩ := listOf_rep s r e
    exact ⟨a, rfl, by rw [← boolsOf_rep r1 h]; exact SqL.of h1⟩
theorem oAll {G : Gm} : OpN G (rAll G.K) gAll := by
  intro A H st xs ms Q m st' s r h k
  unfold gAll at h
  split at h
  · split at h
    · rename_i bs e
      cases h
      cases r with
      | cons r rs =>
        cases rs
        obtain ⟨a, rfl, h1⟩ := bools_rep s r e
        exact ⟨a, bs, rfl, h1, fin0 s (.bl _) k⟩
    · cases h
  · cases h
theorem oAny {G : Gm} : OpN G (rAny G.K) gAny := by
  intro A H st xs ms Q m st' s r h k
  unfold gAny at h
  split at h
  · split at h
    · rename_i bs e
      cases h
      cases r with
      | cons r rs =>
        cases rs
        obtain ⟨a, rfl, h1⟩ := bools_rep s r e
        exact ⟨a, bs, rfl, h1, fin0 s (.bl _) k⟩
    · cases h
  · cases h
/-- tuple(xs), list(xs) -/
def gTuple : List MV → Sto → Res MV := fun ms st => match ms with
  | [m] => match itemsOf m st with
    | some xs => .ok (.tup xs) st
    | none => .bad
  | _ => .bad
theorem items_cases {G : Gm} {A : Ad} {H : Hp} {st : Sto} {v : V} {m : MV} {xs : List MV} (s : SR G A H st) (r : Rep G A H v m) (h : itemsOf m st = some xs) :
    ∃ a vs, v = .ref a ∧ RepAll G A H vs xs ∧ (FzT G A H a vs ∨ SqL G.K H a vs) := by
  cases r with
  | tup h1 h2 => cases h; exact ⟨_, _, rfl, h2, .inl h1⟩
  | lst h1 h2 h3 => cases h; exact ⟨_, _, rfl, h3, .inr (SqL.of h1)⟩
  | @obj a k h1 =>
    simp only [itemsOf] at h
    split at h
    · rename_i ys e
      cases h
      cases s.ob k a _ h1 e with
      | lst h2 h3 => exact ⟨_, _, rfl, h3, .inr (SqL.of h2)⟩
    · cases h
  | _ => cases h
theorem oTuple {G : Gm} : OpN G (fun xs H Q => ∃ p ys, xs = [.ref p] ∧ ((SqL G.K H p ys ∧ ∀ l, H l = none → Q (.ref l) (upd H l (.tup ys))) ∨ (SqT G.K H p ys ∧ Q (.ref p) H))) gTuple := by
  intro A H st xs ms Q m st' s r h k
  unfold gTuple at h
  split at h
  · split at h
    · rename_i xs e
      cases h
      cases r with
      | cons r rs =>
        cases rs
        obtain ⟨a, vs, rfl, rv, q⟩ := items_cases s r e
        rcases q with q | q
        · exact ⟨a, vs, rfl, .inr ⟨q.sq, fin0 s (.tup q rv) k⟩⟩
        · exact ⟨a, vs, rfl, .inl ⟨q, fin_tup s rv k⟩⟩
    · cases h
  · cases h
def gList : List MV → Sto → Res MV := fun ms st => match ms with
  | [m] => match itemsOf m st with
    | some xs => .ok (.lst xs) st
    | none => .bad
  | _ => .bad
def gListN : List MV → Sto → Res MV := fun ms st => match ms with
  | [m] => match itemsOf m st with
    | some xs => .ok (.obj st.length) (st ++ [.lst xs])
    | none => .bad
  | _ => .bad
theorem oList {G : Gm} : OpN G (fun xs H Q => ∃ p ys, xs = [.ref p] ∧ (SqL G.K H p ys ∨ SqT G.K H p ys) ∧ ∀ l, H l = none → Q (.ref l) (upd H l (.lst ys))) gList := by
  intro A H st xs ms Q m st' s r h k
  unfold gList at h
  split at h
  · split at h
    · rename_i xs e
      cases h
      cases r with
      | cons r rs =>
        cases rs
        obtain ⟨a, vs, rfl, sq, rv⟩ := items_rep s r e
        exact ⟨a, vs, rfl, sq.symm, fin_lst s rv k⟩
    · cases h
  · cases h
theorem oListN {G : Gm} : OpN G (fun xs H Q => ∃ p ys, xs = [.ref p] ∧ (SqL G.K H p ys ∨ SqT G.K H p ys) ∧ ∀ l, H l = none → Q (.ref l) (upd H l (.lst ys))) gListN := by
  intro A H st xs ms Q m st' s r h k
  unfold gListN at h
  split at h
  · split at h
    · rename_i xs e
      cases h
      cases r with
      | cons r rs =>
        cases rs
        obtain ⟨a, vs, rfl, sq, rv⟩ := items_rep s r e
        exact ⟨a, vs, rfl, sq.symm, fin_lstN s rv k⟩
    · cases h
  · cases h
def gAbs : List MV → Sto → Res MV := fun ms st => match ms with
  | [.int i] => .ok (.int (if i < 0 then -i else i)) st
  | _ => .bad
theorem oAbs {G : Gm} : OpN G (fun xs H Q => ∃ i, xs = [.int i] ∧ Q (.int (if i < 0 then -i else i)) H) gAbs := by
  intro A H st xs ms Q m st' s r h k
  unfold gAbs at h
  split at h
  · cases h
    cases r with
    | cons r rs => cases rs; exact ⟨_, by rw [r.int_inv], fin0 s (.int _) k⟩
  · cases h
def gMax : List MV → Sto → Res MV := fun ms st => match ms with
  | [.int i, .int j] => .ok (.int (if j > i then j else i)) st
  | _ => .bad
def gMin : List MV → Sto → Res MV := fun ms st => match ms with
  | [.int i, .int j] => .ok (.int (if j < i then j else i)) st
  | _ => .bad
theorem oMax {G : Gm} : OpN G (fun xs H Q => ∃ i j, xs = [.int i, .int j] ∧ Q (.int (if j > i then j else i)) H) gMax := by
  intro A H st xs ms Q m st' s r h k
  unfold gMax at h
  split at h
  · cases h
    cases r with
    | cons r rs =>
      cases rs with
      | cons r2 rs => cases rs; exact ⟨_, _, by rw [r.int_inv, r2.int_inv], fin0 s (.int _) k⟩
  · cases h
theorem oMin {G : Gm} : OpN G (fun xs H Q => ∃ i j, xs = [.int i, .int j] ∧ Q (.int (if j < i then j else i)) H) gMin := by
  intro A H st xs ms Q m st' s r h k
  unfold gMin at h
  split at h
  · cases h
    cases r with
    | cons r rs =>
      cases rs with
      | cons r2 rs => cases rs; exact ⟨_, _, by rw [r.int_inv, r2.int_inv], fin0 s (.int _) k⟩
  · cases h
/-- int(x), str(x) -/
def gInt : List MV → Sto → Res MV := fun ms st => match ms with
  | [.int i] => .ok (.int i) st
  | [.bl k] => .ok (.int (if k then 1 else 0)) st
  | [.str a] => if a.length ≤ 640 then (match PySem.intText? a with
    | some n => .ok (.int n) st
    | none => .bad) else .bad
  | _ => .bad
abbrev rIntM : List V → Hp → VK → Prop := fun xs H Q => ((∃ i, xs = [.int i] ∧ Q (.int i) H) ∨ ∃ k, xs = [.bl k] ∧ Q (.int (if k then 1 else 0)) H) ∨ ∃ a n, xs = [.str a] ∧ PySem.intText? a = some n ∧ a.length ≤ 640 ∧ Q (.int n) H
theorem opInt {X : Cx} : CallR X (.type "int") rIntM := CallR.or call_int1 call_int_str
theorem oInt {G : Gm} : OpN G rIntM gInt := by
  intro A H st xs ms Q m st' s r h k
  unfold gInt at h
  split at h
  · cases h
    cases r with
    | cons r rs => cases rs; exact .inl (.inl ⟨_, by rw [r.int_inv], fin0 s (.int _) k⟩)
  · cases h
    cases r with
    | cons r rs => cases rs; exact .inl (.inr ⟨_, by rw [r.bl_inv], fin0 s (.int _) k⟩)
  · obtain ⟨hl, h⟩ := ite_ok h
    split at h
    · rename_i n e
      cases h
      cases r with
      | cons r rs => cases rs; exact .inr ⟨_, n, by rw [r.str_inv], e, hl, fin0 s (.int _) k⟩
    · cases h
  · cases h
def gStr : List MV → Sto → Res MV := fun ms st => match ms with
  | [.int i] => if i.natAbs.log2 < 1920 then .ok (.str (toString i)) st else .bad
  | [.str a] => .ok (.str a) st
  | _ => .bad
abbrev rStrM : List V → Hp → VK → Prop := fun xs H Q => (∃ i, xs = [.int i] ∧ i.natAbs.log2 < 1920 ∧ Q (.str (toString i)) H) ∨ ∃ a, xs = [.str a] ∧ Q (.str a) H
theorem opStr {X : Cx} : CallR X (.type "str") rStrM := CallR.or call_str_int SkE.call_str_str
theorem oStr {G : Gm} : OpN G rStrM gStr := by
  intro A H st xs ms Q m st' s r h k
  unfold gStr at h
  split at h
  · obtain ⟨hl, h⟩ := ite_ok h
    cases h
    cases r with
    | cons r rs => cases rs; exact .inl ⟨_, by rw [r.int_inv], hl, fin0 s (.str _) k⟩
  · cases h
    cases r with
    | cons r rs => cases rs; exact .inr ⟨_, by rw [r.str_inv], fin0 s (.str _) k⟩
  · cases h
/-- isinstance(x, T) -/
def tyName (m : MV) (st : Sto) : Option String := match m with
  | .non => some "NoneType"
  | .bl _ => some "bool"
  | .int _ => some "int"
  | .str _ => some "str"
  | .tup _ => some "tuple"
  | .lst _ => some "list"
  | .scr _ => some "list"
  | .obj k => match st[k]? with
    | some (.lst _) => some "list"
    | _ => none
  | _ => none
def gIsi : List MV → Sto → Res MV := fun ms st => match ms with
  | [x, .ty c] => match (tyName x st).bind fun t => kitB t c with
    | some b => .ok (.bl b) st
    | none => .bad
  | _ => .bad
theorem tyx_sqL {K : PySem.W.Frag} {H : Hp} {a : Addr} {xs : List V} (h : SqL K H a xs) : TyX K H (.ref a) (.type "list") := by
  rcases h with (h | ⟨o, h⟩) | ⟨o, its, n, h1, h2, _⟩
  · exact .base (.lst h)
  · exact .base (.frz h)
  · exact .kList h1 h2
theorem tyx_sqT {K : PySem.W.Frag} {H : Hp} {a : Addr} {xs : List V} (h : SqT K H a xs) : TyX K H (.ref a) (.type "tuple") := by
  rcases h with (h | ⟨o, h⟩) | ⟨o, its, n, h1, h2, _⟩
  · exact .base (.tup h)
  · exact .fTuple h
  · exact .kTuple h1 h2
theorem tyName_rep {G : Gm} {A : Ad} {H : Hp} {st : Sto} {v : V} {m : MV} {t : String} (s : SR G A H st) (r : Rep G A H v m) (h : tyName m st = some t) : TyX G.K H v (.type t) := by
  cases r with
  | non => cases h; exact .base .non
  | bl b => cases h; exact .base (.bl b)
  | int i => cases h; exact .base (.int i)
  | str x => cases h; exact .base (.str x)
  | tup f r => cases h; exact tyx_sqT f.sq
  | lst f n r => cases h; exact tyx_sqL (SqL.of f)
  | scr f => cases h; exact tyx_sqL f.sq
  | ins => cases h
  | dctL => cases h
  | dctN => cases h
  | @obj a k h1 =>
    simp only [tyName] at h
    split at h
    · rename_i ys e
      cases h
      cases s.ob k a _ h1 e with
      | lst h2 h3 => exact tyx_sqL (SqL.of h2)
    · cases h
  | ty n => cases h
  | gl h1 => cases h
theorem oIsi {G : Gm} : OpN G (rIsi G.K) gIsi := by
  intro A H st xs ms Q m st' s r h k
  unfold gIsi at h
  split at h
  · rename_i x c
    split at h
    · rename_i b e
      cases h
      cases e1 : tyName x st with
      | none => rw [e1] at e; cases e
      | some t =>
        rw [e1] at e
        cases r with
        | cons r rs =>
          cases rs with
          | cons r2 rs =>
            cases rs
            cases r2
            exact ⟨_, .ty c, _, .type c, b, rfl, .ty c, tyName_rep s r e1, kit_ty e, fin0 s (.bl _) k⟩
    · cases h
  · cases h
/-! ### methods -/
def isStr (m : MV) (_ : Sto) : Bool := match m with
  | .str _ => true
  | _ => false
def isLst (m : MV) (st : Sto) : Bool := (listOf m st).isSome
theorem oIsStr {G : Gm} : OpTy G "str" isStr := by
  intro A H st v m s r h
  cases r with
  | str x => exact rfl
  | _ => cases h
theorem oIsLst {G : Gm} : OpTy G "list" isLst := by
  intro A H st v m s r h
  unfold isLst at h
  obtain ⟨xs, e⟩ := Option.isSome_iff_exists.mp h
  obtain ⟨a, vs, rfl, h1, r1⟩ := listOf_rep s r e
  exact .inl ⟨rfl, vs, SqL.of h1⟩
def gSplit : MV → List MV → Sto → Res MV := fun x ms st => match x, ms with
  | .str a, [.str b] => if b.length ≠ 0 ∧ a.length + 2 ≤ 16777216 then .ok (.lst ((Txt.split a b).map .str)) st else .bad
  | _, _ => .bad
theorem RepAll.strs {G : Gm} {A : Ad} {H : Hp} (ys : List Str) : RepAll G A H (ys.map V.str) (ys.map MV.str) := RepAll.map_of (fun a => .str a) ys
theorem oSplit {G : Gm} : OpMt G (fun x xs H Q => ∃ a b, x = .str a ∧ xs = [.str b] ∧ (b.length == 0) = false ∧ a.length + 2 ≤ sizeLine ∧ rNewStrs (Txt.split a b) H Q) gSplit := by
  intro A H st x mx xs ms Q m st' s rx r h k
  unfold gSplit at h
  split at h
  · obtain ⟨hl, h⟩ := ite_ok h
    cases h
    cases r with
    | cons r rs =>
      cases rs
      refine ⟨_, _, rx.str_inv, by rw [r.str_inv], beq_false_of_ne hl.1, line_of hl.2, fin_lst s (RepAll.strs _) k⟩
  · cases h
def gJoin : MV → List MV → Sto → Res MV := fun x ms st => match x, ms with
  | .str a, [m] => match (itemsOf m st).bind strsOf with
    | some ys => if (ys.map (·.length)).sum + ys.length * a.length ≤ 16777216 then .ok (.str (Txt.join a ys)) st else .bad
    | none => .bad
  | _, _ => .bad
theorem oJoin {G : Gm} : OpMt G (fun x xs H Q => ∃ a p, ∃ ys : List Str, x = .str a ∧ xs = [.ref p] ∧ (SqL G.K H p (ys.map V.str) ∨ SqT G.K H p (ys.map V.str)) ∧
    (ys.map (·.length)).sum + ys.length * a.length ≤ 16777216 ∧ Q (.str (Txt.join a ys)) H) gJoin := by
  intro A H st x mx xs ms Q m st' s rx r h k
  unfold gJoin at h
  split at h
  · rename_i a m0
    split at h
    · rename_i ys e
      obtain ⟨hl, h⟩ := ite_ok h
      cases h
      cases e1 : itemsOf m0 st with
      | none => rw [e1] at e; cases e
      | some zs =>
        rw [e1] at e
        cases r with
        | cons r rs =>
          cases rs
          obtain ⟨p, vs, rfl, sq, rv⟩ := items_rep s r e1
          refine ⟨_, p, ys, rx.str_inv, rfl, ?_, hl, fin0 s (.str _) k⟩
          rw [← strsOf_rep rv e]
          exact sq.symm
    · cases h
  · cases h
def gAppend : MV → List MV → Sto → Res MV := fun x ms st => match x, ms with
  | .obj k, [m] => match st[k]? with
    | some (.lst xs) => if xs.length < 16777216 then .ok .non (st.set k (.lst (xs ++ [m]))) else .bad
    | _ => .bad
  | _, _ => .bad
theorem oAppend {G : Gm} : OpMt G rAppend gAppend := by
  intro A H st x mx xs ms Q m st' s rx r h k
  unfold gAppend at h
  split at h
  · rename_i j m0
    split at h
    · rename_i ys e
      obtain ⟨hl, h⟩ := ite_ok h
      cases h
      cases rx with
      | @obj a j h1 =>
        cases r with
        | @cons v vs0 _ _ r rs =>
          cases rs
          cases s.ob j a _ h1 e with
          | @lst vs _ h2 h3 =>
            have hl' : vs.length < sizeLine := by rw [h3.length]; exact (by rw [sizeLine_eq]; exact hl)
            exact ⟨a, vs, v, rfl, rfl, h2, hl', k A _ .non (Ext.set s (List.mem_of_getElem? h1)) (s.set h1 (h3.append (.cons r .nil))) .non⟩
    · cases h
  · cases h
/-! ### o[i] = v -/
def setAt (m : MV) (i : Int) (x : MV) (st : Sto) : Option Sto := match m with
  | .obj k => match st[k]? with
    | some (.lst xs) => (ixN xs.length i).map fun j => st.set k (.lst (xs.set j x))
    | _ => none
  | _ => none
def sSetIx (o i e : ME) : MS := fun env st => bindE (e env st) env fun v st1 => bindE (noExc (o env st1)) env fun m st2 => bindE (noExc (i env st2)) env fun n st3 => match n with
  | .int j => match setAt m j v st3 with
    | some st4 => .nx env st4
    | none => .bad
  | _ => .bad
theorem post_noExcE {r : Res MV} {env : MEnv} {f : MV → Sto → Flw} {G : Gm} {A : Ad} {H : Hp} {W : WX} {D : Ends} (h : (bindE (noExc r) env f).post G A H W D) : ∃ m st, r = .ok m st ∧ (f m st).post G A H W D := by
  cases r with
  | ok m st => exact ⟨m, st, rfl, h⟩
  | exc c st => exact h.elim
  | bad => exact h.elim
section
variable {X : Cx} {W : WX} {pos pos2 : Pos}
theorem pms_setix {o i e : Expr} {mo mi me : ME} (he : PM X W e me) (ho : PM X W o mo) (hi : PM X W i mi)
    (hs : swapsWithSole [.Subscript o i pos] e pos2.line X.env = pure false := by rfl) (hw : swappedStores [.Subscript o i pos] e X.env = pure none := by rfl)
    (h1 : (assignEach [.Subscript o i pos] X.env).map (·.2) = [assign (.Subscript o i pos) X.env] := by rfl)
    (ha : ∀ v, assign (.Subscript o i pos) X.env v = (do
      let ov ← holding [v] (eval o X.env)
      let iv ← holding [v, ov] (eval i X.env)
      standAt pos
      holding [v, ov, iv] (setItem ov iv v)
      release [v, ov, iv] []) := by intro _; rfl) : PMS X W (.Assign [.Subscript o i pos] e pos2) (sSetIx mo mi me) :=
  PS_imp (ps_asg he (pg_sub ho hi set_list ha) hs hw h1) fun D σ H ⟨A, env, st, s, q, h⟩ => by
    refine inE s q (Ext.refl A H) ((post_bindE h).mono (fun mx st1 h1 A1 H1 x e1 s1 r1 => ?_) fun _ _ z => exP_of q z)
    obtain ⟨m, st2, eo, h2⟩ := post_noExcE h1
    refine inE s1 (q.ext e1) (Ext.refl A1 H1) (post_ok eo fun A2 H2 y e2 s2 r2 => ?_)
    obtain ⟨n, st3, ei, h3⟩ := post_noExcE h2
    refine inE s2 ((q.ext e1).ext e2) (Ext.refl A2 H2) (post_ok ei fun A3 H3 z e3 s3 r3 => ?_)
    split at h3
    · rename_i j
      split at h3
      · rename_i st4 es
        unfold setAt at es
        split at es
        · rename_i kk
          split at es
          · rename_i xs ek
            have r23 := r2.ext e3
            cases r23 with
            | @obj a _ hk =>
              cases s3.ob kk a _ hk ek with
              | @lst vs _ hH hr =>
                cases ej : ixN xs.length j with
                | none => rw [ej] at es; cases es
                | some jj =>
                  rw [ej] at es
                  cases es
                  refine ⟨a, vs, j, jj, rfl, r3.int_inv, hH, by rw [hr.length]; exact ej, ?_⟩
                  have e4 : Ext A3 H3 A3 (upd H3 a (.lst (vs.set jj x))) := Ext.set s3 (List.mem_of_getElem? hk)
                  exact h3 A3 _ σ (((e1.trans e2).trans e3).trans e4) (s3.set hk (hr.set jj ((r1.ext e2).ext e3))) ((((q.ext e1).ext e2).ext e3).ext e4)
          · cases es
        · cases es
      · exact h3.elim
    · exact h3.elim
end
end MR

/-! zip and enumerate over what can be walked (tuples, lists, texts): by the kit's iterators of any kind (Draws) -/
namespace MR
open PySem L2
open PyProof.Rows (Call_)

/-- what an iterator at it over one source gives: n items, as long as Ok stands -/
structure SrcOk (P : Program) (w : World) (K : PySem.W.Frag) (it : Addr) (far : List Addr) (tn : Nat → Heap → Prop) (n : Nat) (Ok : Hp → Prop) (yv : Nat → V → Prop) : Prop where
  obj : ∀ i h, tn i h → ∃ o, h.get? it = some o ∧ ∀ v, o.data ≠ .cell v
  keep : ∀ i h h', tn i h → (∀ o, h.get? it = some o → h'.get? it = some o) → tn i h'
  draw : ∀ (X : Cx), X.prog = P → X.w = w → X.K = K → X.calm = true → ∀ (pins : List (Addr × Obj)) (s : Shared) (σ : L2.St) (H : Hp), Inv X pins σ H s → Ok H →
    ∃ (Pu : Nat → Value → Prop) (St : Nat → Heap → Prop), Draws P w X.A.in1 it (it :: far) n Pu St ∧ (∀ i, tn i s.heap → St i s.heap) ∧ (∀ i h', St i h' → tn i h') ∧ ∀ i u, Pu i u → ∃ x, RelV x u ∧ yv i x
/-- the value x can be walked -/
structure Starts (X : Cx) (x : V) (n : Nat) (Ok : Hp → Prop) (yv : Nat → V → Prop) : Prop where
  run : ∀ (pins : List (Addr × Obj)) (s : Shared) (σ : L2.St) (H : Hp) (u : Value), Inv X pins σ H s → RelV x u → Ok H → ∃ (o : Obj) (Hh : Heap → Prop) (far : List Addr), Begins u o Hh ∧ Hh s.heap ∧ (∀ b ∈ far, b < s.heap.objs.size) ∧
    ∀ it, it ∉ far → ∃ tn : Nat → Heap → Prop, (∀ h, h.get? it = some o → tn 0 h) ∧ SrcOk X.prog X.w X.K it far tn n Ok yv

theorem starts_tup {X : Cx} {a : Addr} {xs : List V} : Starts X (.ref a) xs.length (fun H => SqT X.K H a xs) (fun i v => xs[i]? = some v) where
  run := fun pins s σ H u I r hq => by
    cases r
    obtain ⟨its, rv, p, hz⟩ := I.tuple hq
    have pt : s.heap.IsTuple a its.toArray := p
    have la : a < s.heap.objs.size := by obtain ⟨o, e, _⟩ := id pt; exact Heap.lt_size e
    refine ⟨_, _, [a], begins_tuple a its.toArray, pt, fun b hb => by rw [List.mem_singleton.mp hb]; exact la, fun it hit => ⟨fun i h => h.IsTupleIter it a i, fun h e => ⟨_, e, rfl, rfl⟩, ?_⟩⟩
    refine ⟨fun i h st => ?_, fun i h h' st k => st.at fun o e => k o e, ?_⟩
    · obtain ⟨o, e, c, d⟩ := st
      exact ⟨o, e, fun v z => by rw [d] at z; cases z⟩
    · intro X' hP hw hK hc pins' s' σ' H' I' hq'
      rw [← hP, ← hw]
      rw [← hK] at hq'
      obtain ⟨its', rv', p', _⟩ := I'.tuple hq'
      have pt' : s'.heap.IsTuple a its'.toArray := p'
      have hsz : its'.toArray.size = xs.length := by rw [List.size_toArray]; exact rv'.length.symm
      rw [← hsz]
      refine ⟨_, _, Draws.tuple (show X'.A.in1.handled = none from I'.ok.hd hc) it a (fun z => hit (by rw [z]; exact List.mem_cons_self)) its'.toArray, fun i st => ⟨st, pt'⟩, fun i h' st => st.1, fun i u hu => ?_⟩
      have hu' : its'[i]? = some u := by simpa using hu
      have hi : i < xs.length := by rw [rv'.length]; exact (List.getElem?_eq_some_iff.mp hu').1
      obtain ⟨u2, e2, r2⟩ := rv'.get (List.getElem?_eq_getElem hi)
      rw [hu'] at e2
      cases e2
      exact ⟨_, r2, List.getElem?_eq_getElem hi⟩
theorem starts_list {X : Cx} {a : Addr} {xs : List V} : Starts X (.ref a) xs.length (fun H => SqL X.K H a xs) (fun i v => xs[i]? = some v) where
  run := fun pins s σ H u I r hq => by
    cases r
    obtain ⟨its, rv, p, hz⟩ := I.list hq
    have pt : s.heap.IsList a its.toArray := p.isList
    have la : a < s.heap.objs.size := p.lt
    refine ⟨_, _, [a], begins_list a its.toArray, pt, fun b hb => by rw [List.mem_singleton.mp hb]; exact la, fun it hit => ⟨fun i h => h.IsListIter it a i, fun h e => ⟨_, e, rfl, rfl⟩, ?_⟩⟩
    refine ⟨fun i h st => ?_, fun i h h' st k => st.at fun o e => k o e, ?_⟩
    · obtain ⟨o, e, c, d⟩ := st
      exact ⟨o, e, fun v z => by rw [d] at z; cases z⟩
    · intro X' hP hw hK hc pins' s' σ' H' I' hq'
      rw [← hP, ← hw]
      rw [← hK] at hq'
      obtain ⟨its', rv', p', _⟩ := I'.list hq'
      have hsz : its'.toArray.size = xs.length := by rw [List.size_toArray]; exact rv'.length.symm
      rw [← hsz]
      refine ⟨_, _, Draws.list (show X'.A.in1.handled = none from I'.ok.hd hc) it a (fun z => hit (by rw [z]; exact List.mem_cons_self)) its'.toArray, fun i st => ⟨st, p'.isList⟩, fun i h' st => st.1, fun i u hu => ?_⟩
      have hu' : its'[i]? = some u := by simpa using hu
      have hi : i < xs.length := by rw [rv'.length]; exact (List.getElem?_eq_some_iff.mp hu').1
      obtain ⟨u2, e2, r2⟩ := rv'.get (List.getElem?_eq_getElem hi)
      rw [hu'] at e2
      cases e2
      exact ⟨_, r2, List.getElem?_eq_getElem hi⟩
theorem starts_text {X : Cx} {z : Str} : Starts X (.str z) z.cps.size (fun _ => True) (fun i v => ∃ c, z.cps[i]? = some c ∧ v = .str ⟨#[c]⟩) where
  run := fun pins s σ H u I r _ => by
    obtain ⟨t, rfl⟩ := r
    refine ⟨_, _, [], begins_text z t, trivial, (fun b hb => by cases hb), fun it _ => ⟨fun i h => h.IsStrIter it (strIterType z) z t i, fun h e => ⟨_, e, rfl, rfl⟩, ?_⟩⟩
    refine ⟨fun i h st => ?_, fun i h h' st k => let ⟨o, ho, r⟩ := st; ⟨o, k o ho, r⟩, ?_⟩
    · obtain ⟨o, e, c, d⟩ := st
      exact ⟨o, e, fun v z => by rw [d] at z; cases z⟩
    · intro X' hP hw hK hc pins' s' σ' H' I' _
      rw [← hP, ← hw]
      exact ⟨_, _, Draws.text (show X'.A.in1.handled = none from I'.ok.hd hc) it z t, fun i st => st, fun i h' st => st, fun i u ⟨c, t', e, eu⟩ => ⟨.str ⟨#[c]⟩, by rw [eu]; exact ⟨t', rfl⟩, c, e, rfl⟩⟩

/-! ### zip(a, b) -/
def ItP2 (n1 n2 : Nat) (Ok1 Ok2 : Hp → Prop) (yv1 yv2 : Nat → V → Prop) : It :=
  ⟨fun i H => Ok1 H ∧ Ok2 H ∧ i < n1 ∧ i < n2, fun i H v H' => ∃ T x y, v = .ref T ∧ H T = none ∧ H' = upd H T (.tup [x, y]) ∧ yv1 i x ∧ yv2 i y, fun i H => Ok1 H ∧ Ok2 H ∧ i ≤ n1 ∧ i ≤ n2 ∧ (i = n1 ∨ i = n2)⟩
theorem turn_zip2 {P : Program} {w : World} {K : PySem.W.Frag} {elts : List Expr} {kk : Nat} {tpos : Pos} {z TI TO i1 i2 : Addr} {far1 far2 : List Addr} {tn1 tn2 : Nat → Heap → Prop} {n1 n2 : Nat} {Ok1 Ok2 : Hp → Prop} {yv1 yv2 : Nat → V → Prop}
    (D : ZipSep2 z TI TO i1 i2 (i1 :: far1) (i2 :: far2)) (S1 : SrcOk P w K i1 far1 tn1 n1 Ok1 yv1) (S2 : SrcOk P w K i2 far2 tn2 n2 Ok2 yv2) :
    Turn P w K (.Tuple elts kk tpos) (ItP2 n1 n2 Ok1 Ok2 yv1 yv2) [z, TI, TO, i1, i2] z (fun i h => IsZip h z TI TO .none ∧ IsPair h TI (.ref i1) (.ref i2) ∧ (∃ x y, IsPair h TO x y) ∧ tn1 i h ∧ tn2 i h) where
  mem := by simp
  obj := fun i h st c hc => by
    obtain ⟨hz, hTI, ⟨x, y, hTO⟩, h1, h2⟩ := st
    have e' : c = z ∨ c = TI ∨ c = TO ∨ c = i1 ∨ c = i2 := by simpa using hc
    rcases e' with q | q | q | q | q
    · rw [q]; exact ⟨_, hz, fun v q => nomatch q⟩
    · rw [q]; exact ⟨_, hTI, fun v q => nomatch q⟩
    · rw [q]; exact ⟨_, hTO, fun v q => nomatch q⟩
    · rw [q]; exact S1.obj i h h1
    · rw [q]; exact S2.obj i h h2
  keep := fun i h h' st k => by
    obtain ⟨hz, hTI, ⟨x, y, hTO⟩, h1, h2⟩ := st
    exact ⟨k z (by simp) _ hz, k TI (by simp) _ hTI, ⟨x, y, k TO (by simp) _ hTO⟩, S1.keep i h h' h1 fun o q => k i1 (by simp) o q, S2.keep i h h' h2 fun o q => k i2 (by simp) o q⟩
  item := by
    intro X hP hw hK hc i pins s σ H E I hf st hg
    subst hP hw hK
    obtain ⟨hz, hTI, ⟨x0, y0, hTO⟩, h1, h2⟩ := st
    obtain ⟨ok1, ok2, l1, l2⟩ := hg
    obtain ⟨P1, St1, D1, a1, b1, v1⟩ := S1.draw X rfl rfl rfl hc pins s σ H I ok1
    obtain ⟨P2, St2, D2, a2, b2, v2⟩ := S2.draw X rfl rfl rfl hc pins s σ H I ok2
    have hzl : z < s.heap.objs.size := Heap.lt_size hz
    refine wpAny_pyNext_zipD2_item D D1 D2 hz hTI hTO (a1 i h1) (a2 i h2) l1 l2 fun u u2 h' tk p1 p2 z' TO' h1' h2' hT hsz hk => ?_
    obtain ⟨x, ru, y1⟩ := v1 i u p1
    obtain ⟨y, ru2, y2⟩ := v2 i u2 p2
    refine ⟨_, rfl, wpAny_letOwnedTupleGo_zip (s := { s with heap := h', toks := tk }) z' fun h'' z'' sb => ?_⟩
    have hT2 : h''.get? s.heap.objs.size = some { cls := .type "tuple", data := .seq #[u, u2] } := (sb.2 _ (Nat.ne_of_gt hzl)).trans hT
    have new : ObjOk X.prog X.w (upd H s.heap.objs.size (.tup [x, y])) h'' s.heap.objs.size (.tup [x, y]) :=
      ⟨by show 2 ≤ sizeLine; decide, [u, u2], .cons ru (.cons ru2 .nil), ⟨_, hT2, rfl, _, rfl⟩⟩
    have I1 : Inv X pins σ (upd H s.heap.objs.size (.tup [x, y])) { s with heap := h'', toks := tk } :=
      I.turnedNew (t' := tk) (ch := [z, TI, TO, i1, i2]) (fun c o hb q => (sb.2 c (fun q' => hb (by simp [q']))).trans (hk c o (fun q' => hb (by simp [q'])) (fun q' => hb (by simp [q'])) (fun q' => hb (by simp [q'])) (fun q' => hb (by simp [q'])) q)) hf (Nat.le_refl _) new
    refine ⟨.ref s.heap.objs.size, _, I1, rfl, ⟨_, x, y, rfl, I.hok.fresh (Nat.le_refl _), rfl, y1, y2⟩, ⟨z'', ?_, ⟨u, u2, ?_⟩, ?_, ?_⟩, fun c hcm => ?_⟩
    · exact (sb.2 _ D.TIz).trans (hk _ _ D.TIz D.TITO D.TIi1 D.TIi2 hTI)
    · exact (sb.2 _ D.TOz).trans TO'
    · exact b1 _ _ (D1.over h1' sb D.zf1)
    · exact b2 _ _ (D2.over h2' sb D.zf2)
    · have hlt : c < s.heap.objs.size := by
        have e' : c = z ∨ c = TI ∨ c = TO ∨ c = i1 ∨ c = i2 := by simpa using hcm
        rcases e' with q | q | q | q | q
        · rw [q]; exact hzl
        · rw [q]; exact Heap.lt_size hTI
        · rw [q]; exact Heap.lt_size hTO
        · rw [q]; obtain ⟨_, e1, _⟩ := S1.obj i _ h1; exact Heap.lt_size e1
        · rw [q]; obtain ⟨_, e2, _⟩ := S2.obj i _ h2; exact Heap.lt_size e2
      rw [upd_ne (Nat.ne_of_lt hlt)]
      exact (hf c hcm).1
  done := by
    intro X hP hw hK hc i pins s σ H E I hf st hg
    subst hP hw hK
    obtain ⟨hz, hTI, ⟨x0, y0, hTO⟩, h1, h2⟩ := st
    obtain ⟨ok1, ok2, l1, l2, he⟩ := hg
    obtain ⟨P1, St1, D1, a1, b1, v1⟩ := S1.draw X rfl rfl rfl hc pins s σ H I ok1
    obtain ⟨P2, St2, D2, a2, b2, v2⟩ := S2.draw X rfl rfl rfl hc pins s σ H I ok2
    exact wpAny_pyNext_zipD2_end D D1 D2 hz hTI hTO (a1 i h1) (a2 i h2) l1 l2 he fun h' tk hk => ⟨rfl, I.turnedL (t' := tk) (ch := [z, TI, TO, i1, i2]) (fun c o hb q =>
      hk c o (fun q' => hb (by simp [q'])) (fun q' => hb (by simp [q'])) (fun q' => hb (by simp [q'])) (fun q' => hb (by simp [q'])) q) hf⟩
  self := fun A i s Q E st h => wpAny_pyIter_zip st.1 h
def iZip2 (X : Cx) (ta : TA) : TI := fun σ H R => ta σ H fun vs H1 => ∃ x y n1 n2 Ok1 Ok2 yv1 yv2, vs = [x, y] ∧ Starts X x n1 Ok1 yv1 ∧ Starts X y n2 Ok2 yv2 ∧ Ok1 H1 ∧ Ok2 H1 ∧ R (ItP2 n1 n2 Ok1 Ok2 yv1 yv2) H1
theorem pi_zip2 {X : Cx} {e e2 : Expr} {ta : TA} {p pos tpos : Pos} {elts : List Expr} {kk : Nat} (hg : Gl X "zip") (hm : X.mg "zip" = none) (ha : PA X [e, e2] ta)
    (hs : starEach [e, e2] X.env = (false, eval e X.env) :: starEach [e2] X.env := by rfl) (hpl : (backTo pos (starEach [e2] X.env)).any (·.1) = false := by rfl) :
    PI X (.Tuple elts kk tpos) (.Call (.Name "zip" p) [e, e2] [] pos) (iZip2 X ta) := by
  refine ⟨fun pins s σ H R I h => ?_⟩
  refine Call_ (ld_blt I hg hm PyProof.Rows.boot_zip (PyProof.Rows.callWith_type1 (thn (ha.run pos pins s σ H _ I h) fun us s1 ⟨vs, H1, I1, r1, q1⟩ => ?_) hs hpl))
  obtain ⟨x, y, n1, n2, Ok1, Ok2, yv1, yv2, ex, S1, S2, ok1, ok2, q⟩ := q1
  subst ex
  cases r1 with
  | cons r rr =>
    cases rr with
    | cons r' rr =>
      cases rr
      obtain ⟨o1, Hh1, far1, B1, hh1, lt1, mk1⟩ := S1.run pins s1 σ H1 _ I1 r ok1
      obtain ⟨o2, Hh2, far2, B2, hh2, lt2, mk2⟩ := S2.run pins s1 σ H1 _ I1 r' ok2
      refine zip_begins2 B1 B2 hh1 hh2 fun h' hz hTI hTO h1 h2 hsz hk => wpAny_pyIter_zip hz ?_
      obtain ⟨tn1, s01, T1⟩ := mk1 s1.heap.objs.size fun m => Nat.lt_irrefl _ (lt1 _ m)
      obtain ⟨tn2, s02, T2⟩ := mk2 (s1.heap.objs.size + 1) fun m => Nat.not_succ_lt_self (lt2 _ m)
      have I2 : Inv X pins σ H1 { s1 with heap := h' } := I1.kept (t' := s1.toks) hk
      refine ⟨s1.heap.objs.size + 4, [s1.heap.objs.size + 4, s1.heap.objs.size + 2, s1.heap.objs.size + 3, s1.heap.objs.size, s1.heap.objs.size + 1], _, _, H1, rfl, I2, turn_zip2 (zip_sep2 lt1 lt2) T1 T2, ⟨hz, hTI, ⟨_, _, hTO⟩, s01 _ h1, s02 _ h2⟩, fun c hcm => ?_, q⟩
      have e' : c = s1.heap.objs.size + 4 ∨ c = s1.heap.objs.size + 2 ∨ c = s1.heap.objs.size + 3 ∨ c = s1.heap.objs.size ∨ c = s1.heap.objs.size + 1 := by simpa using hcm
      have hle : s1.heap.objs.size ≤ c := by
        rcases e' with z | z | z | z | z
        · rw [z]; exact Nat.le_add_right _ _
        · rw [z]; exact Nat.le_add_right _ _
        · rw [z]; exact Nat.le_add_right _ _
        · rw [z]; exact Nat.le_refl _
        · rw [z]; exact Nat.le_add_right _ _
      exact I1.fpOk hle (I1.hok.fresh hle)

/-! ### enumerate(a) -/
def ItE1 (n : Nat) (Ok : Hp → Prop) (yv : Nat → V → Prop) : It :=
  ⟨fun i H => Ok H ∧ i < n, fun i H v H' => ∃ T x, v = .ref T ∧ H T = none ∧ H' = upd H T (.tup [.int (i : Nat), x]) ∧ yv i x, fun i H => Ok H ∧ i = n⟩
theorem turn_enum1 {P : Program} {w : World} {K : PySem.W.Frag} {elts : List Expr} {kk : Nat} {tpos : Pos} {e it : Addr} {far : List Addr} {tn : Nat → Heap → Prop} {n : Nat} {Ok : Hp → Prop} {yv : Nat → V → Prop}
    (hei : e ≠ it) (hef : e ∉ far) (S1 : SrcOk P w K it far tn n Ok yv) :
    Turn P w K (.Tuple elts kk tpos) (ItE1 n Ok yv) [e, it] e (fun i h => (∃ old, IsEnum h e it ((i : Nat) : Int) old) ∧ tn i h) where
  mem := by simp
  obj := fun i h st b hb => by
    obtain ⟨⟨old, he⟩, h1⟩ := st
    have e' : b = e ∨ b = it := by simpa using hb
    rcases e' with z | z
    · rw [z]; exact ⟨_, he, fun v q => nomatch q⟩
    · rw [z]; exact S1.obj i h h1
  keep := fun i h h' st k => let ⟨⟨old, he⟩, hi⟩ := st; ⟨⟨old, k e (by simp) _ he⟩, S1.keep i h h' hi fun o q => k it (by simp) o q⟩
  item := by
    intro X hP hw hK hc i pins s σ H E I hf st hg
    subst hP hw hK
    obtain ⟨⟨old, he⟩, h1⟩ := st
    obtain ⟨ok, hlt⟩ := hg
    obtain ⟨P1, St1, D1, a1, b1, v1⟩ := S1.draw X rfl rfl rfl hc pins s σ H I ok
    have hel : e < s.heap.objs.size := Heap.lt_size he
    have hil : it < s.heap.objs.size := by obtain ⟨_, q, _⟩ := S1.obj i _ h1; exact Heap.lt_size q
    have hefp : e ∉ it :: far := fun m => by
      rcases List.mem_cons.mp m with q | q
      · exact hei q
      · exact hef q
    refine wpAny_pyNext_enum_itemD D1 he (a1 i h1) hlt hei hefp fun u h' tk p ho st' hT hsz hk => ?_
    obtain ⟨x, ru, y1⟩ := v1 i u p
    refine ⟨_, rfl, wpAny_letOwnedTupleGo_enum (s := { s with heap := h', toks := tk + 1 }) ho fun h'' he' sb => ?_⟩
    have hT2 : h''.get? s.heap.objs.size = some { cls := .type "tuple", data := .seq #[.int i tk, u] } := (sb.2 _ (Nat.ne_of_gt hel)).trans hT
    have new : ObjOk X.prog X.w (upd H s.heap.objs.size (.tup [.int (i : Nat), x])) h'' s.heap.objs.size (.tup [.int (i : Nat), x]) :=
      ⟨by show 2 ≤ sizeLine; decide, [.int i tk, u], .cons ⟨_, rfl⟩ (.cons ru .nil), ⟨_, hT2, rfl, _, rfl⟩⟩
    have I1 : Inv X pins σ (upd H s.heap.objs.size (.tup [.int (i : Nat), x])) { s with heap := h'', toks := tk + 1 } :=
      I.turnedNew (ch := [e, it]) (fun b ob hb q => (sb.2 b (fun z => hb (by simp [z]))).trans (hk b ob (fun z => hb (by simp [z])) (fun z => hb (by simp [z])) q)) hf (Nat.le_refl _) new
    refine ⟨.ref s.heap.objs.size, _, I1, rfl, ⟨_, x, rfl, I.hok.fresh (Nat.le_refl _), rfl, y1⟩, ⟨⟨u, ?_⟩, b1 _ _ (D1.over st' sb hefp)⟩, fun b hb => ?_⟩
    · have e1 : ((i + 1 : Nat) : Int) = (i : Int) + 1 := by omega
      rw [e1]; exact he'
    · have hb' : b < s.heap.objs.size := by
        have e' : b = e ∨ b = it := by simpa using hb
        rcases e' with z | z
        · rw [z]; exact hel
        · rw [z]; exact hil
      rw [upd_ne (Nat.ne_of_lt hb')]
      exact (hf b hb).1
  done := by
    intro X hP hw hK hc i pins s σ H E I hf st hg
    subst hP hw hK
    obtain ⟨⟨old, he⟩, h1⟩ := st
    obtain ⟨ok, rfl⟩ := hg
    obtain ⟨P1, St1, D1, a1, b1, v1⟩ := S1.draw X rfl rfl rfl hc pins s σ H I ok
    obtain ⟨f0, f1, f2, f3, f4, f5⟩ := hf it (by simp)
    exact wpAny_pyNext_enum_endD D1 he (a1 _ h1) fun h' eb => ⟨rfl, I.turned (t' := s.toks) (fun b o hb q => eb b o hb q) f0 f1 f3 f4 f5⟩
  self := fun A i s Q E st h => let ⟨⟨_, he⟩, _⟩ := st; wpAny_pyIter_enum he h
set_option maxHeartbeats 1000000 in
theorem meets_enumerate_new1 {v : Value} {o : Obj} {H : Heap → Prop} (B : Begins v o H) :
    Meets (Builtin.«enumerate.__new__» ⟨[.type "enumerate", v], []⟩) (fun _ R s => H s.heap ∧
      R (.ok (.ret (.ref (s.heap.push o).objs.size))) { s with heap := (s.heap.push o).push { cls := .type "enumerate", data := .fields #[.none, .bool false, .ref s.heap.objs.size, rawInt 0, .none, .none] } }) :=
  .of_wp fun prog w A R s h => by
    obtain ⟨hp, g, d, tk, os⟩ := s; obtain ⟨h1, h⟩ := h
    have hsub := sub_enumerate
    have q1 : ∀ {A' : Around} {E : Value → Shared → Prop} {Q : Value → Shared → Prop}, Q (.ref hp.objs.size) ⟨hp.push o, g, d, tk, os⟩ → wpAny (model prog w) A' (pyIter v) Q E ⟨hp, g, d, tk, os⟩ :=
      fun q => B.iter prog w _ _ ⟨hp, g, d, tk, os⟩ _ h1 q
    wp_walk using q1
    refine wpAny_stack_any fun st => wpAny_pure ?_
    split
    · rename_i c _ _ _ _ _
      cases (c == Value.type "enumerate")
      · wp_walk using q1
        exact ⟨_, rfl, h⟩
      · wp_walk using q1
        exact ⟨_, rfl, h⟩
    · wp_walk using q1
      exact ⟨_, rfl, h⟩
theorem enum_begins1 {prog : Program} {w : World} {A : Around} {E : Value → Shared → Prop} {s : Shared} {v : Value} {o : Obj} {H : Heap → Prop} {Q : Value → Shared → Prop} (B : Begins v o H) (h1 : H s.heap)
    (h : ∀ h', IsEnum h' (s.heap.objs.size + 1) s.heap.objs.size 0 .none → h'.get? s.heap.objs.size = some o → h'.objs.size = s.heap.objs.size + 2 →
      (∀ b o, s.heap.get? b = some o → h'.get? b = some o) → Q (.ref (s.heap.objs.size + 1)) { s with heap := h' }) :
    wpAny (model prog w) A (call (.type "enumerate") [v]) Q E s := by
  refine callType_new F.called_enumerate (by decide) (F.typeCall_enumerate_1 _) (F.newCall_enumerate_1 _) (fun obj => F.args_object_init_2 obj _) F.entry_enumerate_new
    (meets_enumerate_new1 B) ⟨h1, ?_⟩
  have hz : (s.heap.push o).objs.size = s.heap.objs.size + 1 := Heap.size_push ..
  show _ ∧ _
  rw [hz]
  have he : IsEnum ((s.heap.push o).push { cls := .type "enumerate", data := .fields #[.none, .bool false, .ref s.heap.objs.size, rawInt 0, .none, .none] }) (s.heap.objs.size + 1) s.heap.objs.size 0 .none := by
    have := Heap.get?_push_size (s.heap.push o) (o := { cls := .type "enumerate", data := .fields #[.none, .bool false, .ref s.heap.objs.size, rawInt 0, .none, .none] }) rfl
    rw [hz] at this; exact this
  refine ⟨⟨_, he, rfl⟩, h _ he (Heap.get?_push_of_some _ (Heap.get?_push_size _ B.free)) (by rw [Heap.size_push, hz]) fun b o x => Heap.get?_push_of_some _ (Heap.get?_push_of_some _ x)⟩
def iEnum1 (X : Cx) (ta : TA) : TI := fun σ H R => ta σ H fun vs H1 => ∃ x n Ok yv, vs = [x] ∧ Starts X x n Ok yv ∧ Ok H1 ∧ R (ItE1 n Ok yv) H1
theorem pi_enum1 {X : Cx} {e : Expr} {ta : TA} {p pos tpos : Pos} {elts : List Expr} {kk : Nat} (hg : Gl X "enumerate") (hm : X.mg "enumerate" = none) (ha : PA X [e] ta) (hs : starEach [e] X.env = [(false, eval e X.env)] := by rfl) :
    PI X (.Tuple elts kk tpos) (.Call (.Name "enumerate" p) [e] [] pos) (iEnum1 X ta) := by
  refine ⟨fun pins s σ H R I h => ?_⟩
  refine Call_ (ld_blt I hg hm PyProof.Rows.boot_enumerate (PyProof.Rows.callWith_type1 (thn (ha.run pos pins s σ H _ I h) fun us s1 ⟨vs, H1, I1, r1, q1⟩ => ?_) hs rfl))
  obtain ⟨x, n, Ok, yv, ex, S1, ok, q⟩ := q1
  subst ex
  cases r1 with
  | cons r rr =>
    cases rr
    obtain ⟨o1, Hh1, far1, B1, hh1, lt1, mk1⟩ := S1.run pins s1 σ H1 _ I1 r ok
    refine enum_begins1 B1 hh1 fun h' he h1 hsz hk => wpAny_pyIter_enum he ?_
    obtain ⟨tn1, s01, T1⟩ := mk1 s1.heap.objs.size fun m => Nat.lt_irrefl _ (lt1 _ m)
    have I2 : Inv X pins σ H1 { s1 with heap := h' } := I1.kept (t' := s1.toks) hk
    refine ⟨s1.heap.objs.size + 1, [s1.heap.objs.size + 1, s1.heap.objs.size], _, _, H1, rfl, I2, turn_enum1 (Nat.succ_ne_self _) (fun m => Nat.not_succ_lt_self (lt1 _ m)) T1, ⟨⟨.none, he⟩, s01 _ h1⟩, fun b hb => ?_, q⟩
    have e' : b = s1.heap.objs.size + 1 ∨ b = s1.heap.objs.size := by simpa using hb
    have hle : s1.heap.objs.size ≤ b := by
      rcases e' with z | z
      · rw [z]; exact Nat.le_add_right _ _
      · rw [z]; exact Nat.le_refl _
    exact I1.fpOk hle (I1.hok.fresh hle)

/-! ### mirrors -/
/-- what walks over m give -/
def srcOf (m : MV) : Option (List MV) := match m with
  | .tup xs => some xs
  | .lst xs => some xs
  | .str z => some (z.cps.toList.map fun c => .str ⟨#[c]⟩)
  | .scr ns => some (ns.map .int)
  | _ => none
theorem src_rep {X : Cx} {A : Ad} {H : Hp} {v : V} {m : MV} {xs : List MV} (r : Rep (gmOf X) A H v m) (h : srcOf m = some xs) :
    ∃ n Ok yv, Starts X v n Ok yv ∧ n = xs.length ∧ (∀ A' H', ExtW A H A' H' → Ok H' ∧ ∀ i x, yv i x → ∃ y, xs[i]? = some y ∧ Rep (gmOf X) A' H' x y) := by
  cases r with
  | @tup a vs ms f r =>
    cases h
    refine ⟨_, _, _, starts_tup, r.length, fun A' H' e => ⟨(f.extW e).sq, fun i x hx => ?_⟩⟩
    exact (r.extW e).at' hx
  | @lst a vs ms f n r =>
    cases h
    refine ⟨_, _, _, starts_list, r.length, fun A' H' e => ⟨SqL.of (e.keep _ _ n f), fun i x hx => ?_⟩⟩
    exact (r.extW e).at' hx
  | str z =>
    cases h
    refine ⟨_, _, _, starts_text, by simp, fun A' H' e => ⟨trivial, fun i x ⟨c, ec, ex⟩ => ⟨.str ⟨#[c]⟩, ?_, by rw [ex]; exact .str _⟩⟩⟩
    have : z.cps.toList[i]? = some c := by simpa using ec
    rw [List.getElem?_map, this]
    rfl
  | @scr a ns f =>
    cases h
    refine ⟨_, _, _, starts_list, by simp, fun A' H' e => ⟨(f.extW e).sq, fun i x hx => ?_⟩⟩
    rw [List.getElem?_map] at hx
    cases e1 : ns[i]? with
    | none => rw [e1] at hx; cases hx
    | some k => rw [e1] at hx; cases hx; exact ⟨.int k, by rw [List.getElem?_map, e1]; rfl, .int k⟩
  | _ => cases h
def zipM (xs ys : List MV) : List MV := List.zipWith (fun a b => .tup [a, b]) xs ys
def iZipM (r : MA) : MA := fun env st => (r env st).bind fun ms st' => match ms with
  | [a, b] => match srcOf a, srcOf b with
    | some xs, some ys => .ok (zipM xs ys) st'
    | _, _ => .bad
  | _ => .bad
def enumFrom (k : Nat) : List MV → List MV
  | [] => []
  | x :: xs => .tup [.int k, x] :: enumFrom (k + 1) xs
def iEnumM (r : MA) : MA := fun env st => (r env st).bind fun ms st' => match ms with
  | [a] => match srcOf a with
    | some xs => .ok (enumFrom 0 xs) st'
    | none => .bad
  | _ => .bad
theorem enumFrom_length (k : Nat) : ∀ xs : List MV, (enumFrom k xs).length = xs.length
  | [] => rfl
  | x :: xs => by rw [enumFrom, List.length_cons, List.length_cons, enumFrom_length (k + 1) xs]
theorem enumFrom_get : ∀ (xs : List MV) (k i : Nat) (y : MV), xs[i]? = some y → (enumFrom k xs)[i]? = some (.tup [.int ((k + i : Nat) : Int), y])
  | [], k, i, y, h => by simp at h
  | x :: xs, k, 0, y, h => by simp at h; subst h; rfl
  | x :: xs, k, i + 1, y, h => by
    have := enumFrom_get xs (k + 1) i y (by simpa using h)
    rw [enumFrom, List.getElem?_cons_succ, this]
    congr 4
    omega
theorem pair_new {G : Gm} {A : Ad} {H : Hp} {st : Sto} {T : Addr} {x y : V} {mx my : MV} (s : SR G A H st) (hT : H T = none) (rx : Rep G A H x mx) (ry : Rep G A H y my) :
    Ext A H A (upd H T (.tup [x, y])) ∧ SR G A (upd H T (.tup [x, y])) st ∧ Rep G A (upd H T (.tup [x, y])) (.ref T) (.tup [mx, my]) :=
  ⟨Ext.laid s hT, s.laid hT, .tup (.inl ⟨.inl upd_same, s.new_out hT⟩) ((RepAll.cons rx (.cons ry .nil)).ext (Ext.laid s hT))⟩
section
variable {X : Cx} {W : WX} {e e2 : Expr} {mr : MA} {p pos tpos : Pos} {elts : List Expr} {kk : Nat}
theorem pmi_zip (hm : X.mg "zip" = none) (ha : PMA X W [e, e2] mr) (hg : Gl X "zip" := by rfl)
    (hs : starEach [e, e2] X.env = (false, eval e X.env) :: starEach [e2] X.env := by rfl) (hpl : (backTo pos (starEach [e2] X.env)).any (·.1) = false := by rfl) :
    PMI X W (.Tuple elts kk tpos) (.Call (.Name "zip" p) [e, e2] [] pos) (iZipM mr) := PI_imp (pi_zip2 hg hm ha hs hpl) fun σ H R ⟨A, env, st, s, q, h⟩ => by
  unfold iZipM at h
  rw [Res.post_bind] at h
  refine inA s q (Ext.refl A H) (h.mono (fun ms st1 h1 A1 H1 vs e1 s1 r1 => ?_) fun _ _ z => z)
  split at h1
  · rename_i a b
    split at h1
    · rename_i xs ys ex ey
      cases r1 with
      | cons ra rr =>
        cases rr with
        | cons rb rr =>
          cases rr
          obtain ⟨n1, Ok1, yv1, S1, l1, k1⟩ := src_rep ra ex
          obtain ⟨n2, Ok2, yv2, S2, l2, k2⟩ := src_rep rb ey
          refine ⟨_, _, n1, n2, Ok1, Ok2, yv1, yv2, rfl, S1, S2, (k1 A1 H1 (Ext.refl _ _).w).1, (k2 A1 H1 (Ext.refl _ _).w).1, h1 A1 H1 _ e1 s1 fun A' H' st' x' s' => ?_⟩
          obtain ⟨o1, c1⟩ := k1 A' H' x'
          obtain ⟨o2, c2⟩ := k2 A' H' x'
          have hl : (zipM xs ys).length = min n1 n2 := by rw [zipM, List.length_zipWith, l1, l2]
          rw [hl]
          refine ⟨fun i hi => ⟨o1, o2, by omega, by omega⟩, ⟨o1, o2, by omega, by omega, by omega⟩, fun i x H2 hi y => ?_⟩
          obtain ⟨T, u, v, ex2, hT, e2, y1, y2⟩ := y
          subst ex2 e2
          obtain ⟨m1, em1, r1⟩ := c1 i u y1
          obtain ⟨m2, em2, r2⟩ := c2 i v y2
          obtain ⟨z1, z2, z3⟩ := pair_new s' hT r1 r2
          exact ⟨z1, z2, _, by rw [zipM, List.getElem?_zipWith, em1, em2], z3⟩
    · exact h1.elim
  · exact h1.elim
theorem pmi_enum (hm : X.mg "enumerate" = none) (ha : PMA X W [e] mr) (hg : Gl X "enumerate" := by rfl) (hs : starEach [e] X.env = [(false, eval e X.env)] := by rfl) :
    PMI X W (.Tuple elts kk tpos) (.Call (.Name "enumerate" p) [e] [] pos) (iEnumM mr) := PI_imp (pi_enum1 hg hm ha hs) fun σ H R ⟨A, env, st, s, q, h⟩ => by
  unfold iEnumM at h
  rw [Res.post_bind] at h
  refine inA s q (Ext.refl A H) (h.mono (fun ms st1 h1 A1 H1 vs e1 s1 r1 => ?_) fun _ _ z => z)
  split at h1
  · rename_i a
    split at h1
    · rename_i xs ex
      cases r1 with
      | cons ra rr =>
        cases rr
        obtain ⟨n1, Ok1, yv1, S1, l1, k1⟩ := src_rep ra ex
        refine ⟨_, n1, Ok1, yv1, rfl, S1, (k1 A1 H1 (Ext.refl _ _).w).1, h1 A1 H1 _ e1 s1 fun A' H' st' x' s' => ?_⟩
        obtain ⟨o1, c1⟩ := k1 A' H' x'
        have hl : (enumFrom 0 xs).length = n1 := by rw [enumFrom_length, l1]
        rw [hl]
        refine ⟨fun i hi => ⟨o1, hi⟩, ⟨o1, rfl⟩, fun i x H2 hi y => ?_⟩
        obtain ⟨T, u, ex2, hT, e2, y1⟩ := y
        subst ex2 e2
        obtain ⟨m1, em1, r1⟩ := c1 i u y1
        obtain ⟨z1, z2, z3⟩ := pair_new s' hT (.int (i : Nat)) r1
        have e3 := enumFrom_get xs 0 i m1 em1
        rw [Nat.zero_add] at e3
        exact ⟨z1, z2, _, e3, z3⟩
    · exact h1.elim
  · exact h1.elim
/-- range(a, b) -/
theorem pmi_rng2 {a b : Expr} {mr : MA} {tg : Expr} (hm : X.mg "range" = none) (ha : PMA X W [a, b] mr) (hg : Gl X "range" := by rfl) (hs : starEach [a, b] X.env = [(false, eval a X.env), (false, eval b X.env)] := by rfl) (hs2 : starEach [b] X.env = [(false, eval b X.env)] := by rfl) :
    PMI X W tg (.Call (.Name "range" p) [a, b] [] pos) (MR.iRng2 mr) :=
  PI_imp (pi_range2 hg hm ha hs hs2) fun σ H R ⟨A, env, st, s, q, h⟩ => by
    unfold MR.iRng2 at h
    rw [Res.post_bind] at h
    refine inA s q (Ext.refl A H) (h.mono (fun mx st1 h1 A1 H1 x e1 s1 r1 => ?_) fun _ _ z => z)
    split at h1
    · obtain ⟨hl, k⟩ := post_ite h1
      cases r1 with
      | cons r rs =>
        cases rs with
        | cons r2 rs =>
          cases rs
          cases r
          cases r2
          exact ⟨_, _, rfl, ⟨by omega, by omega, by omega, by omega⟩, k A1 H1 _ e1 s1 itm_rng⟩
    · exact h1.elim
/-- what is walked: a text, a tuple, a frozen list, the script -/
def iAny (a : ME) : MA := fun env st => (a env st).bind fun m st' => match srcOf m with
  | some xs => .ok xs st'
  | none => .bad
end
end MR

/-! sorted(set(xs)), xs a list of texts -/
namespace MR
open PySem L2 PyProof.Rows
abbrev tkind (P : Program) (w : World) : KeyKind P w Str := PySem.strKind P w
abbrev newSet (w : World) : Obj := { cls := .type "set", dict := none, data := .set #[] 0 (.fresh 0 0 (!w.params.followText "set-order")) }

def txtOf (e : Int × Value) : Str := match e.2 with | .str k _ => k | _ => Str.empty
def GoodT (P : Program) (w : World) (e : Int × Value) : Prop := ∃ k tk, e.2 = Value.str k tk ∧ e.1 = (tkind P w).hash k
/-- the set of texts at a: S its members, n their number -/
def SetT (P : Program) (w : World) (h : Heap) (a : Addr) (S : Str → Bool) (n : Nat) : Prop :=
  ∃ o es ep t, h.get? a = some o ∧ o.ExactSet ∧ o.data = .set es ep t ∧ (∀ e ∈ es.toList, GoodT P w e) ∧ (es.toList.map txtOf).Nodup ∧ (∀ k, S k = true ↔ k ∈ es.toList.map txtOf) ∧
    es.size < scanBound ∧ t.fits es.size = true ∧ es.size = n ∧ Ris t.place.toList ∧ (w.params.followText "set-order" = true ∨ t.led = true)
section
variable {P : Program} {w : World} {h h' : Heap} {a : Addr} {S : Str → Bool} {n : Nat}
theorem SetT.at (R : SetT P w h a S n) (k : ∀ o, h.get? a = some o → h'.get? a = some o) : SetT P w h' a S n := by
  obtain ⟨o, es, ep, t, ho, r⟩ := R
  exact ⟨o, es, ep, t, k o ho, r⟩
theorem SetT.congr {S' : Str → Bool} (R : SetT P w h a S n) (e : ∀ k, S' k = S k) : SetT P w h a S' n := by
  have q : S' = S := funext e
  rw [q]; exact R
theorem goodT_elems {l : List (Int × Value)} (g : ∀ e ∈ l, GoodT P w e) : ElemsOf (tkind P w) l := fun e he => by
  obtain ⟨k, tk, h1, h2⟩ := g e he
  exact ⟨⟨k, by rw [h1]; exact strKind_is P w k tk, h2⟩, by rw [h1] <;> rfl⟩
theorem goodT_is {e : Int × Value} (g : GoodT P w e) (k : Str) : (tkind P w).is k e.2 = true ↔ txtOf e = k := by
  obtain ⟨k0, tk, h1, _⟩ := g
  unfold txtOf
  rw [h1]
  constructor
  · intro q; exact ((tkind P w).inj _ _ _ q (strKind_is P w k0 tk)).symm
  · intro q; subst q; exact strKind_is P w k0 tk
theorem goodT_mem {l : List (Int × Value)} (g : ∀ e ∈ l, GoodT P w e) (k : Str) : k ∈ l.map txtOf ↔ ∃ e ∈ l, (tkind P w).is k e.2 = true := by
  rw [List.mem_map]
  constructor
  · rintro ⟨e, he, q⟩
    exact ⟨e, he, (goodT_is (g e he) k).2 q⟩
  · rintro ⟨e, he, q⟩
    exact ⟨e, he, (goodT_is (g e he) k).1 q⟩
end
section
variable {P : Program} {w : World} {A : Around} {E : Value → Shared → Prop} {s : Shared} {a : Addr} {S : Str → Bool} {n : Nat}
theorem setT_add_tail {g : Bool → Sem Unit} (hg : ∀ (b : Bool) (s₁ : Shared) (Q' : Unit → Shared → Prop), Q' () s₁ → wpAny (model P w) A (g b) Q' E s₁)
    {o : Obj} {es : Array (Int × Value)} {ep : Nat} {t : SetTable} (ho : s.heap.get? a = some o) (hex : o.ExactSet) (hd : o.data = .set es ep t)
    {es1 : Array (Int × Value)} {t2 : SetTable} {S' : Str → Bool} (g1 : ∀ e ∈ es1.toList, GoodT P w e) (nd1 : (es1.toList.map txtOf).Nodup) (m1 : ∀ k, S' k = true ↔ k ∈ es1.toList.map txtOf)
    (hb1 : es1.size < scanBound) (hf2 : t2.fits es1.size = true) (hr : Ris t2.place.toList) (hl : w.params.followText "set-order" = true ∨ t2.led = true) {wasDummy : Bool} {R : Option Bool → Shared → Prop}
    (hR : ∀ h', Heap.SameBut a s.heap h' → SetT P w h' a S' es1.size → R (some true) { s with heap := h' }) :
    wpAny (model P w) A (do
        storeSet a es1 t2
        if (!wasDummy && t2.tooFull) = true then do
            g (relayAll t2 es1 (SetTable.grown es1.size)).2.2
            storeSet a (relayAll t2 es1 (SetTable.grown es1.size)).1 (relayAll t2 es1 (SetTable.grown es1.size)).2.1
            pure (some true)
          else pure (some true)) R E s := by
  refine wpAny_bind (wpAny_storeSet_of ho hd ?_ (fits_of_scanBound hb1))
  have ho1 := store_at (es' := es1) (t' := t2) ho hd
  have sb1 := Heap.SameBut.update s.heap a (Obj.putSet es1 t2)
  split
  · have pm := relayAll_perm t2 es1 (SetTable.grown es1.size)
    have hf3 := relayAll_fits t2 es1 (SetTable.grown es1.size)
    have hr3 := relayAll_ris t2 es1 (SetTable.grown es1.size)
    have hl3 := relayAll_led t2 es1 (SetTable.grown es1.size)
    generalize relayAll t2 es1 (SetTable.grown es1.size) = Z at pm hf3 hr3 hl3 ⊢
    obtain ⟨es2, t3, gave⟩ := Z
    dsimp only at pm hf3 hr3 hl3 ⊢
    have hsz : es2.size = es1.size := by rw [← Array.length_toList, pm.length_eq, Array.length_toList]
    have hb2 : es2.size < scanBound := by rw [hsz]; exact hb1
    refine wpAny_bind (hg _ _ _ ?_)
    refine wpAny_bind (wpAny_storeSet_of ho1 rfl ?_ (fits_of_scanBound hb2))
    have ho2 := store_at (es' := es2) (t' := t3) ho1 rfl
    refine wpAny_pure (hR _ (sb1.trans (Heap.SameBut.update _ a _)) ?_)
    exact ⟨_, es2, _, t3, ho2, hex, rfl, fun e he => g1 e (pm.mem_iff.mp he), (pm.map txtOf).nodup_iff.mpr nd1, fun k => (m1 k).trans (pm.map txtOf).mem_iff.symm, hb2, hf3, hsz, hr3,
      hl.imp id fun z => by rw [hl3]; exact z⟩
  · exact wpAny_pure (hR _ sb1 ⟨_, es1, _, t2, ho1, hex, rfl, g1, nd1, m1, hb1, hf2, rfl, hr, hl⟩)
theorem setT_add_hashed {k : Str} {tk : Tok} {Q : Bool → Shared → Prop} (R : SetT P w s.heap a S n) (room : n + 1 < scanBound)
    (hQ : ∀ h', Heap.SameBut a s.heap h' → SetT P w h' a (fun j => S j || decide (j = k)) (if S k = true then n else n + 1) → Q (!S k) { s with heap := h' }) :
    wpAny (model P w) A (setAddHashed a (.str k tk) ((tkind P w).hash k)) Q E s := by
  obtain ⟨o, es, ep, t, ho, hex, hd, g, nd, hm, hb, hf, hn, hr, hl⟩ := R
  have hkey : (tkind P w).is k (.str k tk) = true := strKind_is P w k tk
  have hsc : (Value.str k tk).scannable = true := rfl
  have hel : ElemsOf (tkind P w) es.toList := goodT_elems g
  unfold setAddHashed setAddHashedIn
  refine wpAny_holding (wpAny_bind (wpAny_setState_of ho hd hf ?_))
  dsimp only
  rw [byScan_of hsc hb hel]
  simp only [↓reduceIte]
  unfold setAddByScan
  refine wpAny_bind ?_
  refine wpAny_bind (wpAny_rule ?_)
  refine wpAny_bind (wpAny_setScan_of hkey ho hd hf hel ?_)
  cases hfi : List.findIdx? (fun e => (tkind P w).is k e.2) es.toList with
  | some j =>
    dsimp only
    obtain ⟨hj, pj, _⟩ := List.findIdx?_eq_some_iff_getElem.mp hfi
    have hSk : S k = true := (hm k).2 ((goodT_mem g k).2 ⟨es.toList[j], List.getElem_mem hj, pj⟩)
    refine wpAny_pure (wpAny_pure ?_)
    have q := hQ s.heap (Heap.SameBut.refl a s.heap) ⟨o, es, ep, t, ho, hex, hd, g, nd, fun i => by
      rw [Bool.or_eq_true, decide_eq_true_eq, ← hm i]
      exact ⟨fun z => z.elim id (fun e => e ▸ hSk), .inl⟩, hb, hf, by rw [if_pos hSk]; exact hn, hr, hl⟩
    rw [hSk] at q
    exact q
  | none =>
    dsimp only
    have hnk : k ∉ es.toList.map txtOf := fun z => by
      obtain ⟨e, he, q⟩ := (goodT_mem g k).1 z
      have c := List.findIdx?_eq_none_iff.mp hfi e he
      rw [q] at c
      cases c
    have hSk : S k = false := by
      cases q : S k with
      | false => rfl
      | true => exact absurd ((hm k).1 q) hnk
    have hgw : ∀ (b : Bool) {s₁ : Shared} {Q' : Unit → Shared → Prop}, Q' () s₁ → wpAny (model P w) A (match b with | true => rule "set.scan.the-table-gave-way" | false => pure ()) Q' E s₁ :=
      fun b s₁ Q' q => by cases b <;> first | exact wpAny_pure q | exact wpAny_rule q
    have pm := layNew_perm t es ((tkind P w).hash k) (.str k tk)
    have hf1 := layNew_fits t es ((tkind P w).hash k) (.str k tk)
    have hr1 := layNew_ris t es ((tkind P w).hash k) (.str k tk) hr
    have hl1 := layNew_led t es ((tkind P w).hash k) (.str k tk)
    generalize layNew t es ((tkind P w).hash k) (.str k tk) = Z at pm hf1 hr1 hl1 ⊢
    obtain ⟨es1, t1, wasDummy, gave⟩ := Z
    dsimp only at pm hf1 hr1 hl1 ⊢
    rw [Array.toList_push] at pm
    have pc : es1.toList.Perm (((tkind P w).hash k, Value.str k tk) :: es.toList) := pm.trans (List.perm_append_singleton _ _)
    have pk : (es1.toList.map txtOf).Perm (k :: es.toList.map txtOf) := pc.map txtOf
    have g1 : ∀ e ∈ es1.toList, GoodT P w e := fun e he => by
      rcases List.mem_cons.mp (pc.mem_iff.mp he) with z | z
      · rw [z]; exact ⟨k, tk, rfl, rfl⟩
      · exact g e z
    have nd1 : (es1.toList.map txtOf).Nodup := pk.nodup_iff.mpr (List.nodup_cons.mpr ⟨hnk, nd⟩)
    have m1 : ∀ i, (S i || decide (i = k)) = true ↔ i ∈ es1.toList.map txtOf := fun i => by
      rw [Bool.or_eq_true, decide_eq_true_eq, hm i, pk.mem_iff, List.mem_cons]
      exact Or.comm
    have hsz : es1.size = n + 1 := by rw [← Array.length_toList, pc.length_eq, List.length_cons, Array.length_toList, hn]
    have hb1 : es1.size < scanBound := by rw [hsz]; exact room
    have hled : w.params.followText "set-order" = true ∨ t1.led = true := hl.imp id fun z => by rw [hl1]; exact z
    have fin : ∀ h', Heap.SameBut a s.heap h' → SetT P w h' a (fun j => S j || decide (j = k)) es1.size → Q true { s with heap := h' } := fun h' sb r => by
      have q := hQ h' sb
      rw [hSk] at q
      rw [hsz] at r
      exact q r
    refine wpAny_bind (hgw _ ?_)
    split
    · refine wpAny_bind ?_
      rw [hashByValue_scannable 8 hsc]
      refine wpAny_pure ?_
      refine setT_add_tail ?_ ho hex hd g1 nd1 m1 hb1 ?_ ?_ ?_ ?_
      · intro b s₁ Q' q; cases b <;> first | exact wpAny_pure q | exact wpAny_rule q
      · first | (split <;> first | exact hf1 | exact SetTable.fits_plain_off hf1) | exact hf1
      · first | (split <;> exact hr1) | exact hr1
      · first | (split <;> exact hled) | exact hled
      · intro h' sb r; dsimp only; exact wpAny_pure (fin h' sb r)
    · refine wpAny_bind (wpAny_pure ?_)
      simp only [↓reduceIte]
      refine setT_add_tail ?_ ho hex hd g1 nd1 m1 hb1 hf1 hr1 hled ?_
      · intro b s₁ Q' q; cases b <;> first | exact wpAny_pure q | exact wpAny_rule q
      · intro h' sb r; dsimp only; exact wpAny_pure (fin h' sb r)
/-- the set's loop over an iterator of texts -/
theorem setT_loop {I : Addr} {fp wr : List Addr} {G : Array GenState → Array GenState → Prop} {n : Nat} {Pv : Nat → Value → Prop} {St : Nat → Shared → Prop} {R : Result → Shared → Prop}
    (W : WalksS P w A.in1 I fp wr G n Pv St) (S : Addr) (hSf : S ∉ fp) (xs : List Str) (hn : n = xs.length) (hb : xs.length + 1 < scanBound) (hval : ∀ i v, Pv i v → ∃ k t, xs[i]? = some k ∧ v = .str k t) :
    ∀ (k i : Nat) (s : Shared), n - i = k → i ≤ n → St i s → (∃ c, c ≤ i ∧ SetT P w s.heap S (fun j => decide (j ∈ xs.take i)) c) →
      (∀ s' c, Moved (S :: wr) G s s' → c ≤ n → SetT P w s'.heap S (fun j => decide (j ∈ xs)) c → R (.ok (.ret .none)) s') →
      codeAny (model P w) A (.builtin "set.update.loop" ⟨[.ref S, .ref I], []⟩) R s := by
  have hSw : S ∉ wr := fun h => hSf (W.sub _ h)
  have hsub : ∀ b ∈ wr, b ∈ S :: wr := fun b hb => List.mem_cons_of_mem _ hb
  intro k
  induction k with
  | zero =>
    intro i s hk' hi hst ⟨c, hc, hS⟩ hR
    have hin : i = n := by omega
    subst hin
    refine codeAny_builtin F.entry_set_update_loop ?_
    rw [Around.under_plainId F.plain_set_update_loop _]
    show wpAny _ A.in1 (pyNext (.ref I) >>= _) _ _ s
    refine wpAny_bind (W.done s _ _ hst fun s' hm => ?_)
    show wpAny _ A.in1 (ret Value.none) _ _ s'
    have e : xs.take i = xs := List.take_of_length_le (by omega)
    rw [e] at hS
    exact wpAny_pure (hR s' c (hm.mono hsub) hc (hS.at fun o e => hm.heap S o hSw e))
  | succ k ih =>
    intro i s hk' hi hst ⟨c, hc, hS⟩ hR
    have hlt : i < n := by omega
    refine codeAny_builtin F.entry_set_update_loop ?_
    rw [Around.under_plainId F.plain_set_update_loop _]
    show wpAny _ A.in1 (pyNext (.ref I) >>= _) _ _ s
    refine wpAny_bind (W.item i s _ _ hlt hst fun v s' hP hst' hm => ?_)
    obtain ⟨z, t, hz, rfl⟩ := hval i v hP
    have hS' : SetT P w s'.heap S (fun j => decide (j ∈ xs.take i)) c := hS.at fun o e => hm.heap S o hSw e
    show wpAny _ A.in1 (holding [Value.str z t] (setAdd S (.str z t)) >>= _) _ _ s'
    refine wpAny_bind (wpAny_holding ?_)
    unfold setAdd
    refine wpAny_holding ?_
    refine wpAny_bind ((tkind P w).pyHash (k := z) (strKind_is _ _ _ _) ?_)
    refine setT_add_hashed (s := { s' with toks := s'.toks + 1 }) hS' (by omega) fun h' hsb hS2 => ?_
    have hS3 : SetT P w h' S (fun j => decide (j ∈ xs.take (i + 1))) (if decide (z ∈ xs.take i) = true then c else c + 1) := hS2.congr fun j => by
      rw [List.take_add_one, hz]
      simp [List.mem_append]
    have hc3 : (if decide (z ∈ xs.take i) = true then c else c + 1) ≤ i + 1 := by
      split <;> omega
    refine wpAny_pure ⟨plainId_quiet F.plain_set_update_loop _, ih (i + 1) _ (by omega) hlt (W.frame _ s' _ _ hst' (Nat.le_succ _) fun b hb o e => ?_) ⟨_, hc3, hS3⟩ fun s'' c2 hm'' hc'' hS'' => ?_⟩
    · rw [hsb.2 b (fun h : b = S => hSf (by rw [← h]; exact hb))]; exact e
    · refine hR s'' c2 (Moved.trans W.gtrans ((hm.mono hsub).then_heap (Nat.le_succ _) fun b o hb e => ?_) hm'') hc'' hS''
      rw [hsb.2 b (fun h : b = S => hb (by rw [h]; exact List.mem_cons_self))]; exact e
theorem strsT_at : ∀ {us : List Value} {xs : List Str}, StrsAre us xs → ∀ (i : Nat) (v : Value), us[i]? = some v → ∃ t, v = .str (xs.getD i Str.empty) t
  | _, _, .nil, i, v, h => by simp at h
  | _, _, .cons n t hr, 0, v, h => by simp at h; exact ⟨t, h.symm⟩
  | _, _, .cons n t hr, i + 1, v, h => by
    simpa using strsT_at hr i v (by simpa using h)
theorem setT_new_at {h : Heap} {a : Addr} {xs : List Str} (ho : h.get? a = some (newSet w)) : SetT P w h a (fun j => decide (j ∈ xs.take 0)) 0 :=
  ⟨_, #[], 0, _, ho, ⟨rfl, rfl, rfl⟩, rfl, (fun e he => by simp at he), (by simp), (fun k => by simp), (by decide), (by rfl), rfl, List.Pairwise.nil, by
    show _ ∨ (!w.params.followText "set-order") = true
    cases w.params.followText "set-order"
    · exact .inr rfl
    · exact .inl rfl⟩
set_option maxRecDepth 100000 in
set_option maxHeartbeats 3200000 in
theorem call_setT {l : Addr} {items : Array Value} (xs : List Str) {Q : Value → Shared → Prop} (hh : A.handled = none) (hl : s.heap.IsList l items) (hit : StrsAre items.toList xs) (hb : xs.length + 1 < scanBound)
    (h : ∀ (h' : Heap) (tk c : Nat), SetT P w h' s.heap.objs.size (fun j => decide (j ∈ xs)) c → c ≤ xs.length → (∀ b o, s.heap.get? b = some o → h'.get? b = some o) → Q (.ref s.heap.objs.size) { s with heap := h', toks := tk }) :
    wpAny (model P w) A (call (.type "set") [.ref l]) Q E s := by
  have hisz : items.size = xs.length := by rw [← StrsAre.len_eq hit, Array.length_toList]
  obtain ⟨c, tl, hmro⟩ := F.called_set.mro
  have hmade := F.called_set.made
  have hsub := F.called_set.sub
  refine wpAny_call (codeAny_of_tree ?_)
  show wpAny _ _ (callAny (.type "set") _) _ _ _
  refine wpAny_pure ⟨Code.quiet_builtin _ (by decide +kernel), codeAny_builtin F.entry_type_call ?_⟩
  rw [Around.under_plain (weight_type_call_type "set" [.ref l] []) rfl]
  have h1 := F.called_set.notType
  have h2 := F.called_set.canCreate
  have hct := F.typeCall_set_1 (.ref l)
  repeat (any_goals (first | assumption | wp_step))
  refine codeAny_mono (code_set_led1 (.ref l) (E := E) (Q₁ := fun obj s₁ => obj = .ref s.heap.objs.size ∧ s₁ = { s with heap := s.heap.push (newSet w) }) ⟨rfl, rfl⟩) fun r s₁ hr => ?_
  cases r with
  | error e => exact hr
  | ok fl =>
    cases fl with
    | ret obj =>
      obtain ⟨rfl, rfl⟩ := hr
      have hS : (s.heap.push (newSet w)).get? s.heap.objs.size = some (newSet w) := Heap.get?_push_size _ rfl
      have hT : Shared.TypeIs { s with heap := s.heap.push (newSet w) } (.ref s.heap.objs.size) "set" := ⟨_, hS, rfl⟩
      have hli := F.called_set.init.lookup
      have hbi := F.called_set.init.bind (.ref s.heap.objs.size)
      repeat (any_goals (first | assumption | wp_step))
      refine codeAny_mono (codeAny_call_builtin (R := wants (fun r s₂ => r = .none ∧ ∃ h' tk c, s₂ = { s with heap := h', toks := tk } ∧ SetT P w h' s.heap.objs.size (fun j => decide (j ∈ xs)) c ∧ c ≤ xs.length ∧
          (∀ b o, s.heap.get? b = some o → h'.get? b = some o)) E) F.called_set.init.plain F.entry_set_init (check_set_init_1 hT ?_)) fun r₂ s₂ hr₂ => ?_
      · obtain ⟨ol, hol, hcl, nl, hdl⟩ := hl
        obtain ⟨ocls, odict, odata, oslots⟩ := ol
        simp only at hcl hdl
        subst hcl; subst hdl
        have hol' : (s.heap.push (newSet w)).get? l = some { cls := .type "list", dict := odict, data := .seq items nl, slots := oslots } := Heap.get?_push_of_some _ hol
        have hsls := PySem.F.sub_list_set
        have hslf := PySem.F.sub_list_frozenset
        have hne : (Value.type "list" == Value.type "dict") = false := by decide
        have hl1 : (s.heap.push (newSet w)).IsList l items := ⟨_, hol', rfl, nl, rfl⟩
        unfold Builtin.«set.__init__» noKeywords Builtin.Frozenset.updateFrom
        generalize hPI : pyIter = PI
        wp_walk
        subst hPI
        refine wpAny_pyIter_list hl1 ?_
        refine wpAny_bind (wpAny_runValue ?_)
        have hlS : l < s.heap.objs.size := Heap.lt_size hol
        have hh3 : A.in1.in1.in1.handled = none := by simp [hh]
        have hneI : l ≠ (s.heap.push (newSet w)).objs.size := by
          rw [Heap.size_push]; exact Nat.ne_of_lt (Nat.lt_succ_of_lt hlS)
        have hSf : s.heap.objs.size ∉ [(s.heap.push (newSet w)).objs.size, l] := by
          rw [Heap.size_push]; simp only [List.mem_cons, List.mem_singleton, List.not_mem_nil, or_false, not_or]
          exact ⟨Nat.ne_of_lt (Nat.lt_succ_self _), Nat.ne_of_gt hlS⟩
        have hval : ∀ (i : Nat) (v : Value), items[i]? = some v → ∃ k t, xs[i]? = some k ∧ v = .str k t := fun i v hv => by
          have hi : i < xs.length := by rw [← hisz]; exact (Array.getElem?_eq_some_iff.mp hv).1
          obtain ⟨t, e⟩ := strsT_at hit i v (by rw [Array.getElem?_toList]; exact hv)
          refine ⟨xs[i], t, List.getElem?_eq_getElem hi, ?_⟩
          rw [e, List.getD_eq_getElem?_getD, List.getElem?_eq_getElem hi] <;> rfl
        refine setT_loop ((Walks.list hh3 _ l hneI items).toS) s.heap.objs.size
          hSf xs hisz hb hval (items.size - 0) 0 _ (by omega) (Nat.zero_le _)
          ⟨⟨_, Heap.get?_push_size _ rfl, rfl, rfl⟩, (hl1.push _)⟩ ?hS0 ?hR
        case hS0 =>
          have hget : ((s.heap.push (newSet w)).push { cls := .type "list_iterator", data := .fields #[.ref l, .int 0 0] }).get? s.heap.objs.size = some (newSet w) := Heap.get?_push_of_some _ hS
          exact ⟨0, Nat.le_refl 0, setT_new_at hget⟩
        case hR =>
          intro s' c' hm hc' hS'
          obtain ⟨h', g2, d', tk', os'⟩ := s'
          have eg : g2 = s.gens := hm.gens
          have ed : d' = s.drawn := hm.drawn
          have eo : os' = s.os := hm.os
          subst eg; subst ed; subst eo
          show wpAny _ _ _ _ _ _
          refine wpAny_pure ?_
          show wpAny _ _ (ret Value.none) _ _ _
          rw [hisz] at hc'
          refine wpAny_pure ⟨rfl, h', tk', c', rfl, hS', hc', fun b o e => ?_⟩
          have hb0 : b < s.heap.objs.size := Heap.lt_size e
          have hb1 : b ≠ s.heap.objs.size := Nat.ne_of_lt hb0
          have hb2 : b ≠ (s.heap.push (newSet w)).objs.size := by
            rw [Heap.size_push]; exact Nat.ne_of_lt (Nat.lt_succ_of_lt hb0)
          exact hm.heap b o (by simp only [List.mem_cons, List.mem_singleton, List.not_mem_nil, or_false, not_or]; exact ⟨hb1, hb2⟩) (Heap.get?_push_of_some _ (Heap.get?_push_of_some _ e))
      · cases r₂ with
        | error e => exact hr₂
        | ok fl₂ =>
          cases fl₂ with
          | ret r =>
            obtain ⟨rfl, h', tk, c', rfl, hS', hc', hk'⟩ := hr₂
            repeat (any_goals (first | assumption | wp_step))
            exact h _ _ _ hS' hc' hk'
          | _ => exact hr₂.elim
    | _ => exact hr.elim
theorem strsT_of : ∀ (l : List Value), (∀ v ∈ l, ∃ k tk, v = Value.str k tk) → StrsAre l (l.map fun v => match v with | .str k _ => k | _ => Str.empty)
  | [], _ => .nil
  | v :: l, h => by
    obtain ⟨k, tk, rfl⟩ := h _ List.mem_cons_self
    exact .cons _ _ (strsT_of l fun u hu => h u (List.mem_cons_of_mem _ hu))
theorem sorted_setT {Q : Value → Shared → Prop} (R : SetT P w s.heap a S n) (hh : A.handled = none) (h64 : n < 64)
    (hQ : ∀ s' p (out : Array Value) (c : Nat) (ys : List Str), (∀ b o, s.heap.get? b = some o → s'.heap.get? b = some o) → s'.gens = s.gens → s'.os = s.os → s.heap.objs.size ≤ p →
      s'.heap.get? p = some (seqObj "list" out c) → StrsAre out.toList ys → sortedS ys = true → ys.Nodup → (∀ k, k ∈ ys ↔ S k = true) → ys.length = n → Q (.ref p) s') :
    wpAny (model P w) A (call (.builtin "sorted") [.ref a]) Q E s := by
  obtain ⟨o, es, ep, t, ho, hex, hd, g, nd, hm, hb, hf, hn, hr, hl⟩ := R
  refine Calls.call_function_entry kind_sorted plain_sorted entry_sorted (args_sorted1 _) ?_
  unfold Builtin.«sorted»
  refine wpAny_bind (m := checkCount "sorted" 1 1 _) (wpAny_pure ?_)
  refine wpAny_bind (collect_set (A := A.in1) hh ⟨o, ho, hex.1, hd⟩ hf hb hr hl fun s1 vs k1 hz g1 o1 pm => ?_)
  have hvl : vs.length = n := by rw [pm.length_eq, List.length_map, Array.length_toList]; exact hn
  have hI := strsT_of vs fun v hv => by
    obtain ⟨e, he, q⟩ := List.mem_map.mp (pm.mem_iff.mp hv)
    obtain ⟨k, tk, h1, _⟩ := g e he
    exact ⟨k, tk, by rw [← q]; exact h1⟩
  have pk : (vs.map fun v => match v with | .str k _ => k | _ => Str.empty).Perm (es.toList.map txtOf) := by
    have q := pm.map fun v => match v with | .str k _ => k | _ => Str.empty
    rw [List.map_map] at q
    exact q
  refine wpAny_bind (wpAny_newList ?_ (by rw [hvl, sizeLine_eq]; omega))
  have hoL : (s1.heap.push (seqObj "list" vs.toArray 0)).get? s1.heap.objs.size = some (seqObj "list" vs.toArray 0) := Heap.get?_push_size _ rfl
  refine wpAny_bind (wpAny_holding (wpAny_call_entry slot_list_sort ⟨_, hoL, rfl⟩ entry_list_sort (list_sort_treeK strKind_oneLt hoL hI.keysOf (fun v₁ v₂ rest e => keyKind_strs (by rw [← e]; exact hI)) (by rw [hvl]; exact h64) fun st' hp hs => ⟨_, rfl, ?_⟩) (args_list_sort _)))
  obtain ⟨ys, a1, a2, a3⟩ := sorted_out_str hI hp hs
  obtain ⟨c, hc⟩ := sortedHeap_at (vs := vs) (out := (arrOf st').map (·.2)) hoL
  have pn : ys.Perm (es.toList.map txtOf) := a2.trans pk
  refine wpAny_pure ⟨_, rfl, hQ _ s1.heap.objs.size _ c ys (fun b u e => ?_) g1 o1 hz hc a1 a3 (pn.nodup_iff.mpr nd) (fun k => by rw [pn.mem_iff, ← hm k]) ?_⟩
  · have q := k1 b u e
    have hlt := Heap.lt_size q
    show (sortedHeap (s1.heap.push (seqObj "list" vs.toArray 0)) s1.heap.objs.size vs _).get? b = some u
    rw [sortedHeap_old (Nat.ne_of_lt hlt) (by rw [size_push']; exact Nat.lt_succ_of_lt hlt)]
    exact Heap.get?_push_of_some _ q
  · rw [pn.length_eq, List.length_map, Array.length_toList]; exact hn
end
end MR

/-! sorted(set(xs)) as a mirror -/
namespace MR
open PySem L2 PyProof.Rows
open PySem.Spec (ltCps)
abbrev ltS (a b : Str) : Bool := ltCps a.cps.toList b.cps.toList
theorem ltCps_irrefl : ∀ a : List Nat, ltCps a a = false
  | [] => rfl
  | x :: r => by simp [ltCps, ltCps_irrefl r]
theorem ltCps_trans : ∀ {a b c : List Nat}, ltCps a b = true → ltCps b c = true → ltCps a c = true
  | [], [], _, h, _ => by simp [ltCps] at h
  | [], _ :: _, [], _, h => by simp [ltCps] at h
  | [], _ :: _, _ :: _, _, _ => rfl
  | _ :: _, [], _, h, _ => by simp [ltCps] at h
  | _ :: _, _ :: _, [], _, h => by simp [ltCps] at h
  | x :: a, y :: b, z :: c, h, k => by
    simp only [ltCps, Bool.or_eq_true, Bool.and_eq_true, decide_eq_true_eq, beq_iff_eq] at h k ⊢
    rcases h with h | ⟨h, h'⟩
    · rcases k with k | ⟨k, k'⟩
      · exact .inl (by omega)
      · exact .inl (by omega)
    · rcases k with k | ⟨k, k'⟩
      · exact .inl (by omega)
      · exact .inr ⟨h.trans k, ltCps_trans h' k'⟩
theorem ltCps_tri : ∀ (a b : List Nat), ltCps a b = true ∨ a = b ∨ ltCps b a = true
  | [], [] => .inr (.inl rfl)
  | [], _ :: _ => .inl rfl
  | _ :: _, [] => .inr (.inr rfl)
  | x :: a, y :: b => by
    simp only [ltCps, Bool.or_eq_true, Bool.and_eq_true, decide_eq_true_eq, beq_iff_eq, List.cons.injEq]
    rcases Nat.lt_trichotomy x y with h | h | h
    · exact .inl (.inl h)
    · rcases ltCps_tri a b with k | k | k
      · exact .inl (.inr ⟨h, k⟩)
      · exact .inr (.inl ⟨h, k⟩)
      · exact .inr (.inr (.inr ⟨h.symm, k⟩))
    · exact .inr (.inr (.inl h))
theorem str_eq {a b : Str} (h : a.cps.toList = b.cps.toList) : a = b := by
  obtain ⟨⟨a⟩⟩ := a
  obtain ⟨⟨b⟩⟩ := b
  simp at h
  rw [h]
theorem ltS_tri (a b : Str) : ltS a b = true ∨ a = b ∨ ltS b a = true := (ltCps_tri _ _).imp_right (.imp_left str_eq)
/-- rising, no text twice -/
abbrev Rising (l : List Str) : Prop := l.Pairwise fun a b => ltS a b = true
theorem rising_of : ∀ {l : List Str}, sortedS l = true → l.Nodup → Rising l := by
  have step : ∀ (l : List Str) (p : Str), risingS p l = true → (p :: l).Nodup → Rising (p :: l) := by
    intro l
    induction l with
    | nil => intro p _ _; exact List.pairwise_singleton _ _
    | cons x r ih =>
      intro p h nd
      simp only [risingS, Bool.and_eq_true, Bool.not_eq_true'] at h
      obtain ⟨n1, n2⟩ := List.nodup_cons.mp nd
      have R := ih x h.2 n2
      have px : ltS p x = true := by
        rcases ltS_tri p x with q | q | q
        · exact q
        · exact absurd (by rw [q]; exact List.mem_cons_self) n1
        · exact absurd (q.symm.trans h.1) (by decide)
      refine List.pairwise_cons.mpr ⟨fun y hy => ?_, R⟩
      rcases List.mem_cons.mp hy with e | hy
      · rw [e]; exact px
      · exact ltCps_trans px ((List.pairwise_cons.mp R).1 y hy)
  intro l h nd
  cases l with
  | nil => exact List.Pairwise.nil
  | cons x r => exact step r x h nd
theorem rising_uniq : ∀ {a b : List Str}, Rising a → Rising b → (∀ k, k ∈ a ↔ k ∈ b) → a = b
  | [], [], _, _, _ => rfl
  | [], y :: b, _, _, h => absurd ((h y).2 List.mem_cons_self) (by simp)
  | x :: a, [], _, _, h => absurd ((h x).1 List.mem_cons_self) (by simp)
  | x :: a, y :: b, ha, hb, h => by
    obtain ⟨a1, a2⟩ := List.pairwise_cons.mp ha
    obtain ⟨b1, b2⟩ := List.pairwise_cons.mp hb
    have no : ∀ {p q : Str}, ltS p q = true → ltS q p = true → False := fun u v => by
      have := ltCps_trans u v
      rw [ltCps_irrefl] at this
      cases this
    have e : x = y := by
      rcases List.mem_cons.mp ((h x).1 List.mem_cons_self) with e | m
      · exact e
      · rcases List.mem_cons.mp ((h y).2 List.mem_cons_self) with e | m'
        · exact e.symm
        · exact (no (b1 x m) (a1 y m')).elim
    subst e
    have nx : ∀ {l : List Str}, (∀ y ∈ l, ltS x y = true) → x ∉ l := fun q m => by
      have := q x m
      rw [show ltS x x = false from ltCps_irrefl _] at this
      cases this
    have e2 : a = b := rising_uniq a2 b2 fun k => by
      constructor
      · intro m
        rcases List.mem_cons.mp ((h k).1 (List.mem_cons_of_mem _ m)) with q | q
        · rw [q] at m; exact (nx a1 m).elim
        · exact q
      · intro m
        rcases List.mem_cons.mp ((h k).2 (List.mem_cons_of_mem _ m)) with q | q
        · rw [q] at m; exact (nx b1 m).elim
        · exact q
    rw [e2]
def insT (x : Str) : List Str → List Str
  | [] => [x]
  | y :: r => if ltS x y = true then x :: y :: r else if ltS y x = true then y :: insT x r else y :: r
def sortT : List Str → List Str
  | [] => []
  | x :: r => insT x (sortT r)
theorem insT_mem (x : Str) : ∀ (l : List Str) (k : Str), k ∈ insT x l ↔ k = x ∨ k ∈ l
  | [], k => by simp [insT]
  | y :: r, k => by
    unfold insT
    split
    · simp
    · split
      · rw [List.mem_cons, insT_mem x r k, List.mem_cons]
        constructor
        · rintro (q | q | q)
          · exact .inr (.inl q)
          · exact .inl q
          · exact .inr (.inr q)
        · rintro (q | q | q)
          · exact .inr (.inl q)
          · exact .inl q
          · exact .inr (.inr q)
      · rename_i h1 h2
        have e : x = y := by
          rcases ltS_tri x y with q | q | q
          · exact absurd q h1
          · exact q
          · exact absurd q h2
        subst e
        constructor
        · exact .inr
        · rintro (q | q)
          · rw [q]; exact List.mem_cons_self
          · exact q
theorem insT_rising (x : Str) : ∀ {l : List Str}, Rising l → Rising (insT x l)
  | [], _ => List.pairwise_singleton _ _
  | y :: r, h => by
    obtain ⟨h1, h2⟩ := List.pairwise_cons.mp h
    unfold insT
    split
    · rename_i q
      refine List.pairwise_cons.mpr ⟨fun z hz => ?_, h⟩
      rcases List.mem_cons.mp hz with e | hz
      · rw [e]; exact q
      · exact ltCps_trans q (h1 z hz)
    · split
      · rename_i q
        refine List.pairwise_cons.mpr ⟨fun z hz => ?_, insT_rising x h2⟩
        rcases (insT_mem x r z).mp hz with e | hz
        · rw [e]; exact q
        · exact h1 z hz
      · exact h
theorem sortT_rising : ∀ l : List Str, Rising (sortT l)
  | [] => List.Pairwise.nil
  | x :: r => insT_rising x (sortT_rising r)
theorem sortT_mem : ∀ (l : List Str) (k : Str), k ∈ sortT l ↔ k ∈ l
  | [], k => Iff.rfl
  | x :: r, k => by rw [sortT, insT_mem, sortT_mem r, List.mem_cons]
theorem sortT_of {ys xs : List Str} (h : sortedS ys = true) (nd : ys.Nodup) (m : ∀ k, k ∈ ys ↔ k ∈ xs) : ys = sortT xs :=
  rising_uniq (rising_of h nd) (sortT_rising xs) fun k => (m k).trans (sortT_mem xs k).symm

/-! ### set(xs), sorted(s) by values -/
def SetTO (P : Program) (w : World) (a : Addr) (S : Str → Bool) (n : Nat) : HO := .ext fun h => SetT P w h a S n
theorem setTO_new {w : World} {P : Program} {H : Hp} {h : Heap} {a : Addr} {S : Str → Bool} {n : Nat} (R : SetT P w h a S n) : ObjOk P w H h a (SetTO P w a S n) := by
  have ⟨o, _, _, _, ho, _⟩ := R
  exact ⟨R, ⟨o, ho⟩, fun h1 h2 p k => SetT.at p k⟩
theorem setTO_get {X : Cx} {pins : List (Addr × Obj)} {σ : L2.St} {H : Hp} {s : Shared} {a : Addr} {S : Str → Bool} {n : Nat} (I : Inv X pins σ H s) (ha : H a = some (SetTO X.prog X.w a S n)) : SetT X.prog X.w s.heap a S n := (I.hok a _ ha).1
def rSetT (X : Cx) : List V → Hp → VK → Prop := fun xs H Q => ∃ (a : Addr) (ys : List Str), xs = [V.ref a] ∧ SqL X.K H a (ys.map V.str) ∧ ys.length < 63 ∧
  ∀ p c, H p = none → c ≤ ys.length → Q (.ref p) (upd H p (SetTO X.prog X.w p (fun j => decide (j ∈ ys)) c))
theorem cr_setT {X : Cx} (hc : X.calm = true) : CallR X (.type "set") (rSetT X) := by
  intro pins s σ H xs us Q I r h
  obtain ⟨a, ys, rfl, hs, h64, q⟩ := h
  obtain ⟨its, rv, hl, _⟩ := I.list hs
  rw [Vals.ref1 r]
  refine call_setT ys (I.ok.hd hc) hl.isList rv.strs (by unfold scanBound; omega) fun h' tk c R hc' k => ?_
  exact ⟨.ref _, upd H s.heap.objs.size (SetTO X.prog X.w s.heap.objs.size (fun j => decide (j ∈ ys)) c), I.laid (t' := tk) k (Nat.le_refl _) (setTO_new R), rfl, q _ c (I.hok.fresh (Nat.le_refl _)) hc'⟩
def rSortedT (X : Cx) : List V → Hp → VK → Prop := fun vs H Q => ∃ (a : Addr) (S : Str → Bool) (n : Nat), vs = [V.ref a] ∧ H a = some (SetTO X.prog X.w a S n) ∧ n < 64 ∧
  ∀ (ys : List Str) (p : Addr), sortedS ys = true → ys.Nodup → (∀ k, k ∈ ys ↔ S k = true) → H p = none → Q (.ref p) (upd H p (.lst (ys.map V.str)))
theorem cr_sortedT {X : Cx} (hc : X.calm = true) : CallR X (.builtin "sorted") (rSortedT X) := by
  intro pins s σ H vs us Q I r h
  obtain ⟨a, S, n, rfl, ha, h64, q⟩ := h
  have R := setTO_get I ha
  rw [Vals.ref1 r]
  refine sorted_setT R (I.ok.hd hc) h64 fun s' p out c ys k g o hp hg hi hs nd hm hl => ?_
  have hlen : (ys.map V.str).length ≤ sizeLine := by rw [List.length_map, hl, sizeLine_eq]; omega
  have hn : H p = none := I.hok.fresh hp
  have J : Inv X pins σ (upd H p (.lst (ys.map V.str))) { s with heap := s'.heap, gens := s'.gens, drawn := s'.drawn, toks := s'.toks } :=
    I.call (ch := []) (Un.laid k hp hn) (I.hok.laid k hp ⟨hlen, out.toList, c, vals_of_strs hi, hg⟩) (by rw [g]; exact I.bare) (fun _ z => nomatch z)
  have e : s' = { s with heap := s'.heap, gens := s'.gens, drawn := s'.drawn, toks := s'.toks } := by
    cases s'
    cases s
    cases o
    rfl
  rw [e]
  exact ⟨.ref p, _, J, rfl, q ys p hs nd hm hn⟩
/-! ### sorted(set(e)) -/
def gSortSet : List MV → Sto → Res MV := fun ms st => match ms with
  | [m] => match (listOf m st).bind strsOf with
    | some ys => if ys.length < 63 then .ok (.lst ((sortT ys).map .str)) st else .bad
    | none => .bad
  | _ => .bad
section
variable {X : Cx} {W : WX} {e : Expr} {p p2 pos pos2 : Pos} {mr : MA}
theorem pm_sortset (hc : X.calm = true) (hm1 : X.mg "sorted" = none) (hm2 : X.mg "set" = none) (ha : PMA X W [e] mr) (hg1 : Gl X "sorted" := by rfl) (hg2 : Gl X "set" := by rfl)
    (he : starEach [e] X.env = (false, eval e X.env) :: starEach [] X.env := by rfl) (hpl : (backTo pos2 (starEach [] X.env)).any (·.1) = false := by rfl)
    (he' : starEach [.Call (.Name "set" p2) [e] [] pos2] X.env = (false, eval (.Call (.Name "set" p2) [e] [] pos2) X.env) :: starEach [] X.env := by rfl) (hpl' : (backTo pos (starEach [] X.env)).any (·.1) = false := by rfl) :
    PM X W (.Call (.Name "sorted" p) [.Call (.Name "set" p2) [e] [] pos2] [] pos) (mCall gSortSet mr) :=
  PE_imp (pe_callB (cr_sortedT hc) hg1 hm1 (by decide +kernel) (pa_cons (pe_callTy (cr_setT hc) hg2 hm2 (by decide +kernel) ha (by decide) (by decide) he hpl) pa_nil he') (by decide) (by decide) he' hpl') fun σ H Q ⟨A, env, st, s, q, h⟩ => by
    unfold mCall at h
    rw [Res.post_bind] at h
    refine inA s q (Ext.refl A H) (h.mono (fun ms st1 h1 A1 H1 x e1 s1 r1 => ?_) fun _ _ z => z)
    obtain ⟨m, st', e2, k⟩ := post_noExc h1
    unfold gSortSet at e2
    split at e2
    · rename_i m0
      split at e2
      · rename_i ys ey
        obtain ⟨hl, e2⟩ := ite_ok e2
        cases e2
        cases r1 with
        | cons r rs =>
          cases rs
          cases el : listOf m0 st1 with
          | none => rw [el] at ey; cases ey
          | some zs =>
            rw [el] at ey
            obtain ⟨a, vs, rfl, hH, rv⟩ := listOf_rep s1 r el
            have ev := strsOf_rep rv ey
            refine ⟨a, ys, rfl, by rw [← ev]; exact SqL.of hH, hl, fun b c hb hcl => ?_⟩
            refine ⟨b, _, c, rfl, upd_same, by omega, fun zs p2 z1 z2 z3 hp2 => ?_⟩
            have ez : zs = sortT ys := sortT_of z1 z2 fun k => by rw [z3]; exact decide_eq_true_iff
            subst ez
            have k1 := okP.ext e1 k
            have sb := s1.laid (o := SetTO X.prog X.w b (fun j => decide (j ∈ ys)) c) hb
            have xb := Ext.laid (o := SetTO X.prog X.w b (fun j => decide (j ∈ ys)) c) s1 hb
            exact fin_lst sb (RepAll.strs (sortT ys)) (okP.ext xb k1) p2 hp2
      · cases e2
    · cases e2
end
end MR

/-! comprehensions whose element lets an exception of a called def out -/
namespace MR
open PySem L2
open PyProof.Rows (AllBare)
/-- a block's context whose exceptions go the way of a comprehension's -/
abbrev blkR (X : Cx) (s : Shared) (H : Hp) (scope : Scope) (cenv : Env) (fp : List Addr) : Cx :=
  { X.blk s H scope cenv fp with xe := notedBy (model X.prog X.w) X.A cenv (CompFails (model X.prog X.w) X.A X.xe cenv) }
theorem Inv.xe {X : Cx} {pins : List (Addr × Obj)} {σ : L2.St} {H : Hp} {s : Shared} (I : Inv X pins σ H s) (E : Value → Shared → Prop) : Inv { X with xe := E } pins σ H s :=
  ⟨⟨I.ok.mod, I.ok.kind, I.ok.glob, I.ok.blt, I.ok.above, I.ok.inj, I.ok.has, I.ok.cab, I.ok.hd, I.ok.frames, I.ok.stk, I.ok.exf, I.ok.bs, I.ok.bsz, I.ok.noex, I.ok.exfs, I.ok.funs, I.ok.frf⟩, I.os, I.bare, I.base, I.loc, I.cell, I.free, I.freeC, I.pin, I.hok, I.len⟩

theorem TracedZ.sameBut {h h' base : Heap} {e C : Addr} {Z : Obj → Prop} {fl : Value} {m : Str → Option Value} (hn : h.Ns C m) (hs : Heap.SameBut C h h') (t : HandSPX.TracedZ h base e Z fl) : HandSPX.TracedZ h' base e Z fl := by
  obtain ⟨oe, vs, T, oT, ts, he, hz, hd, h1, hnT, hTe, hT, hdT, h3⟩ := t
  obtain ⟨oC, es, ep, hoC, hdC, _⟩ := hn
  have ne : ∀ {b : Addr} {o : Obj} {us : Array Value}, h.get? b = some o → o.data = .fields us → b ≠ C := fun {b o us} e d z => by
    rw [z, hoC] at e
    cases e
    rw [hdC] at d
    cases d
  exact ⟨oe, vs, T, oT, ts, (hs.2 e (ne he hd)).trans he, hz, hd, h1, hnT, hTe, (hs.2 T (ne hT hdT)).trans hT, hdT, h3⟩

/-- an exception over the ground B is in our air (as XE.of_call, at any stage of its flight, records of ours having changed) -/
theorem xe_of_sky {X : Cx} {W : WX} {pins : List (Addr × Obj)} {σ : L2.St} {H H' : Hp} {s s' : Shared} {B : Heap} {a : Addr} {cls : Value} {d : Option Addr} {ch : List Addr} (I : Inv X pins σ H s)
    (hch : ∀ b ∈ ch, (b ∈ X.ex ∨ X.s_0.heap.objs.size ≤ b) ∧ b ≠ X.env.locals ∧ (∀ x c, X.env.cells.lookup x = some c → c ≠ b) ∧ ∀ p ∈ X.pn ++ pins, p.1 ≠ b)
    (st : B.StaysIn s'.heap) (sky : Sky B X.stack a (Zc cls d) X.env.locals s'.heap) (hok : HOk X.prog X.w H' B)
    (keep : ∀ b o, s.heap.get? b = some o → H b = none → b ∉ frs X.stack → b ∉ ch → B.get? b = some o) (slot : ∀ b o, s.heap.get? b = some o → b ∈ frs X.stack → ∃ sl, s'.heap.get? b = some { o with slots := sl })
    (free : ∀ b o, s.heap.get? b = some o → H b = none → b ∉ ch → H' b = none) (there : ∀ b o, s.heap.get? b = some o → b ∉ frs X.stack → b ∉ ch → ∃ o', B.get? b = some o')
    (tups : ∀ b xs, H b = some (.tup xs) → H' b = some (.tup xs)) (frzs : ∀ b o xs, H b = some (.frz o xs) → H' b = some (.frz o xs)) (tbls : ∀ b ps, H b = some (.tbl ps) → ∃ more, H' b = some (.tbl (ps ++ more)))
    (na : H' a = none) (os : s'.os = s.os) (ag : AllBare s'.gens) (w : W cls d σ H') : XE X W (.ref a) s' := by
  obtain ⟨G, g1, g2⟩ := restrict s'.heap fun b => (B.get? b).isSome || decide (b ∈ frs X.stack)
  have gB : ∀ b o, B.get? b = some o → G.get? b = some o := fun b o e => by
    rw [g1 b (by simp [e])]
    exact st b o e
  have gF : ∀ b, b ∈ frs X.stack → G.get? b = s'.heap.get? b := fun b hb => g1 b (by simp [hb])
  have og : ∀ b o, G.get? b = some o → s'.heap.get? b = some o ∧ ((B.get? b).isSome = true ∨ b ∈ frs X.stack) := fun b o e => by
    cases q : ((B.get? b).isSome || decide (b ∈ frs X.stack)) with
    | false => rw [g2 b q] at e; cases e
    | true =>
      rw [g1 b q] at e
      exact ⟨e, by simpa [Bool.or_eq_true] using q⟩
  refine ⟨a, B, { s with heap := G, gens := s'.gens, drawn := s'.drawn, toks := s'.toks }, pins, σ, H', cls, d, rfl, ?_, fun b o e hb => ?_, Heap.UpToSlots.of_keeps fun b o e => (og b o e).1, sky, na, os, ag, w⟩
  · refine I.call (ch := ch) ⟨fun b o e n hb hc => gB b o (keep b o e n hb hc), fun b o e n hb hc => ?_, fun b o e n hc => free b o e n hc, fun b o e hc => ?_, tups, frzs, tbls⟩ (hok.kept gB) ag hch
    · obtain ⟨sl, q⟩ := slot b o e hb
      exact ⟨sl, by rw [gF b hb]; exact q⟩
    · by_cases hb : b ∈ frs X.stack
      · obtain ⟨sl, q⟩ := slot b o e hb
        exact ⟨_, by rw [gF b hb]; exact q⟩
      · obtain ⟨o', q⟩ := there b o e hb hc
        exact ⟨o', gB b o' q⟩
  · obtain ⟨e', h⟩ := og b o e
    rcases h with h | h
    · obtain ⟨o', q⟩ := Option.isSome_iff_exists.mp h
      have z := st b o' q
      rw [e'] at z; cases z
      exact q
    · exact absurd h hb

theorem lets_blk {X : Cx} {W : WX} {pins : List (Addr × Obj)} {σ : L2.St} {H3 : Hp} {s3 : Shared} {scope : Scope} {ce : Env} {fp : List Addr} (tk : Takes X W) (hs : X.stack = X.env :: X.outer) (hf : X.env.frame = some X.env.locals)
    (I3 : Inv X pins σ H3 s3) (f3 : ∀ b ∈ fp, FpOk X pins H3 b ∧ b < s3.heap.objs.size) (cL : ce.locals = s3.heap.objs.size) (cF : ce.frame = X.env.frame) :
    Lets (blkR X s3 H3 scope ce fp) (fun c d _ H' => W c d σ H') := by
  intro σ2 pins2 H2 s e s' J c
  obtain ⟨a, B0, H', cls, d, rfl, fl, hok, ub, na, os, ag, hE⟩ := c
  have hfr : X.A.frames = some (X.env :: X.outer) := by rw [I3.ok.frames, hs]
  have base : Un (frs X.stack) fp H3 H2 s3.heap s.heap := J.base
  obtain ⟨B, b1, b2⟩ := restrict B0 fun b => decide (b ≠ ce.locals)
  have BB : ∀ b o, B.get? b = some o → B0.get? b = some o ∧ b ≠ ce.locals := fun b o e => by
    by_cases z : b = ce.locals
    · rw [b2 b (by simp [z])] at e; cases e
    · rw [b1 b (by simp [z])] at e; exact ⟨e, z⟩
  have BC : B.get? ce.locals = none := b2 _ (by simp)
  have Bof : ∀ b o, B0.get? b = some o → b ≠ ce.locals → B.get? b = some o := fun b o e n => by rw [b1 b (by simp [n])]; exact e
  have nC : H2 ce.locals = none := J.free
  -- the block's names stand
  obtain ⟨m, hnC, _⟩ := J.loc
  have hnC : s.heap.Ns ce.locals m := hnC
  have nst : ce.locals ∉ frs X.stack := fun hm => by
    obtain ⟨_, o, ho, _⟩ := I3.stack.mem hm
    rw [cL] at ho
    exact Nat.lt_irrefl _ (Heap.lt_size ho)
  have hn0 : s'.heap.Ns ce.locals m := by
    obtain ⟨o, es, ep, ho, hd, r⟩ := hnC
    exact ⟨o, es, ep, fl.1 _ _ (ub.keep _ o ho nC nst), hd, r⟩
  -- the flight over the smaller ground
  have fl2 : HandSPX.FlyingZ B (X.env :: X.outer) a (Zc cls d) s'.heap := by
    obtain ⟨k1, k2, k3, k4⟩ := fl
    have k3 : s'.heap.FunFrames B0 X.stack := k3
    rw [hs] at k3
    refine ⟨fun b o e => k1 b o (BB b o e).1, ?_, funFrames_none k3 fun L hL => ?_, ?_⟩
    · cases q : B.get? a with
      | none => rfl
      | some o => exact absurd (k2.symm.trans (BB a o q).1) (fun z => nomatch z)
    · cases q : B.get? L with
      | none => rfl
      | some o =>
        have z := k3.mem hL
        exact absurd (z.1.symm.trans (BB L o q).1) (fun z => nomatch z)
    · obtain ⟨oe, vs, T, oT, ts, he, hz, hd, h1, hnT, hTe, hT, hdT, h3⟩ := k4
      refine ⟨oe, vs, T, oT, ts, he, hz, hd, h1, ?_, hTe, hT, hdT, h3⟩
      cases q : B.get? T with
      | none => rfl
      | some o => exact absurd (hnT.symm.trans (BB T o q).1) (fun z => nomatch z)
  show notedBy (model X.prog X.w) X.A ce (CompFails (model X.prog X.w) X.A X.xe ce) (.ref a) s'
  show wpAny (model X.prog X.w) X.A (noteFrame (.ref a) ce) _ _ s'
  rw [noteFrame_env _ cF]
  refine HandSPX.looks_onZ Zc.steady hfr hf fl2 fun h1 hh1 up1 => ?_
  have hn1 : h1.Ns ce.locals m := up1.ns hn0
  refine ⟨m, hn1, fun h2 m2 hn2 sb => ?_⟩
  have hh2 : HandSPX.HeldZ B (X.env :: X.outer) a (Zc cls d) X.env.locals h2 := by
    obtain ⟨k1, k2, k3, k4⟩ := hh1
    exact ⟨fun b o e => (sb.2 b (BB b o e).2).trans (k1 b o e), k2, Heap.FunFrames.sameBut sb hn2 k3, TracedZ.sameBut hn1 sb k4⟩
  obtain ⟨oe, vs, T, oT, ts, he, hz, hd, h1', hnT, hTe, hT, hdT, h3'⟩ := id hh2.2.2.2
  unfold passOn
  refine wpAny_bind (wpAny_field he hd h1' ?_)
  rw [if_neg (show ¬ ((Value.ref T == Value.none) = true) from by simp)]
  rw [cF, hf]
  refine wpAny_bind (HandSPX.setFlight_onZ (s := { s' with heap := h2 }) hh2 fun h3 hh3 up3 => wpAny_throw (tk _ _ ?_))
  refine xe_of_sky (ch := fp) (B := B) (H' := H') I3 (fun b hb => ⟨(f3 b hb).1.2.2.2.1, (f3 b hb).1.2.1, (f3 b hb).1.2.2.2.2.1, (f3 b hb).1.2.2.2.2.2⟩) hh3.1 (.inr (.inr (by rw [hs]; exact hh3))) ?_ (fun b o e n hb hc => ?_) (fun b o e hb => ?_)
    (fun b o e n hc => ?_) (fun b o e hb hc => ?_) (fun b xs e => ub.tups b xs (base.tups b xs e)) (fun b o xs e => ub.frzs b o xs (base.frzs b o xs e)) (fun b ps e => ?_) na (os.trans J.os) ag hE
  · -- what is tracked stands in the smaller ground
    intro b o q
    refine (hok b o q).stay (fun c u hc r => Bof c u r fun z => ?_) (fun _ r => r) fun _ _ r => r
    have nCs : H' ce.locals = none := by
      obtain ⟨oC, _, _, hoC, _⟩ := hnC
      exact ub.free _ _ hoC nC
    rcases hc with hc | hc
    · rw [← hc, z, nCs] at q; cases q
    · rw [z, nCs] at hc; cases hc
  · have ne : b ≠ ce.locals := by rw [cL]; exact Nat.ne_of_lt (Heap.lt_size e)
    exact Bof b o (ub.keep b o (base.keep b o e n hb hc) (base.free b o e n hc) hb) ne
  · have n3 : H3 b = none := I3.stkFree b hb
    have hx : b ∉ fp := fun hm => by
      rcases List.mem_cons.mp (I3.stkSub b hb) with z | z
      · exact (f3 b hm).1.2.1 z
      · exact (f3 b hm).1.2.2.1 z
    obtain ⟨_, o0, e0, hnf⟩ := I3.stack.mem hb
    rw [e] at e0; cases e0
    obtain ⟨sl1, q1⟩ := base.slot b o e n3 hb hx
    obtain ⟨sl2, q2⟩ := ub.slot b _ q1 hb
    obtain ⟨sl3, q3⟩ := up1 b _ q2 hnf
    have ne : b ≠ ce.locals := by rw [cL]; exact Nat.ne_of_lt (Heap.lt_size e)
    have q4 := (sb.2 b ne).trans q3
    obtain ⟨sl5, q5⟩ := up3 b _ q4 hnf
    exact ⟨sl5, q5⟩
  · obtain ⟨o', q⟩ := base.there b o e hc
    exact ub.free b o' q (base.free b o e n hc)
  · obtain ⟨o', q⟩ := base.there b o e hc
    obtain ⟨o2, q2⟩ := ub.there b o' q hb
    have ne : b ≠ ce.locals := by rw [cL]; exact Nat.ne_of_lt (Heap.lt_size e)
    exact ⟨o2, Bof b o2 q2 ne⟩
  · obtain ⟨more, q⟩ := base.tbls b ps e
    obtain ⟨more2, q2⟩ := ub.tbls b _ q
    exact ⟨more ++ more2, by rw [q2, Array.append_assoc]⟩

/-! ### the comprehension -/
section
variable {X : Cx}
theorem lc_coreX {W : WX} {pins : List (Addr × Obj)} {s : Shared} {σ : L2.St} {H : Hp} {Q : VK} {elt tg iter : Expr} {ifs : List Expr} {scope : Scope} {own : List (Str × Nat)} {pos pos' : Pos} {wi : TI} {g : TG} {tt : TT} {te : TE} {use : Option (Value → Sem Unit)} {Qf : Value → Shared → Prop}
    (tk : Takes X W) (hs0 : X.stack = X.env :: X.outer) (hf : X.env.frame = some X.env.locals)
    (hc : X.calm = true) (hN : X.N.Nodup) (I : Inv X pins σ H s) (hi : PI X tg iter wi) (ok : BlkOk X.N X.env.scope scope own)
    (hg : ∀ (s : Shared) (H : Hp) (C : Addr) (cl : List (Str × Addr)) (fp : List Addr), PG (blkR X s H scope (compEnvC scope cl C X.env) fp) tg g) (ht : ∀ (s : Shared) (H : Hp) (C : Addr) (cl : List (Str × Addr)) (fp : List Addr), PTs (blkR X s H scope (compEnvC scope cl C X.env) fp) ifs tt)
    (he : ∀ (s : Shared) (H : Hp) (C : Addr) (cl : List (Str × Addr)) (fp : List Addr), Lets (blkR X s H scope (compEnvC scope cl C X.env) fp) (fun c d _ H' => W c d σ H') → PE (blkR X s H scope (compEnvC scope cl C X.env) fp) elt te) (hs : ∀ x, foldedSetIterable iter X.env x = pure x)
    (h : tLc wi g tt te (own.map (·.2)) σ H Q)
    (hRR : ∀ D (ce : Env) s' m H', Inv X pins σ H' s' → Q (.ref D) H' → s'.heap.Ns ce.locals m → FpOk X pins H' ce.locals → compEnds (model X.prog X.w) X.A X.xe use Qf (.ref D) ce (.ok .next) s') :
    wpAny (model X.prog X.w) X.A (comprehension (.ListComp elt [⟨tg, iter, ifs, 0⟩] scope pos) scope X.env pos' (newList []) false (eval iter X.env) use) Qf X.xe s := by
  have hfree : ∀ y ∈ scope.names, y.2 = .free → ∃ c, X.env.cells.lookup y.1 = some c := fun y hy e => by
    rcases ok.free y hy e with k | k
    · exact I.ok.has _ (.inl k)
    · exact I.ok.has _ (.inr k)
  refine comprehension_at (use := use) rfl hs (closure_ok hfree) ok.kind (fun y hy e => by rw [ok.uniq y hy, e])
    (thn (hi.run pins s σ H _ I h) fun xv s1 hx => thn hx fun itv s2 h2 => ?_)
  obtain ⟨it, fp, tn, J, H2, e, I2, T, st2, f2, q⟩ := h2
  subst e
  refine wpAny_newObj_type (newEnv_comp ?_) (by show 0 ≤ sizeLine; decide)
  generalize hD : s2.heap.objs.size = D
  have hDn : H2 D = none := I2.hok.fresh (Nat.le_of_eq hD)
  obtain ⟨W1, ⟨m0, w0⟩, turn⟩ := q D hDn
  generalize hs3 : ({ s2 with heap := s2.heap.push { cls := .type "list", data := .seq ([] : List Value).toArray } } : Shared) = s3
  have I3 : Inv X pins σ (upd H2 D (.lst [])) s3 := by
    rw [← hs3]
    refine I2.laid (t' := s2.toks) (fun b o e => Heap.get?_push_of_some _ e) (Nat.le_of_eq hD) ⟨Nat.zero_le _, [], 0, .nil, ?_⟩
    rw [← hD]
    exact Heap.get?_push_size _ rfl
  have h3 : s3.heap = s2.heap.push { cls := .type "list", data := .seq ([] : List Value).toArray } := by rw [← hs3]
  have sz : ∀ b ∈ fp, b < s2.heap.objs.size := fun b hb => by
    obtain ⟨o, e, _⟩ := T.obj _ _ st2 b hb
    exact Heap.lt_size e
  have f3 : ∀ b ∈ fp, FpOk X pins (upd H2 D (.lst [])) b ∧ b < s3.heap.objs.size := fun b hb => by
    have hlt := sz b hb
    refine ⟨⟨?_, (f2 b hb).2⟩, by rw [h3, Heap.size_push]; exact Nat.lt_succ_of_lt hlt⟩
    rw [upd_ne (by rw [← hD]; exact Nat.ne_of_lt hlt)]
    exact (f2 b hb).1
  have st3 : tn 0 s3.heap := T.keep _ _ _ st2 fun b _ o e => by rw [h3]; exact Heap.get?_push_of_some _ e
  have I4 := block_start I3 ok hN f3
  have pg := hg s3 (upd H2 D (.lst [])) s3.heap.objs.size (cellsFrom (s3.heap.objs.size + 1) scope.names (cloFrom X.env.cells scope.names [])) fp
  have pt := ht s3 (upd H2 D (.lst [])) s3.heap.objs.size (cellsFrom (s3.heap.objs.size + 1) scope.names (cloFrom X.env.cells scope.names [])) fp
  have pe := he s3 (upd H2 D (.lst [])) s3.heap.objs.size (cellsFrom (s3.heap.objs.size + 1) scope.names (cloFrom X.env.cells scope.names [])) fp
  show codeAny _ _ (.compStart (.ListComp elt [⟨tg, iter, ifs, 0⟩] scope pos) 0 (.ref it) (.ref D) (compEnvC scope (cellsFrom (s3.heap.objs.size + 1) scope.names (cloFrom X.env.cells scope.names [])) s3.heap.objs.size X.env))
    (compEnds (model X.prog X.w) X.A X.xe use Qf (.ref D) (compEnvC scope (cellsFrom (s3.heap.objs.size + 1) scope.names (cloFrom X.env.cells scope.names [])) s3.heap.objs.size X.env)) { s3 with heap := pushCells (s3.heap.push { cls := .type "dict", data := .dict #[] }) scope.names }
  have nfp : ∀ b ∈ fp, (upd H2 D (.lst [])) b = none := fun b hb => (f3 b hb).1.1
  generalize hce : compEnvC scope (cellsFrom (s3.heap.objs.size + 1) scope.names (cloFrom X.env.cells scope.names [])) s3.heap.objs.size X.env = ce at I4 pg pt pe ⊢
  have cL : ce.locals = s3.heap.objs.size := by subst hce; rfl
  have cF : ce.frame = X.env.frame := by subst hce; rfl
  generalize hH3 : upd H2 D (.lst []) = H3 at I3 I4 pg pt pe w0 nfp f3
  have pe := pe (lets_blk tk hs0 hf I3 f3 cL cF)
  have I4 := MR.Inv.xe I4 (notedBy (model X.prog X.w) X.A ce (CompFails (model X.prog X.w) X.A X.xe ce))
  generalize hs4 : ({ s3 with heap := pushCells (s3.heap.push { cls := .type "dict", data := .dict #[] }) scope.names } : Shared) = s4 at I4 ⊢
  have I4 : Inv (blkR X s3 H3 scope ce fp) [] (wipe σ (own.map (·.2))) H3 s4 := I4
  have st4 : tn 0 s4.heap := T.keep _ _ _ st3 fun b _ o e => by rw [← hs4]; exact pushCells_keeps _ _ _ _ (Heap.get?_push_of_some _ e)
  have stat : ∀ {σ' : L2.St} {H' : Hp} {s' : Shared}, Inv (blkR X s3 H3 scope ce fp) [] σ' H' s' → (∀ b ∈ fp, H' b = none) → ∀ b ∈ fp, FpOk (blkR X s3 H3 scope ce fp) [] H' b := fun {σ' H' s'} I' hn b hb =>
    ⟨hn b hb, (I'.ok.exf b hb).1, I'.ok.exfs b hb, .inl hb, fun x c e => (I'.ok.exf b hb).2 x c e, fun p hp => absurd (show p ∈ ([] : List (Addr × Obj)) ++ [] from hp) (by simp)⟩
  have loop : codeAny (model X.prog X.w) X.A (.compLoop (.ListComp elt [⟨tg, iter, ifs, 0⟩] scope pos) 0 (.ref it) (.ref D) ce) (compEnds (model X.prog X.w) X.A X.xe use Qf (.ref D) ce) s4 := by
    have hER : (fun (e : Value) (s' : Shared) => compEnds (model X.prog X.w) X.A X.xe use Qf (.ref D) ce (.error e) s') = CompFails (model X.prog X.w) X.A X.xe ce := by
      funext e s'
      cases use <;> rfl
    refine compLoop_any (fun n s' => ∃ i H', Inv (blkR X s3 H3 scope ce fp) [] (wipe σ (own.map (·.2))) H' s' ∧ tn i s'.heap ∧ (∀ b ∈ fp, H' b = none) ∧ W1 i n H') ?_ m0 ⟨0, H3, I4, st4, nfp, w0⟩
    rw [hER]
    rintro n s5 ⟨i, H5, I5, st5, n5, w5⟩
    rcases turn i n H5 w5 with ⟨stop, qq⟩ | ⟨go, Nx, hNx, step⟩
    · have td := T.done (blkR X s3 H3 scope ce fp) rfl rfl rfl hc i [] s5 _ H5 (fun _ _ => False) I5 (stat I5 n5) st5 stop
      refine thnF td fun r s6 ⟨hr, I6⟩ => ?_
      subst hr
      have I7 : Inv X pins σ H5 s6 := I3.call' (ch := fp) I6.os I6.base I6.hok I6.bare fun b hb => ⟨(f3 b hb).1.2.2.2.1, (f3 b hb).1.2.1, (f3 b hb).1.2.2.2.2.1, (f3 b hb).1.2.2.2.2.2⟩
      have nC : H5 ce.locals = none := I6.free
      obtain ⟨m, hn, _⟩ := I6.loc
      have hn : s6.heap.Ns ce.locals m := hn
      exact hRR D ce s6 m H5 I7 qq hn (I3.fpOk (Nat.le_of_eq cL.symm) nC)
    · have ti := T.item (blkR X s3 H3 scope ce fp) rfl rfl rfl hc i [] s5 _ H5 (fun _ _ => False) I5 (stat I5 n5) st5 go
      refine thnF ti fun r s6 ⟨u, hr, h6⟩ => ?_
      subst hr
      refine thnF h6 fun _ s7 ⟨x, H7, I7, r7, y7, st7, n7⟩ => ?_
      have I7' := I7.pinned (stat I7 n7) (T.obj _ _ st7)
      refine thn (pg.run _ s7 _ H7 x u _ I7' r7 (step x H7 y7)) fun _ s8 ⟨σ8, H8, I8, hw8, q8⟩ => ?_
      refine thn (pt.run _ s8 σ8 H8 _ I8 q8) fun b s9 ⟨H9, I9, q9⟩ => ?_
      have fin : ∀ {s' : Shared} {H' : Hp}, Inv (blkR X s3 H3 scope ce fp) ([] ++ pinsAt fp s7.heap) σ8 H' s' → Nx H' → ∃ m, m < n ∧ ∃ i H', Inv (blkR X s3 H3 scope ce fp) [] (wipe σ (own.map (·.2))) H' s' ∧ tn i s'.heap ∧ (∀ b ∈ fp, H' b = none) ∧ W1 i m H' := fun {s' H'} I' nx => by
        obtain ⟨m', hm, w'⟩ := hNx H' nx
        have pin' : ∀ b ∈ fp, ∀ o, s7.heap.get? b = some o → s'.heap.get? b = some o ∧ H' b = none := fun b hb o e =>
          let z := I'.pin (b, o) (List.mem_append_right _ (List.mem_append_right _ (mem_pinsAt hb e)))
          ⟨z.1, z.2.1⟩
        have hl : (wipe σ (own.map (·.2))).length = σ8.length := by rw [← hw8, wipe_length]
        refine ⟨m', hm, i + 1, H', (I'.unpinned (pins := [])).weak hl (fun j v e => ?_), T.keep _ _ _ st7 fun b hb o e => (pin' b hb o e).1, fun b hb => ?_, w'⟩
        · rw [← hw8] at e
          exact (wipe_some e).1
        · obtain ⟨o, e, _⟩ := T.obj _ _ st7 b hb
          exact (pin' b hb o e).2
      cases b with
      | false =>
        simp only [Bool.false_eq_true, if_false] at q9 ⊢
        exact fin I9 q9
      | true =>
        simp only [if_true] at q9 ⊢
        refine thn (pe.run _ s9 σ8 H9 _ I9 q9) fun z s10 ⟨yv, H10, I10, r10, acc, hD10, hz10, nx⟩ => ?_
        exact app_ok (X := blkR X s3 H3 scope ce fp) I10 hD10 hz10 r10 fun s11 I11 => fin I11 nx
  exact codeAny_compStart_list loop (T.self X.A 0 _ _ _ st4 loop)
/-- [elt for ..], as a value, what elt lets out wished for at the frame's slots -/
theorem pe_lcX {W : WX} {elt tg iter : Expr} {ifs : List Expr} {scope : Scope} {own : List (Str × Nat)} {pos : Pos} {wi : TI} {g : TG} {tt : TT} {te : L2.St → TE} (tk : Takes X W) (hs0 : X.stack = X.env :: X.outer) (hf : X.env.frame = some X.env.locals)
    (hc : X.calm = true) (hN : X.N.Nodup) (hi : PI X tg iter wi) (ok : BlkOk X.N X.env.scope scope own)
    (hg : ∀ (s : Shared) (H : Hp) (C : Addr) (cl : List (Str × Addr)) (fp : List Addr), PG (blkR X s H scope (compEnvC scope cl C X.env) fp) tg g) (ht : ∀ (s : Shared) (H : Hp) (C : Addr) (cl : List (Str × Addr)) (fp : List Addr), PTs (blkR X s H scope (compEnvC scope cl C X.env) fp) ifs tt)
    (he : ∀ (s : Shared) (H : Hp) (C : Addr) (cl : List (Str × Addr)) (fp : List Addr) (σ : L2.St), Lets (blkR X s H scope (compEnvC scope cl C X.env) fp) (fun c d _ H' => W c d σ H') → PE (blkR X s H scope (compEnvC scope cl C X.env) fp) elt (te σ)) (hs : ∀ x, foldedSetIterable iter X.env x = pure x := by intro _; rfl) :
    PE X (.ListComp elt [⟨tg, iter, ifs, 0⟩] scope pos) (fun σ H Q => tLc wi g tt (te σ) (own.map (·.2)) σ H Q) := by
  refine ⟨fun pins s σ H Q I h => ?_⟩
  rw [eval_ListComp]
  refine lc_coreX (te := te σ) tk hs0 hf hc hN I hi ok hg ht (fun s H C cl fp l => he s H C cl fp σ l) hs h fun D ce s' m H' I' q hn f => ⟨m, hn, fun h'' sb => ?_⟩
  obtain ⟨f0, f1, f2, f3, f4, f5⟩ := f
  exact ⟨.ref D, H', I'.turned (t' := s'.toks) (fun b o hb e => (sb.2 b hb).trans e) f0 f1 f3 f4 f5, rfl, q⟩
theorem ps_setLcX {W : WX} {i : Nat} {y : Str} {py : Pos} {elt tg iter : Expr} {ifs : List Expr} {scope : Scope} {own : List (Str × Nat)} {pos spos : Pos} {wi : TI} {g : TG} {tt : L2.St → TT} {te : L2.St → TE} (tk : Takes X W) (hs0 : X.stack = X.env :: X.outer) (hf : X.env.frame = some X.env.locals)
    (hc : X.calm = true) (hN : X.N.Nodup) (hy : X.N[i]? = some y) (hyl : X.env.scope.names.lookup y = some .local)
    (hsw : swapsWith (.ListComp elt [⟨tg, iter, ifs, 0⟩] scope pos) (some (.Name y py)) spos.line X.env = pure true) (hi : PI X tg iter wi) (ok : BlkOk X.N X.env.scope scope own)
    (hg : ∀ (s : Shared) (H : Hp) (C : Addr) (cl : List (Str × Addr)) (fp : List Addr), PG (blkR X s H scope (compEnvC scope cl C X.env) fp) tg g) (ht : ∀ (s : Shared) (H : Hp) (C : Addr) (cl : List (Str × Addr)) (fp : List Addr) (σ : L2.St), PTs (blkR X s H scope (compEnvC scope cl C X.env) fp) ifs (tt σ))
    (he : ∀ (s : Shared) (H : Hp) (C : Addr) (cl : List (Str × Addr)) (fp : List Addr) (σ : L2.St), Lets (blkR X s H scope (compEnvC scope cl C X.env) fp) (fun c d _ H' => W c d σ H') → PE (blkR X s H scope (compEnvC scope cl C X.env) fp) elt (te σ)) (hs : ∀ x, foldedSetIterable iter X.env x = pure x := by intro _; rfl) :
    PS X (.Assign [.Name y py] (.ListComp elt [⟨tg, iter, ifs, 0⟩] scope pos) spos) (tAsg (fun σ H Q => tLc wi g (tt σ) (te σ) (own.map (·.2)) σ H Q) (gName i)) := by
  refine ⟨fun pins s σ H D I h => ?_⟩
  rw [exec_Assign_Name_used _ _ _ _ hsw]
  refine wpAny_bind (wpAny_standAt (wpAny_bind ?_))
  show wpAny _ X.A (do let _ ← comprehension (.ListComp elt [⟨tg, iter, ifs, 0⟩] scope pos) scope X.env (firstIterPos [⟨tg, iter, ifs, 0⟩] pos) (newList []) false (eval iter X.env) (some (assign (.Name y py) X.env))) _ _ s
  have h : tLc wi g (tt σ) (te σ) (own.map (·.2)) σ H (fun x H1 => gName i x σ H1 D.nx) := h
  refine wpAny_bind (thn (lc_coreX (te := te σ) (Qf := fun _ s' => SP X pins D .next s') tk hs0 hf hc hN I hi ok hg (fun s H C cl fp => ht s H C cl fp σ) (fun s H C cl fp l => he s H C cl fp σ l) hs h fun L ce s' m H' I' q hn f => ?_) fun _ s' hq => wpAny_pure (wpAny_pure hq))
  show wpAny _ _ (assign (.Name y py) X.env (.ref L)) _ _ _
  refine wpAny_assign_Name (store_ok2 (v := V.ref L) I' hN hy (.inl hyl) rfl (fun s2 I2 ⟨a, sb, ha⟩ => ?_) (.inr hyl))
  obtain ⟨f0, f1, f2, f3, f4, f5⟩ := f
  have haC : ce.locals ≠ a := by
    rcases ha with z | z
    · rw [z]; exact f1
    · exact fun e => f4 y a z e.symm
  refine ⟨m, hn.sameBut sb haC, fun h3 sb3 => ?_⟩
  exact ⟨_, H', I2.turned (t' := s2.toks) (fun b o hb e => (sb3.2 b hb).trans e) f0 f1 f3 f4 f5, q⟩
end
end MR

/-! raising comprehensions as mirrors; a, *b = v; repr; try .. except as -/
namespace MR
open PySem L2
open PyProof.Rows (IsTup iter_tuple draw_tuple slot_tuple_iter)

/-! ### comprehensions whose element raises -/
def compX (t : Tgt) (tst : MT) (elt : ME) : List MV → MEnv → List MV → Sto → Res (List MV)
  | [], _, acc, st => .ok acc st
  | y :: ys, env, acc, st => match t.bind y env with
    | none => .bad
    | some env1 => match tst env1 st with
      | .ok true st1 => match elt env1 st1 with
        | .ok v st2 => if acc.length < 16777216 then compX t tst elt ys env (acc ++ [v]) st2 else .bad
        | .exc c st2 => .exc c st2
        | .bad => .bad
      | .ok false st1 => compX t tst elt ys env acc st1
      | _ => .bad
def mLcX (mi : MA) (own : List Nat) (t : Tgt) (tst : MT) (elt : ME) : ME := fun env st => (mi env st).bind fun ys st1 => (compX t tst elt ys (wipeM env own) [] st1).bind fun zs st2 => .ok (.lst zs) st2
section
variable {X : Cx} {W : WX} {tg it elt : Expr} {ifs : List Expr} {scope : Scope} {pos : Pos} {mi : MA} {mt : MT} {me : ME}
theorem pmts_nil' {W : WX} : PTs X [] (tT (gmOf X) W tYesM) := ⟨fun pins s σ H Q I ⟨A, env, st, sr, q, h⟩ => pts_nil.run pins s σ H Q I (h A H (Ext.refl A H) sr)⟩
theorem lcEX {vs : List Nat} {t : Tgt} (hsub : ∀ i ∈ t.slots, i ∈ vs) {σ : L2.St} {H : Hp} {Q : VK} (h : tE (gmOf X) W (mLcX mi vs t mt me) σ H Q) :
    tLc (tI (gmOf X) W mi) (t.tg X.K) (tT (gmOf X) (fun c d _ H' => W c d σ H') mt) (tE (gmOf X) (fun c d _ H' => W c d σ H') me) vs σ H Q := by
    obtain ⟨A, env, st, s, q, h⟩ := h
    unfold mLcX at h
    rw [Res.post_bind] at h
    refine ⟨A, env, st, s, q, h.mono (fun ys st1 h1 A1 H1 J e1 s1 itm D hD => ?_) fun _ _ z => z⟩
    rw [Res.post_bind] at h1
    refine lc_it itm.walk (fun i H' => ∃ A' st' acc accV, Ext A1 H1 A' H' ∧ SR (gmOf X) (A'.fence D) H' st' ∧ H' D = some (.lst accV) ∧ RepAll (gmOf X) (A'.fence D) H' accV acc ∧
        (compX t mt me (ys.drop i) (wipeM env vs) acc st').post (fun zs st2 => okP (gmOf X) A1 H1 Q (.lst zs) st2) (exP (gmOf X) A1 H1 (WE W σ))) ?_ (fun i H' _ ⟨A', st', acc, accV, x', s', _⟩ => ⟨A', st', x'.w, s'.unfence⟩) (fun i x H' H2 hlt ⟨A', st', acc, accV, x', s', hDv, ra, ec⟩ y => ?_) (fun H' ⟨A', st', acc, accV, x', s', hDv, ra, ec⟩ => ?_)
    · exact ⟨A1, st1, [], [], Ext.grown _ s1 hD (Ext.refl A1 H1), s1.fence hD _, upd_same, .nil, by rw [List.drop_zero]; exact h1.mono (fun zs st2 z => okP.ext e1 z) fun c st2 z => z.ext e1⟩
    · obtain ⟨x2, s2, m, em, r2⟩ := y (A'.fence D) st' (x'.w.fence hD) s'
      have ed : ys.drop i = m :: ys.drop (i + 1) := by
        rw [List.drop_eq_getElem_cons hlt]
        rw [List.getElem?_eq_getElem hlt] at em
        rw [Option.some.inj em]
      rw [ed] at ec
      unfold compX at ec
      cases eb : t.bind m (wipeM env vs) with
      | none => rw [eb] at ec; exact ec.elim
      | some env1 =>
        rw [eb] at ec
        have q2 : EnvR (gmOf X) (A'.fence D) H2 (wipe σ vs) (wipeM env vs) := by
          have q1 := (q.ext e1)
          refine EnvR.wipe ⟨q1.len, fun j mj hj => ?_⟩ vs
          obtain ⟨v, a, r⟩ := q1.get j mj hj
          exact ⟨v, a, (r.extW (x'.w.fence hD)).ext x2⟩
        refine Tgt.ok (own := vs) r2 q2 eb hsub fun σ2 q3 hw => ⟨by rw [hw]; exact wipe_wipe fun _ m => m, ?_⟩
        have hD2 : H2 D = some (.lst accV) := (x2.fk D List.mem_cons_self).trans hDv
        have ec : Res.post (match mt env1 st' with
          | .ok true st1 => (match me env1 st1 with
            | .ok v st2 => if acc.length < 16777216 then compX t mt me (ys.drop (i + 1)) (wipeM env vs) (acc ++ [v]) st2 else .bad
            | .exc c st2 => .exc c st2
            | .bad => .bad)
          | .ok false st1 => compX t mt me (ys.drop (i + 1)) (wipeM env vs) acc st1
          | _ => .bad) _ _ := ec
        cases et : mt env1 st' with
        | exc c st3 => rw [et] at ec; exact ec.elim
        | bad => rw [et] at ec; exact ec.elim
        | ok b st3 =>
          rw [et] at ec
          refine ⟨A'.fence D, env1, st', s2, q3, post_ok et fun A3 H3 x3 s3 => ?_⟩
          have fA3 : A3 = (⟨A3.ix, A'.fn⟩ : Ad).fence D := by
            obtain ⟨ix, fn⟩ := A3
            have : fn = D :: A'.fn := x3.fen
            subst this
            rfl
          have hD3 : H3 D = some (.lst accV) := (x3.fk D List.mem_cons_self).trans hD2
          have ra3 : RepAll (gmOf X) A3 H3 accV acc := (ra.ext x2).ext x3
          cases b with
          | false =>
            rw [fA3] at x3 s3 ra3
            exact ⟨_, st3, acc, accV, x'.trans (Ext.unfence s3 (x2.trans x3)), s3, hD3, ra3, ec⟩
          | true =>
            have ec : Res.post (match me env1 st3 with
              | .ok v st2 => if acc.length < 16777216 then compX t mt me (ys.drop (i + 1)) (wipeM env vs) (acc ++ [v]) st2 else .bad
              | .exc c st2 => .exc c st2
              | .bad => .bad) _ _ := ec
            have fA : ∀ {A4 : Ad} {H4 : Hp}, Ext A3 H3 A4 H4 → A4 = (⟨A4.ix, A'.fn⟩ : Ad).fence D := fun {A4 H4} x4 => by
              obtain ⟨ix, fn⟩ := A4
              have : fn = D :: A'.fn := x4.fen.trans x3.fen
              subst this
              rfl
            show tE (gmOf X) (fun c d _ H' => W c d σ H') me σ2 H3 _
            refine ⟨A3, env1, st3, s3, q3.ext x3, ?_⟩
            cases ee : me env1 st3 with
            | exc c st4 =>
              rw [ee] at ec
              have ec : exP (gmOf X) A1 H1 (WE W σ) c st4 := ec
              intro A4 H4 C dE x4 s4 hC
              have fA4 := fA x4
              have x24 := (x2.trans x3).trans x4
              rw [fA4] at x24 s4 hC
              exact ec _ H4 C dE (x'.trans (Ext.unfence s4 x24)) s4.unfence hC.unfence
            | bad => rw [ee] at ec; exact ec.elim
            | ok v st4 =>
              rw [ee] at ec
              have ec : Res.post (if acc.length < 16777216 then compX t mt me (ys.drop (i + 1)) (wipeM env vs) (acc ++ [v]) st4 else .bad) _ _ := ec
              by_cases hl : acc.length < 16777216
              · rw [if_pos hl] at ec
                intro A4 H4 vv x4 s4 r4
                have fA4 := fA x4
                have hD4 : H4 D = some (.lst accV) := (x4.fk D (by rw [x3.fen]; exact List.mem_cons_self)).trans hD3
                have ra4 := ra3.ext x4
                have x24 := (x2.trans x3).trans x4
                rw [fA4] at x24 s4 ra4 r4
                refine ⟨accV, hD4, by rw [ra4.length, sizeLine_eq]; exact hl, _, st4, acc ++ [v], accV ++ [vv], Ext.grown _ s1 hD (x'.trans (Ext.unfence s4 x24)), s4.grow _, upd_same, (ra4.append (.cons r4 .nil)).grow _, ec⟩
              · rw [if_neg hl] at ec; exact ec.elim
    · rw [List.drop_length] at ec
      exact ec A' H' _ x' s'.unfence (.lst hDv s'.fence_out ra.unfence)
theorem pm_lcX {own : List (Str × Nat)} {t : Tgt} (tk : Takes X W) (hs0 : X.stack = X.env :: X.outer) (hf : X.env.frame = some X.env.locals) (hN : X.N.Nodup) (hi : PMI X W tg it mi) (ok : BlkOk X.N X.env.scope scope own)
    (hg : ∀ (s : Shared) (H : Hp) (C : Addr) (cl : List (Str × Addr)) (fp : List Addr), PG (blkR X s H scope (compEnvC scope cl C X.env) fp) tg (t.tg X.K))
    (ht : ∀ (s : Shared) (H : Hp) (C : Addr) (cl : List (Str × Addr)) (fp : List Addr) (W : WX), PTs (blkR X s H scope (compEnvC scope cl C X.env) fp) ifs (tT (gmOf X) W mt))
    (he : ∀ (s : Shared) (H : Hp) (C : Addr) (cl : List (Str × Addr)) (fp : List Addr) (W : WX), Lets (blkR X s H scope (compEnvC scope cl C X.env) fp) W → PM (blkR X s H scope (compEnvC scope cl C X.env) fp) W elt me)
    (hsub : ∀ i ∈ t.slots, i ∈ own.map (·.2) := by decide) (hc : X.calm = true := by rfl) (hs : ∀ x, foldedSetIterable it X.env x = pure x := by intro _; rfl) :
    PM X W (.ListComp elt [⟨tg, it, ifs, 0⟩] scope pos) (mLcX mi (own.map (·.2)) t mt me) := by
  refine ⟨fun pins s σ H Q I h => ?_⟩
  have hl := lcEX hsub h
  rw [eval_ListComp]
  refine lc_coreX (te := tE (gmOf X) (fun c d _ H' => W c d σ H') me) tk hs0 hf hc hN I hi ok hg (fun s H C cl fp => ht s H C cl fp _) (fun s H C cl fp l => he s H C cl fp _ l) hs hl fun D ce s' m H' I' q hn f => ⟨m, hn, fun h'' sb => ?_⟩
  obtain ⟨f0, f1, f2, f3, f4, f5⟩ := f
  exact ⟨.ref D, H', I'.turned (t' := s'.toks) (fun b o hb e => (sb.2 b hb).trans e) f0 f1 f3 f4 f5, rfl, q⟩
theorem inSetE {i : Nat} {me : ME} {D : Ends} {σ : L2.St} {H : Hp} (h : tS (gmOf X) W (sSet i me) D σ H) : tE (gmOf X) W me σ H (fun x H1 => D.nx (σ.set i (some x)) H1) := by
  obtain ⟨A, env, st, s, q, h⟩ := h
  exact inE s q (Ext.refl A H) ((post_bindE h).mono (fun mx st1 h1 A1 H1 x e1 s1 r1 => h1 A1 H1 _ e1 s1 ((q.ext e1).set i r1)) fun _ _ z => exP_of q z)
/-- name = [elt for ..], on one line -/
theorem pms_setLcX {y : Str} {py spos : Pos} {own : List (Str × Nat)} {t : Tgt} (i : Nat) (tk : Takes X W) (hs0 : X.stack = X.env :: X.outer) (hf : X.env.frame = some X.env.locals) (hN : X.N.Nodup) (hi : PMI X W tg it mi) (ok : BlkOk X.N X.env.scope scope own)
    (hg : ∀ (s : Shared) (H : Hp) (C : Addr) (cl : List (Str × Addr)) (fp : List Addr), PG (blkR X s H scope (compEnvC scope cl C X.env) fp) tg (t.tg X.K))
    (ht : ∀ (s : Shared) (H : Hp) (C : Addr) (cl : List (Str × Addr)) (fp : List Addr) (W : WX), PTs (blkR X s H scope (compEnvC scope cl C X.env) fp) ifs (tT (gmOf X) W mt))
    (he : ∀ (s : Shared) (H : Hp) (C : Addr) (cl : List (Str × Addr)) (fp : List Addr) (W : WX), Lets (blkR X s H scope (compEnvC scope cl C X.env) fp) W → PM (blkR X s H scope (compEnvC scope cl C X.env) fp) W elt me)
    (hy : X.N[i]? = some y := by rfl) (hyl : X.env.scope.names.lookup y = some .local := by rfl) (hsw : swapsWith (.ListComp elt [⟨tg, it, ifs, 0⟩] scope pos) (some (.Name y py)) spos.line X.env = pure true := by exact sw_true rfl rfl rfl rfl)
    (hsub : ∀ i ∈ t.slots, i ∈ own.map (·.2) := by decide) (hc : X.calm = true := by rfl) (hs : ∀ x, foldedSetIterable it X.env x = pure x := by intro _; rfl) :
    PMS X W (.Assign [.Name y py] (.ListComp elt [⟨tg, it, ifs, 0⟩] scope pos) spos) (sSet i (mLcX mi (own.map (·.2)) t mt me)) :=
  PS_imp (ps_setLcX (te := fun σ => tE (gmOf X) (fun c d _ H' => W c d σ H') me) (tt := fun σ => tT (gmOf X) (fun c d _ H' => W c d σ H') mt) tk hs0 hf hc hN hy hyl hsw hi ok hg (fun s H C cl fp σ => ht s H C cl fp _) (fun s H C cl fp σ l => he s H C cl fp _ l) hs) fun D σ H h =>
    lcEX hsub (inSetE h)
theorem pms_setLc {y : Str} {py spos : Pos} {own : List (Str × Nat)} {t : Tgt} (i : Nat) (hN : X.N.Nodup) (hi : PMI X W tg it mi) (ok : BlkOk X.N X.env.scope scope own)
    (hg : ∀ (s : Shared) (H : Hp) (C : Addr) (cl : List (Str × Addr)) (fp : List Addr), PG (X.blk s H scope (compEnvC scope cl C X.env) fp) tg (t.tg X.K))
    (ht : ∀ (s : Shared) (H : Hp) (C : Addr) (cl : List (Str × Addr)) (fp : List Addr), PTs (X.blk s H scope (compEnvC scope cl C X.env) fp) ifs (tT (gmOf X) W0 mt))
    (he : ∀ (s : Shared) (H : Hp) (C : Addr) (cl : List (Str × Addr)) (fp : List Addr), PM (X.blk s H scope (compEnvC scope cl C X.env) fp) W0 elt me)
    (hy : X.N[i]? = some y := by rfl) (hyl : X.env.scope.names.lookup y = some .local := by rfl) (hsw : swapsWith (.ListComp elt [⟨tg, it, ifs, 0⟩] scope pos) (some (.Name y py)) spos.line X.env = pure true := by exact sw_true rfl rfl rfl rfl)
    (hsub : ∀ i ∈ t.slots, i ∈ own.map (·.2) := by decide) (hc : X.calm = true := by rfl) (hs : ∀ x, foldedSetIterable it X.env x = pure x := by intro _; rfl) :
    PMS X W (.Assign [.Name y py] (.ListComp elt [⟨tg, it, ifs, 0⟩] scope pos) spos) (sSet i (mLc mi (own.map (·.2)) t mt me)) :=
  PS_imp (ps_setLc hc hN hy hyl hsw hi ok hg ht he hs) fun D σ H h => lcE hsub (inSetE h)
end

/-! ### a, *b = v -/
section
variable {prog : Program} {w : World} {A : Around} {E : Value → Shared → Prop} {s : Shared}
theorem star_list {l : Addr} {items : Array Value} {Q : List Value → Shared → Prop} {x : Value} {r : List Value} (hl : s.heap.IsList l items) (hh : A.handled = none) (hx : items.toList = x :: r) (hz : items.size ≤ 16384)
    (h : ∀ (h' : Heap) (tk : Nat), (∀ b o, s.heap.get? b = some o → h'.get? b = some o) → Q [x, .ref h'.objs.size] { s with heap := h'.push { cls := .type "list", data := .seq r.toArray }, toks := tk }) : wpAny (model prog w) A (unpackItems (.ref l) 2 (some 1)) Q E s := by
  have hsz : items.size = r.length + 1 := by rw [← Array.length_toList, hx, List.length_cons]
  have hlt : l ≠ s.heap.objs.size := by obtain ⟨o, ho, _⟩ := hl; exact Nat.ne_of_lt (Heap.lt_size ho)
  have hll : l < s.heap.objs.size := by obtain ⟨o, ho, _⟩ := hl; exact Heap.lt_size ho
  unfold unpackItems
  refine wpAny_bind ?_
  unfold notIterableAtAll
  refine wpAny_bind (wpAny_specialOf hl.typeIs slot_list_iter.lookup ?_)
  refine wpAny_pure ?_
  simp only [Bool.false_eq_true, if_false]
  refine wpAny_bind (wpAny_holding (wpAny_pyIter_list hl ?_))
  refine wpAny_bind (wpAny_holding (PySem.W.kun_draw hlt 1 0 _ _ ⟨_, Heap.get?_push_size _ rfl, rfl, rfl⟩ (hl.push _) (by omega) fun h₁ hit₁ hs₁ => ?_))
  have hl₁ : h₁.IsList l items := (hl.push _).extBut hs₁.extBut hlt
  rw [Nat.zero_add] at hit₁
  obtain ⟨oi, hoi, _⟩ := id hit₁
  obtain ⟨ol, hol, _⟩ := id hl₁
  rw [List.drop_zero, hx]
  show wpAny _ _ (if [x].length < 1 then _ else _) _ _ _
  rw [if_neg (by simp)]
  refine wpAny_bind (wpAny_holding (PySem.W.kun_collect (s := { s with heap := h₁ }) (T := "list_iterator") (.inr (.inr (.inl rfl))) (Walks.list (A := A.in1) hh s.heap.objs.size l hlt items) (fun j u st => st.1.typeIs) (k := 1) (by omega) ⟨hit₁, hl₁⟩ (Heap.lt_size hoi) (Heap.lt_size hol) (fun h₂ tk hk => ?_) (by rw [sizeLine_eq]; omega)))
  rw [hx]
  show wpAny _ _ (if r.length < 2 - 1 - 1 then _ else _) _ _ _
  rw [if_neg (by omega)]
  show wpAny _ _ (newList (r.take (r.length - 0)) >>= fun d => pure ([x] ++ [d] ++ r.drop (r.length - 0))) _ _ _
  rw [Nat.sub_zero, List.take_length, List.drop_length]
  exact wpAny_bind (wpAny_newList (s := { s with heap := h₂, toks := tk }) (wpAny_pure (h h₂ tk fun b o e => hk b o (Nat.ne_of_lt (Heap.lt_size e)) (hs₁.extBut b o (Nat.ne_of_lt (Heap.lt_size e)) (Heap.get?_push_of_some _ e)))) (by rw [sizeLine_eq]; omega))
theorem star_tuple {l : Addr} {items : Array Value} {Q : List Value → Shared → Prop} {x : Value} {r : List Value} (hl : IsTup s.heap l items) (hh : A.handled = none) (hx : items.toList = x :: r) (hz : items.size ≤ 16384)
    (h : ∀ (h' : Heap) (tk : Nat), (∀ b o, s.heap.get? b = some o → h'.get? b = some o) → Q [x, .ref h'.objs.size] { s with heap := h'.push { cls := .type "list", data := .seq r.toArray }, toks := tk }) : wpAny (model prog w) A (unpackItems (.ref l) 2 (some 1)) Q E s := by
  have hsz : items.size = r.length + 1 := by rw [← Array.length_toList, hx, List.length_cons]
  have hlt : l ≠ s.heap.objs.size := by obtain ⟨o, ho, _⟩ := hl; exact Nat.ne_of_lt (Heap.lt_size ho)
  have hll : l < s.heap.objs.size := by obtain ⟨o, ho, _⟩ := hl; exact Heap.lt_size ho
  unfold unpackItems
  refine wpAny_bind ?_
  unfold notIterableAtAll
  refine wpAny_bind (wpAny_specialOf hl.typeIs slot_tuple_iter.lookup ?_)
  refine wpAny_pure ?_
  simp only [Bool.false_eq_true, if_false]
  refine wpAny_bind (wpAny_holding (iter_tuple hl ?_))
  refine wpAny_bind (wpAny_holding (draw_tuple hlt 1 0 _ _ ⟨_, Heap.get?_push_size _ rfl, rfl, rfl⟩ (hl.push _) (by omega) fun h₁ hit₁ hs₁ => ?_))
  have hl₁ : IsTup h₁ l items := (hl.push _).extBut hs₁.extBut hlt
  rw [Nat.zero_add] at hit₁
  obtain ⟨oi, hoi, _⟩ := id hit₁
  obtain ⟨ol, hol, _⟩ := id hl₁
  rw [List.drop_zero, hx]
  show wpAny _ _ (if [x].length < 1 then _ else _) _ _ _
  rw [if_neg (by simp)]
  refine wpAny_bind (wpAny_holding (PySem.W.kun_collect (s := { s with heap := h₁ }) (T := "tuple_iterator") (.inr (.inr (.inr rfl))) (Walks.tuple (A := A.in1) hh s.heap.objs.size l hlt items) (fun j u st => st.1.typeIs) (k := 1) (by omega) ⟨hit₁, hl₁⟩ (Heap.lt_size hoi) (Heap.lt_size hol) (fun h₂ tk hk => ?_) (by rw [sizeLine_eq]; omega)))
  rw [hx]
  show wpAny _ _ (if r.length < 2 - 1 - 1 then _ else _) _ _ _
  rw [if_neg (by omega)]
  show wpAny _ _ (newList (r.take (r.length - 0)) >>= fun d => pure ([x] ++ [d] ++ r.drop (r.length - 0))) _ _ _
  rw [Nat.sub_zero, List.take_length, List.drop_length]
  exact wpAny_bind (wpAny_newList (s := { s with heap := h₂, toks := tk }) (wpAny_pure (h h₂ tk fun b o e => hk b o (Nat.ne_of_lt (Heap.lt_size e)) (hs₁.extBut b o (Nat.ne_of_lt (Heap.lt_size e)) (Heap.get?_push_of_some _ e)))) (by rw [sizeLine_eq]; omega))
end
/-- x, *ys = v: by the items of v -/
def gStarV (K : PySem.W.Frag) (t1 t2 : TG) : TG := fun v σ H Q => ∃ a x xs, v = .ref a ∧ (SqT K H a (x :: xs) ∨ SqL K H a (x :: xs)) ∧ xs.length < 16384 ∧ ∀ D, H D = none → t1 x σ (upd H D (.lst xs)) fun σ1 H1 => t2 (.ref D) σ1 H1 Q
section
variable {X : Cx} {e1 e2 : Expr} {t1 t2 : TG} {p pos : Pos} {k : Nat}
theorem pg_star (hc : X.calm = true) (h1 : PG X e1 t1) (h2 : PG X e2 t2) (hst : (assignEach [e1, .Starred e2 p] X.env).findIdx? (·.1) = some 1 := by rfl) (hln : (assignEach [e1, .Starred e2 p] X.env).length = 2 := by rfl)
    (hm : (assignEach [e1, .Starred e2 p] X.env).map (·.2) = [assign e1 X.env, assign e2 X.env] := by rfl) : PG X (.Tuple [e1, .Starred e2 p] k pos) (gStarV X.K t1 t2) := by
  refine ⟨fun pins s σ H v u Q I r hw => ?_⟩
  obtain ⟨a, x, xs, ev, sq, hz, hw⟩ := hw
  subst ev
  cases r
  rw [PyProof.Rows.assign_Tuple]
  refine wpAny_bind (PySem.wpAny_standAt ?_)
  unfold unpack
  rw [hln, hst]
  have main : ∀ (ux : Value) (us : List Value), RelV x ux → Vals xs us → ∀ (h' : Heap) (tk : Nat), (∀ b o, s.heap.get? b = some o → h'.get? b = some o) →
      wpAny (model X.prog X.w) X.A (assignInOrder ((assignEach [e1, .Starred e2 p] X.env).map (·.2)) [ux, .ref h'.objs.size]) (fun _ s' => ∃ σ' H', Inv X pins σ' H' s' ∧ Q σ' H') X.xe { s with heap := h'.push { cls := .type "list", data := .seq us.toArray }, toks := tk } := fun ux us rx rs h' tk kp => by
    have J : Inv X pins σ H { s with heap := h', toks := tk } := I.kept kp
    have hn : H h'.objs.size = none := J.hok.fresh (Nat.le_refl _)
    have J2 : Inv X pins σ (upd H h'.objs.size (.lst xs)) { s with heap := h'.push { cls := .type "list", data := .seq us.toArray }, toks := tk } :=
      J.laid (t' := tk) (fun b o e => Heap.get?_push_of_some _ e) (Nat.le_refl _) ⟨by rw [sizeLine_eq]; omega, us, 0, rs, Heap.get?_push_size _ rfl⟩
    rw [hm]
    refine PyProof.Rows.assignInOrder_cons (thn (h1.run pins _ σ _ x ux _ J2 rx (hw _ hn)) fun _ s1 ⟨σ1, H1, I1, q1⟩ => ?_)
    refine PyProof.Rows.assignInOrder_cons (thn (h2.run pins s1 σ1 H1 (.ref h'.objs.size) _ _ I1 rfl q1) fun _ s2 q2 => ?_)
    exact PyProof.Rows.assignInOrder_nil q2
  rcases sq with sq | sq
  · obtain ⟨its, rv, pt, hz'⟩ := I.tuple sq
    cases rv with
    | @cons _ ux _ us rx rs =>
      have hl := rs.length
      exact wpAny_bind (wpAny_holding (star_tuple pt (I.ok.hd hc) (x := ux) (r := us) rfl (by simp; omega) fun h' tk kp => main ux us rx rs h' tk kp))
  · obtain ⟨its, rv, pt, hz'⟩ := I.list sq
    cases rv with
    | @cons _ ux _ us rx rs =>
      have hl := rs.length
      exact wpAny_bind (wpAny_holding (star_list pt.isList (I.ok.hd hc) (x := ux) (r := us) rfl (by simp; omega) fun h' tk kp => main ux us rx rs h' tk kp))
/-- as a mirror: the rest is a list that does not change -/
def gStar (g1 g2 : MTg) : MTg := fun m env st => match itemsOf m st with
  | some (x :: xs) => if xs.length < 16384 then (g1 x env st).bind fun p => g2 (.lst xs) p.1 p.2 else none
  | _ => none
theorem pmg_star {g1 g2 : MTg} (h1 : PMG X e1 g1) (h2 : PMG X e2 g2) (hc : X.calm = true := by rfl) (hst : (assignEach [e1, .Starred e2 p] X.env).findIdx? (·.1) = some 1 := by rfl) (hln : (assignEach [e1, .Starred e2 p] X.env).length = 2 := by rfl)
    (hm : (assignEach [e1, .Starred e2 p] X.env).map (·.2) = [assign e1 X.env, assign e2 X.env] := by rfl) : PMG X (.Tuple [e1, .Starred e2 p] k pos) (gStar g1 g2) :=
  PG_imp (pg_star hc h1 h2 hst hln hm) fun v σ H Q ⟨A, env, st, m, s, q, r, env', st', e0, k⟩ => by
    unfold gStar at e0
    split at e0
    · rename_i x xs hi
      by_cases hl : xs.length < 16384
      · rw [if_pos hl] at e0
        cases eg : g1 x env st with
        | none => rw [eg] at e0; cases e0
        | some p1 =>
          obtain ⟨env1, st1⟩ := p1
          rw [eg] at e0
          have e0 : g2 (.lst xs) env1 st1 = some (env', st') := e0
          obtain ⟨a, vs, ev, sq, rv⟩ := items_rep s r hi
          cases rv with
          | @cons v0 vs m0 ms r0 rs =>
            refine ⟨a, v0, vs, ev, sq, by rw [rs.length]; exact hl, fun D hD => ?_⟩
            have xD : Ext A H A (upd H D (.lst vs)) := Ext.laid s hD
            have sD := s.laid (o := .lst vs) hD
            refine ⟨A, env, st, x, sD, q.ext xD, r0.ext xD, env1, st1, eg, fun A1 H1 σ1 x1 s1 q1 => ?_⟩
            have rD : Rep (gmOf X) A1 H1 (.ref D) (.lst xs) := (Rep.lst upd_same (s.new_out hD) (rs.ext xD)).ext x1
            exact ⟨A1, env1, st1, .lst xs, s1, q1, rD, env', st', e0, k.ext (xD.trans x1)⟩
      · rw [if_neg hl] at e0; cases e0
    · cases e0
end
end MR

/-! repr; raise X('..'); try: .. except X as e: return A if isinstance(e, Y) else B -/
namespace MR
open PySem L2

/-! ### repr -/
mutual
theorem dp_nodict {K : PySem.W.Frag} {H : Hp} : ∀ (d : PyData) {v : V}, Dp K H v d → d.hasDict = false
  | .none, _, _ => by simp only [PyData.hasDict]
  | .bool _, _, _ => by simp only [PyData.hasDict]
  | .int _, _, _ => by simp only [PyData.hasDict]
  | .str _, _, _ => by simp only [PyData.hasDict]
  | .list ds, _, h => by
    cases h with
    | lst _ ha => simp only [PyData.hasDict]; exact dp_nodicts ds ha
  | .tuple ds, _, h => by
    cases h with
    | tup _ ha => simp only [PyData.hasDict]; exact dp_nodicts ds ha
  | .dict _, _, h => by cases h
theorem dp_nodicts {K : PySem.W.Frag} {H : Hp} : ∀ (ds : List PyData) {vs : List V}, DpAll K H vs ds → PyData.hasDictAll ds = false
  | [], _, _ => by simp only [PyData.hasDictAll]
  | d :: ds, _, h => by
    cases h with
    | cons h1 h2 => simp only [PyData.hasDictAll, dp_nodict d h1, dp_nodicts ds h2, Bool.or_self]
end
def rReprD (K : PySem.W.Frag) : List V → Hp → VK → Prop := fun xs H Q => ∃ x d, xs = [x] ∧ Dp K H x d ∧ d.showable = true ∧ d.depth ≤ 60 ∧ d.shown.length ≤ sizeLine ∧ Q (.str d.shown) H
theorem call_reprD {X : Cx} (hg : NoG X.A) (hu : X.A.units + 64 < cLine) : CallR X (.builtin "repr") (rReprD X.K) := by
  intro pins s σ H xs us Q I r h
  obtain ⟨x, d, rfl, hd, hs, hdep, hsz, q⟩ := h
  obtain ⟨u, rfl, rx⟩ : ∃ u, us = [u] ∧ RelV x u := by
    cases r with
    | cons r rr => cases rr; exact ⟨_, rfl, r⟩
  have fin : ∀ tk, EP X pins σ Q (.str d.shown s.toks) { s with toks := tk } := fun tk => ⟨.str _, H, I.tok _, ⟨_, rfl⟩, q⟩
  cases hd with
  | non => cases rx; exact PySem.P.repr_of_none (fin _)
  | bl b => cases rx; exact PySem.P.repr_of_bool (by cases b <;> exact fin _)
  | int i =>
    obtain ⟨t, rfl⟩ := rx
    exact PySem.P.repr_of_int (of_decide_eq_true hs) (fin _)
  | str y =>
    obtain ⟨t, rfl⟩ := rx
    exact PySem.P.repr_of_str (fin _) hsz
  | @lst a ys ds hq ha =>
    cases rx
    obtain ⟨as, hr⟩ := Dp.reads I (.list ds) (.ref a) (.ref a) (.lst hq ha) rfl
    exact repr_of_reads' hr hs (PyData.noDict_hsm (dp_nodict _ (Dp.lst hq ha))) hg (by omega) (fun _ _ e => e) (fun h' u tk hk => ⟨.str _, H, I.kept hk, ⟨_, rfl⟩, q⟩) hsz
  | @tup a ys ds hq ha =>
    cases rx
    obtain ⟨as, hr⟩ := Dp.reads I (.tuple ds) (.ref a) (.ref a) (.tup hq ha) rfl
    exact repr_of_reads' hr hs (PyData.noDict_hsm (dp_nodict _ (Dp.tup hq ha))) hg (by omega) (fun _ _ e => e) (fun h' u tk hk => ⟨.str _, H, I.kept hk, ⟨_, rfl⟩, q⟩) hsz
def gRepr : List MV → Sto → Res MV := fun ms st => match ms with
  | [m] => match topD m st with
    | some d => if (d.showable = true ∧ d.depth ≤ 60) ∧ d.shown.length ≤ 16777216 then .ok (.str d.shown) st else .bad
    | none => .bad
  | _ => .bad
theorem oRepr {G : Gm} : OpN G (rReprD G.K) gRepr := by
  intro A H st xs ms Q m st' s r h k
  unfold gRepr at h
  split at h
  · split at h
    · rename_i d e
      obtain ⟨hl, h⟩ := ite_ok h
      cases h
      cases r with
      | cons r rs => cases rs; exact ⟨_, d, rfl, r.top s e, hl.1.1, hl.1.2, line_of hl.2, fin0 s (.str _) k⟩
    · cases h
  · cases h

/-! ### raise X('..') -/
/-- x is an exception class of the module's own, without an own __init__ -/
structure ExF (K : PySem.W.Frag) (mg : Str → Option Value) (x : Str) (C : Addr) (bmB : List Value) (newId : String) : Prop where
  gC : mg x = some (.ref C)
  ex : PySem.W.excIn K C bmB newId = true
  kC : PySem.W.keepIn K (.ref C) = true
  sub : PySem.W.subIn K (.ref C) (.type "BaseException") = some true
  ty : PySem.W.typeIn K (.ref C) = some (.type "type")
section
variable {X : Cx} {W : WX}
theorem pms_raiseT {x m : Str} {j : Nat} {p p2 pos pos2 : Pos} {C : Addr} {bmB : List Value} {B newId initId : String} (tk : Takes X W) (F : ExcBaseFacts B newId initId bmB) (E : ExF X.K X.mg x C bmB newId) (hc : X.calm = true := by rfl) (hg : Gl X x := by rfl) (hdb : (x == ("__debug__" : Str)) = false := by decide) :
    PMS X W (.Raise (some (.Call (.Name x p) [.Constant (.str m) j p2] [] pos)) none pos2) (sRaise x) :=
  pms_raise (t := fun _ H Q => Q (.ref C) none H) hc tk E.gC (pmk_own F E.ex E.gC E.kC (raises_own E.sub E.ty) hg hdb)

/-! ### try: .. except x as n: return A if isinstance(n, y) else B -/
def sTryIs (mb : MS) (i : Nat) (sub isY : Str → Option Bool) (va vb : MV) : MS := fun env st => match mb env st with
  | .exc c env' st' => if i < env'.length then (match sub c.c with
    | some true => if c.ns = [] ∧ c.xs.isEmpty = true then (match isY c.c with
      | some true => .rt va st'
      | some false => .rt vb st'
      | none => .bad) else .bad
    | some false => .exc c env' st'
    | none => .bad) else .bad
  | r => r
def tSu (K : PySem.W.Frag) (i : Nat) (Y : Addr) (xa xb : V) : Addr → Value → Option Addr → TS := fun a cls d D σ H =>
  ∃ E : Addr, cls = .ref E ∧ d = none ∧ ExcC K E ∧ tRet (tIf (tB (tCB (rIsE K E a) (tCons (tVar i) (tCons (tC (.ref Y)) tNil)))) (tC xa) (tC xb)) D σ H
theorem rel_ref {Y : Addr} : ∀ u, RelV (.ref Y) u → u = .ref Y := fun u r => r
theorem pms_tryIs {i : Nat} {n x y : Str} {cx : Value} {Y : Addr} {xa xb : V} {va vb : MV} {body : List Stmt} {mb : MS} {ea eb : Expr} {sub isY : Str → Option Bool} {np pos pos' p1 p2 p3 p4 p5 p6 : Pos}
    (hs : X.stack = X.env :: X.outer) (hf : X.env.frame = some X.env.locals) (hN : X.N.Nodup) (hi : X.N[i]? = some n) (hln : X.env.kindOf n = some .local) (hc : Names X x cx) (tk : Takes X W)
    (hb : ∀ (W' : WX) (pn : List (Addr × Obj)) (xe : Value → Shared → Prop), Takes (X.tr pn xe) W' → PMSs (X.tr pn xe) W' body mb)
    (hsub : ∀ c b C, sub c = some b → X.mg c = some (.ref C) → PySem.W.exmOne X.K (.ref C) cx = some b)
    (hisY : ∀ c b C, isY c = some b → X.mg c = some (.ref C) → ExcC X.K C ∧ PySem.W.kitOne X.K (.ref C) (.ref Y) = some b)
    (gY : X.mg y = some (.ref Y)) (mi : X.mg "isinstance" = none) (ra : ∀ A H, Rep (gmOf X) A H xa va) (rb : ∀ A H, Rep (gmOf X) A H xb vb)
    (ha : ∀ X' : Cx, PE X' ea (tC xa)) (hb' : ∀ X' : Cx, PE X' eb (tC xb))
    (hv : Vis X.env.scope n := by first | exact Or.inl rfl | exact Or.inr (Or.inl rfl) | exact Or.inr (Or.inr rfl)) (hg1 : Gl X "isinstance" := by rfl) (hg2 : Gl X y := by rfl) (hd1 : (n == ("__debug__" : Str)) = false := by decide) (hd2 : (n == ("__classdict__" : Str)) = false := by decide) (hd3 : (y == ("__debug__" : Str)) = false := by decide) :
    PMS X W (.Try body [.ExceptHandler (some (.Name x np)) (some n) [.Return (some (.IfExp (.Call (.Name "isinstance" p1) [.Name n p2, .Name y p3] [] p4) ea eb p5)) p6] pos'] [] [] pos) (sTryIs mb i sub isY va vb) := by
  refine PS_imp (ps_try_as (i := i) (c := cx) (tb := fun W' => tS (gmOf X) W' mb) (ts := tSu X.K i Y xa xb) (Wout := W) hs hf hN hi hln hc tk (fun W' pn xe tk' _ => hb W' pn xe tk') fun a oe cls d pn hz hfl => ?_) fun D σ H ⟨A, env, st, s, q, h⟩ => ?_
  · refine ⟨fun pins s σ H D I ⟨E, e1, e2, hE, q⟩ => ?_⟩
    subst e1 e2
    have hisi := call_isE (X := X) (a := a) (pn := pn) hE hz hfl
    have hcall : PE (X.suite a ((a, oe) :: pn)) (.Call (.Name "isinstance" p1) [.Name n p2, .Name y p3] [] p4) (tCB (rIsE X.K E a) (tCons (tVar i) (tCons (tC (.ref Y)) tNil))) :=
      pe_callB hisi hg1 mi (by decide +kernel) (pa_cons (pe_var (X := X.suite a ((a, oe) :: pn)) hi hv hd1 hd2) (pa_cons (pe_glob (X := X.suite a ((a, oe) :: pn)) (v := .ref Y) hg2 gY rfl hd3) pa_nil))
    exact (pss_one (ps_ret (pe_ifExp (pt_val hcall) (ha _) (hb' _)))).run pins s σ H D I q
  · refine ⟨A, env, st, s, q, ?_⟩
    unfold sTryIs at h
    cases eb0 : mb env st with
    | nx e s => rw [eb0] at h; exact h
    | rt m s => rw [eb0] at h; exact h
    | bk e s => rw [eb0] at h; exact h
    | ct e s => rw [eb0] at h; exact h
    | bad => rw [eb0] at h; exact h
    | exc c env' st' =>
      rw [eb0] at h
      have h : Flw.post (if i < env'.length then (match sub c.c with
        | some true => if c.ns = [] ∧ c.xs.isEmpty = true then (match isY c.c with
          | some true => .rt va st'
          | some false => .rt vb st'
          | none => .bad) else .bad
        | some false => .exc c env' st'
        | none => .bad) else .bad) (gmOf X) A H W D := h
      have hlen : i < env'.length := by
        apply Classical.byContradiction
        intro hlen
        rw [if_neg hlen] at h
        exact h
      rw [if_pos hlen] at h
      intro A' H' σ' C dE e' s' q' hC0
      have hC := hC0.1
      cases es : sub c.c with
      | none => rw [es] at h; exact h.elim
      | some b =>
        have hx := hsub c.c b C es hC
        refine ⟨b, hx, fun hb a ha => ?_, fun hb => ?_⟩
        · subst hb
          rw [es] at h
          have h : Flw.post (if c.ns = [] ∧ c.xs.isEmpty = true then (match isY c.c with
          | some true => .rt va st'
          | some false => .rt vb st'
          | none => .bad) else .bad) (gmOf X) A H W D := h
          have hem : c.ns = [] ∧ c.xs.isEmpty = true := by
            apply Classical.byContradiction
            intro hem
            rw [if_neg hem] at h
            exact h
          rw [if_pos hem] at h
          have hd : dE = none := by
            obtain ⟨_, hz | ⟨p, vs, z1, _⟩⟩ := hC0
            · exact hz.2.2
            · exact absurd hem.1 z1
          subst hd
          cases ey : isY c.c with
          | none => rw [ey] at h; exact h.elim
          | some k =>
            rw [ey] at h
            obtain ⟨hE, hk⟩ := hisY c.c k C ey hC
            have hget : (σ'.set i (some (.ref a)))[i]? = some (some (V.ref a)) := List.getElem?_set_self (by rw [q'.len]; exact hlen)
            refine ⟨C, rfl, rfl, hE, ?_⟩
            refine ⟨.ref a, hget, ⟨.ref Y, .ref Y, k, rfl, rel_ref, hk, k, rfl, ?_⟩⟩
            cases k with
            | true => exact h A' H' xa e' s' (ra A' H')
            | false => exact h A' H' xb e' s' (rb A' H')
        · subst hb
          rw [es] at h
          exact h A' H' σ' C dE e' s' q' hC0
end
end MR

/-! a, b = x, y; text * int; short names of rules for printed derivations -/
namespace MR
open PySem L2
def sPar (i j : Nat) (r : MA) : MS := fun env st => bindE (r env st) env fun xs st1 => match xs with
  | [x, y] => .nx ((env.set i (some x)).set j (some y)) st1
  | _ => .bad
section
variable {X : Cx} {W : WX}
theorem pms_par {x y : Str} {a b : Expr} {mr : MA} {px py pt pos : Pos} {kt k2 pt2} (i j : Nat) (hN : X.N.Nodup) (ha : PMA X W [a, b] mr) (hi : X.N[i]? = some x := by rfl) (hj : X.N[j]? = some y := by rfl) (hij : i ≠ j := by decide)
    (hx : X.env.scope.names.lookup x = some .local := by rfl) (hy : X.env.scope.names.lookup y = some .local := by rfl) (hc : X.calm = true := by rfl)
    (hw : swappedStores [.Tuple [.Name x px, .Name y py] kt pt] (.Tuple [a, b] k2 pt2) X.env = pure (some [x, y]) := by rfl)
    (hs : swapsWithSole [.Tuple [.Name x px, .Name y py] kt pt] (.Tuple [a, b] k2 pt2) pos.line X.env = pure false := by rfl) :
    PMS X W (.Assign [.Tuple [.Name x px, .Name y py] kt pt] (.Tuple [a, b] k2 pt2) pos) (sPar i j mr) :=
  PS_imp (ps_par hc hN hi hj hij hx hy ha hw hs) fun D σ H ⟨A, env, st, s, q, h⟩ => by
    refine inA s q (Ext.refl A H) ((post_bindE h).mono (fun ms st1 h1 A1 H1 vs e1 s1 r1 => ?_) fun _ _ z => exP_of q z)
    split at h1
    · cases r1 with
      | @cons v _ _ _ r1 rr =>
        cases rr with
        | @cons w _ _ _ r2 rr =>
          cases rr
          exact ⟨v, w, rfl, h1 A1 H1 _ e1 s1 (((q.ext e1).set i r1).set j r2)⟩
    · exact h1.elim
end
/-! ### text * int -/
def repS (x : Str) (n : Nat) : Str := ⟨(List.replicate n x.cps).foldl (· ++ ·) #[]⟩
def rMulStr : R2 := fun x y H Q => ∃ (a : Str) (k : Int), x = .str a ∧ y = .int k ∧ 2 ≤ k ∧ k ≤ 1000000 ∧ 1 ≤ a.length ∧ a.length * k.toNat ≤ 16777216 ∧ Q (.str (repS a k.toNat)) H
theorem op_mulStr {X : Cx} : OpR X (binaryOp .Mult) rMulStr := by
  intro pins s σ H x y v u Q I rx ry h
  obtain ⟨a, k, rfl, rfl, h1, h2, h3, h4, q⟩ := h
  obtain ⟨t, rfl⟩ := rx
  obtain ⟨t', rfl⟩ := ry
  have e1 : decide (k < -(2 ^ 63 : Int)) = false := decide_eq_false (by omega)
  have e2 : decide (k ≥ 2 ^ 63) = false := decide_eq_false (by omega)
  have hk : ((k.toNat : Nat) : Int) = k := by omega
  have ha : a.length ≤ 16777216 := Nat.le_trans (Nat.le_mul_of_pos_right _ (by omega)) h4
  refine PySem.P.mul_str (by rw [e1, e2]; rfl) (fun _ _ => ?_) (fun _ _ => ?_) ?_
  · have : (2 ^ 63 - 1) / k ≥ (2 ^ 63 - 1) / 1000000 := by
      apply Int.le_ediv_of_mul_le (by omega)
      calc (2 ^ 63 - 1 : Int) / 1000000 * k ≤ (2 ^ 63 - 1) / 1000000 * 1000000 := Int.mul_le_mul_of_nonneg_left h2 (by decide)
        _ ≤ 2 ^ 63 - 1 := by decide
    have z : (16777216 : Int) ≤ (2 ^ 63 - 1) / 1000000 := by decide
    omega
  · have : a.length * k.toNat ≤ sizeLine := line_of h4
    exact decide_eq_false (by omega)
  · rw [if_neg (by omega)]
    have hn1 : (k == 1) = false := beq_false_of_ne (by omega)
    have hn2 : (a.length == 0) = false := beq_false_of_ne (by omega)
    rw [hn1, hn2]
    have hsz : (repS a k.toNat).length ≤ sizeLine := by
      have e : ∀ (n : Nat) (acc : Array Nat), ((List.replicate n a.cps).foldl (· ++ ·) acc).size = acc.size + n * a.cps.size := by
        intro n
        induction n with
        | zero => intro acc; simp
        | succ n ih => intro acc; rw [List.replicate_succ, List.foldl_cons, ih, Array.size_append]; rw [Nat.succ_mul]; omega
      show ((List.replicate k.toNat a.cps).foldl (· ++ ·) #[]).size ≤ sizeLine
      rw [e]
      have : a.length * k.toNat ≤ sizeLine := line_of h4
      have e3 : a.length = a.cps.size := rfl
      rw [e3, Nat.mul_comm] at this
      simpa using this
    exact ⟨hsz, ⟨.str _, H, I.tok _, ⟨_, rfl⟩, q⟩⟩
def gMulS : G2 := fun a b st => match a, b with
  | .str x, .int k => if (2 ≤ k ∧ k ≤ 1000000) ∧ 1 ≤ x.length ∧ x.length * k.toNat ≤ 16777216 then .ok (.str (repS x k.toNat)) st else .bad
  | a, b => gMul a b st
abbrev rMulA : R2 := fun x y H Q => rMulStr x y H Q ∨ rMulM x y H Q
theorem opMulA {X : Cx} : OpR X (binaryOp .Mult) rMulA := op_mulStr.or opMul
theorem o2MulA {G : Gm} : Op2 G rMulA gMulS := by
  intro A H st x y mx my Q m st' s rx ry h k
  unfold gMulS at h
  split at h
  · obtain ⟨hl, h⟩ := ite_ok h
    cases h
    exact .inl ⟨_, _, rx.str_inv, ry.int_inv, hl.1.1, hl.1.2, hl.2.1, hl.2.2, fin0 s (.str _) k⟩
  · exact .inr (o2Mul s rx ry h k)
end MR

/-! walks over what comes; names of types; the law's end -/
namespace MR
open PySem L2
section
variable {X : Cx} {W : WX} {tg it : Expr} {ma : ME}
/-- a tuple, a list that does not change, a text -/
def iAll (a : ME) : MA := fun env st => (a env st).bind fun m st' => match m with
  | .str z => .ok (z.cps.toList.map fun c => .str ⟨#[c]⟩) st'
  | m => match frozen m with
    | some xs => .ok xs st'
    | none => .bad
theorem pmi_all (ha : PM X W it ma) : PMI X W tg it (iAll ma) := PI_or (pmi_seq ha) (pmi_txt ha) fun σ H R ⟨A, env, st, s, q, h⟩ => by
  unfold iAll at h
  cases e : ma env st with
  | exc c st' =>
    rw [e] at h
    exact .inl ⟨A, env, st, s, q, by unfold iSeq; rw [e]; exact h⟩
  | bad => rw [e] at h; exact h.elim
  | ok m st' =>
    rw [e] at h
    cases m with
    | str z => exact .inr ⟨A, env, st, s, q, by unfold iTxt; rw [e]; exact h⟩
    | _ => exact .inl ⟨A, env, st, s, q, by unfold iSeq; rw [e]; exact h⟩
end
/-! ### the end -/
theorem FnG.imp {P : Program} {w : World} {K : PySem.W.Frag} {mg : Str → Option Value} {base : Heap} {k : Nat} {f : Addr} {fd : FuncData} {ps : List Str} {sp sp' : Sp} (F : FnG P w K mg base k f fd ps sp) (h : ∀ vs H Q E, sp' vs H Q E → sp vs H Q E) : FnG P w K mg base k f fd ps sp' :=
  { len := fun vs H Q E z => F.len vs H Q E (h _ _ _ _ z), run := fun A outer s H args us vs Q E hr gd e0 hb rv z => F.run A outer s H args us vs Q E hr gd e0 hb rv (h _ _ _ _ z) }
/-- what is asked of the law -/
def spLaw (K : PySem.W.Frag) : Sp := fun vs H Q _ => ∃ (a : Addr) (ns : List Int), vs = [.ref a] ∧ SqL K H a (ns.map V.int) ∧ ns.length ≤ 63 ∧ ∀ H', Q (.bl true) H'
theorem law_end {P : Program} {w : World} {K : PySem.W.Frag} {mg : Str → Option Value} {base : Heap} {k : Nat} {f : Addr} {fd : FuncData} {fl : FM} (F : FnG P w K mg base k f fd ["script"] (spM ⟨K, mg, P, w⟩ 1 fl))
    (h : ∀ ns : List Int, ns.length ≤ 63 → ∃ st, fl [.scr ns] [] = .ok (.bl true) st) : FnG P w K mg base k f fd ["script"] (spLaw K) :=
  F.imp fun vs H Q E ⟨a, ns, ev, sq, hl, hq⟩ => by
    subst ev
    obtain ⟨st, e⟩ := h ns hl
    have no : ¬ (⟨[], []⟩ : Ad).has a := fun m => by rcases m with m | m <;> cases m
    refine ⟨⟨[], []⟩, [], [.scr ns], ⟨rfl, List.nodup_nil, fun k a o h => by simp at h, fun b m => by cases m⟩, .cons (.scr ?_) .nil, rfl, ?_⟩
    · rcases sq with sq | sq
      · exact .inl ⟨sq, no⟩
      · exact .inr (.inr sq)
    · rw [e]
      intro A' H' v _ _ r
      rw [r.bl_inv]
      exact hq H'
/-! ### own exception classes, told by the written part -/
/-- what is asked of such a class C -/
structure ExK (K : PySem.W.Frag) (x : Str) (C : Addr) (bmB : List Value) (newId : String) : Prop where
  gC : PySem.W.nsIn K mainGlobals x = some (some (.ref C))
  ex : PySem.W.excIn K C bmB newId = true
  kC : PySem.W.keepIn K (.ref C) = true
  sub : PySem.W.subIn K (.ref C) (.type "BaseException") = some true
  ty : PySem.W.typeIn K (.ref C) = some (.type "type")
  dict : PySem.W.hasDictIn K C = true
  cls : PySem.W.isClsIn K C = true
  ga : PySem.W.findIn K (.ref C) "__getattribute__" = some (some (.builtin "BaseException.__getattribute__"))
  gg : PySem.W.findIn K (.ref C) "__getattr__" = some none
  gc : PySem.W.findIn K (.ref C) "__class__" = some (some (.builtin "object.__class__"))
  gs : PySem.W.specialIn K (.builtin "object.__class__") "__get__" = some (some (.builtin "getset_descriptor.__get__"))
  gt : PySem.W.takesIn K (.builtin "object.__class__") = some true
  mo : PySem.W.mroIn K C (.type "object") = some true
section
variable {K : PySem.W.Frag} {h : Heap} {mg : Str → Option Value} {x : Str} {C Y : Addr} {bmB : List Value} {newId : String}
theorem ExK.f (E : ExK K x C bmB newId) (X : K.In h) (G : h.Ns mainGlobals mg) : ExF K mg x C bmB newId := ⟨PySem.W.mg_of X G E.gC, E.ex, E.kC, E.sub, E.ty⟩
theorem ExK.c (E : ExK K x C bmB newId) : ExcC K C := ⟨E.ga, E.gg, E.sub, E.dict, E.gc, E.gs, E.gt, E.mo⟩
theorem ExK.exm (E : ExK K x Y bmB newId) {cls : Value} {b : Bool} (h4 : PySem.W.subIn K cls (.ref Y) = some b) : PySem.W.exmOne K cls (.ref Y) = some b := PySem.W.exm_ref E.sub E.dict E.ty h4
theorem ExK.kit (E : ExK K x Y bmB newId) {b : Bool} (h4 : PySem.W.subIn K (.ref C) (.ref Y) = some b) (hne : C = Y → b = true) : PySem.W.kitOne K (.ref C) (.ref Y) = some b := by
  have e2 : ((PySem.W.clsIn K Y).isSome && PySem.W.typeIn K (.ref Y) == some (.type "type")) = true := by
    have h2' : (PySem.W.clsIn K Y).isSome = true := E.cls
    rw [h2', E.ty] <;> rfl
  unfold PySem.W.kitOne
  by_cases e : (Value.ref C == Value.ref Y) = true
  · rw [if_pos e]
    have : C = Y := by
      have := beq_iff_eq.mp e
      exact Value.ref.inj this
    rw [hne this]
  · rw [if_neg e]
    show (if ((PySem.W.clsIn K Y).isSome && PySem.W.typeIn K (.ref Y) == some (.type "type")) = true then PySem.W.subIn K (.ref C) (.ref Y) else none) = some b
    rw [if_pos e2]
    exact h4
theorem rel_txt {z : Str} {t : Tok} {v : Str} (e : z = v) : RelV (.str v) (.str z t) := ⟨t, by rw [e]⟩
theorem rel_num {z : Int} {t : Tok} : RelV (.int z) (.int z t) := ⟨t, rfl⟩
end
end MR

/-! order of data; sorted of data -/
namespace MR
open PySem L2
open PySem.W (alike dataLt dataLe AllAlike Sortable EachIs)
/-! ### a < b of data -/
def ordOk (d e : PyData) : Bool := alike d e && decide (d.depth ≤ 60) && (match d with | .none => false | _ => true)
theorem ordOk_ne {d e : PyData} (h : ordOk d e = true) : alike d e = true ∧ d.depth ≤ 60 ∧ d ≠ .none := by
  unfold ordOk at h
  rw [Bool.and_eq_true, Bool.and_eq_true] at h
  refine ⟨h.1.1, of_decide_eq_true h.1.2, fun z => ?_⟩
  subst z
  cases h.2
def rOrdD (K : PySem.W.Frag) (g : PyData → PyData → Bool) : R2 := fun x y H Q => ∃ d e, Dp K H x d ∧ Dp K H y e ∧ ordOk d e = true ∧ Q (.bl (g d e)) H
section
variable {X : Cx}
theorem op_ltD (hu : X.A.units + 64 < cLine) : OpR X (compareOp .Lt) (rOrdD X.K dataLt) := by
  intro pins s σ H x y v u Q I rx ry h
  obtain ⟨d, e, hd, he, ho, q⟩ := h
  obtain ⟨as, r1⟩ := Dp.reads I d x v hd rx
  obtain ⟨bs, r2⟩ := Dp.reads I e y u he ry
  obtain ⟨h1, h2, h3⟩ := ordOk_ne ho
  exact PySem.W.lt_data r1 r2 h1 h3 (by have := Nat.min_le_left d.depth e.depth; omega) ⟨.bl _, H, I, rfl, q⟩
theorem opLtD (hu : X.A.units + 64 < cLine) : OpR X (compareOp .Lt) (fun x y H Q => rOrd (fun i j => decide (i < j)) (fun i j => sLt i j) x y H Q ∨ rOrdD X.K dataLt x y H Q) := opLt.or (op_ltD hu)
end
def gLtD : G2 := fun a b st => match a, b with
  | .int i, .int j => .ok (.bl (decide (i < j))) st
  | .str i, .str j => .ok (.bl (sLt i j)) st
  | a, b => match topD a st, topD b st with
    | some d, some e => if ordOk d e = true then .ok (.bl (dataLt d e)) st else .bad
    | _, _ => .bad
theorem o2LtD {G : Gm} : Op2 G (fun x y H Q => rOrd (fun i j => decide (i < j)) (fun i j => sLt i j) x y H Q ∨ rOrdD G.K dataLt x y H Q) gLtD := by
  intro A H st x y mx my Q m st' s rx ry h k
  unfold gLtD at h
  split at h
  · exact .inl (o2Lt s rx ry h k)
  · exact .inl (o2Lt s rx ry h k)
  · split at h
    · rename_i d e h1 h2
      obtain ⟨hl, h⟩ := ite_ok h
      cases h
      exact .inr ⟨d, e, rx.top s h1, ry.top s h2, hl, fin0 s (.bl _) k⟩
    · cases h
/-! ### sorted(list of data) -/
def rSortD (K : PySem.W.Frag) : List V → Hp → VK → Prop := fun xs H Q => ∃ (a : Addr) (bs : List (V × PyData)), xs = [.ref a] ∧ SqL K H a (bs.map (·.1)) ∧ (∀ b ∈ bs, Dp K H b.1 b.2) ∧
  AllAlike (bs.map (·.2)) ∧ Sortable (bs.map (·.2)) ∧ (∀ b ∈ bs, b.2.depth ≤ 60) ∧ bs.length ≤ sizeLine ∧ ∀ p, H p = none → Q (.ref p) (upd H p (.lst ((bs.mergeSort (dataLe false (·.2))).map (·.1))))
theorem each_of {bs : List (V × PyData)} : ∀ {us : List Value}, Vals (bs.map (·.1)) us → EachIs (fun u (b : V × PyData) => RelV b.1 u) us bs := by
  induction bs with
  | nil => intro us h; cases h; exact .nil
  | cons b bs ih =>
    intro us h
    cases h with
    | cons r t => exact .cons r (ih t)
theorem each_vals {bs : List (V × PyData)} : ∀ {us : List Value}, EachIs (fun u (b : V × PyData) => RelV b.1 u) us bs → Vals (bs.map (·.1)) us := by
  induction bs with
  | nil => intro us h; cases h; exact .nil
  | cons b bs ih =>
    intro us h
    cases h with
    | cons r t => exact .cons r (ih t)
theorem each_mem {α β : Type} {R : α → β → Prop} {as : List α} {bs : List β} (h : EachIs R as bs) : EachIs (fun a b => R a b ∧ b ∈ bs) as bs := by
  induction h with
  | nil => exact .nil
  | cons r t ih => exact .cons ⟨r, List.mem_cons_self⟩ (ih.mono fun _ _ z => ⟨z.1, List.mem_cons_of_mem _ z.2⟩)
theorem cr_sortD {X : Cx} (hu : X.A.units + 64 < cLine) : CallR X (.builtin "sorted") (rSortD X.K) := by
  intro pins s σ H xs us Q I r h
  obtain ⟨a, bs, rfl, hl, hd, hal, hk, hdep, hz, q⟩ := h
  rw [Vals.ref1 r]
  obtain ⟨its, rv, hI, _⟩ := I.list hl
  have e := each_of rv
  have er : EachIs (fun u (b : V × PyData) => ∃ as, Reads s.heap u b.2 as) its bs := (each_mem e).mono fun u b ⟨rb, hb⟩ => Dp.reads I b.2 b.1 u (hd b hb) rb
  refine PySem.W.sorted_data (R := fun u (b : V × PyData) => RelV b.1 u) (enc := fun b : V × PyData => b.2) (bs := bs) (vs := its) hI.isList e er hal hk hz (fun b hb => by have := hdep b hb; omega) fun out hlen ho => ?_
  have hp : H (s.heap.objs.size + 1) = none := I.hok.fresh (Nat.le_succ _)
  obtain ⟨c, hc⟩ := PyProof.Rows.sortedAll_at s.heap its (List.toArray out)
  refine ⟨.ref (s.heap.objs.size + 1), _, I.laid (t' := s.toks) (o := .lst ((bs.mergeSort (dataLe false (·.2))).map (·.1))) (fun _ _ => PyProof.Rows.sortedAll_old) (Nat.le_succ _) ⟨?_, out, c, each_vals ho, hc⟩, rfl, q _ hp⟩
  rw [List.length_map, List.length_mergeSort]; exact hz
/-! mirrors -/
def isTupC : PyData → Bool
  | .tuple (_ :: _) => true
  | _ => false
def notTupN : PyData → Bool
  | .none => false
  | .tuple _ => false
  | _ => true
def sortOk (ds : List PyData) : Bool := ds.all (fun d => ds.all fun e => alike d e) && (ds.all isTupC || ds.all notTupN) && ds.all (fun d => decide (d.depth ≤ 60)) && decide (ds.length ≤ 16777216)
theorem sortOk_is {ds : List PyData} (h : sortOk ds = true) : AllAlike ds ∧ Sortable ds ∧ (∀ d ∈ ds, d.depth ≤ 60) ∧ ds.length ≤ sizeLine := by
  unfold sortOk at h
  rw [Bool.and_eq_true, Bool.and_eq_true, Bool.and_eq_true] at h
  obtain ⟨⟨⟨h1, h2⟩, h3⟩, h4⟩ := h
  refine ⟨fun d hd e he => ?_, ?_, fun d hd => ?_, line_of (of_decide_eq_true h4)⟩
  · exact List.all_eq_true.mp (List.all_eq_true.mp h1 d hd) e he
  · rw [Bool.or_eq_true] at h2
    rcases h2 with h2 | h2
    · refine .inl fun d hd => ?_
      have := List.all_eq_true.mp h2 d hd
      unfold isTupC at this
      split at this
      · exact ⟨_, _, rfl⟩
      · cases this
    · refine .inr fun d hd => ?_
      have := List.all_eq_true.mp h2 d hd
      refine ⟨fun z => ?_, fun xs z => ?_⟩
      · subst z; cases this
      · subst z; cases this
  · exact of_decide_eq_true (List.all_eq_true.mp h3 d hd)
def sortD (ms : List MV) (ds : List PyData) : List MV := ((ms.zip ds).mergeSort (dataLe false (·.2))).map (·.1)
section
variable {G : Gm} {A : Ad} {H : Hp}
theorem zip3 : ∀ {vs : List V} {ms : List MV} {ds : List PyData}, RepAll G A H vs ms → ms.length = ds.length →
    (vs.zip (ms.zip ds)).map (fun t => (t.1, t.2.2)) = vs.zip ds ∧ (vs.zip (ms.zip ds)).map (·.2) = ms.zip ds ∧ ∀ t ∈ vs.zip (ms.zip ds), Rep G A H t.1 t.2.1
  | _, _, ds, .nil, h => by
    cases ds with
    | nil => exact ⟨rfl, rfl, fun t ht => by cases ht⟩
    | cons _ _ => cases h
  | _, _, [], .cons r rs, h => by cases h
  | _, _, d :: ds, .cons r rs, h => by
    obtain ⟨h1, h2, h3⟩ := zip3 rs (by simpa using h)
    refine ⟨by simp only [List.zip_cons_cons, List.map_cons, h1], by simp only [List.zip_cons_cons, List.map_cons, h2], fun t ht => ?_⟩
    rw [List.zip_cons_cons, List.zip_cons_cons] at ht
    rcases List.mem_cons.mp ht with e | ht
    · subst e; exact r
    · exact h3 t ht
theorem repAll_of {τ : Type} {f : τ → V} {g : τ → MV} : ∀ (l : List τ), (∀ t ∈ l, Rep G A H (f t) (g t)) → RepAll G A H (l.map f) (l.map g)
  | [], _ => .nil
  | t :: l, h => .cons (h t List.mem_cons_self) (repAll_of l fun u hu => h u (List.mem_cons_of_mem _ hu))
theorem toDs_len : ∀ {ms : List MV} {ds : List PyData}, toDs ms = some ds → ms.length = ds.length
  | [], ds, h => by cases h; rfl
  | m :: ms, ds, h => by
    simp only [toDs] at h
    cases e1 : toD m with
    | none => rw [e1] at h; cases h
    | some d =>
      rw [e1] at h
      cases e2 : toDs ms with
      | none => rw [e2] at h; cases h
      | some es => rw [e2] at h; cases h; simp [toDs_len e2]
theorem sort_rep {vs : List V} {ms : List MV} {ds : List PyData} (r : RepAll G A H vs ms) (hl : ms.length = ds.length) :
    RepAll G A H (((vs.zip ds).mergeSort (dataLe false (·.2))).map (·.1)) (sortD ms ds) := by
  obtain ⟨h1, h2, h3⟩ := zip3 r hl
  have e1 : ((vs.zip (ms.zip ds)).mergeSort (dataLe false (fun t => t.2.2))).map (fun t => (t.1, t.2.2)) = (vs.zip ds).mergeSort (dataLe false (·.2)) := by
    exact (List.map_mergeSort (s := dataLe false fun t : V × PyData => t.2) (fun _ _ _ _ => rfl)).trans (by rw [h1])
  have e2 : ((vs.zip (ms.zip ds)).mergeSort (dataLe false (fun t => t.2.2))).map (·.2) = (ms.zip ds).mergeSort (dataLe false (·.2)) := by
    exact (List.map_mergeSort (s := dataLe false fun t : MV × PyData => t.2) (fun _ _ _ _ => rfl)).trans (by rw [h2])
  unfold sortD
  rw [← e1, ← e2, List.map_map, List.map_map]
  exact repAll_of _ fun t ht => h3 t (List.mem_mergeSort.mp ht)
theorem dp_zip : ∀ {vs : List V} {ds : List PyData}, DpAll G.K H vs ds → (vs.zip ds).map (·.1) = vs ∧ (vs.zip ds).map (·.2) = ds ∧ ∀ b ∈ vs.zip ds, Dp G.K H b.1 b.2
  | _, _, .nil => ⟨rfl, rfl, fun b h => by cases h⟩
  | _, _, .cons h hs => by
    obtain ⟨h1, h2, h3⟩ := dp_zip hs
    refine ⟨by simp only [List.zip_cons_cons, List.map_cons, h1], by simp only [List.zip_cons_cons, List.map_cons, h2], fun b hb => ?_⟩
    rw [List.zip_cons_cons] at hb
    rcases List.mem_cons.mp hb with e | hb
    · subst e; exact h
    · exact h3 b hb
end
/-- sorted(a list of data) -/
def gSorted : List MV → Sto → Res MV := fun ms st => match ms with
  | [m] => match listOf m st with
    | some xs => match toDs xs with
      | some ds => if sortOk ds = true then .ok (.lst (sortD xs ds)) st else .bad
      | none => .bad
    | none => .bad
  | _ => .bad
theorem oSorted {G : Gm} : OpN G (rSortD G.K) gSorted := by
  intro A H st xs ms Q m st' s r h k
  unfold gSorted at h
  split at h
  · split at h
    · rename_i ys e1
      split at h
      · rename_i ds e2
        obtain ⟨hl, h⟩ := ite_ok h
        cases h
        cases r with
        | cons r rs =>
          cases rs
          obtain ⟨a, vs, ev, sq, rv⟩ := listOf_rep s r e1
          subst ev
          have dp := RepAll.dp ys rv e2
          obtain ⟨z1, z2, z3⟩ := dp_zip (G := G) dp
          obtain ⟨k1, k2, k3, k4⟩ := sortOk_is hl
          have hll : (vs.zip ds).length = ds.length := by rw [← z2]; simp
          refine ⟨a, vs.zip ds, rfl, by rw [z1]; exact SqL.of sq, z3, by rw [z2]; exact k1, by rw [z2]; exact k2, fun b hb => k3 _ (by rw [← z2]; exact List.mem_map_of_mem hb), by rw [hll]; exact k4, ?_⟩
          exact fin_lst s (sort_rep rv (toDs_len e2)) k
      · cases h
    · cases h
  · cases h
end MR

/-! dicts of the store: {}, d[k] = v, sorted(d) -/
namespace MR
open PySem L2
open PySem.W (alike dataLt dataLe AllAlike Sortable EachIs)
/-! ### keys that are tuples -/
mutual
inductive Nk (K : PySem.W.Frag) (H : Hp) : V → NestedKey → Prop
  | non : Nk K H .non .none
  | bl (b : Bool) : Nk K H (.bl b) (.num (if b = true then 1 else 0))
  | int (i : Int) : Nk K H (.int i) (.num i)
  | str (x : Str) : Nk K H (.str x) (.text x)
  | tup {a : Addr} {xs : List V} {ks : List NestedKey} : SqT K H a xs → NkAll K H xs ks → Nk K H (.ref a) (.tup ks)
inductive NkAll (K : PySem.W.Frag) (H : Hp) : List V → List NestedKey → Prop
  | nil : NkAll K H [] []
  | cons {v : V} {vs : List V} {d : NestedKey} {ds : List NestedKey} : Nk K H v d → NkAll K H vs ds → NkAll K H (v :: vs) (d :: ds)
end
section
variable {X : Cx} {pins : List (Addr × Obj)} {σ : L2.St} {H : Hp} {s : Shared}
mutual
theorem Nk.is (I : Inv X pins σ H s) : ∀ (d : NestedKey) (v : V) (u : Value), Nk X.K H v d → RelV v u → NestedIs s.heap d u
  | .none, _, u, h, r => by
    cases h
    rw [show u = Value.none from r]
    exact .none
  | .num i, v, u, h, r => by
    cases h with
    | bl b => rw [show u = Value.bool b from r]; exact .bool rfl
    | int i => obtain ⟨t, e⟩ := (show ∃ t, u = Value.int i t from r); rw [e]; exact .int i t
  | .text x, _, u, h, r => by
    cases h
    obtain ⟨t, e⟩ := (show ∃ t, u = Value.str x t from r)
    rw [e]
    exact .text x t
  | .tup ks, v, u, h, r => by
    cases h with
    | @tup a xs _ sq ns =>
      rw [show u = Value.ref a from r]
      obtain ⟨its, rv, ⟨o, ho, hc, n, hd⟩, _⟩ := I.tuple sq
      exact .tup ho hc hd (by simpa using NkAll.is I ks xs its ns rv)
theorem NkAll.is (I : Inv X pins σ H s) : ∀ (ds : List NestedKey) (vs : List V) (us : List Value), NkAll X.K H vs ds → Vals vs us → NestedAll s.heap ds us
  | [], _, us, h, r => by cases h; cases r; exact .nil
  | d :: ds, vs, us, h, r => by
    cases h with
    | cons h1 h2 =>
      cases r with
      | cons r1 r2 => exact .cons (Nk.is I d _ _ h1 r1) (NkAll.is I ds _ _ h2 r2)
end
end
section
variable {G : Gm} {A : Ad} {H : Hp}
mutual
theorem Rep.nk : ∀ (m : MV) {v : V} {d : NestedKey}, Rep G A H v m → toN m = some d → Nk G.K H v d
  | .non, _, _, h, e => by cases h; cases e; exact .non
  | .bl b, _, _, h, e => by cases h; cases e; exact .bl b
  | .int i, _, _, h, e => by cases h; cases e; exact .int i
  | .str x, _, _, h, e => by cases h; cases e; exact .str x
  | .tup xs, _, d, h, e => by
    cases h with
    | tup f r =>
      simp only [toN] at e
      cases e1 : toNs xs with
      | none => rw [e1] at e; cases e
      | some ds => rw [e1] at e; cases e; exact .tup f.sq (RepAll.nk xs r e1)
  | .lst xs, _, d, h, e => by cases e
  | .ty _, _, _, _, e => by cases e
  | .gl _, _, _, _, e => by cases e
  | .obj _, _, _, _, e => by cases e
  | .scr _, _, _, _, e => by cases e
  | .ins _ _ _, _, _, _, e => by cases e
  | .dct _ _, _, _, _, e => by cases e
theorem RepAll.nk : ∀ (ms : List MV) {vs : List V} {ds : List NestedKey}, RepAll G A H vs ms → toNs ms = some ds → NkAll G.K H vs ds
  | [], _, _, h, e => by cases h; cases e; exact .nil
  | m :: ms, _, ds, h, e => by
    cases h with
    | cons r rs =>
      simp only [toNs] at e
      cases e1 : toN m with
      | none => rw [e1] at e; cases e
      | some d =>
        rw [e1] at e
        cases e2 : toNs ms with
        | none => rw [e2] at e; cases e
        | some es => rw [e2] at e; cases e; exact .cons (Rep.nk m r e1) (RepAll.nk ms rs e2)
end
end
/-! ### entries -/
def atE (es : List (NestedKey × Addr × V)) (k : NestedKey) : Bool := es.any fun e => decide (e.1 = k)
def putE (es : List (NestedKey × Addr × V)) (k : NestedKey) (b : Addr) (v : V) : List (NestedKey × Addr × V) :=
  if atE es k = true then es.map (fun e => if e.1 = k then (e.1, e.2.1, v) else e) else es ++ [(k, b, v)]
abbrev RE (p : NestedKey × Addr × V) (q : NestedKey × Addr × Value) : Prop := p.1 = q.1 ∧ p.2.1 = q.2.1 ∧ RelV p.2.2 q.2.2
theorem re_at {k : NestedKey} : ∀ {es : List (NestedKey × Addr × V)} {xs : List (NestedKey × Addr × Value)}, Paired RE es xs → atE es k = (atKey xs k).isSome
  | _, _, .nil => rfl
  | _, _, .cons (a := p) (b := q) r t => by
    have ih := re_at (k := k) t
    unfold atE at ih ⊢
    unfold atKey at ih ⊢
    rw [List.any_cons, List.find?_cons, ih]
    rw [show p.1 = q.1 from r.1]
    by_cases h : q.1 = k
    · simp [h]
    · simp [h]
theorem re_map {k : NestedKey} {v : V} {u : Value} (rv : RelV v u) : ∀ {es : List (NestedKey × Addr × V)} {xs : List (NestedKey × Addr × Value)}, Paired RE es xs →
    Paired RE (es.map (fun e => if e.1 = k then (e.1, e.2.1, v) else e)) (xs.map (putAt k u))
  | _, _, .nil => .nil
  | _, _, .cons (a := p) (b := q) r t => by
    refine .cons ?_ (re_map rv t)
    unfold putAt
    have e : p.1 = q.1 := r.1
    by_cases h : q.1 = k
    · show RE (if p.1 = k then (p.1, p.2.1, v) else p) (if q.1 = k then (q.1, q.2.1, u) else q)
      rw [if_pos (e.trans h), if_pos h]; exact ⟨r.1, r.2.1, rv⟩
    · show RE (if p.1 = k then (p.1, p.2.1, v) else p) (if q.1 = k then (q.1, q.2.1, u) else q)
      rw [if_neg (fun z => h (e.symm.trans z)), if_neg h]; exact r
theorem paired_app {α β : Type} {R : α → β → Prop} : ∀ {l : List α} {m : List β} {l' : List α} {m' : List β}, Paired R l m → Paired R l' m' → Paired R (l ++ l') (m ++ m')
  | _, _, _, _, .nil, h => h
  | _, _, _, _, .cons r t, h => .cons r (paired_app t h)
theorem re_put {k : NestedKey} {b : Addr} {v : V} {u : Value} {es : List (NestedKey × Addr × V)} {xs : List (NestedKey × Addr × Value)} (r : Paired RE es xs) (rv : RelV v u) : Paired RE (putE es k b v) (storedH xs k b u) := by
  unfold putE storedH
  rw [re_at r]
  by_cases h : (atKey xs k).isSome = true
  · rw [if_pos h, if_pos h]; exact re_map rv r
  · rw [if_neg h, if_neg h]
    exact paired_app r (.cons ⟨rfl, rfl, rv⟩ .nil)
theorem putE_len (es : List (NestedKey × Addr × V)) (k : NestedKey) (b : Addr) (v : V) : (putE es k b v).length ≤ es.length + 1 := by
  unfold putE
  split
  · simp
  · simp
theorem dn_stay {P : Program} {w : World} {a : Addr} {es : List (NestedKey × Addr × V)} : ∀ h1 h2 : Heap, DN P w a es h1 → (∀ o, h1.get? a = some o → h2.get? a = some o) → DN P w a es h2 := fun h1 h2 ⟨d, z, xs, r, o, es', ep, ho, q⟩ k => ⟨d, z, xs, r, o, es', ep, k _ ho, q⟩
/-- o[i] = v, o a dict whose keys are tuples -/
def rSetN (G : Gm) : TSet := fun o i v H Q => ∃ a b k es, o = .ref a ∧ i = .ref b ∧ (H a = some (DNO G a es) ∨ (es = [] ∧ H a = some (.dK []))) ∧ Nk G.K H (.ref b) k ∧ k.depth ≤ 8 ∧ (∀ e ∈ es, Nk G.K H (.ref e.2.1) e.1 ∧ e.1.depth ≤ 8) ∧ es.length < sizeLine ∧
  Q (upd H a (DNO G a (putE es k b v)))
theorem paired_mem {α β : Type} {R : α → β → Prop} : ∀ {l : List α} {m : List β}, Paired R l m → ∀ y ∈ m, ∃ x ∈ l, R x y
  | _, _, .nil, y, h => by cases h
  | _, _, .cons r t, y, h => by
    rcases List.mem_cons.mp h with e | h
    · subst e; exact ⟨_, List.mem_cons_self, r⟩
    · obtain ⟨x, hx, rx⟩ := paired_mem t y h
      exact ⟨x, List.mem_cons_of_mem _ hx, rx⟩
theorem set_nest {X : Cx} (hu : X.A.units + 64 < cLine) : PSet X (rSetN (gmOf X)) := by
  intro pins s σ H o i v ov iv u Q I ro ri rv h
  obtain ⟨a, b, k, es, rfl, rfl, ha, hk, hdep, hes, hl, q⟩ := h
  rw [show ov = Value.ref a from ro, show iv = Value.ref b from ri]
  have big : ∃ xs, (a == sysModules) = false ∧ Paired RE es xs ∧ ∃ o es' ep, s.heap.get? a = some o ∧ o.ExactDict ∧ o.data = .dict es' ep ∧ es'.toList = xs.map (entryOfKey (nestedKind X.prog X.w)) ∧ (xs.map (·.1)).Nodup := by
    rcases ha with ha | ⟨ee, ha⟩
    · obtain ⟨⟨d, z, xs, r, q⟩, _, _⟩ := I.hok a _ ha
      exact ⟨xs, d, r, q⟩
    · obtain ⟨z, d, vs, rel, o, es', ep, ho, hx, hd, _, hp, _⟩ := I.hok a _ ha
      subst ee
      cases rel
      cases hes' : es'.toList with
      | nil => exact ⟨[], d, .nil, o, es', ep, ho, hx, hd, by rw [hes']; rfl, List.nodup_nil⟩
      | cons x r => rw [hes'] at hp; cases hp
  obtain ⟨xs, d, r, o, es', ep, ho, hx, hd, he, hnd⟩ := big
  have hmut : Mut (H a) := by
    rcases ha with ha | ⟨_, ha⟩
    · rw [ha]; exact True.intro
    · rw [ha]; exact True.intro
  have hm : s.heap.DictOfH (nestedKind X.prog X.w) a xs := ⟨o, es', ep, ho, hx, hd, he, fun y hy => by
    obtain ⟨e, he, r1, r2, _⟩ := paired_mem r y hy
    obtain ⟨n1, n2⟩ := hes e he
    rw [← r1, ← r2]
    exact ⟨Nk.is I _ _ _ n1 rfl, n2⟩, hnd⟩
  have hz : xs.length = es.length := (Paired.length r).symm
  refine wpAny_setItem_heap (knd := nestedKind X.prog X.w) (hsz := by rw [hz]; omega) (by show X.A.in1.units + 8 < cLine; have : X.A.in1.units = X.A.units + 1 := rfl; omega) ⟨Nk.is I _ _ _ hk rfl, hdep⟩ hm fun h' dd' hs => ?_
  obtain ⟨o2, es2, ep2, h1, h2, h3, h4, _, h5⟩ := dd'
  refine ⟨upd H a (DNO (gmOf X) a (putE es k b v)), d_write (ob := DNO (gmOf X) a (putE es k b v)) I hmut hs ⟨o2, h1⟩ ⟨⟨d, by have := putE_len es k b v; omega, _, re_put r rv, o2, es2, ep2, h1, h2, h3, h4, h5⟩, ⟨o2, h1⟩, dn_stay⟩, q⟩
/-! ### mirrors -/
def keyOf : MV → Option L2.Key
  | .int i => some (.inl i)
  | .str x => some (.inr x)
  | _ => none
def isTupM : MV → Bool
  | .tup _ => true
  | _ => false
def hasK (ks : List MV) (n : MV) : Bool := ks.any fun k => decide (toN k = toN n)
def putX (ks xs : List MV) (n v : MV) : List MV := List.zipWith (fun k x => if toN k = toN n then v else x) ks xs
def dPut (ks xs : List MV) (n v : MV) : MO := if hasK ks n = true then .dict ks (putX ks xs n v) else .dict (ks ++ [n]) (xs ++ [v])
def nOk (n : MV) : Bool := match toN n with
  | some k => decide (k.depth ≤ 8)
  | none => false
theorem keyOf_is {m : MV} {k : L2.Key} (h : keyOf m = some k) : m = keyM k := by
  cases m <;> cases h <;> rfl
theorem toN_keyM {a b : L2.Key} : toN (keyM a) = toN (keyM b) ↔ a = b := by
  cases a <;> cases b <;> simp [keyM, toN]
section
variable {G : Gm} {A : Ad} {H : Hp}
theorem Rep.key {v : V} {k : L2.Key} (r : Rep G A H v (keyM k)) : v = kV k := by
  cases k with
  | inl i => exact r.int_inv
  | inr x => exact r.str_inv
theorem putK_rep {k : L2.Key} {v : V} {m : MV} (r : Rep G A H v m) : ∀ {kvs : List (L2.Key × V)} {xs : List MV}, RepAll G A H (kvs.map (·.2)) xs →
    RepAll G A H ((kvs.map fun kv => if kv.1 = k then (kv.1, v) else kv).map (·.2)) (putX (kvs.map fun p => keyM p.1) xs (keyM k) m)
  | [], _, .nil => .nil
  | p :: kvs, _, .cons h t => by
    unfold putX
    rw [List.map_cons, List.map_cons, List.map_cons, List.zipWith_cons_cons]
    refine .cons ?_ (putK_rep r t)
    by_cases e : p.1 = k
    · rw [if_pos e, if_pos (toN_keyM.mpr e)]; exact r
    · rw [if_neg e, if_neg (fun z => e (toN_keyM.mp z))]; exact h
theorem hasK_key {k : L2.Key} : ∀ {kvs : List (L2.Key × V)}, hasK (kvs.map fun p => keyM p.1) (keyM k) = kvs.any fun kv => decide (kv.1 = k)
  | [] => rfl
  | p :: kvs => by
    unfold hasK
    have ih := hasK_key (k := k) (kvs := kvs)
    unfold hasK at ih
    rw [List.map_cons, List.any_cons, List.any_cons, ih]
    congr 1
    exact decide_eq_decide.mpr toN_keyM
theorem toNs_cons {m : MV} {ms : List MV} {ks : List NestedKey} (h : toNs (m :: ms) = some ks) : ∃ d ds, ks = d :: ds ∧ toN m = some d ∧ toNs ms = some ds := by
  simp only [toNs] at h
  cases e1 : toN m with
  | none => rw [e1] at h; cases h
  | some d =>
    rw [e1] at h
    cases e2 : toNs ms with
    | none => rw [e2] at h; cases h
    | some es => rw [e2] at h; cases h; exact ⟨d, es, rfl, rfl, rfl⟩
theorem toNs_app : ∀ {ms ns : List MV} {ks js : List NestedKey}, toNs ms = some ks → toNs ns = some js → toNs (ms ++ ns) = some (ks ++ js)
  | [], _, _, _, h, h' => by cases h; exact h'
  | m :: ms, ns, ks, js, h, h' => by
    obtain ⟨d, ds, rfl, e1, e2⟩ := toNs_cons h
    show (toN m).bind (fun d => (toNs (ms ++ ns)).map (d :: ·)) = _
    rw [e1, toNs_app e2 h']
    rfl
theorem putE_rep {n : MV} {k : NestedKey} {v : V} {m : MV} (hn : toN n = some k) (r : Rep G A H v m) : ∀ {es : List (NestedKey × Addr × V)} {ks xs : List MV}, toNs ks = some (es.map (·.1)) → RepAll G A H (es.map (·.2.2)) xs →
    RepAll G A H ((es.map fun e => if e.1 = k then (e.1, e.2.1, v) else e).map (·.2.2)) (putX ks xs n m) ∧ hasK ks n = atE es k
  | [], ks, _, hk, .nil => by
    cases ks with
    | nil => exact ⟨.nil, rfl⟩
    | cons _ _ => obtain ⟨_, _, z, _⟩ := toNs_cons hk; cases z
  | e :: es, ks, _, hk, .cons h t => by
    cases ks with
    | nil => cases hk
    | cons q ks =>
      obtain ⟨d, ds, z, e1, e2⟩ := toNs_cons hk
      obtain ⟨z1, z2⟩ := List.cons.inj z
      obtain ⟨i1, i2⟩ := putE_rep hn r (es := es) (ks := ks) (by rw [e2, ← z2]) t
      have hd : toN q = toN n ↔ e.1 = k := by rw [e1, hn, ← z1]; exact ⟨fun z => Option.some.inj z, fun z => congrArg some z⟩
      refine ⟨?_, ?_⟩
      · unfold putX
        rw [List.map_cons, List.map_cons, List.zipWith_cons_cons]
        refine .cons ?_ i1
        by_cases c : e.1 = k
        · rw [if_pos c, if_pos (hd.mpr c)]; exact r
        · rw [if_neg c, if_neg (fun z => c (hd.mp z))]; exact h
      · unfold hasK atE at i2 ⊢
        rw [List.any_cons, List.any_cons, i2]
        congr 1
        exact decide_eq_decide.mpr hd
theorem putE_fst (es : List (NestedKey × Addr × V)) (k : NestedKey) (v : V) : (es.map fun e => if e.1 = k then (e.1, e.2.1, v) else e).map (·.1) = es.map (·.1) ∧ (es.map fun e => if e.1 = k then (e.1, e.2.1, v) else e).map (fun e => V.ref e.2.1) = es.map (fun e => V.ref e.2.1) := by
  refine ⟨?_, ?_⟩
  · rw [List.map_map]; exact List.map_congr_left fun e _ => by show (if e.1 = k then (e.1, e.2.1, v) else e).1 = e.1; split <;> rfl
  · rw [List.map_map]; exact List.map_congr_left fun e _ => by show V.ref (if e.1 = k then (e.1, e.2.1, v) else e).2.1 = V.ref e.2.1; split <;> rfl
theorem nks_mem : ∀ {es : List (NestedKey × Addr × V)} {ks : List MV}, toNs ks = some (es.map (·.1)) → RepAll G A H (es.map fun e => V.ref e.2.1) ks → ∀ e ∈ es, Nk G.K H (.ref e.2.1) e.1
  | [], _, _, _, e, he => by cases he
  | p :: es, ks, hk, r, e, he => by
    cases ks with
    | nil => cases hk
    | cons q ks =>
      obtain ⟨d, ds, z, e1, e2⟩ := toNs_cons hk
      obtain ⟨z1, z2⟩ := List.cons.inj z
      cases r with
      | cons r rs =>
        rcases List.mem_cons.mp he with c | he
        · subst c; exact Rep.nk q r (by rw [e1, ← z1])
        · exact nks_mem (by rw [e2, ← z2]) rs e he
end
/-! ### o[i] = v, o a list or a dict of the store -/
def setAtG (m n x : MV) (st : Sto) : Option Sto := match m with
  | .obj k => match st[k]? with
    | some (.lst xs) => (match n with
      | .int i => (ixN xs.length i).map fun j => st.set k (.lst (xs.set j x))
      | _ => none)
    | some (.dict ks xs) => if ks.length < 16777216 then
        (if isTupM n = true then (if ks.all isTupM = true ∧ nOk n = true ∧ ks.all nOk = true then some (st.set k (dPut ks xs n x)) else none)
        else if (keyOf n).isSome = true ∧ ks.all (fun q => (keyOf q).isSome) = true then some (st.set k (dPut ks xs n x)) else none) else none
    | _ => none
  | _ => none
def sSetIxG (o i e : ME) : MS := fun env st => bindE (e env st) env fun v st1 => bindE (noExc (o env st1)) env fun m st2 => bindE (noExc (i env st2)) env fun n st3 => match setAtG m n v st3 with
    | some st4 => .nx env st4
    | none => .bad
abbrev rSetG (X : Cx) : TSet := fun o i v H Q => rSetL o i v H Q ∨ (rSetD o i v H Q ∨ rSetN (gmOf X) o i v H Q)
theorem PSet.or {X : Cx} {t t' : TSet} (h : PSet X t) (h' : PSet X t') : PSet X (fun o i v H Q => t o i v H Q ∨ t' o i v H Q) := fun pins s σ H o i v ov iv u Q I ro ri rv q =>
  q.elim (h pins s σ H o i v ov iv u Q I ro ri rv) (h' pins s σ H o i v ov iv u Q I ro ri rv)
theorem set_any {X : Cx} (hu : X.A.units + 64 < cLine) : PSet X (rSetG X) := PSet.or set_list (PSet.or (set_dict (by omega)) (set_nest hu))
theorem obj_dict {G : Gm} {A : Ad} {H : Hp} {a : Addr} {ks xs : List MV} (h : ObjR G A H a (.dict ks xs)) :
    (∃ kvs : List (L2.Key × V), H a = some (.dK kvs) ∧ ks = kvs.map (fun p => keyM p.1) ∧ RepAll G A H (kvs.map (·.2)) xs) ∨
    (∃ es : List (NestedKey × Addr × V), H a = some (DNO G a es) ∧ es ≠ [] ∧ toNs ks = some (es.map (·.1)) ∧ RepAll G A H (es.map fun e => V.ref e.2.1) ks ∧ RepAll G A H (es.map (·.2.2)) xs) := by
  cases h with
  | dctL h k r => exact .inl ⟨_, h, k, r⟩
  | dctN h ne k r q => exact .inr ⟨_, h, ne, k, r, q⟩
theorem nOk_is {n : MV} (h : nOk n = true) : ∃ k, toN n = some k ∧ k.depth ≤ 8 := by
  unfold nOk at h
  split at h
  · rename_i k e; exact ⟨k, e, of_decide_eq_true h⟩
  · cases h
theorem set_rep {X : Cx} {A : Ad} {H : Hp} {st st' : Sto} {o i v : V} {m n x : MV} {Q : Hp → Prop} (s : SR (gmOf X) A H st) (ro : Rep (gmOf X) A H o m) (ri : Rep (gmOf X) A H i n) (rv : Rep (gmOf X) A H v x) (h : setAtG m n x st = some st')
    (q : ∀ H', Ext A H A H' → SR (gmOf X) A H' st' → Q H') : rSetG X o i v H Q := by
  unfold setAtG at h
  split at h
  · rename_i kk
    cases ro with
    | @obj a _ hk =>
      split at h
      · rename_i xs ek
        split at h
        · rename_i j
          cases ej : ixN xs.length j with
          | none => rw [ej] at h; cases h
          | some jj =>
            rw [ej] at h
            cases h
            cases s.ob kk a _ hk ek with
            | @lst vs _ hH hr =>
              exact .inl ⟨a, vs, j, jj, rfl, ri.int_inv, hH, by rw [hr.length]; exact ej, q _ (Ext.set s (List.mem_of_getElem? hk)) (s.set hk (hr.set jj rv))⟩
        · cases h
      · rename_i ks xs ek
        have od := obj_dict (s.ob kk a _ hk ek)
        have fin : ∀ {ho : HO} {mo : MO}, ObjR (gmOf X) A (upd H a ho) a mo → st' = st.set kk mo → Q (upd H a ho) := fun {ho mo} r e => by
          subst e; exact q _ (Ext.set s (List.mem_of_getElem? hk)) (s.setO hk r)
        have ex : ∀ ho : HO, Ext A H A (upd H a ho) := fun ho => Ext.set s (List.mem_of_getElem? hk)
        by_cases hlen : ks.length < 16777216
        · rw [if_pos hlen] at h
          by_cases ht : isTupM n = true
          · rw [if_pos ht] at h
            by_cases hc : ks.all isTupM = true ∧ nOk n = true ∧ ks.all nOk = true
            · rw [if_pos hc] at h
              obtain ⟨c1, c2, c3⟩ := hc
              obtain ⟨k, hn, hdep⟩ := nOk_is c2
              obtain ⟨b, ei⟩ : ∃ b, i = .ref b := by
                cases n <;> try (cases ht)
                cases ri with
                | tup f r => exact ⟨_, rfl⟩
              subst ei
              -- the entries
              have big : ∃ es : List (NestedKey × Addr × V), (H a = some (DNO (gmOf X) a es) ∨ (es = [] ∧ H a = some (.dK []))) ∧ toNs ks = some (es.map (·.1)) ∧ RepAll (gmOf X) A H (es.map fun e => V.ref e.2.1) ks ∧ RepAll (gmOf X) A H (es.map (·.2.2)) xs := by
                rcases od with ⟨kvs, h1, h2, h3⟩ | ⟨es, h1, hne, h2, h3, h4⟩
                · cases kvs with
                  | nil =>
                    subst h2
                    exact ⟨[], .inr ⟨rfl, h1⟩, rfl, .nil, h3⟩
                  | cons p kvs =>
                    subst h2
                    rw [List.map_cons, List.all_cons, Bool.and_eq_true] at c1
                    exfalso
                    have z := c1.1
                    obtain ⟨p1, p2⟩ := p
                    cases p1 <;> cases z
                · exact ⟨es, .inl h1, h2, h3, h4⟩
              obtain ⟨es, h1, h2, h3, h4⟩ := big
              have hlE : es.length = ks.length := by have := h3.length; simpa using this
              obtain ⟨r1, r2⟩ := putE_rep hn rv h2 h4
              obtain ⟨f1, f2⟩ := putE_fst es k v
              refine .inr (.inr ⟨a, b, k, es, rfl, rfl, h1, Rep.nk n ri hn, hdep, fun e he => ⟨nks_mem h2 h3 e he, ?_⟩, by rw [hlE, sizeLine_eq]; exact hlen, ?_⟩)
              · have dep : ∀ {es : List (NestedKey × Addr × V)} {ks : List MV}, toNs ks = some (es.map (·.1)) → ks.all nOk = true → ∀ e ∈ es, e.1.depth ≤ 8 := by
                  intro es
                  induction es with
                  | nil => intro ks _ _ e he; cases he
                  | cons p es ih =>
                    intro ks hk ha e he
                    cases ks with
                    | nil => cases he; all_goals cases hk
                    | cons q ks =>
                      obtain ⟨d, ds, z, e1, e2⟩ := toNs_cons hk
                      obtain ⟨z1, z2⟩ := List.cons.inj z
                      rw [List.all_cons, Bool.and_eq_true] at ha
                      rcases List.mem_cons.mp he with c | he
                      · subst c
                        obtain ⟨k', w1, w2⟩ := nOk_is ha.1
                        rw [e1] at w1
                        cases w1
                        rw [show e.1 = d from z1]; exact w2
                      · exact ih (by rw [e2, ← z2]) ha.2 e he
                exact dep h2 c3 e he
              · refine fin (mo := dPut ks xs n x) ?_ (by cases h; rfl)
                unfold dPut putE
                rw [r2]
                by_cases ca : atE es k = true
                · rw [if_pos ca, if_pos ca]
                  have hne : (es.map fun e => if e.1 = k then (e.1, e.2.1, v) else e) ≠ [] := fun z => by
                    have e0 : es = [] := List.map_eq_nil_iff.mp z
                    subst e0; cases ca
                  exact .dctN upd_same hne (by rw [f1]; exact h2) (by rw [f2]; exact h3.ext (ex _)) (r1.ext (ex _))
                · rw [if_neg ca, if_neg ca]
                  refine .dctN upd_same (by simp) ?_ ?_ ?_
                  · rw [List.map_append]; exact toNs_app h2 (by show (toN n).bind _ = _; rw [hn]; rfl)
                  · rw [List.map_append]; exact (h3.append (.cons ri .nil)).ext (ex _)
                  · rw [List.map_append]; exact (h4.append (.cons rv .nil)).ext (ex _)
            · rw [if_neg hc] at h; cases h
          · rw [if_neg ht] at h
            by_cases hc : (keyOf n).isSome = true ∧ ks.all (fun q => (keyOf q).isSome) = true
            · rw [if_pos hc] at h
              obtain ⟨k, hk'⟩ := Option.isSome_iff_exists.mp hc.1
              have en := keyOf_is hk'
              subst en
              have ei := ri.key
              subst ei
              have big : ∃ kvs : List (L2.Key × V), H a = some (.dK kvs) ∧ ks = kvs.map (fun p => keyM p.1) ∧ RepAll (gmOf X) A H (kvs.map (·.2)) xs := by
                rcases od with z | ⟨es, h1, hne, h2, h3, h4⟩
                · exact z
                · cases ks with
                  | nil =>
                    cases es with
                    | nil => exact absurd rfl hne
                    | cons _ _ => cases h3
                  | cons q ks =>
                    exfalso
                    have z := hc.2
                    rw [List.all_cons, Bool.and_eq_true] at z
                    have z1 := z.1
                    cases es with
                    | nil => cases h3
                    | cons e es =>
                      cases h3 with
                      | cons r rs =>
                        cases q <;> first | (cases z1; done) | cases r
              obtain ⟨kvs, h1, h2, h3⟩ := big
              subst h2
              refine .inr (.inl ⟨a, _, rfl, DPut.k h1 (by rw [sizeLine_eq]; simpa using hlen), ?_⟩)
              refine fin (mo := dPut (kvs.map fun p => keyM p.1) xs (keyM k) x) ?_ (by cases h; rfl)
              unfold dPut putK
              rw [hasK_key]
              by_cases ca : (kvs.any fun kv => decide (kv.1 = k)) = true
              · rw [if_pos ca, if_pos ca]
                refine .dctL upd_same ?_ ((putK_rep rv h3).ext (ex _))
                rw [List.map_map]
                exact List.map_congr_left fun e _ => by show keyM e.1 = keyM (if e.1 = k then (e.1, v) else e).1; split <;> rfl
              · rw [if_neg ca, if_neg ca]
                refine .dctL upd_same (by rw [List.map_append]; rfl) ?_
                rw [List.map_append]; exact (h3.append (.cons rv .nil)).ext (ex _)
            · rw [if_neg hc] at h; cases h
        · rw [if_neg hlen] at h; cases h
      · cases h
  · cases h
end MR

/-! {}, {k: v, ..}; f'..'; a, b = a list; sorted(d) -/
namespace MR
open PySem L2
open PySem.W (alike dataLt dataLe AllAlike Sortable EachIs)
/-! ### displays -/
def mDictN : ME := fun _ st => .ok (.obj st.length) (st ++ [.dict [] []])
def mDict0 : ME := fun _ st => .ok (.dct [] []) st
section
variable {X : Cx} {W : WX} {pos : Pos}
theorem pm_dictN : PM X W (.Dict [] [] pos) mDictN := PE_imp pe_dnewK fun σ H Q ⟨A, env, st, s, q, h⟩ => fun p hp =>
  h (A.more p) _ _ (Ext.made s hp) (s.madeO hp (.dctL upd_same rfl .nil)) (.obj (by rw [← s.len]; simp))
theorem pm_dict0 : PM X W (.Dict [] [] pos) mDict0 := PE_imp pe_dnewK fun σ H Q ⟨A, env, st, s, q, h⟩ => fun p hp =>
  h A _ _ (Ext.laid s hp) (s.laid hp) (.dctL ⟨.inl upd_same, s.new_out hp⟩ rfl .nil)
end
abbrev MP := MEnv → Sto → Res (List (MV × MV))
def pNil : MP := fun _ st => .ok [] st
def pCons (k v : ME) (r : MP) : MP := fun env st => (noExc (k env st)).bind fun x st1 => (noExc (v env st1)).bind fun y st2 => (r env st2).bind fun ps st3 => .ok ((x, y) :: ps) st3
def okPr (G : Gm) (A : Ad) (H : Hp) (Q : List (V × V) → Hp → Prop) : List (MV × MV) → Sto → Prop := fun ms st => ∀ A' H' vs, Ext A H A' H' → SR G A' H' st → RepAll G A' H' (vs.map (·.1)) (ms.map (·.1)) → RepAll G A' H' (vs.map (·.2)) (ms.map (·.2)) → Q vs H'
def tP (G : Gm) (m : MP) : St → Hp → (List (V × V) → Hp → Prop) → Prop := fun σ H Q => ∃ A env st, SR G A H st ∧ EnvR G A H σ env ∧ (m env st).post (okPr G A H Q) (fun _ _ => False)
structure PMP (X : Cx) (pos : Pos) (ks : List (Option Expr)) (vs : List Expr) (m : MP) : Prop where
  ex : ∃ trs, PPs X pos ks vs trs ∧ ∀ σ H Q, tP (gmOf X) m σ H Q → tPairs trs σ H Q
theorem Ext.okPr {G : Gm} {A A' : Ad} {H H' : Hp} {Q : List (V × V) → Hp → Prop} (e : Ext A H A' H') {ms : List (MV × MV)} {st : Sto} (h : okPr G A H Q ms st) : okPr G A' H' Q ms st := fun B I v f s r q => h B I v (e.trans f) s r q
section
variable {X : Cx} {W : WX} {pos : Pos} {k v : Expr} {mk mv : ME} {ks : List (Option Expr)} {vs : List Expr} {mr : MP}
theorem pmp_nil : PMP X pos [] [] pNil := ⟨[], pps_nil, fun σ H Q ⟨A, env, st, s, q, h⟩ => h A H [] (Ext.refl A H) s .nil .nil⟩
theorem pmp_cons (hk : PM X W k mk) (hv : PM X W v mv) (hr : PMP X pos ks vs mr) : PMP X pos (some k :: ks) (v :: vs) (pCons mk mv mr) := by
  obtain ⟨trs, h1, h2⟩ := hr.ex
  refine ⟨_, pps_cons hk hv h1, fun σ H Q ⟨A, env, st, s, q, h⟩ => ?_⟩
  unfold pCons at h
  rw [Res.post_bind] at h
  obtain ⟨x, st1, e1, h⟩ := post_noExc h
  show tE _ _ _ _ _ _
  refine ⟨A, env, st, s, q, post_ok e1 fun A1 H1 xv x1 s1 r1 => ?_⟩
  rw [Res.post_bind] at h
  obtain ⟨y, st2, e2, h⟩ := post_noExc h
  show tE _ _ _ _ _ _
  refine ⟨A1, env, st1, s1, q.ext x1, post_ok e2 fun A2 H2 yv x2 s2 r2 => ?_⟩
  rw [Res.post_bind] at h
  refine h2 σ H2 _ ⟨A2, env, st2, s2, (q.ext x1).ext x2, h.mono (fun ps st3 h3 => ?_) fun _ _ z => z⟩
  intro A3 H3 pv x3 s3 ra rb
  exact h3 A3 H3 ((xv, yv) :: pv) ((x1.trans x2).trans x3) s3 (.cons ((r1.ext x2).ext x3) ra) (.cons (r2.ext x3) rb)
end
def dPutL (ks xs : List MV) (n v : MV) : List MV × List MV := if hasK ks n = true then (ks, putX ks xs n v) else (ks ++ [n], xs ++ [v])
theorem dPut_eq (ks xs : List MV) (n v : MV) : dPut ks xs n v = .dict (dPutL ks xs n v).1 (dPutL ks xs n v).2 := by
  unfold dPut dPutL
  split <;> rfl
theorem putL_rep {G : Gm} {A : Ad} {H : Hp} {k : L2.Key} {v : V} {m : MV} (r : Rep G A H v m) {kvs : List (L2.Key × V)} {xs : List MV} (h : RepAll G A H (kvs.map (·.2)) xs) :
    (dPutL (kvs.map fun p => keyM p.1) xs (keyM k) m).1 = (putK kvs k v).map (fun p => keyM p.1) ∧ RepAll G A H ((putK kvs k v).map (·.2)) (dPutL (kvs.map fun p => keyM p.1) xs (keyM k) m).2 := by
  unfold dPutL putK
  rw [hasK_key]
  by_cases ca : (kvs.any fun kv => decide (kv.1 = k)) = true
  · rw [if_pos ca, if_pos ca]
    refine ⟨?_, putK_rep r h⟩
    show kvs.map (fun p => keyM p.1) = (kvs.map fun kv => if kv.1 = k then (kv.1, v) else kv).map (fun p => keyM p.1)
    rw [List.map_map]
    exact List.map_congr_left fun e _ => by show keyM e.1 = keyM (if e.1 = k then (e.1, v) else e).1; split <;> rfl
  · rw [if_neg ca, if_neg ca]
    refine ⟨by simp, ?_⟩
    show RepAll G A H ((kvs ++ [(k, v)]).map (·.2)) (xs ++ [m])
    rw [List.map_append]; exact h.append (.cons r .nil)
def dMake (ps : List (MV × MV)) : List MV × List MV := ps.foldl (fun a p => dPutL a.1 a.2 p.1 p.2) ([], [])
theorem make_rep {G : Gm} {A : Ad} {H : Hp} : ∀ {ms : List (MV × MV)} {kvs acc : List (L2.Key × V)} {xs : List MV}, ms.map (·.1) = kvs.map (fun p => keyM p.1) → RepAll G A H (kvs.map (·.2)) (ms.map (·.2)) → RepAll G A H (acc.map (·.2)) xs →
    (ms.foldl (fun a p => dPutL a.1 a.2 p.1 p.2) (acc.map (fun p => keyM p.1), xs)).1 = (mergeK acc kvs).map (fun p => keyM p.1) ∧ RepAll G A H ((mergeK acc kvs).map (·.2)) (ms.foldl (fun a p => dPutL a.1 a.2 p.1 p.2) (acc.map (fun p => keyM p.1), xs)).2
  | [], kvs, acc, xs, h1, h2, h3 => by
    cases kvs with
    | nil => exact ⟨rfl, h3⟩
    | cons _ _ => cases h1
  | (a, b) :: ms, kvs, acc, xs, h1, h2, h3 => by
    cases kvs with
    | nil => cases h1
    | cons p kvs =>
      obtain ⟨z1, z2⟩ := List.cons.inj h1
      cases h2 with
      | cons r rs =>
        have z1 : a = keyM p.1 := z1
        subst z1
        obtain ⟨w1, w2⟩ := putL_rep (k := p.1) r h3
        have := make_rep (acc := putK acc p.1 p.2) (xs := (dPutL (acc.map fun p => keyM p.1) xs (keyM p.1) b).2) z2 rs w2
        rw [← w1] at this
        exact this
def keysOf : List MV → Option (List L2.Key)
  | [] => some []
  | m :: ms => (keyOf m).bind fun k => (keysOf ms).map (k :: ·)
theorem keys_rep {G : Gm} {A : Ad} {H : Hp} : ∀ {ms : List (MV × MV)} {ps : List (V × V)} {ks : List L2.Key}, keysOf (ms.map (·.1)) = some ks → RepAll G A H (ps.map (·.1)) (ms.map (·.1)) → RepAll G A H (ps.map (·.2)) (ms.map (·.2)) →
    ∃ kvs : List (L2.Key × V), ps = kvs.map (fun kv => (kV kv.1, kv.2)) ∧ ms.map (·.1) = kvs.map (fun p => keyM p.1) ∧ RepAll G A H (kvs.map (·.2)) (ms.map (·.2)) ∧ kvs.length = ms.length
  | [], [], _, _, _, h => ⟨[], rfl, rfl, .nil, rfl⟩
  | [], _ :: _, _, _, h, _ => by cases h
  | _ :: _, [], _, _, h, _ => by cases h
  | (a, b) :: ms, (x, y) :: ps, ks, hk, .cons r rs, .cons q qs => by
    simp only [List.map_cons, keysOf] at hk
    cases e1 : keyOf a with
    | none => rw [e1] at hk; cases hk
    | some k =>
      rw [e1] at hk
      cases e2 : keysOf (ms.map (·.1)) with
      | none => rw [e2] at hk; cases hk
      | some js =>
        obtain ⟨kvs, z1, z2, z3, z4⟩ := keys_rep e2 rs qs
        have ea := keyOf_is e1
        subst ea
        refine ⟨(k, y) :: kvs, ?_, ?_, .cons q z3, by simp [z4]⟩
        · rw [z1, show x = kV k from r.key]; rfl
        · rw [List.map_cons, List.map_cons, z2]
def mDisp (r : MP) : ME := fun env st => match r env st with
  | .ok ps st1 => if (keysOf (ps.map (·.1))).isSome = true ∧ ps.length ≤ 15 then .ok (.dct (dMake ps).1 (dMake ps).2) st1 else .bad
  | _ => .bad
def mDispN (r : MP) : ME := fun env st => match r env st with
  | .ok ps st1 => if (keysOf (ps.map (·.1))).isSome = true ∧ ps.length ≤ 15 then .ok (.obj st1.length) (st1 ++ [.dict (dMake ps).1 (dMake ps).2]) else .bad
  | _ => .bad
/-! ### a fenced object becomes the store's -/
section
variable {G : Gm} {A : Ad} {H : Hp} {d : Addr}
theorem adopt_has {a : Addr} (h : ¬ (A.fence d).has a) : ¬ (A.more d).has a := fun m => h (by
  rcases m with m | m
  · rcases List.mem_append.mp m with m | m
    · exact .inl m
    · exact .inr (by rw [List.mem_singleton.mp m]; exact List.mem_cons_self)
  · exact .inr (List.mem_cons_of_mem _ m))
theorem FzL.adopt {a : Addr} {xs : List V} (h : FzL G (A.fence d) H a xs) : FzL G (A.more d) H a xs := h.imp (fun z => ⟨z.1, adopt_has z.2⟩) id
theorem FzT.adopt {a : Addr} {xs : List V} (h : FzT G (A.fence d) H a xs) : FzT G (A.more d) H a xs := h.imp (fun z => ⟨z.1, adopt_has z.2⟩) id
theorem FzO.adopt {a : Addr} {o : HO} (h : FzO (A.fence d) H a o) : FzO (A.more d) H a o := ⟨h.1, adopt_has h.2⟩
theorem ix_adopt {k : Nat} {a : Addr} (h : A.ix[k]? = some a) : (A.ix ++ [d])[k]? = some a := by
  rw [List.getElem?_append_left (List.getElem?_eq_some_iff.mp h).1]; exact h
mutual
theorem Rep.adopt : ∀ {v : V} {m : MV}, Rep G (A.fence d) H v m → Rep G (A.more d) H v m
  | _, _, .non => .non
  | _, _, .bl b => .bl b
  | _, _, .int i => .int i
  | _, _, .str s => .str s
  | _, _, .ty n => .ty n
  | _, _, .gl h => .gl h
  | _, _, .tup h r => .tup h.adopt (RepAll.adopt r)
  | _, _, .lst h n r => .lst h (adopt_has n) (RepAll.adopt r)
  | _, _, .obj h => .obj (ix_adopt h)
  | _, _, .scr h => .scr h.adopt
  | _, _, .ins c h l r => .ins c h.adopt l (RepAll.adopt r)
  | _, _, .dctL h z r => .dctL h.adopt z (RepAll.adopt r)
  | _, _, .dctN h ne z r q => .dctN h.adopt ne z (RepAll.adopt r) (RepAll.adopt q)
theorem RepAll.adopt : ∀ {vs : List V} {ms : List MV}, RepAll G (A.fence d) H vs ms → RepAll G (A.more d) H vs ms
  | _, _, .nil => .nil
  | _, _, .cons r rs => .cons (Rep.adopt r) (RepAll.adopt rs)
end
theorem SR.adopt {st : Sto} {mo : MO} (s : SR G (A.fence d) H st) (r : ObjR G (A.more d) H d mo) : SR G (A.more d) H (st ++ [mo]) where
  len := by have := s.len; simp at this ⊢; exact this
  nd := by
    have h1 := List.nodup_append.mp s.nd
    have h2 := List.nodup_cons.mp h1.2.1
    show ((A.ix ++ [d]) ++ A.fn).Nodup
    rw [List.nodup_append]
    refine ⟨?_, h2.2, fun a ha b hb e => ?_⟩
    · rw [List.nodup_append]
      refine ⟨h1.1, by simp, fun a ha b hb e => ?_⟩
      rw [List.mem_singleton.mp hb] at e
      exact h1.2.2 a ha d List.mem_cons_self e
    · subst e
      rcases List.mem_append.mp ha with ha | ha
      · exact h1.2.2 a ha a (List.mem_cons_of_mem _ hb) rfl
      · rw [List.mem_singleton.mp ha] at hb; exact h2.1 hb
  ob := fun k a o ha ho => by
    have ha : (A.ix ++ [d])[k]? = some a := ha
    by_cases hk : k < A.ix.length
    · rw [List.getElem?_append_left hk] at ha
      have hk' : k < st.length := by have := s.len; have e : A.ix.length = st.length := this; omega
      rw [List.getElem?_append_left hk'] at ho
      have q := s.ob k a o ha ho
      cases q with
      | lst h r => exact .lst h r.adopt
      | ins c h l r => exact .ins c h l r.adopt
      | dctL h z r => exact .dctL h z r.adopt
      | dctN h ne z r q => exact .dctN h ne z r.adopt q.adopt
    · have e : A.ix.length = st.length := s.len
      have hk' : k = A.ix.length := by
        have := (List.getElem?_eq_some_iff.mp ha).1
        simp at this
        omega
      subst hk'
      simp at ha
      rw [e] at ho
      simp at ho
      subst ha
      subst ho
      exact r
  ft := fun b m => s.ft b (List.mem_cons_of_mem _ m)
theorem Ext.adopt {A1 : Ad} {H1 : Hp} (e : Ext A1 H1 A H) (hd : H1 d = none) : Ext A1 H1 (A.more d) H where
  pre := by
    obtain ⟨B, q⟩ := e.pre
    exact ⟨B ++ [d], by show A.ix ++ [d] = _; rw [q]; simp⟩
  fen := e.fen
  keep := e.keep
  new := fun p m => by
    rcases m with m | m
    · rcases List.mem_append.mp m with m | m
      · exact e.new p (.inl m)
      · rw [List.mem_singleton.mp m]; exact .inr hd
    · exact e.new p (.inr m)
  fk := e.fk
end
section
variable {X : Cx} {W : WX} {pos : Pos} {ks : List (Option Expr)} {vs : List Expr} {mr : MP}
theorem dispE {trs : List (TE × TE)} (h2 : ∀ σ H Q, tP (gmOf X) mr σ H Q → tPairs trs σ H Q) {A : Ad} {env : MEnv} {st st1 : Sto} {σ : St} {H : Hp} {Q : VK} {ps : List (MV × MV)} (s : SR (gmOf X) A H st) (q : EnvR (gmOf X) A H σ env)
    (e : mr env st = .ok ps st1) (hk : (keysOf (ps.map (·.1))).isSome = true) (hl : ps.length ≤ 15)
    (k : ∀ A1 H1 p (kvs : List (L2.Key × V)), H p = none → SR (gmOf X) (A1.fence p) (upd H1 p (.dK kvs)) st1 → Ext A H A1 (upd H1 p (.dK kvs)) → (dMake ps).1 = kvs.map (fun p => keyM p.1) → RepAll (gmOf X) (A1.fence p) (upd H1 p (.dK kvs)) (kvs.map (·.2)) (dMake ps).2 → Q (.ref p) (upd H1 p (.dK kvs))) :
    tDisp trs σ H Q := by
  intro p hp
  refine h2 σ _ _ ⟨A.fence p, env, st, s.fence hp _, q.fence _ hp, post_ok e fun A1 H1 pv x1 s1 ra rb => ?_⟩
  have efn : A1.fn = p :: A.fn := x1.fen
  obtain ⟨ix, fn⟩ := A1
  subst efn
  have s1 : SR (gmOf X) ((⟨ix, A.fn⟩ : Ad).fence p) H1 st1 := s1
  have x1 : Ext (A.fence p) (upd H p (.dK [])) ((⟨ix, A.fn⟩ : Ad).fence p) H1 := x1
  have hp1 : H1 p = some (.dK []) := (x1.fk p List.mem_cons_self).trans upd_same
  obtain ⟨js, ej⟩ := Option.isSome_iff_exists.mp hk
  obtain ⟨kvs, z1, z2, z3, z4⟩ := keys_rep ej ra rb
  refine ⟨hp1, kvs, z1, by rw [z4]; exact hl, ?_⟩
  have mk := make_rep (acc := []) (xs := []) z2 z3 .nil
  have xx : Ext A H ⟨ix, A.fn⟩ H1 := (Ext.laid s hp).trans (Ext.unfence s1 x1)
  exact k ⟨ix, A.fn⟩ H1 p _ hp (s1.grow _) (Ext.grown _ s hp xx) mk.1 (mk.2.grow _)
theorem pm_disp (h : PMP X pos ks vs mr) (hall : ks.all (·.isSome) = true := by rfl) (hl : ks.length = vs.length := by rfl) (h0 : ks ≠ [] := by simp) (h15 : ks.length ≤ 15 := by decide) : PM X W (.Dict ks vs pos) (mDisp mr) := by
  obtain ⟨trs, h1, h2⟩ := h.ex
  refine PE_imp (pe_disp h1 hall hl h0 h15) fun σ H Q ⟨A, env, st, s, q, h⟩ => ?_
  unfold mDisp at h
  split at h
  · rename_i ps st1 e
    obtain ⟨hc, h⟩ := post_ite h
    refine dispE h2 s q e hc.1 hc.2 fun A1 H1 p kvs hp s1 x1 ek rk => ?_
    exact h A1 _ _ x1 s1.unfence (.dctL ⟨.inl upd_same, s1.fence_out⟩ ek rk.unfence)
  · exact h.elim
theorem pm_dispN (h : PMP X pos ks vs mr) (hall : ks.all (·.isSome) = true := by rfl) (hl : ks.length = vs.length := by rfl) (h0 : ks ≠ [] := by simp) (h15 : ks.length ≤ 15 := by decide) : PM X W (.Dict ks vs pos) (mDispN mr) := by
  obtain ⟨trs, h1, h2⟩ := h.ex
  refine PE_imp (pe_disp h1 hall hl h0 h15) fun σ H Q ⟨A, env, st, s, q, h⟩ => ?_
  unfold mDispN at h
  split at h
  · rename_i ps st1 e
    obtain ⟨hc, h⟩ := post_ite h
    refine dispE h2 s q e hc.1 hc.2 fun A1 H1 p kvs hp s1 x1 ek rk => ?_
    exact h (A1.more p) _ _ (x1.adopt hp) (s1.adopt (.dctL upd_same ek rk.adopt)) (.obj (by have := s1.len; have e : A1.ix.length = st1.length := this; show (A1.ix ++ [p])[st1.length]? = _; rw [← e]; simp))
  · exact h.elim
end
end MR

/-! o[i] = v; sorted(d); f'..'; a, b = a list; text.count; tuple(range(..)) -/
namespace MR
open PySem L2
open PySem.W (alike dataLt dataLe AllAlike Sortable EachIs)
section
variable {X : Cx} {W : WX} {pos pos2 : Pos}
theorem pms_setixG {o i e : Expr} {mo mi me : ME} (hu : X.A.units + 64 < cLine) (he : PM X W e me) (ho : PM X W o mo) (hi : PM X W i mi)
    (hs : swapsWithSole [.Subscript o i pos] e pos2.line X.env = pure false := by rfl) (hw : swappedStores [.Subscript o i pos] e X.env = pure none := by rfl)
    (h1 : (assignEach [.Subscript o i pos] X.env).map (·.2) = [assign (.Subscript o i pos) X.env] := by rfl)
    (ha : ∀ v, assign (.Subscript o i pos) X.env v = (do
      let ov ← holding [v] (eval o X.env)
      let iv ← holding [v, ov] (eval i X.env)
      standAt pos
      holding [v, ov, iv] (setItem ov iv v)
      release [v, ov, iv] []) := by intro _; rfl) : PMS X W (.Assign [.Subscript o i pos] e pos2) (sSetIxG mo mi me) :=
  PS_imp (ps_asg he (pg_sub ho hi (set_any hu) ha) hs hw h1) fun D σ H ⟨A, env, st, s, q, h⟩ => by
    refine inE s q (Ext.refl A H) ((post_bindE h).mono (fun mx st1 h1 A1 H1 x e1 s1 r1 => ?_) fun _ _ z => exP_of q z)
    obtain ⟨m, st2, eo, h2⟩ := post_noExcE h1
    refine inE s1 (q.ext e1) (Ext.refl A1 H1) (post_ok eo fun A2 H2 y e2 s2 r2 => ?_)
    obtain ⟨n, st3, ei, h3⟩ := post_noExcE h2
    refine inE s2 ((q.ext e1).ext e2) (Ext.refl A2 H2) (post_ok ei fun A3 H3 z e3 s3 r3 => ?_)
    split at h3
    · rename_i st4 es
      exact set_rep s3 (r2.ext e3) r3 ((r1.ext e2).ext e3) es fun H' e4 s4 => h3 A3 _ σ (((e1.trans e2).trans e3).trans e4) s4 ((((q.ext e1).ext e2).ext e3).ext e4)
    · exact h3.elim
end
/-! ### f'..' -/
def mFmt (a : ME) : ME := fun env st => (a env st).bind fun m st1 => match m with
  | .str y => if y.length ≤ 16777216 then .ok (.str y) st1 else .bad
  | .int i => if i.natAbs.log2 < 1920 then .ok (.str (Str.ofString (toString i))) st1 else .bad
  | _ => .bad
def joinE : List ME → Str → MEnv → Sto → Res Str
  | [], acc, _, st => .ok acc st
  | a :: r, acc, env, st => (a env st).bind fun m st1 => match m with
    | .str y => if (acc ++ y).length ≤ 16777216 then joinE r (acc ++ y) env st1 else .bad
    | _ => .bad
def mJs (l : List ME) : ME := fun env st => (joinE l Str.empty env st).bind fun y st1 => .ok (.str y) st1
inductive PMJ (X : Cx) (W : WX) : List Expr → List ME → Prop where
  | nil : PMJ X W [] []
  | cons {e : Expr} {m : ME} {es : List Expr} {ms : List ME} (h : PM X W e m) (r : PMJ X W es ms) : PMJ X W (e :: es) (m :: ms)
section
variable {X : Cx} {W : WX} {pos : Pos}
theorem pm_fmt {e : Expr} {m : ME} (he : PM X W e m) : PM X W (.FormattedValue e (-1) none pos) (mFmt m) := PE_imp (pe_fmt he) fun σ H Q ⟨A, env, st, s, q, h⟩ => by
  unfold mFmt at h
  rw [Res.post_bind] at h
  refine inE s q (Ext.refl A H) (h.mono (fun mx st1 h1 A1 H1 x e1 s1 r1 => ?_) fun _ _ z => z)
  split at h1
  · obtain ⟨hl, k⟩ := post_ite h1
    exact .inl ⟨_, r1.str_inv, line_of hl, k A1 H1 _ e1 s1 (.str _)⟩
  · obtain ⟨hl, k⟩ := post_ite h1
    exact .inr ⟨_, r1.int_inv, hl, k A1 H1 _ e1 s1 (.str _)⟩
  · exact h1.elim
theorem pmj_js {es : List Expr} {ms : List ME} (h : PMJ X W es ms) : PJ X es (ms.map (tE (gmOf X) W)) := by
  induction h with
  | nil => exact .nil
  | cons h r ih => exact .cons h ih
theorem join_run {ms : List ME} : ∀ (acc : Str) {A A0 : Ad} {H H0 : Hp} {σ : L2.St} {env : MEnv} {st : Sto} {Q : Str → Hp → Prop}, SR (gmOf X) A H st → EnvR (gmOf X) A H σ env → Ext A0 H0 A H →
    (joinE ms acc env st).post (fun y st' => ∀ A' H', Ext A H A' H' → SR (gmOf X) A' H' st' → Q y H') (exP (gmOf X) A0 H0 (WE W σ)) → tJs (ms.map (tE (gmOf X) W)) acc σ H Q := by
  induction ms with
  | nil => intro acc A A0 H H0 σ env st Q s q e0 h; exact h A H (Ext.refl A H) s
  | cons m ms ih =>
    intro acc A A0 H H0 σ env st Q s q e0 h
    simp only [joinE] at h
    rw [Res.post_bind] at h
    refine inE s q e0 (h.mono (fun mx st1 h1 A1 H1 x e1 s1 r1 => ?_) fun _ _ z => z)
    split at h1
    · obtain ⟨hl, k⟩ := post_ite h1
      refine ⟨_, r1.str_inv, line_of hl, ih _ s1 (q.ext e1) (e0.trans e1) (k.mono (fun y st' hy A' H' x' s' => hy A' H' (e1.trans x') s') fun _ _ z => z)⟩
    · exact h1.elim
theorem pm_joined {v1 v2 : Expr} {rest : List Expr} {ms : List ME} (h : PMJ X W (v1 :: v2 :: rest) ms) : PM X W (.JoinedStr (v1 :: v2 :: rest) pos) (mJs ms) := PE_imp (pe_joined (pmj_js h)) fun σ H Q ⟨A, env, st, s, q, h⟩ => by
  unfold mJs at h
  rw [Res.post_bind] at h
  exact join_run Str.empty s q (Ext.refl A H) (h.mono (fun y st' hy A' H' x s' => hy A' H' _ x s' (.str _)) fun _ _ z => z)
theorem pm_joined1 {e : Expr} {m : ME} (h : PM X W e m) : PM X W (.JoinedStr [e] pos) m := pe_joined1 h
end
/-! ### a, b, .. of a tuple or a list -/
def gTL (n : Nat) (gs : MTgs) : MTg := fun m env st => match itemsOf m st with
  | some xs => if xs.length = n then gs xs env st else none
  | none => none
theorem PG_or {X : Cx} {e : Expr} {t t' u : TG} (h : PG X e t) (h' : PG X e t') (i : ∀ v σ H Q, u v σ H Q → t v σ H Q ∨ t' v σ H Q) : PG X e u := ⟨fun pins s σ H v w Q I r q =>
  (i v σ H Q q).elim (h.run pins s σ H v w Q I r) (h'.run pins s σ H v w Q I r)⟩
theorem pmg_tupL {X : Cx} {pos : Pos} {es : List Expr} {gs : MTgs} {k n : Nat} (h : PMGs X es gs) (hc : X.calm = true := by rfl) (hn : (assignEach es X.env).length = n := by rfl) (hst : (assignEach es X.env).findIdx? (·.1) = none := by rfl) : PMG X (.Tuple es k pos) (gTL n gs) :=
  PG_or (pg_tup hc h hn hst) (pg_unl hc h hn hst) fun v σ H Q ⟨A, env, st, m, s, q, r, env', st', e1, k⟩ => by
    unfold gTL at e1
    split at e1
    · rename_i xs ei
      obtain ⟨a, vs, ev, sq, rv⟩ := items_rep s r ei
      by_cases hl : xs.length = n
      · rw [if_pos hl] at e1
        rcases sq with sq | sq
        · exact .inl ⟨a, vs, ev, sq, by rw [rv.length]; exact hl, A, env, st, xs, s, q, rv, env', st', e1, k⟩
        · exact .inr ⟨a, vs, ev, sq, by rw [rv.length]; exact hl, A, env, st, xs, s, q, rv, env', st', e1, k⟩
      · rw [if_neg hl] at e1; cases e1
    · cases e1
/-! ### text.count -/
def gCount : MV → List MV → Sto → Res MV := fun x ms st => match x, ms with
  | .str a, [.str b] => .ok (.int (PySem.Txt.count a b)) st
  | _, _ => .bad
theorem oCount {G : Gm} : OpMt G (fun x xs H Q => ∃ a b, x = .str a ∧ xs = [.str b] ∧ Q (.int (PySem.Txt.count a b)) H) gCount := by
  intro A H st x mx xs ms Q m st' s rx r h k
  unfold gCount at h
  split at h
  · cases h
    cases r with
    | cons r rs => cases rs; exact ⟨_, _, rx.str_inv, by rw [r.str_inv], fin0 s (.int _) k⟩
  · cases h
/-! ### sorted(d) -/
mutual
theorem reads_lt {h : Heap} : ∀ {v : Value} {d : PyData} {as : List Addr}, Reads h v d as → ∀ a ∈ as, a < h.objs.size
  | _, _, _, .none, a, m => by cases m
  | _, _, _, .bool _, a, m => by cases m
  | _, _, _, .int _ _, a, m => by cases m
  | _, _, _, .str _ _, a, m => by cases m
  | _, _, _, .list e _ _ r, a, m => by
    rcases List.mem_cons.mp m with z | m
    · rw [z]; exact Heap.lt_size e
    · exact readsAll_lt r a m
  | _, _, _, .tuple e _ _ r, a, m => readsAll_lt r a m
  | _, _, _, .dict e _ _ r q, a, m => by
    rcases List.mem_cons.mp m with z | m
    · rw [z]; exact Heap.lt_size e
    · rcases List.mem_append.mp m with m | m
      · exact readsAll_lt r a m
      · exact readsAll_lt q a m
theorem readsAll_lt {h : Heap} : ∀ {vs : List Value} {ds : List PyData} {as : List Addr}, ReadsAll h vs ds as → ∀ a ∈ as, a < h.objs.size
  | _, _, _, .nil, a, m => by cases m
  | _, _, _, .cons r rs, a, m => by
    rcases List.mem_append.mp m with m | m
    · exact reads_lt r a m
    · exact readsAll_lt rs a m
end
def DKeys (G : Gm) (H : Hp) (a : Addr) (ks : List V) : Prop := (∃ kvs : List (L2.Key × V), H a = some (.dK kvs) ∧ ks = kvs.map fun p => kV p.1) ∨ (∃ es, H a = some (DNO G a es) ∧ ks = es.map fun e => V.ref e.2.1)
def rSortK (G : Gm) : List V → Hp → VK → Prop := fun xs H Q => ∃ (a : Addr) (bs : List (V × PyData)), xs = [.ref a] ∧ DKeys G H a (bs.map (·.1)) ∧ (∀ b ∈ bs, Dp G.K H b.1 b.2) ∧
  AllAlike (bs.map (·.2)) ∧ Sortable (bs.map (·.2)) ∧ (∀ b ∈ bs, b.2.depth ≤ 60) ∧ bs.length ≤ sizeLine ∧ ∀ p, H p = none → Q (.ref p) (upd H p (.lst ((bs.mergeSort (dataLe false (·.2))).map (·.1))))
theorem vals_get {ks : List V} : ∀ {acc : List Value}, acc.length = ks.length → (∀ (j : Nat) (v : Value), acc[j]? = some v → ∃ k : V, ks[j]? = some k ∧ RelV k v) → Vals ks acc := by
  induction ks with
  | nil => intro acc h _; rw [List.length_eq_zero_iff.mp h]; exact .nil
  | cons k ks ih =>
    intro acc h hg
    cases acc with
    | nil => cases h
    | cons u acc =>
      obtain ⟨k', e, r⟩ := hg 0 u rfl
      cases e
      exact .cons r (ih (by simpa using h) fun j v hj => hg (j + 1) v (by simpa using hj))
theorem dkeys_raw {X : Cx} {pins : List (Addr × Obj)} {σ : L2.St} {H : Hp} {s : Shared} {a : Addr} {ks : List V} (I : L2.Inv X pins σ H s) (h : DKeys (gmOf X) H a ks) :
    (a == sysModules) = false ∧ ∃ es ep, s.heap.DictRaw a es ep ∧ es.size = ks.length ∧ ∀ i (hi : i < es.size), ∃ k, ks[i]? = some k ∧ RelV k es[i].key := by
  rcases h with ⟨kvs, h, rfl⟩ | ⟨es, h, rfl⟩
  · obtain ⟨z, d, vs, rel, dd⟩ := I.hok a _ h
    refine ⟨d, ?_⟩
    obtain ⟨es, ep, hr, hs, hk⟩ := dd.raw
    have hl : kvs.length = vs.length := rel.length
    refine ⟨es, ep, hr, by rw [hs]; simp [hl], fun i hi => ?_⟩
    have hi' : i < vs.length := by omega
    have hv : vs[i]? = some (vs[i].1, vs[i].2) := by rw [List.getElem?_eq_getElem hi']
    obtain ⟨k1, _⟩ := hk i hi _ _ hv
    have hkk : (kvs.map (·.1))[i]? = some vs[i].1 := by rw [rel.keys, List.getElem?_map, List.getElem?_eq_getElem hi']; rfl
    rw [List.getElem?_map] at hkk
    cases e : kvs[i]? with
    | none => rw [e] at hkk; cases hkk
    | some p =>
      rw [e] at hkk
      have hp : p.1 = vs[i].1 := Option.some.inj hkk
      refine ⟨kV p.1, by rw [List.getElem?_map, e]; rfl, ?_⟩
      rw [hp]
      rcases keyIs_shape (show keyIs vs[i].1 es[i].key = true from k1) with ⟨n, t, ek, ev⟩ | ⟨n, t, ek, ev⟩
      · rw [ek, ev]; exact ⟨t, rfl⟩
      · rw [ek, ev]; exact ⟨t, rfl⟩
  · obtain ⟨⟨d, z, xs, r, o, es', ep, ho, hx, hd, he, hnd⟩, _, _⟩ := I.hok a _ h
    refine ⟨d, es', ep, ⟨o, ho, hx, hd⟩, ?_, fun i hi => ?_⟩
    · have := congrArg List.length he
      simp at this
      rw [this, List.length_map]
      exact (Paired.length r).symm
    · have hl : es'.size = xs.length := by have := congrArg List.length he; simpa using this
      have hi' : i < xs.length := by omega
      have hi2 : i < es.length := by rw [Paired.length r]; exact hi'
      have e1 : es'.toList[i]? = (xs.map (entryOfKey (nestedKind X.prog X.w)))[i]? := by rw [he]
      rw [List.getElem?_map, List.getElem?_eq_getElem hi', Array.getElem?_toList, Array.getElem?_eq_getElem hi] at e1
      have e2 : es'[i] = entryOfKey (nestedKind X.prog X.w) xs[i] := Option.some.inj e1
      have pr : ∀ {es : List (NestedKey × Addr × V)} {xs : List (NestedKey × Addr × Value)}, Paired RE es xs → ∀ i (h1 : i < es.length) (h2 : i < xs.length), RE es[i] xs[i] := by
        intro es xs r
        induction r with
        | nil => intro i h1; cases h1
        | cons r t ih =>
          intro i h1 h2
          cases i with
          | zero => exact r
          | succ i => exact ih i (by simpa using h1) (by simpa using h2)
      have q := pr r i hi2 hi'
      refine ⟨.ref es[i].2.1, by rw [List.getElem?_map, List.getElem?_eq_getElem hi2]; rfl, ?_⟩
      rw [e2]
      show Value.ref xs[i].2.1 = Value.ref es[i].2.1
      rw [q.2.1]
theorem cr_sortK {X : Cx} (hu : X.A.units + 64 < cLine) (hcalm : X.calm = true) : CallR X (.builtin "sorted") (rSortK (gmOf X)) := by
  intro pins s σ H xs us Q I r h
  obtain ⟨a, bs, rfl, hd, hdp, hal, hk, hdep, hz, q⟩ := h
  rw [Vals.ref1 r]
  obtain ⟨lo, es, ep, hraw, hsz, hat⟩ := dkeys_raw I hd
  have hl : es.size = bs.length := by rw [hsz]; simp
  refine Calls.call_function_entry PyProof.Rows.kind_sorted PyProof.Rows.plain_sorted PyProof.Rows.entry_sorted (PyProof.Rows.args_sorted1 _) ?_
  unfold Builtin.«sorted»
  refine wpAny_bind (m := checkCount "sorted" 1 1 _) (wpAny_pure ?_)
  refine wpAny_bind (PySem.W.kdu_collect (A := X.A.in1) (PySem.KdlSrc.rawDict (es := es) (ep := ep) lo) (I.ok.hd hcalm) hraw (by rw [hl]; exact hz) fun h' tk acc hkp hacc => ?_)
  have I1 : L2.Inv X pins σ H { s with heap := h', toks := tk } := I.kept hkp
  have hv : Vals (bs.map (·.1)) acc.toList := vals_get (by rw [Array.length_toList, hacc.1, hsz]) fun j v hj => by
    obtain ⟨hi, e⟩ := hacc.2 j v (by rw [← Array.getElem?_toList]; exact hj)
    obtain ⟨k, h1, h2⟩ := hat j hi
    exact ⟨k, h1, by rw [e]; exact h2⟩
  have hal' : acc.toList.length = bs.length := by rw [Array.length_toList, hacc.1, hl]
  refine wpAny_bind (wpAny_newList ?_ (by rw [hal']; exact hz))
  have hoL : (h'.push (PyProof.Rows.seqObj "list" acc.toList.toArray 0)).get? h'.objs.size = some (PyProof.Rows.seqObj "list" acc.toList.toArray 0) := Heap.get?_push_size _ rfl
  show wpAny _ _ _ _ _ { s with heap := h'.push (PyProof.Rows.seqObj "list" acc.toList.toArray 0), toks := tk }
  have I2 : L2.Inv X pins σ H { s with heap := h'.push (PyProof.Rows.seqObj "list" acc.toList.toArray 0), toks := tk } := I1.kept (t' := tk) fun b o e => Heap.get?_push_of_some _ e
  have e := each_of hv
  have er : EachIs (fun u (b : V × PyData) => ∃ as, Reads (h'.push (PyProof.Rows.seqObj "list" acc.toList.toArray 0)) u b.2 as ∧ h'.objs.size ∉ as) acc.toList bs := (each_mem e).mono fun u b ⟨rb, hb⟩ => by
    obtain ⟨as, ra⟩ := Dp.reads I1 b.2 b.1 u (hdp b hb) rb
    refine ⟨as, PyProof.Rows.Reads.keeps (fun _ _ z => Heap.get?_push_of_some _ z) ra, fun m => ?_⟩
    exact absurd (reads_lt ra _ m) (Nat.lt_irrefl _)
  refine wpAny_bind (wpAny_holding (PySem.W.list_sort_data (s := { s with heap := h'.push (PyProof.Rows.seqObj "list" acc.toList.toArray 0), toks := tk }) (R := fun u (b : V × PyData) => RelV b.1 u) (enc := fun b : V × PyData => b.2) (bs := bs) (vs := acc.toList) hoL e er hal hk hz (fun b hb => by have := hdep b hb; show X.A.units + 1 + 1 + b.2.depth < cLine; omega) fun out hlen ho => ?_))
  obtain ⟨e', he'⟩ := PyProof.Rows.sortedHeap_at (vs := acc.toList) (out := List.toArray out) hoL
  refine wpAny_pure ⟨_, rfl, .ref h'.objs.size, upd H h'.objs.size (.lst ((bs.mergeSort (dataLe false (·.2))).map (·.1))), I1.laid (t' := tk) (fun b u e => ?_) (Nat.le_refl _)
    (show ObjOk X.prog X.w _ _ _ (.lst ((bs.mergeSort (dataLe false (·.2))).map (·.1))) from ⟨by rw [List.length_map, List.length_mergeSort]; exact hz, out, e', each_vals ho, he'⟩), rfl, q _ (I1.hok.fresh (Nat.le_refl _))⟩
  have hb : b < h'.objs.size := Heap.lt_size e
  rw [PyProof.Rows.sortedHeap_old (Nat.ne_of_lt hb) (by show b < (h'.push _).objs.size; rw [show (h'.push (PyProof.Rows.seqObj "list" acc.toList.toArray 0)).objs.size = h'.objs.size + 1 from by simp [Heap.push]]; exact Nat.lt_succ_of_lt hb)]
  exact Heap.get?_push_of_some _ e
/-- sorted(a list, or a dict of the store) -/
def keysM (m : MV) (st : Sto) : Option (List MV) := match m with
  | .obj k => match st[k]? with
    | some (.dict ks _) => some ks
    | _ => none
  | _ => none
def gSortedG : List MV → Sto → Res MV := fun ms st => match ms with
  | [m] => match listOf m st with
    | some xs => gSorted [m] st
    | none => match keysM m st with
      | some ks => match toDs ks with
        | some ds => if sortOk ds = true then .ok (.lst (sortD ks ds)) st else .bad
        | none => .bad
      | none => .bad
  | _ => .bad
theorem dkeys_of {G : Gm} {A : Ad} {H : Hp} {a : Addr} {ks xs : List MV} (h : ObjR G A H a (.dict ks xs)) : ∃ vs, DKeys G H a vs ∧ RepAll G A H vs ks := by
  rcases obj_dict h with ⟨kvs, h1, h2, h3⟩ | ⟨es, h1, _, h2, h3, h4⟩
  · subst h2
    refine ⟨_, .inl ⟨kvs, h1, rfl⟩, RepAll.map_of (fun p => ?_) kvs⟩
    obtain ⟨k, v⟩ := p
    cases k with
    | inl i => exact .int i
    | inr x => exact .str x
  · exact ⟨_, .inr ⟨es, h1, rfl⟩, h3⟩
theorem oSortedG {G : Gm} : OpN G (fun xs H Q => rSortD G.K xs H Q ∨ rSortK G xs H Q) gSortedG := by
  intro A H st xs ms Q m st' s r h k
  unfold gSortedG at h
  split at h
  · split at h
    · exact .inl (oSorted s r h k)
    · split at h
      · rename_i ks e1
        split at h
        · rename_i ds e2
          obtain ⟨hl, h⟩ := ite_ok h
          cases h
          cases r with
          | cons r rs =>
            cases rs
            unfold keysM at e1
            split at e1
            · split at e1
              · rename_i ks' xs' ek
                cases e1
                cases r with
                | @obj a _ hk =>
                  obtain ⟨vs, dk, rv⟩ := dkeys_of (s.ob _ a _ hk ek)
                  have dp := RepAll.dp ks rv e2
                  obtain ⟨z1, z2, z3⟩ := dp_zip (G := G) dp
                  obtain ⟨k1, k2, k3, k4⟩ := sortOk_is hl
                  have hll : (vs.zip ds).length = ds.length := by rw [← z2]; simp
                  refine .inr ⟨a, vs.zip ds, rfl, by rw [z1]; exact dk, z3, by rw [z2]; exact k1, by rw [z2]; exact k2, fun b hb => k3 _ (by rw [← z2]; exact List.mem_map_of_mem hb), by rw [hll]; exact k4, ?_⟩
                  exact fin_lst s (sort_rep rv (toDs_len e2)) k
              · cases e1
            · cases e1
        · cases h
      · cases h
  · cases h
theorem CallR.or {X : Cx} {f : Value} {r r' : List V → Hp → VK → Prop} (h : CallR X f r) (h' : CallR X f r') : CallR X f (fun xs H Q => r xs H Q ∨ r' xs H Q) := fun pins s σ H xs us Q I rv q =>
  q.elim (h pins s σ H xs us Q I rv) (h' pins s σ H xs us Q I rv)
theorem cr_sortG {X : Cx} (hu : X.A.units + 64 < cLine) (hcalm : X.calm = true := by rfl) : CallR X (.builtin "sorted") (fun xs H Q => rSortD X.K xs H Q ∨ rSortK (gmOf X) xs H Q) := CallR.or (cr_sortD hu) (cr_sortK hu hcalm)
/-! ### tuple(range(..)) is a walk: a comprehension's source -/
end MR

/-! tuple(range(n)), list(range(n)) -/
namespace MR
open PySem L2
def mTupRg (a : ME) : ME := fun env st => (a env st).bind fun m st1 => match m with
  | .int n => if n ≤ 16777216 ∧ -16777216 ≤ n then .ok (.tup (rngL 0 n.toNat)) st1 else .bad
  | _ => .bad
def mLstRg (a : ME) : ME := fun env st => (a env st).bind fun m st1 => match m with
  | .int n => if n ≤ 16777216 ∧ -16777216 ≤ n then .ok (.lst (rngL 0 n.toNat)) st1 else .bad
  | _ => .bad
theorem rg_rep {G : Gm} {A : Ad} {H : Hp} (n : Int) : RepAll G A H (rgV 0 n) (rngL 0 n.toNat) := by
  unfold rgV rngL
  rw [show n - 0 = n by omega]
  exact RepAll.map_of (fun i => .int _) _
section
variable {X : Cx} {W : WX} {a : Expr} {ma : ME} {p p2 pos pos2 : Pos}
theorem pm_tupRg (hc : X.calm = true) (hm : X.mg "tuple" = none) (hm2 : X.mg "range" = none) (ha : PM X W a ma) (hg : Gl X "tuple" := by rfl) (hg2 : Gl X "range" := by rfl) (na : starEach [a] X.env = (false, eval a X.env) :: starEach [] X.env := by rfl)
    (na2 : starEach [.Call (.Name "range" p2) [a] [] pos2] X.env = (false, eval (.Call (.Name "range" p2) [a] [] pos2) X.env) :: starEach [] X.env := by rfl) : PM X W (.Call (.Name "tuple" p) [.Call (.Name "range" p2) [a] [] pos2] [] pos) (mTupRg ma) :=
  PE_imp (pe_tupRg hc hg hm (prg_1 hg2 hm2 ha na) na2) fun σ H Q ⟨A, env, st, s, q, h⟩ => by
    unfold mTupRg at h
    rw [Res.post_bind] at h
    refine inE s q (Ext.refl A H) (h.mono (fun mx st1 h1 A1 H1 x e1 s1 r1 => ?_) fun _ _ z => z)
    split at h1
    · obtain ⟨hl, k⟩ := post_ite h1
      exact ⟨_, r1.int_inv, ⟨by omega, by omega, by omega, by omega, by omega⟩, fin_tup s1 (rg_rep _) (okP.ext e1 k)⟩
    · exact h1.elim
theorem pm_lstRg (hc : X.calm = true) (hm : X.mg "list" = none) (hm2 : X.mg "range" = none) (ha : PM X W a ma) (hg : Gl X "list" := by rfl) (hg2 : Gl X "range" := by rfl) (na : starEach [a] X.env = (false, eval a X.env) :: starEach [] X.env := by rfl)
    (na2 : starEach [.Call (.Name "range" p2) [a] [] pos2] X.env = (false, eval (.Call (.Name "range" p2) [a] [] pos2) X.env) :: starEach [] X.env := by rfl) : PM X W (.Call (.Name "list" p) [.Call (.Name "range" p2) [a] [] pos2] [] pos) (mLstRg ma) :=
  PE_imp (pe_listRg hc hg hm (prg_1 hg2 hm2 ha na) na2) fun σ H Q ⟨A, env, st, s, q, h⟩ => by
    unfold mLstRg at h
    rw [Res.post_bind] at h
    refine inE s q (Ext.refl A H) (h.mono (fun mx st1 h1 A1 H1 x e1 s1 r1 => ?_) fun _ _ z => z)
    split at h1
    · obtain ⟨hl, k⟩ := post_ite h1
      exact ⟨_, r1.int_inv, ⟨by omega, by omega, by omega, by omega, by omega⟩, fin_lst s1 (rg_rep _) (okP.ext e1 k)⟩
    · exact h1.elim
end
end MR

/-! plain facts about mirrors: runs, comprehensions, texts, numbers -/
namespace MR
open PySem L2 TL

section
variable {α β : Type} {env : MEnv} {st : Sto} {a b : ME} {r : MA} {t u : MT} {s1 s2 : MS}
@[simp] theorem bind_ok (x : α) (f : α → Sto → Res β) : (Res.ok x st).bind f = f x st := rfl
@[simp] theorem bind_exc (c : Ex) (f : α → Sto → Res β) : (Res.exc c st : Res α).bind f = .exc c st := rfl
@[simp] theorem bind_bad (f : α → Sto → Res β) : (Res.bad : Res α).bind f = .bad := rfl
@[simp] theorem noExc_ok (m : MV) : noExc (.ok m st) = .ok m st := rfl
@[simp] theorem noExc_exc (c : Ex) : noExc (.exc c st) = .bad := rfl
@[simp] theorem noExc_bad : noExc .bad = .bad := rfl
@[simp] theorem bindE_ok (x : α) (f : α → Sto → Flw) : bindE (Res.ok x st) env f = f x st := rfl
@[simp] theorem bindE_exc (c : Ex) (f : α → Sto → Flw) : bindE (Res.exc c st : Res α) env f = .exc c env st := rfl
@[simp] theorem bindE_bad (f : α → Sto → Flw) : bindE (Res.bad : Res α) env f = .bad := rfl
@[simp] theorem e_C (m : MV) : mC m env st = .ok m st := rfl
@[simp] theorem e_var (i : Nat) : mVar i env st = match env[i]? with | some (some m) => .ok m st | _ => .bad := rfl
@[simp] theorem e_2 (g : G2) : m2 g a b env st = (a env st).bind fun x st1 => (b env st1).bind fun y st2 => noExc (g x y st2) := rfl
@[simp] theorem e_1 (g : MV → Sto → Res MV) : m1 g a env st = (a env st).bind fun x st1 => noExc (g x st1) := rfl
@[simp] theorem e_B : mB a env st = (a env st).bind toB := rfl
@[simp] theorem e_toB (k : Bool) : toB (.bl k) st = .ok k st := rfl
@[simp] theorem e_andT : mAndT t u env st = (t env st).bind fun x st1 => if x = true then u env st1 else .ok false st1 := rfl
@[simp] theorem e_orT : mOrT t u env st = (t env st).bind fun x st1 => if x = true then .ok true st1 else u env st1 := rfl
@[simp] theorem e_notT : mNotT t env st = (t env st).bind fun x st1 => .ok (!x) st1 := rfl
@[simp] theorem e_and : mAnd a b env st = (a env st).bind fun x st1 => (toB x st1).bind fun x st1 => if x = true then b env st1 else .ok (.bl false) st1 := rfl
@[simp] theorem e_or : mOr a b env st = (a env st).bind fun x st1 => (toB x st1).bind fun x st1 => if x = true then .ok (.bl true) st1 else b env st1 := rfl
@[simp] theorem e_not : mNot a env st = (a env st).bind fun x st1 => (toB x st1).bind fun x st1 => .ok (.bl (!x)) st1 := rfl
@[simp] theorem e_if : mIf t a b env st = (t env st).bind fun x st1 => if x = true then a env st1 else b env st1 := rfl
@[simp] theorem e_chain (g g' : G2) (c : ME) : mChain g g' a b c env st = (a env st).bind fun x st1 => (b env st1).bind fun y st2 => (noExc (g x y st2)).bind fun z st3 => (toB z st3).bind fun k st4 => if k = true then (c env st4).bind fun w st5 => noExc (g' y w st5) else .ok (.bl false) st4 := rfl
@[simp] theorem e_nil : aNil env st = .ok [] st := rfl
@[simp] theorem e_cons : aCons a r env st = (a env st).bind fun x st1 => (r env st1).bind fun xs st2 => .ok (x :: xs) st2 := rfl
@[simp] theorem e_star : aStar a r env st = (a env st).bind fun x st1 => match itemsOf x st1 with | some ys => (r env st1).bind fun xs st2 => .ok (ys ++ xs) st2 | none => .bad := rfl
@[simp] theorem e_tup : mTup r env st = (r env st).bind fun xs st1 => if xs.length ≤ 16777216 then .ok (.tup xs) st1 else .bad := rfl
@[simp] theorem e_lst : mLst r env st = (r env st).bind fun xs st1 => if xs.length ≤ 16777216 then .ok (.lst xs) st1 else .bad := rfl
@[simp] theorem e_lstN : mLstN r env st = (r env st).bind fun xs st1 => if xs.length ≤ 16777216 then .ok (.obj st1.length) (st1 ++ [.lst xs]) else .bad := rfl
@[simp] theorem e_call (g : List MV → Sto → Res MV) : mCall g r env st = (r env st).bind fun xs st1 => noExc (g xs st1) := rfl
@[simp] theorem e_meth (c : MV → Sto → Bool) (g : MV → List MV → Sto → Res MV) : mMethT c g a r env st = (a env st).bind fun x st1 => if c x st1 = true then (r env st1).bind fun xs st2 => noExc (g x xs st2) else .bad := rfl
@[simp] theorem e_fn (n : Nat) (f : FM) : mFn n f r env st = (r env st).bind fun xs st1 => if xs.length = n then f xs st1 else .bad := rfl
@[simp] theorem e_oN : oNone env st = .ok none st := rfl
@[simp] theorem e_oS : oSome a env st = (a env st).bind fun x st1 => match x with | .int i => .ok (some i) st1 | _ => .bad := rfl
@[simp] theorem e_sl (g : GSl) (lo hi : MOp) : mSl g a lo hi env st = (a env st).bind fun x st1 => (lo env st1).bind fun l st2 => (hi env st2).bind fun u st3 => noExc (g x l u st3) := rfl
@[simp] theorem e_lc (mi : MA) (own : List Nat) (tg : Tgt) (tst : MT) (elt : ME) : mLc mi own tg tst elt env st = (mi env st).bind fun ys st1 => (compM tg tst elt ys (wipeM env own) [] st1).bind fun zs st2 => .ok (.lst zs) st2 := rfl
@[simp] theorem e_lcX (mi : MA) (own : List Nat) (tg : Tgt) (tst : MT) (elt : ME) : mLcX mi own tg tst elt env st = (mi env st).bind fun ys st1 => (compX tg tst elt ys (wipeM env own) [] st1).bind fun zs st2 => .ok (.lst zs) st2 := rfl
@[simp] theorem i_all : iAll a env st = (a env st).bind fun m st' => match m with | .str z => .ok (z.cps.toList.map fun c => .str ⟨#[c]⟩) st' | m => match frozen m with | some xs => .ok xs st' | none => .bad := rfl
@[simp] theorem i_zip : iZipM r env st = (r env st).bind fun ms st' => match ms with | [a, b] => (match srcOf a, srcOf b with | some xs, some ys => .ok (zipM xs ys) st' | _, _ => .bad) | _ => .bad := rfl
@[simp] theorem i_enum : iEnumM r env st = (r env st).bind fun ms st' => match ms with | [a] => (match srcOf a with | some xs => .ok (enumFrom 0 xs) st' | none => .bad) | _ => .bad := rfl
@[simp] theorem src_str (z : Str) : srcOf (.str z) = some (z.cps.toList.map fun c => .str ⟨#[c]⟩) := rfl
@[simp] theorem src_tup (xs : List MV) : srcOf (.tup xs) = some xs := rfl
@[simp] theorem src_lst (xs : List MV) : srcOf (.lst xs) = some xs := rfl
@[simp] theorem fr_tup (xs : List MV) : frozen (.tup xs) = some xs := rfl
@[simp] theorem fr_lst (xs : List MV) : frozen (.lst xs) = some xs := rfl
@[simp] theorem it_tup (xs : List MV) : itemsOf (.tup xs) st = some xs := rfl
@[simp] theorem it_lst (xs : List MV) : itemsOf (.lst xs) st = some xs := rfl
@[simp] theorem wipe_nil : wipeM env [] = env := rfl
@[simp] theorem wipe_cons (i : Nat) (l : List Nat) : wipeM env (i :: l) = (wipeM env l).set i none := rfl
@[simp] theorem s_next : sNext env st = .nx env st := rfl
@[simp] theorem s_seq : sSeq s1 s2 env st = match s1 env st with | .nx env' st' => s2 env' st' | r => r := rfl
@[simp] theorem s_set (i : Nat) : sSet i a env st = bindE (a env st) env fun m st' => .nx (env.set i (some m)) st' := rfl
@[simp] theorem s_expr : sExpr a env st = bindE (a env st) env fun _ st' => .nx env st' := rfl
@[simp] theorem s_ret : sRet a env st = bindE (a env st) env fun m st' => .rt m st' := rfl
@[simp] theorem s_if : sIf t s1 s2 env st = bindE (t env st) env fun k st' => if k = true then s1 env st' else s2 env st' := rfl
@[simp] theorem s_raise (x : Str) : sRaise x env st = .exc ⟨x, [], []⟩ env st := rfl
@[simp] theorem s_asg (g : MTg) : sAsg g a env st = bindE (a env st) env fun m st' => match g m env st' with | some (env', st'') => .nx env' st'' | none => .bad := rfl
@[simp] theorem s_par (i j : Nat) : sPar i j r env st = bindE (r env st) env fun xs st1 => match xs with | [x, y] => .nx ((env.set i (some x)).set j (some y)) st1 | _ => .bad := rfl
@[simp] theorem s_for (mi : MA) (g : MTg) : sFor mi g s1 env st = bindE (mi env st) env fun ys st1 => forM g s1 ys env st1 := rfl
@[simp] theorem g_N (i : Nat) (m : MV) : gN i m env st = some (env.set i (some m), st) := rfl
@[simp] theorem g_TL (n : Nat) (gs : MTgs) (m : MV) : gTL n gs m env st = match itemsOf m st with | some xs => if xs.length = n then gs xs env st else none | none => none := rfl
@[simp] theorem g_nilM : gNilM [] env st = some (env, st) := rfl
@[simp] theorem e_fmt : mFmt a env st = (a env st).bind fun m st1 => match m with | .str y => if y.length ≤ 16777216 then .ok (.str y) st1 else .bad | .int i => if i.natAbs.log2 < 1920 then .ok (.str (Str.ofString (toString i))) st1 else .bad | _ => .bad := rfl
@[simp] theorem e_js (l : List ME) : mJs l env st = (joinE l Str.empty env st).bind fun y st1 => .ok (.str y) st1 := rfl
@[simp] theorem j_nil (acc : Str) : joinE [] acc env st = .ok acc st := rfl
@[simp] theorem j_cons (l : List ME) (acc : Str) : joinE (a :: l) acc env st = (a env st).bind fun m st1 => match m with | .str y => if (acc ++ y).length ≤ 16777216 then joinE l (acc ++ y) env st1 else .bad | _ => .bad := rfl
@[simp] theorem e_dictN : mDictN env st = .ok (.obj st.length) (st ++ [.dict [] []]) := rfl
@[simp] theorem s_setixG (c : ME) : sSetIxG a b c env st = bindE (c env st) env fun v st1 => bindE (noExc (a env st1)) env fun m st2 => bindE (noExc (b env st2)) env fun n st3 => match setAtG m n v st3 with | some st4 => .nx env st4 | none => .bad := rfl
@[simp] theorem g_star (g1 g2 : MTg) (m : MV) : gStar g1 g2 m env st = match itemsOf m st with | some (x :: xs) => if xs.length < 16384 then (g1 x env st).bind fun p => g2 (.lst xs) p.1 p.2 else none | _ => none := rfl
end
/-- a comprehension of plain values -/
theorem compM_map {t : Tgt} {elt : ME} {g : MV → MV} {env : MEnv} {st : Sto} : ∀ {ys acc : List MV}, (∀ y ∈ ys, ∃ env1, t.bind y env = some env1 ∧ elt env1 st = .ok (g y) st) → acc.length + ys.length ≤ 16777216 →
    compM t tYesM elt ys env acc st = .ok (acc ++ ys.map g) st
  | [], acc, _, _ => by simp [compM]
  | y :: ys, acc, h, hl => by
    obtain ⟨env1, e1, e2⟩ := h y List.mem_cons_self
    have hl' : acc.length < 16777216 := by simp at hl; omega
    unfold compM
    rw [e1]
    show (match tYesM env1 st with
      | .ok true st1 => (match elt env1 st1 with
        | .ok v st2 => if acc.length < 16777216 then compM t tYesM elt ys env (acc ++ [v]) st2 else .bad
        | _ => .bad)
      | .ok false st1 => compM t tYesM elt ys env acc st1
      | _ => .bad) = _
    simp only [tYesM, e2, if_pos hl']
    rw [compM_map (fun z hz => h z (List.mem_cons_of_mem _ hz)) (by simp at hl ⊢; omega)]
    simp
/-- a comprehension whose element may raise c -/
theorem compX_map {t : Tgt} {elt : ME} {g : MV → Option MV} {c : Ex} {env : MEnv} {st : Sto} : ∀ {ys acc : List MV}, (∀ y ∈ ys, ∃ env1, t.bind y env = some env1 ∧ elt env1 st = (match g y with | some v => .ok v st | none => .exc c st)) → acc.length + ys.length ≤ 16777216 →
    compX t tYesM elt ys env acc st = (match ys.mapM g with | some vs => .ok (acc ++ vs) st | none => .exc c st)
  | [], acc, _, _ => by simp [compX]
  | y :: ys, acc, h, hl => by
    obtain ⟨env1, e1, e2⟩ := h y List.mem_cons_self
    have hl' : acc.length < 16777216 := by simp at hl; omega
    unfold compX
    rw [e1]
    show (match tYesM env1 st with
      | .ok true st1 => (match elt env1 st1 with
        | .ok v st2 => if acc.length < 16777216 then compX t tYesM elt ys env (acc ++ [v]) st2 else .bad
        | .exc c st2 => .exc c st2
        | .bad => .bad)
      | .ok false st1 => compX t tYesM elt ys env acc st1
      | _ => .bad) = _
    simp only [tYesM, e2]
    cases eg : g y with
    | none => simp [List.mapM_cons, eg]
    | some v =>
      simp only [if_pos hl']
      rw [compX_map (fun z hz => h z (List.mem_cons_of_mem _ hz)) (by simp at hl ⊢; omega)]
      simp only [List.mapM_cons, eg]
      cases ys.mapM g <;> simp
theorem strsOf_map : ∀ ys : List Str, strsOf (ys.map .str) = some ys
  | [] => rfl
  | y :: ys => by simp [strsOf, strsOf_map ys]
theorem boolsOf_map : ∀ ys : List Bool, boolsOf (ys.map .bl) = some ys
  | [] => rfl
  | y :: ys => by simp [boolsOf, boolsOf_map ys]
theorem gAll_map (ys : List Bool) (st : Sto) : gAll [.lst (ys.map .bl)] st = .ok (.bl (ys.all id)) st := by
  simp [gAll, listOf, boolsOf_map]
/-- signs below 128, at most n of them -/
def Asc (n : Nat) (t : Str) : Prop := t.length ≤ n ∧ ∀ c ∈ tl t, c < 128
theorem Asc.ok {n : Nat} {t : Str} (h : Asc n t) : PyData.canLay0 (.str t) = true := by
  simp only [PyData.canLay0, PyData.strOk, Array.all_eq_true']
  intro c hc
  have := h.2 c (Array.mem_toList_iff.mpr hc)
  simp
  omega
theorem Asc.sh {n : Nat} {t : Str} (h : Asc n t) : SeqAt.shaped (.str t) = true := by
  unfold SeqAt.shaped
  rw [h.ok]
  simp [PyData.depth]
theorem str_dec (a b : Str) : (a == b) = decide (a = b) := by
  by_cases h : a = b
  · subst h; simp
  · rw [decide_eq_false h]; exact beq_false_of_ne h
theorem gEq_str {a b : Str} {n m : Nat} (ha : Asc n a) (hb : Asc m b) (st : Sto) : gEq (.str a) (.str b) st = .ok (.bl (decide (a = b))) st := by
  simp [gEq, topD, toD, ha.sh, hb.sh, PyData.eqv, str_dec]
theorem gNe_str {a b : Str} {n m : Nat} (ha : Asc n a) (hb : Asc m b) (st : Sto) : gNe (.str a) (.str b) st = .ok (.bl (!decide (a = b))) st := by
  simp [gNe, topD, toD, ha.sh, hb.sh, PyData.eqv, str_dec]
theorem sh_int (i : Int) : SeqAt.shaped (.int i) = true := by
  unfold SeqAt.shaped
  simp [PyData.canLay0, PyData.depth]
theorem gEq_int (i j : Int) (st : Sto) : gEq (.int i) (.int j) st = .ok (.bl (decide (i = j))) st := by
  simp [gEq, topD, toD, sh_int, PyData.eqv, Bool.beq_eq_decide_eq]
theorem asc_lit {s : String} {n : Nat} (h : (s.toList.map Char.toNat).length ≤ n := by decide) (h2 : ∀ c ∈ s.toList.map Char.toNat, c < 128 := by decide) : Asc n (Str.ofString s) := by
  have e : tl (Str.ofString s) = s.toList.map Char.toNat := tl_ofString s
  refine ⟨?_, ?_⟩
  · rw [len_tl, e]; exact h
  · rw [e]; exact h2
/-! ### numbers as texts -/
/-- the sign 48 + d behind -/
theorem numL_of_digits : ∀ (n : Nat) (l : List Nat), l.length = n → NumText.AllDigits l → l ≠ [] → (l = [48] ∨ l.head? ≠ some 48) → numL (NumText.digitsVal l) = l
  | 0, l, hl, _, hne, _ => absurd (List.length_eq_zero_iff.mp hl) hne
  | n + 1, l, hl, hd, hne, hz => by
    obtain ⟨l', d, rfl⟩ : ∃ l' d, l = l' ++ [d] := ⟨l.dropLast, l.getLast hne, (List.dropLast_concat_getLast hne).symm⟩
    have hdd : 48 ≤ d ∧ d ≤ 57 := hd d (by simp)
    have ev : NumText.digitsVal (l' ++ [d]) = NumText.digitsVal l' * 10 + (d - 48) := by simp [NumText.digitsVal, List.foldl_append]
    by_cases hl' : l' = []
    · subst hl'
      rw [ev]
      simp only [NumText.digitsVal, List.foldl_nil, Nat.zero_mul, Nat.zero_add, List.nil_append]
      rw [numL_lt (by omega)]
      congr 1
      omega
    · have hh : l'.head? ≠ some 48 := by
        rcases hz with h | h
        · exfalso
          have := congrArg List.length h
          simp at this
          exact hl' this
        · intro q
          apply h
          cases l' with
          | nil => exact absurd rfl hl'
          | cons a r => simpa using q
      have hd' : NumText.AllDigits l' := fun c hc => hd c (List.mem_append_left _ hc)
      have ih := numL_of_digits n l' (by simp at hl; omega) hd' hl' (.inr hh)
      have h1 : 1 ≤ NumText.digitsVal l' := by
        rcases Nat.eq_zero_or_pos (NumText.digitsVal l') with z | z
        · rw [z, numL_lt (by decide)] at ih
          rw [← ih] at hh
          exact absurd rfl hh
        · exact z
      rw [ev, numL_step (by omega)]
      have e1 : (NumText.digitsVal l' * 10 + (d - 48)) / 10 = NumText.digitsVal l' := by omega
      have e2 : (NumText.digitsVal l' * 10 + (d - 48)) % 10 = d - 48 := by omega
      rw [e1, e2, ih]
      congr 2
      omega
/-- n as a text -/
def numS (n : Nat) : Str := Str.ofString (toString ((n : Nat) : Int))
theorem tl_numS (n : Nat) : tl (numS n) = numL n := tl_num n
theorem numS_of {t : Str} (hd : NumText.AllDigits (tl t)) (hne : tl t ≠ []) (hz : tl t = [48] ∨ (tl t).head? ≠ some 48) : t = numS (NumText.digitsVal (tl t)) := by
  apply ext_tl
  rw [tl_numS]
  exact (numL_of_digits _ _ rfl hd hne hz).symm
theorem numS_asc {n : Nat} (h : n < 10 ^ 6) : Asc 6 (numS n) := by
  refine ⟨?_, ?_⟩
  · rw [len_tl, tl_numS]; exact numL_len (by decide) h
  · rw [tl_numS]
    intro c hc
    have := numL_digits n c hc
    omega
theorem numS_inj {m n : Nat} (h : numS m = numS n) : m = n := numL_inj (by rw [← tl_numS, ← tl_numS, h])
theorem int_numS {n : Nat} (h : n < 10 ^ 6) : intText? (numS n) = some (n : Int) := int_num (Nat.le_trans (numL_len (by decide) h) (by decide))
theorem log2_small {n : Nat} (h : n < 10 ^ 6) : n.log2 < 1920 := by
  by_cases z : n = 0
  · subst z; decide
  · have h1 : n < 2 ^ 20 := by omega
    have := (Nat.log2_lt z).mpr h1
    omega
theorem gStr_nat {n : Nat} (h : n < 10 ^ 6) (st : Sto) : gStr [.int (n : Int)] st = .ok (.str (numS n)) st := by
  have := log2_small h
  show (if ((n : Int)).natAbs.log2 < 1920 then Res.ok (MV.str (Str.ofString (toString (n : Int)))) st else .bad) = _
  rw [if_pos (by simpa using this)]
  rfl
end MR

/-! printed by gen.py: the defs of the text, mirrored -/
namespace K83
open PySem L2 MR
def top (i : Nat) : Stmt := PySem.Challenge.pw_openlimit_k83_texts_of_machines.main.body.getD i (.Pass ⟨0, 0, 0, 0⟩)
abbrev s_is_integer : Stmt := top 10
abbrev s_is_sign : Stmt := top 11
abbrev s_is_alphabet : Stmt := top 12
abbrev s_are_ascending : Stmt := top 14
abbrev s_are_states : Stmt := top 15
abbrev s_is_letter : Stmt := top 13
abbrev s_is_step : Stmt := top 16
abbrev s_is_machine : Stmt := top 17
abbrev s_require_machine : Stmt := top 18
abbrev s_numbers_text : Stmt := top 25
abbrev s_step_text : Stmt := top 26
abbrev s_machine_text : Stmt := top 27
abbrev s__law_stream : Stmt := top 33
abbrev s__law_draw : Stmt := top 34
abbrev s__law_step : Stmt := top 35
abbrev s__law_machine : Stmt := top 36
abbrev s__law_listed : Stmt := top 37
abbrev s__law_text_of : Stmt := top 38
abbrev s__law_small : Stmt := top 39
abbrev s__law_states : Stmt := top 40
abbrev s__law_parsed : Stmt := top 41
abbrev s_lines_of : Stmt := top 28
abbrev s_number_of : Stmt := top 23
abbrev s_parsed_step : Stmt := top 29
abbrev s_numbers_of : Stmt := top 24
abbrev s_parsed_head : Stmt := top 30
abbrev s_parse_machine : Stmt := top 31
abbrev s__law_read_back : Stmt := top 42
abbrev s__law_spoilt : Stmt := top 43
abbrev s_law : Stmt := top 44
def sub_LimitError (c : Str) : Option Bool := if c = "LimitError" then some true else if c = "InvalidMachine" then some true else if c = "ParseError" then some true else none
def is_ParseError (c : Str) : Option Bool := if c = "LimitError" then some false else if c = "InvalidMachine" then some false else if c = "ParseError" then some true else none
/-- what is written of the module -/
structure Txt (K : PySem.W.Frag) (mg : Str → Option Value) : Prop where
  n_abs : mg "abs" = none
  n_all : mg "all" = none
  n_bool : mg "bool" = none
  n_int : mg "int" = none
  n_isinstance : mg "isinstance" = none
  n_len : mg "len" = none
  n_max : mg "max" = none
  n_min : mg "min" = none
  n_range : mg "range" = none
  n_repr : mg "repr" = none
  n_sorted : mg "sorted" = none
  n_str : mg "str" = none
  n_tuple : mg "tuple" = none
  n_zip : mg "zip" = none
  c_DIGITS : ∃ u, mg "DIGITS" = some u ∧ RelV (.str "0123456789") u
  c_MAX_COST : ∃ u, mg "MAX_COST" = some u ∧ RelV (.int 3) u
  c_MAX_DIGITS : ∃ u, mg "MAX_DIGITS" = some u ∧ RelV (.int 6) u
  c_MAX_LETTERS : ∃ u, mg "MAX_LETTERS" = some u ∧ RelV (.int 4) u
  c_MAX_STATES : ∃ u, mg "MAX_STATES" = some u ∧ RelV (.int 8) u
  c_MAX_STEPS : ∃ u, mg "MAX_STEPS" = some u ∧ RelV (.int 60) u
  c_NOTHING : ∃ u, mg "NOTHING" = some u ∧ RelV (.str "-") u
  c_SIGNS : ∃ u, mg "SIGNS" = some u ∧ RelV (.str "abcdefghijklmnopqrstuvwxyz") u
  x_LimitError : ∃ C, ExF K mg "LimitError" C [.type "ValueError", .type "Exception", .type "BaseException", .type "object"] "ValueError.__new__"
  x_InvalidMachine : ∃ C, ExF K mg "InvalidMachine" C [.type "ValueError", .type "Exception", .type "BaseException", .type "object"] "ValueError.__new__"
  x_ParseError : ∃ C, ExF K mg "ParseError" C [.type "ValueError", .type "Exception", .type "BaseException", .type "object"] "ValueError.__new__"
  sub_LimitError : ∀ {Cx : Addr}, mg "LimitError" = some (.ref Cx) → ∀ c b C, sub_LimitError c = some b → mg c = some (.ref C) → PySem.W.exmOne K (.ref C) (.ref Cx) = some b
  is_ParseError : ∀ {Y : Addr}, mg "ParseError" = some (.ref Y) → ∀ c b C, is_ParseError c = some b → mg c = some (.ref C) → ExcC K C ∧ PySem.W.kitOne K (.ref C) (.ref Y) = some b
section
variable {P : Program} {w : World} {K : PySem.W.Frag} {mg : Str → Option Value} {base : Heap} {f : Addr} {fd : FuncData}
/-! is_integer -/
def b_is_integer : MS := (sRet (mAnd (mCall gIsi (aCons (mVar 0) (aCons (mC (.ty "int")) aNil))) (mAnd (mNot (mCall gIsi (aCons (mVar 0) (aCons (mC (.ty "bool")) aNil)))) (mChain gLe gLe (mVar 1) (mVar 0) (mVar 2)))))
def f_is_integer : FM := defM 3 b_is_integer
theorem ok_is_integer (T : Txt K mg)  (F : Fun K "is_integer" "is_integer" s_is_integer f fd) (hx : mg "is_integer" = some (.ref f)) (hb : Binds K fd ["value", "low", "high"] []) : FnM P w K mg base 1 "is_integer" 3 f_is_integer := by
  exact fn_mirror (N := ["value", "low", "high"]) (ps := ["value", "low", "high"]) F ⟨rfl, rfl, rfl, by decide +kernel, rfl, by decide +kernel, by decide +kernel⟩ hx hb fun cdv A outer s H E gd hr tk => by
    have nd : (["value", "low", "high"] : List Str).Nodup := by decide +kernel
    have lt := lets_of tk
    exact (pms_one (pms_ret (pm_and (pm_callB call_isi oIsi T.n_isinstance (by decide +kernel) (pma_cons (pm_var 0) (pma_cons (pm_ty T.n_int (by decide +kernel)) pma_nil))) (pm_and (pm_not (pm_callB call_isi oIsi T.n_isinstance (by decide +kernel) (pma_cons (pm_var 0) (pma_cons (pm_ty T.n_bool (by decide +kernel)) pma_nil)))) (pm_one (pm_chain opLe opLe o2Le o2Le (pm_var 1) (pm_var 0) (pm_var 2)))))))
/-! is_sign -/
def b_is_sign : MS := (sRet (mAnd (mCall gIsi (aCons (mVar 0) (aCons (mC (.ty "str")) aNil))) (mAnd (m2 gEq (mCall gLen (aCons (mVar 0) aNil)) (mC (.int 1))) (m2 gIn (mVar 0) (mC (.str "abcdefghijklmnopqrstuvwxyz"))))))
def f_is_sign : FM := defM 1 b_is_sign
theorem ok_is_sign (T : Txt K mg)  (F : Fun K "is_sign" "is_sign" s_is_sign f fd) (hx : mg "is_sign" = some (.ref f)) (hb : Binds K fd ["value"] []) : FnM P w K mg base 1 "is_sign" 1 f_is_sign := by
  obtain ⟨u_SIGNS, g_SIGNS, r_SIGNS⟩ := T.c_SIGNS
  exact fn_mirror (N := ["value"]) (ps := ["value"]) F ⟨rfl, rfl, rfl, by decide +kernel, rfl, by decide +kernel, by decide +kernel⟩ hx hb fun cdv A outer s H E gd hr tk => by
    have nd : (["value"] : List Str).Nodup := by decide +kernel
    have lt := lets_of tk
    exact (pms_one (pms_ret (pm_and (pm_callB call_isi oIsi T.n_isinstance (by decide +kernel) (pma_cons (pm_var 0) (pma_cons (pm_ty T.n_str (by decide +kernel)) pma_nil))) (pm_and (pm_cmp (op_eqD hr.units) o2Eq (pm_callB call_len oLen T.n_len (by decide +kernel) (pma_cons (pm_var 0) pma_nil)) pm_int) (pm_one (pm_cmp opIn o2In (pm_var 0) (pm_glob g_SIGNS r_SIGNS (fun _ _ => .str _))))))))
/-! is_alphabet -/
def b_is_alphabet : MS := (sSeq (sIf (mOrT (mNotT (mB (mCall gIsi (aCons (mVar 0) (aCons (mC (.ty "str")) aNil))))) (mOrT (mNotT (mB (mChain gLe gLe (mC (.int 1)) (mCall gLen (aCons (mVar 0) aNil)) (mC (.int 4))))) (mNotT (mB (mCall gAll (aCons (mLc (iAll (mVar 0)) [1] (.nm 1) tYesM (mFn 1 f_is_sign (aCons (mVar 1) aNil))) aNil)))))) (sRet (mC (.bl false))) sNext)
  (sRet (mCall gAll (aCons (mLc (iZipM (aCons (mVar 0) (aCons (mSl gSlice (mVar 0) (oSome (mC (.int 1))) oNone) aNil))) [2, 3] (.tp [2, 3]) tYesM (m2 gLtD (mVar 2) (mVar 3))) aNil))))
def f_is_alphabet : FM := defM 4 b_is_alphabet
theorem ok_is_alphabet (T : Txt K mg) (F_is_sign : FnM P w K mg base 1 "is_sign" 1 f_is_sign) (F : Fun K "is_alphabet" "is_alphabet" s_is_alphabet f fd) (hx : mg "is_alphabet" = some (.ref f)) (hb : Binds K fd ["value"] []) : FnM P w K mg base 2 "is_alphabet" 1 f_is_alphabet := by
  obtain ⟨u_MAX_LETTERS, g_MAX_LETTERS, r_MAX_LETTERS⟩ := T.c_MAX_LETTERS
  exact fn_mirror (N := ["value", "sign", "one", "other"]) (ps := ["value"]) F ⟨rfl, rfl, rfl, by decide +kernel, rfl, by decide +kernel, by decide +kernel⟩ hx hb fun cdv A outer s H E gd hr tk => by
    have nd : (["value", "sign", "one", "other"] : List Str).Nodup := by decide +kernel
    have lt := lets_of tk
    exact (pms_cons (pms_if (PW.pt (pmw_or (pmt_not (pmt_val (pm_callB call_isi oIsi T.n_isinstance (by decide +kernel) (pma_cons (pm_var 0) (pma_cons (pm_ty T.n_str (by decide +kernel)) pma_nil))))) (pmw_or (pmt_not (pmt_chain opLe opLe o2Le o2Le pm_int (pm_callB call_len oLen T.n_len (by decide +kernel) (pma_cons (pm_var 0) pma_nil)) (pm_glob g_MAX_LETTERS r_MAX_LETTERS (fun _ _ => .int _)))) (pmw_or1 (pmt_not (pmt_val (pm_callB (cr_all rfl) oAll T.n_all (by decide +kernel) (pma_cons (pm_lc (own := [("sign", 1)]) (t := (.nm 1)) nd (pmi_all (pm_var 0)) (blkOk_by (by kernel_rfl)) (fun s H C cl fp => (pg_name (i := 1) nd rfl (.inl rfl) (.inr rfl))) (fun s H C cl fp => pmts_nil) (fun s H C cl fp => (pm_fn_call (F_is_sign.mono (by decide)) hr gd lets0 (pma_cons (pm_var 1) pma_nil)))) pma_nil)))))))) (pms_one (pms_ret pm_bl)) pms_nil)
      (pms_one (pms_ret (pm_callB (cr_all rfl) oAll T.n_all (by decide +kernel) (pma_cons (pm_lc (own := [("one", 2), ("other", 3)]) (t := (.tp [2, 3])) nd (pmi_zip T.n_zip (pma_cons (pm_var 0) (pma_cons (pm_sl opSlice oSlice (pm_var 0) (pmo_some pm_int) pmo_none) pma_nil))) (blkOk_by (by kernel_rfl)) (fun s H C cl fp => (pg_tup rfl (pgs_cons (pg_name (i := 2) nd rfl (.inl rfl) (.inr rfl)) (pgs_cons (pg_name (i := 3) nd rfl (.inl rfl) (.inr rfl)) pgs_nil)))) (fun s H C cl fp => pmts_nil) (fun s H C cl fp => (pm_cmp (opLtD hr.units) o2LtD (pm_var 2) (pm_var 3)))) pma_nil)))))
/-! are_ascending -/
def b_are_ascending : MS := (sRet (mCall gAll (aCons (mLc (iZipM (aCons (mVar 0) (aCons (mSl gSlice (mVar 0) (oSome (mC (.int 1))) oNone) aNil))) [1, 2] (.tp [1, 2]) tYesM (m2 gLtD (mVar 1) (mVar 2))) aNil)))
def f_are_ascending : FM := defM 3 b_are_ascending
theorem ok_are_ascending (T : Txt K mg)  (F : Fun K "are_ascending" "are_ascending" s_are_ascending f fd) (hx : mg "are_ascending" = some (.ref f)) (hb : Binds K fd ["items"] []) : FnM P w K mg base 1 "are_ascending" 1 f_are_ascending := by
  exact fn_mirror (N := ["items", "one", "other"]) (ps := ["items"]) F ⟨rfl, rfl, rfl, by decide +kernel, rfl, by decide +kernel, by decide +kernel⟩ hx hb fun cdv A outer s H E gd hr tk => by
    have nd : (["items", "one", "other"] : List Str).Nodup := by decide +kernel
    have lt := lets_of tk
    exact (pms_one (pms_ret (pm_callB (cr_all rfl) oAll T.n_all (by decide +kernel) (pma_cons (pm_lc (own := [("one", 1), ("other", 2)]) (t := (.tp [1, 2])) nd (pmi_zip T.n_zip (pma_cons (pm_var 0) (pma_cons (pm_sl opSlice oSlice (pm_var 0) (pmo_some pm_int) pmo_none) pma_nil))) (blkOk_by (by kernel_rfl)) (fun s H C cl fp => (pg_tup rfl (pgs_cons (pg_name (i := 1) nd rfl (.inl rfl) (.inr rfl)) (pgs_cons (pg_name (i := 2) nd rfl (.inl rfl) (.inr rfl)) pgs_nil)))) (fun s H C cl fp => pmts_nil) (fun s H C cl fp => (pm_cmp (opLtD hr.units) o2LtD (pm_var 1) (pm_var 2)))) pma_nil))))
/-! are_states -/
def b_are_states : MS := (sSeq (sIf (mOrT (mNotT (mB (mCall gIsi (aCons (mVar 1) (aCons (mC (.ty "tuple")) aNil))))) (mNotT (mB (mCall gAll (aCons (mLc (iAll (mVar 1)) [2] (.nm 2) tYesM (mFn 3 f_is_integer (aCons (mVar 2) (aCons (mC (.int 0)) (aCons (m2 gSub (mVar 0) (mC (.int 1))) aNil))))) aNil))))) (sRet (mC (.bl false))) sNext)
  (sRet (mFn 1 f_are_ascending (aCons (mVar 1) aNil))))
def f_are_states : FM := defM 3 b_are_states
theorem ok_are_states (T : Txt K mg) (F_is_integer : FnM P w K mg base 1 "is_integer" 3 f_is_integer) (F_are_ascending : FnM P w K mg base 1 "are_ascending" 1 f_are_ascending) (F : Fun K "are_states" "are_states" s_are_states f fd) (hx : mg "are_states" = some (.ref f)) (hb : Binds K fd ["size", "value"] []) : FnM P w K mg base 2 "are_states" 2 f_are_states := by
  exact fn_mirror (N := ["size", "value", "state"]) (ps := ["size", "value"]) F ⟨rfl, rfl, rfl, by decide +kernel, rfl, by decide +kernel, by decide +kernel⟩ hx hb fun cdv A outer s H E gd hr tk => by
    have nd : (["size", "value", "state"] : List Str).Nodup := by decide +kernel
    have lt := lets_of tk
    exact (pms_cons (pms_if (PW.pt (pmw_or (pmt_not (pmt_val (pm_callB call_isi oIsi T.n_isinstance (by decide +kernel) (pma_cons (pm_var 1) (pma_cons (pm_ty T.n_tuple (by decide +kernel)) pma_nil))))) (pmw_or1 (pmt_not (pmt_val (pm_callB (cr_all rfl) oAll T.n_all (by decide +kernel) (pma_cons (pm_lc (own := [("state", 2)]) (t := (.nm 2)) nd (pmi_all (pm_var 1)) (blkOk_by (by kernel_rfl)) (fun s H C cl fp => (pg_name (i := 2) nd rfl (.inl rfl) (.inr rfl))) (fun s H C cl fp => pmts_nil) (fun s H C cl fp => (pm_fn_call (F_is_integer.mono (by decide)) hr gd lets0 (pma_cons (pm_var 2) (pma_cons pm_int (pma_cons (pm_bin op_sub o2Sub (pm_var 0) pm_int) pma_nil)))))) pma_nil))))))) (pms_one (pms_ret pm_bl)) pms_nil)
      (pms_one (pms_ret (pm_fn_call (F_are_ascending.mono (by decide)) hr gd lt (pma_cons (pm_var 1) pma_nil)))))
/-! is_letter -/
def b_is_letter : MS := (sRet (mAnd (mFn 1 f_is_sign (aCons (mVar 1) aNil)) (m2 gIn (mVar 1) (mVar 0))))
def f_is_letter : FM := defM 2 b_is_letter
theorem ok_is_letter (T : Txt K mg) (F_is_sign : FnM P w K mg base 1 "is_sign" 1 f_is_sign) (F : Fun K "is_letter" "is_letter" s_is_letter f fd) (hx : mg "is_letter" = some (.ref f)) (hb : Binds K fd ["alphabet", "value"] []) : FnM P w K mg base 2 "is_letter" 2 f_is_letter := by
  exact fn_mirror (N := ["alphabet", "value"]) (ps := ["alphabet", "value"]) F ⟨rfl, rfl, rfl, by decide +kernel, rfl, by decide +kernel, by decide +kernel⟩ hx hb fun cdv A outer s H E gd hr tk => by
    have nd : (["alphabet", "value"] : List Str).Nodup := by decide +kernel
    have lt := lets_of tk
    exact (pms_one (pms_ret (pm_and (pm_fn_call (F_is_sign.mono (by decide)) hr gd lt (pma_cons (pm_var 1) pma_nil)) (pm_one (pm_cmp opIn o2In (pm_var 1) (pm_var 0))))))
/-! is_step -/
def b_is_step : MS := (sSeq (sIf (mOrT (mNotT (mB (mCall gIsi (aCons (mVar 2) (aCons (mC (.ty "tuple")) aNil))))) (mB (m2 gNe (mCall gLen (aCons (mVar 2) aNil)) (mC (.int 5))))) (sRet (mC (.bl false))) sNext)
  (sSeq (sAsg (gTL 5 (gConsM (gN 3) (gConsM (gN 4) (gConsM (gN 5) (gConsM (gN 6) (gConsM (gN 7) gNilM)))))) (mVar 2))
  (sSeq (sIf (mOrT (mNotT (mB (mFn 3 f_is_integer (aCons (mVar 3) (aCons (mC (.int 0)) (aCons (m2 gSub (mVar 1) (mC (.int 1))) aNil)))))) (mNotT (mB (mFn 3 f_is_integer (aCons (mVar 7) (aCons (mC (.int 0)) (aCons (m2 gSub (mVar 1) (mC (.int 1))) aNil))))))) (sRet (mC (.bl false))) sNext)
  (sRet (mAnd (mFn 2 f_is_letter (aCons (mVar 0) (aCons (mVar 4) aNil))) (mAnd (mFn 3 f_is_integer (aCons (mVar 5) (aCons (mC (.int 0)) (aCons (mC (.int 1)) aNil)))) (mFn 3 f_is_integer (aCons (mVar 6) (aCons (mC (.int 0)) (aCons (mC (.int 3)) aNil))))))))))
def f_is_step : FM := defM 8 b_is_step
theorem ok_is_step (T : Txt K mg) (F_is_integer : FnM P w K mg base 1 "is_integer" 3 f_is_integer) (F_is_letter : FnM P w K mg base 2 "is_letter" 2 f_is_letter) (F : Fun K "is_step" "is_step" s_is_step f fd) (hx : mg "is_step" = some (.ref f)) (hb : Binds K fd ["alphabet", "size", "value"] []) : FnM P w K mg base 3 "is_step" 3 f_is_step := by
  obtain ⟨u_MAX_COST, g_MAX_COST, r_MAX_COST⟩ := T.c_MAX_COST
  exact fn_mirror (N := ["alphabet", "size", "value", "state", "letter", "restart", "cost", "later"]) (ps := ["alphabet", "size", "value"]) F ⟨rfl, rfl, rfl, by decide +kernel, rfl, by decide +kernel, by decide +kernel⟩ hx hb fun cdv A outer s H E gd hr tk => by
    have nd : (["alphabet", "size", "value", "state", "letter", "restart", "cost", "later"] : List Str).Nodup := by decide +kernel
    have lt := lets_of tk
    exact (pms_cons (pms_if (PW.pt (pmw_or (pmt_not (pmt_val (pm_callB call_isi oIsi T.n_isinstance (by decide +kernel) (pma_cons (pm_var 2) (pma_cons (pm_ty T.n_tuple (by decide +kernel)) pma_nil))))) (pmw_or1 (pmt_cmp (op_neD hr.units) o2Ne (pm_callB call_len oLen T.n_len (by decide +kernel) (pma_cons (pm_var 2) pma_nil)) pm_int)))) (pms_one (pms_ret pm_bl)) pms_nil)
      (pms_cons (pms_asg (pm_var 2) (pmg_tupL (pmgs_cons (pmg_name 3 nd) (pmgs_cons (pmg_name 4 nd) (pmgs_cons (pmg_name 5 nd) (pmgs_cons (pmg_name 6 nd) (pmgs_cons (pmg_name 7 nd) pmgs_nil)))))))
      (pms_cons (pms_if (PW.pt (pmw_or (pmt_not (pmt_val (pm_fn_call (F_is_integer.mono (by decide)) hr gd lt (pma_cons (pm_var 3) (pma_cons pm_int (pma_cons (pm_bin op_sub o2Sub (pm_var 1) pm_int) pma_nil)))))) (pmw_or1 (pmt_not (pmt_val (pm_fn_call (F_is_integer.mono (by decide)) hr gd lt (pma_cons (pm_var 7) (pma_cons pm_int (pma_cons (pm_bin op_sub o2Sub (pm_var 1) pm_int) pma_nil))))))))) (pms_one (pms_ret pm_bl)) pms_nil)
      (pms_one (pms_ret (pm_and (pm_fn_call (F_is_letter.mono (by decide)) hr gd lt (pma_cons (pm_var 0) (pma_cons (pm_var 4) pma_nil))) (pm_and (pm_fn_call (F_is_integer.mono (by decide)) hr gd lt (pma_cons (pm_var 5) (pma_cons pm_int (pma_cons pm_int pma_nil)))) (pm_one (pm_fn_call (F_is_integer.mono (by decide)) hr gd lt (pma_cons (pm_var 6) (pma_cons pm_int (pma_cons (pm_glob g_MAX_COST r_MAX_COST (fun _ _ => .int _)) pma_nil))))))))))))
/-! is_machine -/
def b_is_machine : MS := (sSeq (sIf (mOrT (mNotT (mB (mCall gIsi (aCons (mVar 0) (aCons (mC (.ty "tuple")) aNil))))) (mB (m2 gNe (mCall gLen (aCons (mVar 0) aNil)) (mC (.int 5))))) (sRet (mC (.bl false))) sNext)
  (sSeq (sAsg (gTL 5 (gConsM (gN 1) (gConsM (gN 2) (gConsM (gN 3) (gConsM (gN 4) (gConsM (gN 5) gNilM)))))) (mVar 0))
  (sSeq (sIf (mOrT (mNotT (mB (mFn 1 f_is_alphabet (aCons (mVar 1) aNil)))) (mNotT (mB (mFn 3 f_is_integer (aCons (mVar 2) (aCons (mC (.int 1)) (aCons (mC (.int 8)) aNil))))))) (sRet (mC (.bl false))) sNext)
  (sSeq (sIf (mOrT (mNotT (mB (mFn 2 f_are_states (aCons (mVar 2) (aCons (mVar 3) aNil))))) (mNotT (mB (mFn 2 f_are_states (aCons (mVar 2) (aCons (mVar 4) aNil)))))) (sRet (mC (.bl false))) sNext)
  (sSeq (sIf (mOrT (mNotT (mB (mCall gIsi (aCons (mVar 5) (aCons (mC (.ty "tuple")) aNil))))) (mB (m2 gGt (mCall gLen (aCons (mVar 5) aNil)) (mC (.int 60))))) (sRet (mC (.bl false))) sNext)
  (sRet (mAnd (mCall gAll (aCons (mLc (iAll (mVar 5)) [6] (.nm 6) tYesM (mFn 3 f_is_step (aCons (mVar 1) (aCons (mVar 2) (aCons (mVar 6) aNil))))) aNil)) (mFn 1 f_are_ascending (aCons (mVar 5) aNil)))))))))
def f_is_machine : FM := defM 7 b_is_machine
theorem ok_is_machine (T : Txt K mg) (F_is_integer : FnM P w K mg base 1 "is_integer" 3 f_is_integer) (F_is_alphabet : FnM P w K mg base 2 "is_alphabet" 1 f_is_alphabet) (F_are_ascending : FnM P w K mg base 1 "are_ascending" 1 f_are_ascending) (F_are_states : FnM P w K mg base 2 "are_states" 2 f_are_states) (F_is_step : FnM P w K mg base 3 "is_step" 3 f_is_step) (F : Fun K "is_machine" "is_machine" s_is_machine f fd) (hx : mg "is_machine" = some (.ref f)) (hb : Binds K fd ["value"] []) : FnM P w K mg base 4 "is_machine" 1 f_is_machine := by
  obtain ⟨u_MAX_STATES, g_MAX_STATES, r_MAX_STATES⟩ := T.c_MAX_STATES
  obtain ⟨u_MAX_STEPS, g_MAX_STEPS, r_MAX_STEPS⟩ := T.c_MAX_STEPS
  exact fn_mirror (N := ["value", "alphabet", "size", "starts", "finals", "steps", "step"]) (ps := ["value"]) F ⟨rfl, rfl, rfl, by decide +kernel, rfl, by decide +kernel, by decide +kernel⟩ hx hb fun cdv A outer s H E gd hr tk => by
    have nd : (["value", "alphabet", "size", "starts", "finals", "steps", "step"] : List Str).Nodup := by decide +kernel
    have lt := lets_of tk
    exact (pms_cons (pms_if (PW.pt (pmw_or (pmt_not (pmt_val (pm_callB call_isi oIsi T.n_isinstance (by decide +kernel) (pma_cons (pm_var 0) (pma_cons (pm_ty T.n_tuple (by decide +kernel)) pma_nil))))) (pmw_or1 (pmt_cmp (op_neD hr.units) o2Ne (pm_callB call_len oLen T.n_len (by decide +kernel) (pma_cons (pm_var 0) pma_nil)) pm_int)))) (pms_one (pms_ret pm_bl)) pms_nil)
      (pms_cons (pms_asg (pm_var 0) (pmg_tupL (pmgs_cons (pmg_name 1 nd) (pmgs_cons (pmg_name 2 nd) (pmgs_cons (pmg_name 3 nd) (pmgs_cons (pmg_name 4 nd) (pmgs_cons (pmg_name 5 nd) pmgs_nil)))))))
      (pms_cons (pms_if (PW.pt (pmw_or (pmt_not (pmt_val (pm_fn_call (F_is_alphabet.mono (by decide)) hr gd lt (pma_cons (pm_var 1) pma_nil)))) (pmw_or1 (pmt_not (pmt_val (pm_fn_call (F_is_integer.mono (by decide)) hr gd lt (pma_cons (pm_var 2) (pma_cons pm_int (pma_cons (pm_glob g_MAX_STATES r_MAX_STATES (fun _ _ => .int _)) pma_nil))))))))) (pms_one (pms_ret pm_bl)) pms_nil)
      (pms_cons (pms_if (PW.pt (pmw_or (pmt_not (pmt_val (pm_fn_call (F_are_states.mono (by decide)) hr gd lt (pma_cons (pm_var 2) (pma_cons (pm_var 3) pma_nil))))) (pmw_or1 (pmt_not (pmt_val (pm_fn_call (F_are_states.mono (by decide)) hr gd lt (pma_cons (pm_var 2) (pma_cons (pm_var 4) pma_nil)))))))) (pms_one (pms_ret pm_bl)) pms_nil)
      (pms_cons (pms_if (PW.pt (pmw_or (pmt_not (pmt_val (pm_callB call_isi oIsi T.n_isinstance (by decide +kernel) (pma_cons (pm_var 5) (pma_cons (pm_ty T.n_tuple (by decide +kernel)) pma_nil))))) (pmw_or1 (pmt_cmp opGt o2Gt (pm_callB call_len oLen T.n_len (by decide +kernel) (pma_cons (pm_var 5) pma_nil)) (pm_glob g_MAX_STEPS r_MAX_STEPS (fun _ _ => .int _)))))) (pms_one (pms_ret pm_bl)) pms_nil)
      (pms_one (pms_ret (pm_and (pm_callB (cr_all rfl) oAll T.n_all (by decide +kernel) (pma_cons (pm_lc (own := [("step", 6)]) (t := (.nm 6)) nd (pmi_all (pm_var 5)) (blkOk_by (by kernel_rfl)) (fun s H C cl fp => (pg_name (i := 6) nd rfl (.inl rfl) (.inr rfl))) (fun s H C cl fp => pmts_nil) (fun s H C cl fp => (pm_fn_call (F_is_step.mono (by decide)) hr gd lets0 (pma_cons (pm_var 1) (pma_cons (pm_var 2) (pma_cons (pm_var 6) pma_nil)))))) pma_nil)) (pm_one (pm_fn_call (F_are_ascending.mono (by decide)) hr gd lt (pma_cons (pm_var 5) pma_nil)))))))))))
/-! require_machine -/
def b_require_machine : MS := (sIf (mNotT (mB (mFn 1 f_is_machine (aCons (mVar 0) aNil)))) (sRaise "InvalidMachine") sNext)
def f_require_machine : FM := defM 1 b_require_machine
theorem ok_require_machine (T : Txt K mg) (F_is_machine : FnM P w K mg base 4 "is_machine" 1 f_is_machine) (F : Fun K "require_machine" "require_machine" s_require_machine f fd) (hx : mg "require_machine" = some (.ref f)) (hb : Binds K fd ["machine"] []) : FnM P w K mg base 5 "require_machine" 1 f_require_machine := by
  obtain ⟨C_InvalidMachine, e_InvalidMachine⟩ := T.x_InvalidMachine
  exact fn_mirror (N := ["machine"]) (ps := ["machine"]) F ⟨rfl, rfl, rfl, by decide +kernel, rfl, by decide +kernel, by decide +kernel⟩ hx hb fun cdv A outer s H E gd hr tk => by
    have nd : (["machine"] : List Str).Nodup := by decide +kernel
    have lt := lets_of tk
    exact (pms_one (pms_if (pmt_not (pmt_val (pm_fn_call (F_is_machine.mono (by decide)) hr gd lt (pma_cons (pm_var 0) pma_nil)))) (pms_one (pms_raiseT tk PySem.F.excBase_ValueError e_InvalidMachine)) pms_nil))
/-! numbers_text -/
def b_numbers_text : MS := (sRet (mIf (mB (m2 gNe (mVar 0) (mTup aNil))) (mMethT isStr gJoin (mVar 1) (aCons (mLc (iAll (mVar 0)) [2] (.nm 2) tYesM (mCall gStr (aCons (mVar 2) aNil))) aNil)) (mC (.str "-"))))
def f_numbers_text : FM := defM 3 b_numbers_text
theorem ok_numbers_text (T : Txt K mg)  (F : Fun K "numbers_text" "numbers_text" s_numbers_text f fd) (hx : mg "numbers_text" = some (.ref f)) (hb : Binds K fd ["numbers", "separator"] []) : FnM P w K mg base 1 "numbers_text" 2 f_numbers_text := by
  obtain ⟨u_NOTHING, g_NOTHING, r_NOTHING⟩ := T.c_NOTHING
  exact fn_mirror (N := ["numbers", "separator", "number"]) (ps := ["numbers", "separator"]) F ⟨rfl, rfl, rfl, by decide +kernel, rfl, by decide +kernel, by decide +kernel⟩ hx hb fun cdv A outer s H E gd hr tk => by
    have nd : (["numbers", "separator", "number"] : List Str).Nodup := by decide +kernel
    have lt := lets_of tk
    exact (pms_one (pms_ret (pm_if (pmt_cmp (op_neD hr.units) o2Ne (pm_var 0) (pm_tup pma_nil)) (pm_bm PySem.F.plainAttrs_str PySem.F.slot_str_join PySem.F.type_str_join mt_join oIsStr oJoin (pm_var 1) (pma_cons (pm_lc (own := [("number", 2)]) (t := (.nm 2)) nd (pmi_all (pm_var 0)) (blkOk_by (by kernel_rfl)) (fun s H C cl fp => (pg_name (i := 2) nd rfl (.inl rfl) (.inr rfl))) (fun s H C cl fp => pmts_nil) (fun s H C cl fp => (pm_callTy opStr oStr T.n_str (by decide +kernel) (pma_cons (pm_var 2) pma_nil)))) pma_nil)) (pm_glob g_NOTHING r_NOTHING (fun _ _ => .str _)))))
/-! step_text -/
def b_step_text : MS := (sSeq (sAsg (gTL 5 (gConsM (gN 1) (gConsM (gN 2) (gConsM (gN 3) (gConsM (gN 4) (gConsM (gN 5) gNilM)))))) (mVar 0))
  (sSeq (sSet 6 (mIf (mB (m2 gEq (mVar 3) (mC (.int 1)))) (mC (.str "=")) (mC (.str "+"))))
  (sRet (mJs [(mFmt (mVar 1)), (mC (.str " ")), (mFmt (mVar 2)), (mC (.str " ")), (mFmt (mVar 6)), (mFmt (mVar 4)), (mC (.str " ")), (mFmt (mVar 5))]))))
def f_step_text : FM := defM 7 b_step_text
theorem ok_step_text (T : Txt K mg)  (F : Fun K "step_text" "step_text" s_step_text f fd) (hx : mg "step_text" = some (.ref f)) (hb : Binds K fd ["step"] []) : FnM P w K mg base 1 "step_text" 1 f_step_text := by
  exact fn_mirror (N := ["step", "state", "letter", "restart", "cost", "later", "sign"]) (ps := ["step"]) F ⟨rfl, rfl, rfl, by decide +kernel, rfl, by decide +kernel, by decide +kernel⟩ hx hb fun cdv A outer s H E gd hr tk => by
    have nd : (["step", "state", "letter", "restart", "cost", "later", "sign"] : List Str).Nodup := by decide +kernel
    have lt := lets_of tk
    exact (pms_cons (pms_asg (pm_var 0) (pmg_tupL (pmgs_cons (pmg_name 1 nd) (pmgs_cons (pmg_name 2 nd) (pmgs_cons (pmg_name 3 nd) (pmgs_cons (pmg_name 4 nd) (pmgs_cons (pmg_name 5 nd) pmgs_nil)))))))
      (pms_cons (pms_set 6 nd (pm_if (pmt_cmp (op_eqD hr.units) o2Eq (pm_var 3) pm_int) pm_str pm_str))
      (pms_one (pms_ret (pm_joined (.cons (pm_fmt (pm_var 1)) (.cons pm_str (.cons (pm_fmt (pm_var 2)) (.cons pm_str (.cons (pm_fmt (pm_var 6)) (.cons (pm_fmt (pm_var 4)) (.cons pm_str (.cons (pm_fmt (pm_var 5)) .nil)))))))))))))
/-! machine_text -/
def b_machine_text : MS := (sSeq (sExpr (mFn 1 f_require_machine (aCons (mVar 0) aNil)))
  (sSeq (sAsg (gTL 5 (gConsM (gN 1) (gConsM (gN 2) (gConsM (gN 3) (gConsM (gN 4) (gConsM (gN 5) gNilM)))))) (mVar 0))
  (sSeq (sSet 6 (mLst (aCons (mC (.str "machine")) (aCons (mVar 1) (aCons (mCall gStr (aCons (mVar 2) aNil)) (aCons (mC (.str "starts")) (aCons (mFn 2 f_numbers_text (aCons (mVar 3) (aCons (mC (.str ",")) aNil))) (aCons (mC (.str "finals")) (aCons (mFn 2 f_numbers_text (aCons (mVar 4) (aCons (mC (.str ",")) aNil))) aNil)))))))))
  (sRet (mMethT isStr gJoin (mC (.str "\n")) (aCons (m2 gAdd (mLst (aCons (mMethT isStr gJoin (mC (.str " ")) (aCons (mVar 6) aNil)) aNil)) (mLc (iAll (mVar 5)) [7] (.nm 7) tYesM (mFn 1 f_step_text (aCons (mVar 7) aNil)))) aNil))))))
def f_machine_text : FM := defM 8 b_machine_text
theorem ok_machine_text (T : Txt K mg) (F_require_machine : FnM P w K mg base 5 "require_machine" 1 f_require_machine) (F_numbers_text : FnM P w K mg base 1 "numbers_text" 2 f_numbers_text) (F_step_text : FnM P w K mg base 1 "step_text" 1 f_step_text) (F : Fun K "machine_text" "machine_text" s_machine_text f fd) (hx : mg "machine_text" = some (.ref f)) (hb : Binds K fd ["machine"] []) : FnM P w K mg base 6 "machine_text" 1 f_machine_text := by
  exact fn_mirror (N := ["machine", "alphabet", "size", "starts", "finals", "steps", "words", "step"]) (ps := ["machine"]) F ⟨rfl, rfl, rfl, by decide +kernel, rfl, by decide +kernel, by decide +kernel⟩ hx hb fun cdv A outer s H E gd hr tk => by
    have nd : (["machine", "alphabet", "size", "starts", "finals", "steps", "words", "step"] : List Str).Nodup := by decide +kernel
    have lt := lets_of tk
    exact (pms_cons (pms_expr (pm_fn_call (F_require_machine.mono (by decide)) hr gd lt (pma_cons (pm_var 0) pma_nil)))
      (pms_cons (pms_asg (pm_var 0) (pmg_tupL (pmgs_cons (pmg_name 1 nd) (pmgs_cons (pmg_name 2 nd) (pmgs_cons (pmg_name 3 nd) (pmgs_cons (pmg_name 4 nd) (pmgs_cons (pmg_name 5 nd) pmgs_nil)))))))
      (pms_cons (pms_set 6 nd (pm_lst (pma_cons pm_str (pma_cons (pm_var 1) (pma_cons (pm_callTy opStr oStr T.n_str (by decide +kernel) (pma_cons (pm_var 2) pma_nil)) (pma_cons pm_str (pma_cons (pm_fn_call (F_numbers_text.mono (by decide)) hr gd lt (pma_cons (pm_var 3) (pma_cons pm_str pma_nil))) (pma_cons pm_str (pma_cons (pm_fn_call (F_numbers_text.mono (by decide)) hr gd lt (pma_cons (pm_var 4) (pma_cons pm_str pma_nil))) pma_nil)))))))))
      (pms_one (pms_ret (pm_bm PySem.F.plainAttrs_str PySem.F.slot_str_join PySem.F.type_str_join mt_join oIsStr oJoin pm_str (pma_cons (pm_bin opAdd o2Add (pm_lst (pma_cons (pm_bm PySem.F.plainAttrs_str PySem.F.slot_str_join PySem.F.type_str_join mt_join oIsStr oJoin pm_str (pma_cons (pm_var 6) pma_nil)) pma_nil)) (pm_lc (own := [("step", 7)]) (t := (.nm 7)) nd (pmi_all (pm_var 5)) (blkOk_by (by kernel_rfl)) (fun s H C cl fp => (pg_name (i := 7) nd rfl (.inl rfl) (.inr rfl))) (fun s H C cl fp => pmts_nil) (fun s H C cl fp => (pm_fn_call (F_step_text.mono (by decide)) hr gd lets0 (pma_cons (pm_var 7) pma_nil))))) pma_nil)))))))
/-! _law_stream -/
def b__law_stream : MS := (sSeq (sSet 2 (m2 gAdd (m2 gMulS (mC (.int 7)) (mVar 1)) (mC (.int 3))))
  (sSeq (sIf (mB (m2 gLtD (mVar 1) (mCall gLen (aCons (mVar 0) aNil)))) (sSet 2 (m2 gIx (mVar 0) (mVar 1))) sNext)
  (sSeq (sSet 3 (m2 gMod (mCall gAbs (aCons (mVar 2) aNil)) (m2 gPow (m2 gPow (mC (.int 10)) (mC (.int 60))) (mC (.int 12)))))
  (sSeq (sSet 4 (m2 gMod (m2 gAdd (m2 gAdd (m2 gAdd (m2 gMulS (m2 gMod (mVar 3) (mC (.int 2147483629))) (mC (.int 48271))) (m2 gMulS (mC (.int 977)) (mVar 1))) (m2 gMulS (mC (.int 2)) (mCall gInt (aCons (m2 gLtD (mVar 2) (mC (.int 0))) aNil)))) (mC (.int 11))) (mC (.int 2147483647))))
  (sRet (mLstN (aCons (mCall gMax (aCons (mC (.int 0)) (aCons (m2 gSub (mVar 3) (m2 gPow (mC (.int 10)) (mC (.int 18)))) aNil))) (aCons (mVar 4) (aCons (mC (.int 0)) aNil)))))))))
def f__law_stream : FM := defM 5 b__law_stream
theorem ok__law_stream (T : Txt K mg)  (F : Fun K "_law_stream" "_law_stream" s__law_stream f fd) (hx : mg "_law_stream" = some (.ref f)) (hb : Binds K fd ["script", "at"] []) : FnM P w K mg base 1 "_law_stream" 2 f__law_stream := by
  exact fn_mirror (N := ["script", "at", "cell", "great", "mixed"]) (ps := ["script", "at"]) F ⟨rfl, rfl, rfl, by decide +kernel, rfl, by decide +kernel, by decide +kernel⟩ hx hb fun cdv A outer s H E gd hr tk => by
    have nd : (["script", "at", "cell", "great", "mixed"] : List Str).Nodup := by decide +kernel
    have lt := lets_of tk
    exact (pms_cons (pms_set 2 nd (pm_bin opAdd o2Add (pm_bin opMulA o2MulA pm_int (pm_var 1)) pm_int))
      (pms_cons (pms_if (pmt_cmp (opLtD hr.units) o2LtD (pm_var 1) (pm_callB call_len oLen T.n_len (by decide +kernel) (pma_cons (pm_var 0) pma_nil))) (pms_one (pms_set 2 nd (pm_ix ix_seq o2Ix (pm_var 0) (pm_var 1)))) pms_nil)
      (pms_cons (pms_set 3 nd (pm_bin op_mod o2Mod (pm_callB call_abs oAbs T.n_abs (by decide +kernel) (pma_cons (pm_var 2) pma_nil)) (pm_bin opPow o2Pow (pm_bin opPow o2Pow pm_int pm_int) pm_int)))
      (pms_cons (pms_set 4 nd (pm_bin op_mod o2Mod (pm_bin opAdd o2Add (pm_bin opAdd o2Add (pm_bin opAdd o2Add (pm_bin opMulA o2MulA (pm_bin op_mod o2Mod (pm_var 3) pm_int) pm_int) (pm_bin opMulA o2MulA pm_int (pm_var 1))) (pm_bin opMulA o2MulA pm_int (pm_callTy opInt oInt T.n_int (by decide +kernel) (pma_cons (pm_cmp (opLtD hr.units) o2LtD (pm_var 2) pm_int) pma_nil)))) pm_int) pm_int))
      (pms_one (pms_ret (pm_lstN (pma_cons (pm_callB (call_max2 rfl) oMax T.n_max (by decide +kernel) (pma_cons pm_int (pma_cons (pm_bin op_sub o2Sub (pm_var 3) (pm_bin opPow o2Pow pm_int pm_int)) pma_nil))) (pma_cons (pm_var 4) (pma_cons pm_int pma_nil))))))))))
/-! _law_draw -/
def b__law_draw : MS := (sSeq (sIf (mB (m2 gGt (m2 gIx (mVar 0) (mC (.int 0))) (mC (.int 0)))) (sSeq (sSet 2 (m2 gMod (m2 gIx (mVar 0) (mC (.int 0))) (mVar 1)))
  (sSeq (sSetIxG (mVar 0) (mC (.int 0)) (m2 gDiv (m2 gIx (mVar 0) (mC (.int 0))) (mVar 1)))
  (sRet (mVar 2)))) sNext)
  (sSeq (sSetIxG (mVar 0) (mC (.int 2)) (m2 gAdd (m2 gIx (mVar 0) (mC (.int 2))) (mC (.int 1))))
  (sSeq (sSet 3 (m2 gMod (m2 gAdd (m2 gIx (mVar 0) (mC (.int 1))) (m2 gMulS (mC (.int 1000003)) (m2 gIx (mVar 0) (mC (.int 2))))) (mC (.int 2305843009213693951))))
  (sSeq (sSet 4 (m2 gMod (m2 gAdd (m2 gMulS (m2 gMod (m2 gMulS (mVar 3) (mVar 3)) (mC (.int 2305843009213693921))) (mVar 3)) (m2 gMulS (mC (.int 8191)) (m2 gIx (mVar 0) (mC (.int 2))))) (mC (.int 2305843009213693907))))
  (sRet (m2 gMod (m2 gDiv (mVar 4) (mC (.int 4096))) (mVar 1)))))))
def f__law_draw : FM := defM 5 b__law_draw
theorem ok__law_draw (T : Txt K mg)  (F : Fun K "_law_draw" "_law_draw" s__law_draw f fd) (hx : mg "_law_draw" = some (.ref f)) (hb : Binds K fd ["stream", "total"] []) : FnM P w K mg base 1 "_law_draw" 2 f__law_draw := by
  exact fn_mirror (N := ["stream", "total", "found", "one", "two"]) (ps := ["stream", "total"]) F ⟨rfl, rfl, rfl, by decide +kernel, rfl, by decide +kernel, by decide +kernel⟩ hx hb fun cdv A outer s H E gd hr tk => by
    have nd : (["stream", "total", "found", "one", "two"] : List Str).Nodup := by decide +kernel
    have lt := lets_of tk
    exact (pms_cons (pms_if (pmt_cmp opGt o2Gt (pm_ix ix_seq o2Ix (pm_var 0) pm_int) pm_int) (pms_cons (pms_set 2 nd (pm_bin op_mod o2Mod (pm_ix ix_seq o2Ix (pm_var 0) pm_int) (pm_var 1)))
      (pms_cons (pms_setixG hr.units (pm_bin op_fdivW o2Div (pm_ix ix_seq o2Ix (pm_var 0) pm_int) (pm_var 1)) (pm_var 0) pm_int)
      (pms_one (pms_ret (pm_var 2))))) pms_nil)
      (pms_cons (pms_setixG hr.units (pm_bin opAdd o2Add (pm_ix ix_seq o2Ix (pm_var 0) pm_int) pm_int) (pm_var 0) pm_int)
      (pms_cons (pms_set 3 nd (pm_bin op_mod o2Mod (pm_bin opAdd o2Add (pm_ix ix_seq o2Ix (pm_var 0) pm_int) (pm_bin opMulA o2MulA pm_int (pm_ix ix_seq o2Ix (pm_var 0) pm_int))) pm_int))
      (pms_cons (pms_set 4 nd (pm_bin op_mod o2Mod (pm_bin opAdd o2Add (pm_bin opMulA o2MulA (pm_bin op_mod o2Mod (pm_bin opMulA o2MulA (pm_var 3) (pm_var 3)) pm_int) (pm_var 3)) (pm_bin opMulA o2MulA pm_int (pm_ix ix_seq o2Ix (pm_var 0) pm_int))) pm_int))
      (pms_one (pms_ret (pm_bin op_mod o2Mod (pm_bin op_fdivW o2Div (pm_var 4) pm_int) (pm_var 1))))))))
/-! _law_step -/
def b__law_step : MS := (sSeq (sSet 5 (mCall gInt (aCons (mAnd (m2 gGt (mVar 4) (mC (.int 0))) (m2 gEq (mFn 2 f__law_draw (aCons (mVar 0) (aCons (mC (.int 4)) aNil))) (mC (.int 0)))) aNil)))
  (sSeq (sSet 6 (m2 gIx (mLst (aCons (mC (.int 0)) (aCons (mC (.int 0)) (aCons (mC (.int 1)) (aCons (mC (.int 1)) (aCons (mC (.int 2)) (aCons (mC (.int 3)) aNil))))))) (mFn 2 f__law_draw (aCons (mVar 0) (aCons (m2 gIx (mLst (aCons (mC (.int 4)) (aCons (mC (.int 4)) (aCons (mC (.int 6)) aNil)))) (mVar 4)) aNil)))))
  (sRet (mTup (aCons (mVar 1) (aCons (mVar 2) (aCons (mVar 5) (aCons (mVar 6) (aCons (mVar 3) aNil)))))))))
def f__law_step : FM := defM 7 b__law_step
theorem ok__law_step (T : Txt K mg) (F__law_draw : FnM P w K mg base 1 "_law_draw" 2 f__law_draw) (F : Fun K "_law_step" "_law_step" s__law_step f fd) (hx : mg "_law_step" = some (.ref f)) (hb : Binds K fd ["stream", "state", "sign", "later", "way"] []) : FnM P w K mg base 2 "_law_step" 5 f__law_step := by
  exact fn_mirror (N := ["stream", "state", "sign", "later", "way", "again", "cost"]) (ps := ["stream", "state", "sign", "later", "way"]) F ⟨rfl, rfl, rfl, by decide +kernel, rfl, by decide +kernel, by decide +kernel⟩ hx hb fun cdv A outer s H E gd hr tk => by
    have nd : (["stream", "state", "sign", "later", "way", "again", "cost"] : List Str).Nodup := by decide +kernel
    have lt := lets_of tk
    exact (pms_cons (pms_set 5 nd (pm_callTy opInt oInt T.n_int (by decide +kernel) (pma_cons (pm_and (pm_cmp opGt o2Gt (pm_var 4) pm_int) (pm_one (pm_cmp (op_eqD hr.units) o2Eq (pm_fn_call (F__law_draw.mono (by decide)) hr gd lt (pma_cons (pm_var 0) (pma_cons pm_int pma_nil))) pm_int))) pma_nil)))
      (pms_cons (pms_set 6 nd (pm_ix ix_seq o2Ix (pm_lst (pma_cons pm_int (pma_cons pm_int (pma_cons pm_int (pma_cons pm_int (pma_cons pm_int (pma_cons pm_int pma_nil))))))) (pm_fn_call (F__law_draw.mono (by decide)) hr gd lt (pma_cons (pm_var 0) (pma_cons (pm_ix ix_seq o2Ix (pm_lst (pma_cons pm_int (pma_cons pm_int (pma_cons pm_int pma_nil)))) (pm_var 4)) pma_nil)))))
      (pms_one (pms_ret (pm_tup (pma_cons (pm_var 1) (pma_cons (pm_var 2) (pma_cons (pm_var 5) (pma_cons (pm_var 6) (pma_cons (pm_var 3) pma_nil))))))))))
/-! _law_machine -/
def b__law_machine : MS := (sSeq (sSet 4 mDictN)
  (sSeq (sFor (MR.iRng (aCons (mVar 2) aNil)) (gN 5) (sFor (iAll (mVar 1)) (gN 6) (sFor (MR.iRng (aCons (m2 gIx (mLst (aCons (mC (.int 1)) (aCons (mC (.int 1)) (aCons (mC (.int 2)) (aCons (mC (.int 0)) (aCons (mC (.int 2)) aNil)))))) (mFn 2 f__law_draw (aCons (mVar 0) (aCons (mC (.int 5)) aNil)))) aNil)) (gN 7) (sSeq (sSet 8 (mFn 5 f__law_step (aCons (mVar 0) (aCons (mVar 5) (aCons (mVar 6) (aCons (mFn 2 f__law_draw (aCons (mVar 0) (aCons (mVar 2) aNil))) (aCons (mVar 3) aNil)))))))
  (sSetIxG (mVar 4) (mVar 8) (mC (.bl true)))))))
  (sSeq (sSet 9 (mLc (MR.iRng (aCons (mVar 2) aNil)) [5] (.nm 5) (mOrT (mB (m2 gEq (mVar 5) (mC (.int 0)))) (mAndT (mB (m2 gGt (mVar 2) (mC (.int 1)))) (mB (m2 gEq (m2 gMod (mVar 5) (mC (.int 2))) (mC (.int 1)))))) (mVar 5)))
  (sSeq (sSet 10 (mSl gSlice (mVar 9) oNone (oSome (m2 gAdd (mC (.int 1)) (mFn 2 f__law_draw (aCons (mVar 0) (aCons (mCall gLen (aCons (mVar 9) aNil)) aNil)))))))
  (sSeq (sSet 11 (mDispN (pCons (mFn 2 f__law_draw (aCons (mVar 0) (aCons (mVar 2) aNil))) (mC (.bl true)) pNil)))
  (sSeq (sIf (mB (m2 gEq (mFn 2 f__law_draw (aCons (mVar 0) (aCons (mC (.int 2)) aNil))) (mC (.int 0)))) (sSetIxG (mVar 11) (mFn 2 f__law_draw (aCons (mVar 0) (aCons (mVar 2) aNil))) (mC (.bl true))) sNext)
  (sRet (mTup (aCons (mVar 1) (aCons (mVar 2) (aCons (mCall gTuple (aCons (mVar 10) aNil)) (aCons (mCall gTuple (aCons (mCall gSortedG (aCons (mVar 11) aNil)) aNil)) (aCons (mCall gTuple (aCons (mSl gSlice (mCall gSortedG (aCons (mVar 4) aNil)) oNone (oSome (mC (.int 60)))) aNil)) aNil)))))))))))))
def f__law_machine : FM := defM 12 b__law_machine
theorem ok__law_machine (T : Txt K mg) (F__law_draw : FnM P w K mg base 1 "_law_draw" 2 f__law_draw) (F__law_step : FnM P w K mg base 2 "_law_step" 5 f__law_step) (F : Fun K "_law_machine" "_law_machine" s__law_machine f fd) (hx : mg "_law_machine" = some (.ref f)) (hb : Binds K fd ["stream", "signs", "size", "way"] []) : FnM P w K mg base 3 "_law_machine" 4 f__law_machine := by
  exact fn_mirror (N := ["stream", "signs", "size", "way", "found", "state", "sign", "turn", "step", "begin", "some", "ends"]) (ps := ["stream", "signs", "size", "way"]) F ⟨rfl, rfl, rfl, by decide +kernel, rfl, by decide +kernel, by decide +kernel⟩ hx hb fun cdv A outer s H E gd hr tk => by
    have nd : (["stream", "signs", "size", "way", "found", "state", "sign", "turn", "step", "begin", "some", "ends"] : List Str).Nodup := by decide +kernel
    have lt := lets_of tk
    exact (pms_cons (pms_set 4 nd pm_dictN)
      (pms_cons (pms_for (passes_of rfl) (pmi_rng T.n_range (pma_cons (pm_var 2) pma_nil)) (pmg_name 5 nd) (pms_one (pms_for (passes_of rfl) (pmi_all (pm_var 1)) (pmg_name 6 nd) (pms_one (pms_for (passes_of rfl) (pmi_rng T.n_range (pma_cons (pm_ix ix_seq o2Ix (pm_lst (pma_cons pm_int (pma_cons pm_int (pma_cons pm_int (pma_cons pm_int (pma_cons pm_int pma_nil)))))) (pm_fn_call (F__law_draw.mono (by decide)) hr gd lt (pma_cons (pm_var 0) (pma_cons pm_int pma_nil)))) pma_nil)) (pmg_name 7 nd) (pms_cons (pms_set 8 nd (pm_fn_call (F__law_step.mono (by decide)) hr gd lt (pma_cons (pm_var 0) (pma_cons (pm_var 5) (pma_cons (pm_var 6) (pma_cons (pm_fn_call (F__law_draw.mono (by decide)) hr gd lt (pma_cons (pm_var 0) (pma_cons (pm_var 2) pma_nil))) (pma_cons (pm_var 3) pma_nil)))))))
      (pms_one (pms_setixG hr.units pm_bl (pm_var 4) (pm_var 8)))))))))
      (pms_cons (pms_setLc (i := 9) (own := [("state", 5)]) (t := (.nm 5)) nd (pmi_rng T.n_range (pma_cons (pm_var 2) pma_nil)) (blkOk_by (by kernel_rfl)) (fun s H C cl fp => (pg_name (i := 5) nd rfl (.inl rfl) (.inr rfl))) (fun s H C cl fp => (pmts_one (PW.pt (pmw_or (pmt_cmp (op_eqD hr.units) o2Eq (pm_var 5) pm_int) (pmw_or1 (PW.pt (pmw_and (pmt_cmp opGt o2Gt (pm_var 2) pm_int) (pmw_and1 (pmt_cmp (op_eqD hr.units) o2Eq (pm_bin op_mod o2Mod (pm_var 5) pm_int) pm_int))))))))) (fun s H C cl fp => (pm_var 5)))
      (pms_cons (pms_set 10 nd (pm_sl opSlice oSlice (pm_var 9) pmo_none (pmo_some (pm_bin opAdd o2Add pm_int (pm_fn_call (F__law_draw.mono (by decide)) hr gd lt (pma_cons (pm_var 0) (pma_cons (pm_callB call_len oLen T.n_len (by decide +kernel) (pma_cons (pm_var 9) pma_nil)) pma_nil)))))))
      (pms_cons (pms_set 11 nd (pm_dispN (pmp_cons (pm_fn_call (F__law_draw.mono (by decide)) hr gd lt (pma_cons (pm_var 0) (pma_cons (pm_var 2) pma_nil))) pm_bl pmp_nil)))
      (pms_cons (pms_if (pmt_cmp (op_eqD hr.units) o2Eq (pm_fn_call (F__law_draw.mono (by decide)) hr gd lt (pma_cons (pm_var 0) (pma_cons pm_int pma_nil))) pm_int) (pms_one (pms_setixG hr.units pm_bl (pm_var 11) (pm_fn_call (F__law_draw.mono (by decide)) hr gd lt (pma_cons (pm_var 0) (pma_cons (pm_var 2) pma_nil))))) pms_nil)
      (pms_one (pms_ret (pm_tup (pma_cons (pm_var 1) (pma_cons (pm_var 2) (pma_cons (pm_callTy call_tuple_of oTuple T.n_tuple (by decide +kernel) (pma_cons (pm_var 10) pma_nil)) (pma_cons (pm_callTy call_tuple_of oTuple T.n_tuple (by decide +kernel) (pma_cons (pm_callB (cr_sortG hr.units) oSortedG T.n_sorted (by decide +kernel) (pma_cons (pm_var 11) pma_nil)) pma_nil)) (pma_cons (pm_callTy call_tuple_of oTuple T.n_tuple (by decide +kernel) (pma_cons (pm_sl opSlice oSlice (pm_callB (cr_sortG hr.units) oSortedG T.n_sorted (by decide +kernel) (pma_cons (pm_var 4) pma_nil)) pmo_none (pmo_some pm_int)) pma_nil)) pma_nil))))))))))))))
/-! _law_listed -/
def b__law_listed : MS := (sRet (mIf (mB (m2 gNe (mVar 0) (mTup aNil))) (mMethT isStr gJoin (mC (.str ",")) (aCons (mLc (iAll (mVar 0)) [1] (.nm 1) tYesM (mCall gStr (aCons (mVar 1) aNil))) aNil)) (mC (.str "-"))))
def f__law_listed : FM := defM 2 b__law_listed
theorem ok__law_listed (T : Txt K mg)  (F : Fun K "_law_listed" "_law_listed" s__law_listed f fd) (hx : mg "_law_listed" = some (.ref f)) (hb : Binds K fd ["states"] []) : FnM P w K mg base 1 "_law_listed" 1 f__law_listed := by
  exact fn_mirror (N := ["states", "state"]) (ps := ["states"]) F ⟨rfl, rfl, rfl, by decide +kernel, rfl, by decide +kernel, by decide +kernel⟩ hx hb fun cdv A outer s H E gd hr tk => by
    have nd : (["states", "state"] : List Str).Nodup := by decide +kernel
    have lt := lets_of tk
    exact (pms_one (pms_ret (pm_if (pmt_cmp (op_neD hr.units) o2Ne (pm_var 0) (pm_tup pma_nil)) (pm_bm PySem.F.plainAttrs_str PySem.F.slot_str_join PySem.F.type_str_join mt_join oIsStr oJoin pm_str (pma_cons (pm_lc (own := [("state", 1)]) (t := (.nm 1)) nd (pmi_all (pm_var 0)) (blkOk_by (by kernel_rfl)) (fun s H C cl fp => (pg_name (i := 1) nd rfl (.inl rfl) (.inr rfl))) (fun s H C cl fp => pmts_nil) (fun s H C cl fp => (pm_callTy opStr oStr T.n_str (by decide +kernel) (pma_cons (pm_var 1) pma_nil)))) pma_nil)) pm_str)))
/-! _law_text_of -/
def b__law_text_of : MS := (sSeq (sAsg (gTL 5 (gConsM (gN 1) (gConsM (gN 2) (gConsM (gN 3) (gConsM (gN 4) (gConsM (gN 5) gNilM)))))) (mVar 0))
  (sSeq (sSet 6 (mLst (aCons (mC (.str "machine")) (aCons (mVar 1) (aCons (mCall gStr (aCons (mVar 2) aNil)) (aCons (mC (.str "starts")) (aCons (mFn 1 f__law_listed (aCons (mVar 3) aNil)) (aCons (mC (.str "finals")) (aCons (mFn 1 f__law_listed (aCons (mVar 4) aNil)) aNil)))))))))
  (sSeq (sSet 7 (mLstN (aCons (mMethT isStr gJoin (mC (.str " ")) (aCons (mVar 6) aNil)) aNil)))
  (sSeq (sFor (iAll (mVar 5)) (gTL 5 (gConsM (gN 8) (gConsM (gN 9) (gConsM (gN 10) (gConsM (gN 11) (gConsM (gN 12) gNilM)))))) (sExpr (mMethT isLst gAppend (mVar 7) (aCons (mMethT isStr gJoin (mC (.str " ")) (aCons (mLst (aCons (mCall gStr (aCons (mVar 8) aNil)) (aCons (mVar 9) (aCons (m2 gAdd (m2 gIx (mC (.str "+=")) (mVar 10)) (mCall gStr (aCons (mVar 11) aNil))) (aCons (mCall gStr (aCons (mVar 12) aNil)) aNil))))) aNil)) aNil))))
  (sRet (mMethT isStr gJoin (mC (.str "\n")) (aCons (mVar 7) aNil)))))))
def f__law_text_of : FM := defM 13 b__law_text_of
theorem ok__law_text_of (T : Txt K mg) (F__law_listed : FnM P w K mg base 1 "_law_listed" 1 f__law_listed) (F : Fun K "_law_text_of" "_law_text_of" s__law_text_of f fd) (hx : mg "_law_text_of" = some (.ref f)) (hb : Binds K fd ["machine"] []) : FnM P w K mg base 2 "_law_text_of" 1 f__law_text_of := by
  exact fn_mirror (N := ["machine", "signs", "size", "begin", "ends", "rows", "words", "lines", "state", "sign", "again", "cost", "goal"]) (ps := ["machine"]) F ⟨rfl, rfl, rfl, by decide +kernel, rfl, by decide +kernel, by decide +kernel⟩ hx hb fun cdv A outer s H E gd hr tk => by
    have nd : (["machine", "signs", "size", "begin", "ends", "rows", "words", "lines", "state", "sign", "again", "cost", "goal"] : List Str).Nodup := by decide +kernel
    have lt := lets_of tk
    exact (pms_cons (pms_asg (pm_var 0) (pmg_tupL (pmgs_cons (pmg_name 1 nd) (pmgs_cons (pmg_name 2 nd) (pmgs_cons (pmg_name 3 nd) (pmgs_cons (pmg_name 4 nd) (pmgs_cons (pmg_name 5 nd) pmgs_nil)))))))
      (pms_cons (pms_set 6 nd (pm_lst (pma_cons pm_str (pma_cons (pm_var 1) (pma_cons (pm_callTy opStr oStr T.n_str (by decide +kernel) (pma_cons (pm_var 2) pma_nil)) (pma_cons pm_str (pma_cons (pm_fn_call (F__law_listed.mono (by decide)) hr gd lt (pma_cons (pm_var 3) pma_nil)) (pma_cons pm_str (pma_cons (pm_fn_call (F__law_listed.mono (by decide)) hr gd lt (pma_cons (pm_var 4) pma_nil)) pma_nil)))))))))
      (pms_cons (pms_set 7 nd (pm_lstN (pma_cons (pm_bm PySem.F.plainAttrs_str PySem.F.slot_str_join PySem.F.type_str_join mt_join oIsStr oJoin pm_str (pma_cons (pm_var 6) pma_nil)) pma_nil)))
      (pms_cons (pms_for (passes_of rfl) (pmi_all (pm_var 5)) (pmg_tupL (pmgs_cons (pmg_name 8 nd) (pmgs_cons (pmg_name 9 nd) (pmgs_cons (pmg_name 10 nd) (pmgs_cons (pmg_name 11 nd) (pmgs_cons (pmg_name 12 nd) pmgs_nil)))))) (pms_one (pms_expr (pm_bm PySem.F.plainAttrs_list PySem.F.slot_list_append PySem.F.type_list_append mt_append oIsLst oAppend (pm_var 7) (pma_cons (pm_bm PySem.F.plainAttrs_str PySem.F.slot_str_join PySem.F.type_str_join mt_join oIsStr oJoin pm_str (pma_cons (pm_lst (pma_cons (pm_callTy opStr oStr T.n_str (by decide +kernel) (pma_cons (pm_var 8) pma_nil)) (pma_cons (pm_var 9) (pma_cons (pm_bin opAdd o2Add (pm_ix ix_seq o2Ix pm_str (pm_var 10)) (pm_callTy opStr oStr T.n_str (by decide +kernel) (pma_cons (pm_var 11) pma_nil))) (pma_cons (pm_callTy opStr oStr T.n_str (by decide +kernel) (pma_cons (pm_var 12) pma_nil)) pma_nil))))) pma_nil)) pma_nil)))))
      (pms_one (pms_ret (pm_bm PySem.F.plainAttrs_str PySem.F.slot_str_join PySem.F.type_str_join mt_join oIsStr oJoin pm_str (pma_cons (pm_var 7) pma_nil))))))))
/-! _law_small -/
def b__law_small : MS := (sRet (mIf (mB (m2 gIn (mVar 0) (mLc (MR.iRng (aCons (mC (.int 10)) aNil)) [1] (.nm 1) tYesM (mCall gStr (aCons (mVar 1) aNil))))) (mCall gInt (aCons (mVar 0) aNil)) (m1 gNeg (mC (.int 1)))))
def f__law_small : FM := defM 2 b__law_small
theorem ok__law_small (T : Txt K mg)  (F : Fun K "_law_small" "_law_small" s__law_small f fd) (hx : mg "_law_small" = some (.ref f)) (hb : Binds K fd ["text"] []) : FnM P w K mg base 1 "_law_small" 1 f__law_small := by
  exact fn_mirror (N := ["text", "number"]) (ps := ["text"]) F ⟨rfl, rfl, rfl, by decide +kernel, rfl, by decide +kernel, by decide +kernel⟩ hx hb fun cdv A outer s H E gd hr tk => by
    have nd : (["text", "number"] : List Str).Nodup := by decide +kernel
    have lt := lets_of tk
    exact (pms_one (pms_ret (pm_if (pmt_cmp opIn o2In (pm_var 0) (pm_lc (own := [("number", 1)]) (t := (.nm 1)) nd (pmi_rng T.n_range (pma_cons pm_int pma_nil)) (blkOk_by (by kernel_rfl)) (fun s H C cl fp => (pg_name (i := 1) nd rfl (.inl rfl) (.inr rfl))) (fun s H C cl fp => pmts_nil) (fun s H C cl fp => (pm_callTy opStr oStr T.n_str (by decide +kernel) (pma_cons (pm_var 1) pma_nil))))) (pm_callTy opInt oInt T.n_int (by decide +kernel) (pma_cons (pm_var 0) pma_nil)) (pm_un un_neg o1Neg pm_int))))
/-! _law_states -/
def b__law_states : MS := (sRet (mIf (mB (m2 gEq (mVar 0) (mC (.str "-")))) (mTup aNil) (mCall gTuple (aCons (mLc (iAll (mMethT isStr gSplit (mVar 0) (aCons (mC (.str ",")) aNil))) [1] (.nm 1) tYesM (mFn 1 f__law_small (aCons (mVar 1) aNil))) aNil))))
def f__law_states : FM := defM 2 b__law_states
theorem ok__law_states (T : Txt K mg) (F__law_small : FnM P w K mg base 1 "_law_small" 1 f__law_small) (F : Fun K "_law_states" "_law_states" s__law_states f fd) (hx : mg "_law_states" = some (.ref f)) (hb : Binds K fd ["text"] []) : FnM P w K mg base 2 "_law_states" 1 f__law_states := by
  exact fn_mirror (N := ["text", "part"]) (ps := ["text"]) F ⟨rfl, rfl, rfl, by decide +kernel, rfl, by decide +kernel, by decide +kernel⟩ hx hb fun cdv A outer s H E gd hr tk => by
    have nd : (["text", "part"] : List Str).Nodup := by decide +kernel
    have lt := lets_of tk
    exact (pms_one (pms_ret (pm_if (pmt_cmp (op_eqD hr.units) o2Eq (pm_var 0) pm_str) (pm_tup pma_nil) (pm_callTy call_tuple_of oTuple T.n_tuple (by decide +kernel) (pma_cons (pm_lc (own := [("part", 1)]) (t := (.nm 1)) nd (pmi_all (pm_bm PySem.F.plainAttrs_str PySem.F.slot_str_split PySem.F.type_str_split mt_split oIsStr oSplit (pm_var 0) (pma_cons pm_str pma_nil))) (blkOk_by (by kernel_rfl)) (fun s H C cl fp => (pg_name (i := 1) nd rfl (.inl rfl) (.inr rfl))) (fun s H C cl fp => pmts_nil) (fun s H C cl fp => (pm_fn_call (F__law_small.mono (by decide)) hr gd lets0 (pma_cons (pm_var 1) pma_nil)))) pma_nil)))))
/-! _law_parsed -/
def b__law_parsed : MS := (sSeq (sSet 1 (mLc (iAll (mMethT isStr gSplit (mVar 0) (aCons (mC (.str "\n")) aNil))) [9] (.nm 9) tYesM (mMethT isStr gSplit (mVar 9) (aCons (mC (.str " ")) aNil))))
  (sSeq (sPar 2 3 (aCons (m2 gIx (mVar 1) (mC (.int 0))) (aCons (mLstN aNil) aNil)))
  (sSeq (sIf (mOrT (mB (m2 gNe (mCall gLen (aCons (mVar 2) aNil)) (mC (.int 7)))) (mB (m2 gNe (mLc (iAll (mSl gSlice (mVar 1) (oSome (mC (.int 1))) oNone)) [10] (.nm 10) (mOrT (mB (m2 gNe (mCall gLen (aCons (mVar 10) aNil)) (mC (.int 4)))) (mB (m2 gNe (mCall gLen (aCons (m2 gIx (mVar 10) (mC (.int 2))) aNil)) (mC (.int 2))))) (mVar 10)) (mLst aNil)))) (sRet (mC .non)) sNext)
  (sSeq (sFor (iAll (mSl gSlice (mVar 1) (oSome (mC (.int 1))) oNone)) (gTL 4 (gConsM (gN 4) (gConsM (gN 5) (gConsM (gN 6) (gConsM (gN 7) gNilM))))) (sExpr (mMethT isLst gAppend (mVar 3) (aCons (mTup (aCons (mFn 1 f__law_small (aCons (mVar 4) aNil)) (aCons (mVar 5) (aCons (mCall gInt (aCons (m2 gEq (m2 gIx (mVar 6) (mC (.int 0))) (mC (.str "="))) aNil)) (aCons (mFn 1 f__law_small (aCons (m2 gIx (mVar 6) (mC (.int 1))) aNil)) (aCons (mFn 1 f__law_small (aCons (mVar 7) aNil)) aNil)))))) aNil))))
  (sSeq (sSet 8 (mTup (aCons (m2 gIx (mVar 2) (mC (.int 1))) (aCons (mFn 1 f__law_small (aCons (m2 gIx (mVar 2) (mC (.int 2))) aNil)) (aCons (mFn 1 f__law_states (aCons (m2 gIx (mVar 2) (mC (.int 4))) aNil)) (aCons (mFn 1 f__law_states (aCons (m2 gIx (mVar 2) (mC (.int 6))) aNil)) (aCons (mCall gTuple (aCons (mVar 3) aNil)) aNil)))))))
  (sRet (mIf (mAndT (mB (mFn 1 f_is_machine (aCons (mVar 8) aNil))) (mB (m2 gEq (mFn 1 f__law_text_of (aCons (mVar 8) aNil)) (mVar 0)))) (mVar 8) (mC .non))))))))
def f__law_parsed : FM := defM 11 b__law_parsed
theorem ok__law_parsed (T : Txt K mg) (F_is_machine : FnM P w K mg base 4 "is_machine" 1 f_is_machine) (F__law_text_of : FnM P w K mg base 2 "_law_text_of" 1 f__law_text_of) (F__law_small : FnM P w K mg base 1 "_law_small" 1 f__law_small) (F__law_states : FnM P w K mg base 2 "_law_states" 1 f__law_states) (F : Fun K "_law_parsed" "_law_parsed" s__law_parsed f fd) (hx : mg "_law_parsed" = some (.ref f)) (hb : Binds K fd ["text"] []) : FnM P w K mg base 5 "_law_parsed" 1 f__law_parsed := by
  exact fn_mirror (N := ["text", "lines", "head", "rows", "state", "sign", "price", "goal", "machine", "line", "row"]) (ps := ["text"]) F ⟨rfl, rfl, rfl, by decide +kernel, rfl, by decide +kernel, by decide +kernel⟩ hx hb fun cdv A outer s H E gd hr tk => by
    have nd : (["text", "lines", "head", "rows", "state", "sign", "price", "goal", "machine", "line", "row"] : List Str).Nodup := by decide +kernel
    have lt := lets_of tk
    exact (pms_cons (pms_setLc (i := 1) (own := [("line", 9)]) (t := (.nm 9)) nd (pmi_all (pm_bm PySem.F.plainAttrs_str PySem.F.slot_str_split PySem.F.type_str_split mt_split oIsStr oSplit (pm_var 0) (pma_cons pm_str pma_nil))) (blkOk_by (by kernel_rfl)) (fun s H C cl fp => (pg_name (i := 9) nd rfl (.inl rfl) (.inr rfl))) (fun s H C cl fp => pmts_nil) (fun s H C cl fp => (pm_bm PySem.F.plainAttrs_str PySem.F.slot_str_split PySem.F.type_str_split mt_split oIsStr oSplit (pm_var 9) (pma_cons pm_str pma_nil))))
      (pms_cons (pms_par 2 3 nd (pma_cons (pm_ix ix_seq o2Ix (pm_var 1) pm_int) (pma_cons (pm_lstN pma_nil) pma_nil)))
      (pms_cons (pms_if (PW.pt (pmw_or (pmt_cmp (op_neD hr.units) o2Ne (pm_callB call_len oLen T.n_len (by decide +kernel) (pma_cons (pm_var 2) pma_nil)) pm_int) (pmw_or1 (pmt_cmp (op_neD hr.units) o2Ne (pm_lc (own := [("row", 10)]) (t := (.nm 10)) nd (pmi_all (pm_sl opSlice oSlice (pm_var 1) (pmo_some pm_int) pmo_none)) (blkOk_by (by kernel_rfl)) (fun s H C cl fp => (pg_name (i := 10) nd rfl (.inl rfl) (.inr rfl))) (fun s H C cl fp => (pmts_one (PW.pt (pmw_or (pmt_cmp (op_neD hr.units) o2Ne (pm_callB call_len oLen T.n_len (by decide +kernel) (pma_cons (pm_var 10) pma_nil)) pm_int) (pmw_or1 (pmt_cmp (op_neD hr.units) o2Ne (pm_callB call_len oLen T.n_len (by decide +kernel) (pma_cons (pm_ix ix_seq o2Ix (pm_var 10) pm_int) pma_nil)) pm_int)))))) (fun s H C cl fp => (pm_var 10))) (pm_lst pma_nil))))) (pms_one (pms_ret pm_non)) pms_nil)
      (pms_cons (pms_for (passes_of rfl) (pmi_all (pm_sl opSlice oSlice (pm_var 1) (pmo_some pm_int) pmo_none)) (pmg_tupL (pmgs_cons (pmg_name 4 nd) (pmgs_cons (pmg_name 5 nd) (pmgs_cons (pmg_name 6 nd) (pmgs_cons (pmg_name 7 nd) pmgs_nil))))) (pms_one (pms_expr (pm_bm PySem.F.plainAttrs_list PySem.F.slot_list_append PySem.F.type_list_append mt_append oIsLst oAppend (pm_var 3) (pma_cons (pm_tup (pma_cons (pm_fn_call (F__law_small.mono (by decide)) hr gd lt (pma_cons (pm_var 4) pma_nil)) (pma_cons (pm_var 5) (pma_cons (pm_callTy opInt oInt T.n_int (by decide +kernel) (pma_cons (pm_cmp (op_eqD hr.units) o2Eq (pm_ix ix_seq o2Ix (pm_var 6) pm_int) pm_str) pma_nil)) (pma_cons (pm_fn_call (F__law_small.mono (by decide)) hr gd lt (pma_cons (pm_ix ix_seq o2Ix (pm_var 6) pm_int) pma_nil)) (pma_cons (pm_fn_call (F__law_small.mono (by decide)) hr gd lt (pma_cons (pm_var 7) pma_nil)) pma_nil)))))) pma_nil)))))
      (pms_cons (pms_set 8 nd (pm_tup (pma_cons (pm_ix ix_seq o2Ix (pm_var 2) pm_int) (pma_cons (pm_fn_call (F__law_small.mono (by decide)) hr gd lt (pma_cons (pm_ix ix_seq o2Ix (pm_var 2) pm_int) pma_nil)) (pma_cons (pm_fn_call (F__law_states.mono (by decide)) hr gd lt (pma_cons (pm_ix ix_seq o2Ix (pm_var 2) pm_int) pma_nil)) (pma_cons (pm_fn_call (F__law_states.mono (by decide)) hr gd lt (pma_cons (pm_ix ix_seq o2Ix (pm_var 2) pm_int) pma_nil)) (pma_cons (pm_callTy call_tuple_of oTuple T.n_tuple (by decide +kernel) (pma_cons (pm_var 3) pma_nil)) pma_nil)))))))
      (pms_one (pms_ret (pm_if (PW.pt (pmw_and (pmt_val (pm_fn_call (F_is_machine.mono (by decide)) hr gd lt (pma_cons (pm_var 8) pma_nil))) (pmw_and1 (pmt_cmp (op_eqD hr.units) o2Eq (pm_fn_call (F__law_text_of.mono (by decide)) hr gd lt (pma_cons (pm_var 8) pma_nil)) (pm_var 0))))) (pm_var 8) pm_non))))))))
/-! lines_of -/
def b_lines_of : MS := (sSeq (sIf (mNotT (mB (mCall gIsi (aCons (mVar 0) (aCons (mC (.ty "str")) aNil))))) (sRaise "ParseError") sNext)
  (sRet (mLc (iAll (mMethT isStr gSplit (mVar 0) (aCons (mC (.str "\n")) aNil))) [1] (.nm 1) tYesM (mMethT isStr gSplit (mVar 1) (aCons (mC (.str " ")) aNil)))))
def f_lines_of : FM := defM 2 b_lines_of
theorem ok_lines_of (T : Txt K mg)  (F : Fun K "lines_of" "lines_of" s_lines_of f fd) (hx : mg "lines_of" = some (.ref f)) (hb : Binds K fd ["text"] []) : FnM P w K mg base 1 "lines_of" 1 f_lines_of := by
  obtain ⟨C_ParseError, e_ParseError⟩ := T.x_ParseError
  exact fn_mirror (N := ["text", "line"]) (ps := ["text"]) F ⟨rfl, rfl, rfl, by decide +kernel, rfl, by decide +kernel, by decide +kernel⟩ hx hb fun cdv A outer s H E gd hr tk => by
    have nd : (["text", "line"] : List Str).Nodup := by decide +kernel
    have lt := lets_of tk
    exact (pms_cons (pms_if (pmt_not (pmt_val (pm_callB call_isi oIsi T.n_isinstance (by decide +kernel) (pma_cons (pm_var 0) (pma_cons (pm_ty T.n_str (by decide +kernel)) pma_nil))))) (pms_one (pms_raiseT tk PySem.F.excBase_ValueError e_ParseError)) pms_nil)
      (pms_one (pms_ret (pm_lc (own := [("line", 1)]) (t := (.nm 1)) nd (pmi_all (pm_bm PySem.F.plainAttrs_str PySem.F.slot_str_split PySem.F.type_str_split mt_split oIsStr oSplit (pm_var 0) (pma_cons pm_str pma_nil))) (blkOk_by (by kernel_rfl)) (fun s H C cl fp => (pg_name (i := 1) nd rfl (.inl rfl) (.inr rfl))) (fun s H C cl fp => pmts_nil) (fun s H C cl fp => (pm_bm PySem.F.plainAttrs_str PySem.F.slot_str_split PySem.F.type_str_split mt_split oIsStr oSplit (pm_var 1) (pma_cons pm_str pma_nil)))))))
/-! number_of -/
def b_number_of : MS := (sSeq (sIf (mOrT (mNotT (mB (mChain gLe gLe (mC (.int 1)) (mCall gLen (aCons (mVar 0) aNil)) (mC (.int 6))))) (mNotT (mB (mCall gAll (aCons (mLc (iAll (mVar 0)) [1] (.nm 1) tYesM (m2 gIn (mVar 1) (mC (.str "0123456789")))) aNil))))) (sRaise "ParseError") sNext)
  (sSeq (sIf (mAndT (mB (m2 gNe (mVar 0) (mC (.str "0")))) (mB (m2 gEq (m2 gIx (mVar 0) (mC (.int 0))) (mC (.str "0"))))) (sRaise "ParseError") sNext)
  (sRet (mCall gInt (aCons (mVar 0) aNil)))))
def f_number_of : FM := defM 2 b_number_of
theorem ok_number_of (T : Txt K mg)  (F : Fun K "number_of" "number_of" s_number_of f fd) (hx : mg "number_of" = some (.ref f)) (hb : Binds K fd ["text"] []) : FnM P w K mg base 1 "number_of" 1 f_number_of := by
  obtain ⟨u_DIGITS, g_DIGITS, r_DIGITS⟩ := T.c_DIGITS
  obtain ⟨u_MAX_DIGITS, g_MAX_DIGITS, r_MAX_DIGITS⟩ := T.c_MAX_DIGITS
  obtain ⟨C_ParseError, e_ParseError⟩ := T.x_ParseError
  exact fn_mirror (N := ["text", "sign"]) (ps := ["text"]) F ⟨rfl, rfl, rfl, by decide +kernel, rfl, by decide +kernel, by decide +kernel⟩ hx hb fun cdv A outer s H E gd hr tk => by
    have nd : (["text", "sign"] : List Str).Nodup := by decide +kernel
    have lt := lets_of tk
    exact (pms_cons (pms_if (PW.pt (pmw_or (pmt_not (pmt_chain opLe opLe o2Le o2Le pm_int (pm_callB call_len oLen T.n_len (by decide +kernel) (pma_cons (pm_var 0) pma_nil)) (pm_glob g_MAX_DIGITS r_MAX_DIGITS (fun _ _ => .int _)))) (pmw_or1 (pmt_not (pmt_val (pm_callB (cr_all rfl) oAll T.n_all (by decide +kernel) (pma_cons (pm_lc (own := [("sign", 1)]) (t := (.nm 1)) nd (pmi_all (pm_var 0)) (blkOk_by (by kernel_rfl)) (fun s H C cl fp => (pg_name (i := 1) nd rfl (.inl rfl) (.inr rfl))) (fun s H C cl fp => pmts_nil) (fun s H C cl fp => (pm_cmp opIn o2In (pm_var 1) (pm_glob g_DIGITS r_DIGITS (fun _ _ => .str _))))) pma_nil))))))) (pms_one (pms_raiseT tk PySem.F.excBase_ValueError e_ParseError)) pms_nil)
      (pms_cons (pms_if (PW.pt (pmw_and (pmt_cmp (op_neD hr.units) o2Ne (pm_var 0) pm_str) (pmw_and1 (pmt_cmp (op_eqD hr.units) o2Eq (pm_ix ix_seq o2Ix (pm_var 0) pm_int) pm_str)))) (pms_one (pms_raiseT tk PySem.F.excBase_ValueError e_ParseError)) pms_nil)
      (pms_one (pms_ret (pm_callTy opInt oInt T.n_int (by decide +kernel) (pma_cons (pm_var 0) pma_nil))))))
/-! parsed_step -/
def b_parsed_step : MS := (sSeq (sIf (mOrT (mB (m2 gNe (mCall gLen (aCons (mVar 0) aNil)) (mC (.int 4)))) (mB (m2 gNotIn (mSl gSlice (m2 gIx (mVar 0) (mC (.int 2))) oNone (oSome (mC (.int 1)))) (mTup (aCons (mC (.str "+")) (aCons (mC (.str "=")) aNil)))))) (sRaise "ParseError") sNext)
  (sSeq (sAsg (gTL 4 (gConsM (gN 1) (gConsM (gN 2) (gConsM (gN 3) (gConsM (gN 4) gNilM))))) (mVar 0))
  (sRet (mTup (aCons (mFn 1 f_number_of (aCons (mVar 1) aNil)) (aCons (mVar 2) (aCons (mCall gInt (aCons (m2 gEq (m2 gIx (mVar 3) (mC (.int 0))) (mC (.str "="))) aNil)) (aCons (mFn 1 f_number_of (aCons (mSl gSlice (mVar 3) (oSome (mC (.int 1))) oNone) aNil)) (aCons (mFn 1 f_number_of (aCons (mVar 4) aNil)) aNil)))))))))
def f_parsed_step : FM := defM 5 b_parsed_step
theorem ok_parsed_step (T : Txt K mg) (F_number_of : FnM P w K mg base 1 "number_of" 1 f_number_of) (F : Fun K "parsed_step" "parsed_step" s_parsed_step f fd) (hx : mg "parsed_step" = some (.ref f)) (hb : Binds K fd ["words"] []) : FnM P w K mg base 2 "parsed_step" 1 f_parsed_step := by
  obtain ⟨C_ParseError, e_ParseError⟩ := T.x_ParseError
  exact fn_mirror (N := ["words", "state", "letter", "price", "later"]) (ps := ["words"]) F ⟨rfl, rfl, rfl, by decide +kernel, rfl, by decide +kernel, by decide +kernel⟩ hx hb fun cdv A outer s H E gd hr tk => by
    have nd : (["words", "state", "letter", "price", "later"] : List Str).Nodup := by decide +kernel
    have lt := lets_of tk
    exact (pms_cons (pms_if (PW.pt (pmw_or (pmt_cmp (op_neD hr.units) o2Ne (pm_callB call_len oLen T.n_len (by decide +kernel) (pma_cons (pm_var 0) pma_nil)) pm_int) (pmw_or1 (pmt_cmp opNotIn o2NotIn (pm_sl opSlice oSlice (pm_ix ix_seq o2Ix (pm_var 0) pm_int) pmo_none (pmo_some pm_int)) (pm_tup (pma_cons pm_str (pma_cons pm_str pma_nil))))))) (pms_one (pms_raiseT tk PySem.F.excBase_ValueError e_ParseError)) pms_nil)
      (pms_cons (pms_asg (pm_var 0) (pmg_tupL (pmgs_cons (pmg_name 1 nd) (pmgs_cons (pmg_name 2 nd) (pmgs_cons (pmg_name 3 nd) (pmgs_cons (pmg_name 4 nd) pmgs_nil))))))
      (pms_one (pms_ret (pm_tup (pma_cons (pm_fn_call (F_number_of.mono (by decide)) hr gd lt (pma_cons (pm_var 1) pma_nil)) (pma_cons (pm_var 2) (pma_cons (pm_callTy opInt oInt T.n_int (by decide +kernel) (pma_cons (pm_cmp (op_eqD hr.units) o2Eq (pm_ix ix_seq o2Ix (pm_var 3) pm_int) pm_str) pma_nil)) (pma_cons (pm_fn_call (F_number_of.mono (by decide)) hr gd lt (pma_cons (pm_sl opSlice oSlice (pm_var 3) (pmo_some pm_int) pmo_none) pma_nil)) (pma_cons (pm_fn_call (F_number_of.mono (by decide)) hr gd lt (pma_cons (pm_var 4) pma_nil)) pma_nil))))))))))
/-! numbers_of -/
def b_numbers_of : MS := (sSeq (sIf (mB (m2 gEq (mVar 0) (mC (.str "-")))) (sRet (mTup aNil)) sNext)
  (sRet (mCall gTuple (aCons (mLcX (iAll (mMethT isStr gSplit (mVar 0) (aCons (mVar 1) aNil))) [2] (.nm 2) tYesM (mFn 1 f_number_of (aCons (mVar 2) aNil))) aNil))))
def f_numbers_of : FM := defM 3 b_numbers_of
theorem ok_numbers_of (T : Txt K mg) (F_number_of : FnM P w K mg base 1 "number_of" 1 f_number_of) (F : Fun K "numbers_of" "numbers_of" s_numbers_of f fd) (hx : mg "numbers_of" = some (.ref f)) (hb : Binds K fd ["text", "separator"] []) : FnM P w K mg base 2 "numbers_of" 2 f_numbers_of := by
  obtain ⟨u_NOTHING, g_NOTHING, r_NOTHING⟩ := T.c_NOTHING
  exact fn_mirror (N := ["text", "separator", "part"]) (ps := ["text", "separator"]) F ⟨rfl, rfl, rfl, by decide +kernel, rfl, by decide +kernel, by decide +kernel⟩ hx hb fun cdv A outer s H E gd hr tk => by
    have nd : (["text", "separator", "part"] : List Str).Nodup := by decide +kernel
    have lt := lets_of tk
    exact (pms_cons (pms_if (pmt_cmp (op_eqD hr.units) o2Eq (pm_var 0) (pm_glob g_NOTHING r_NOTHING (fun _ _ => .str _))) (pms_one (pms_ret (pm_tup pma_nil))) pms_nil)
      (pms_one (pms_ret (pm_callTy call_tuple_of oTuple T.n_tuple (by decide +kernel) (pma_cons (pm_lcX (own := [("part", 2)]) (t := (.nm 2)) tk rfl rfl nd (pmi_all (pm_bm PySem.F.plainAttrs_str PySem.F.slot_str_split PySem.F.type_str_split mt_split oIsStr oSplit (pm_var 0) (pma_cons (pm_var 1) pma_nil))) (blkOk_by (by kernel_rfl)) (fun s H C cl fp => (pg_name (i := 2) nd rfl (.inl rfl) (.inr rfl))) (fun s H C cl fp W => pmts_nil') (fun s H C cl fp W l => (pm_fn_call (F_number_of.mono (by decide)) hr gd l (pma_cons (pm_var 2) pma_nil)))) pma_nil)))))
/-! parsed_head -/
def b_parsed_head : MS := (sSeq (sIf (mOrT (mB (m2 gNe (mCall gLen (aCons (mVar 0) aNil)) (mC (.int 7)))) (mB (m2 gNe (mLst (aCons (m2 gIx (mVar 0) (mC (.int 0))) (aCons (m2 gIx (mVar 0) (mC (.int 3))) (aCons (m2 gIx (mVar 0) (mC (.int 5))) aNil)))) (mLst (aCons (mC (.str "machine")) (aCons (mC (.str "starts")) (aCons (mC (.str "finals")) aNil))))))) (sRaise "ParseError") sNext)
  (sRet (mTup (aCons (m2 gIx (mVar 0) (mC (.int 1))) (aCons (mFn 1 f_number_of (aCons (m2 gIx (mVar 0) (mC (.int 2))) aNil)) (aCons (mFn 2 f_numbers_of (aCons (m2 gIx (mVar 0) (mC (.int 4))) (aCons (mC (.str ",")) aNil))) (aCons (mFn 2 f_numbers_of (aCons (m2 gIx (mVar 0) (mC (.int 6))) (aCons (mC (.str ",")) aNil))) aNil)))))))
def f_parsed_head : FM := defM 1 b_parsed_head
theorem ok_parsed_head (T : Txt K mg) (F_number_of : FnM P w K mg base 1 "number_of" 1 f_number_of) (F_numbers_of : FnM P w K mg base 2 "numbers_of" 2 f_numbers_of) (F : Fun K "parsed_head" "parsed_head" s_parsed_head f fd) (hx : mg "parsed_head" = some (.ref f)) (hb : Binds K fd ["words"] []) : FnM P w K mg base 3 "parsed_head" 1 f_parsed_head := by
  obtain ⟨C_ParseError, e_ParseError⟩ := T.x_ParseError
  exact fn_mirror (N := ["words"]) (ps := ["words"]) F ⟨rfl, rfl, rfl, by decide +kernel, rfl, by decide +kernel, by decide +kernel⟩ hx hb fun cdv A outer s H E gd hr tk => by
    have nd : (["words"] : List Str).Nodup := by decide +kernel
    have lt := lets_of tk
    exact (pms_cons (pms_if (PW.pt (pmw_or (pmt_cmp (op_neD hr.units) o2Ne (pm_callB call_len oLen T.n_len (by decide +kernel) (pma_cons (pm_var 0) pma_nil)) pm_int) (pmw_or1 (pmt_cmp (op_neD hr.units) o2Ne (pm_lst (pma_cons (pm_ix ix_seq o2Ix (pm_var 0) pm_int) (pma_cons (pm_ix ix_seq o2Ix (pm_var 0) pm_int) (pma_cons (pm_ix ix_seq o2Ix (pm_var 0) pm_int) pma_nil)))) (pm_lst (pma_cons pm_str (pma_cons pm_str (pma_cons pm_str pma_nil)))))))) (pms_one (pms_raiseT tk PySem.F.excBase_ValueError e_ParseError)) pms_nil)
      (pms_one (pms_ret (pm_tup (pma_cons (pm_ix ix_seq o2Ix (pm_var 0) pm_int) (pma_cons (pm_fn_call (F_number_of.mono (by decide)) hr gd lt (pma_cons (pm_ix ix_seq o2Ix (pm_var 0) pm_int) pma_nil)) (pma_cons (pm_fn_call (F_numbers_of.mono (by decide)) hr gd lt (pma_cons (pm_ix ix_seq o2Ix (pm_var 0) pm_int) (pma_cons pm_str pma_nil))) (pma_cons (pm_fn_call (F_numbers_of.mono (by decide)) hr gd lt (pma_cons (pm_ix ix_seq o2Ix (pm_var 0) pm_int) (pma_cons pm_str pma_nil))) pma_nil))))))))
/-! parse_machine -/
def b_parse_machine : MS := (sSeq (sAsg (gStar (gN 1) (gN 2)) (mFn 1 f_lines_of (aCons (mVar 0) aNil)))
  (sSeq (sSet 3 (m2 gAdd (mFn 1 f_parsed_head (aCons (mVar 1) aNil)) (mTup (aCons (mCall gTuple (aCons (mLcX (iAll (mVar 2)) [4] (.nm 4) tYesM (mFn 1 f_parsed_step (aCons (mVar 4) aNil))) aNil)) aNil))))
  (sSeq (sIf (mOrT (mNotT (mB (mFn 1 f_is_machine (aCons (mVar 3) aNil)))) (mB (m2 gNe (mFn 1 f_machine_text (aCons (mVar 3) aNil)) (mVar 0)))) (sRaise "ParseError") sNext)
  (sRet (mVar 3)))))
def f_parse_machine : FM := defM 5 b_parse_machine
theorem ok_parse_machine (T : Txt K mg) (F_is_machine : FnM P w K mg base 4 "is_machine" 1 f_is_machine) (F_machine_text : FnM P w K mg base 6 "machine_text" 1 f_machine_text) (F_lines_of : FnM P w K mg base 1 "lines_of" 1 f_lines_of) (F_parsed_step : FnM P w K mg base 2 "parsed_step" 1 f_parsed_step) (F_parsed_head : FnM P w K mg base 3 "parsed_head" 1 f_parsed_head) (F : Fun K "parse_machine" "parse_machine" s_parse_machine f fd) (hx : mg "parse_machine" = some (.ref f)) (hb : Binds K fd ["text"] []) : FnM P w K mg base 7 "parse_machine" 1 f_parse_machine := by
  obtain ⟨C_ParseError, e_ParseError⟩ := T.x_ParseError
  exact fn_mirror (N := ["text", "first", "rows", "machine", "words"]) (ps := ["text"]) F ⟨rfl, rfl, rfl, by decide +kernel, rfl, by decide +kernel, by decide +kernel⟩ hx hb fun cdv A outer s H E gd hr tk => by
    have nd : (["text", "first", "rows", "machine", "words"] : List Str).Nodup := by decide +kernel
    have lt := lets_of tk
    exact (pms_cons (pms_asg (pm_fn_call (F_lines_of.mono (by decide)) hr gd lt (pma_cons (pm_var 0) pma_nil)) (pmg_star (pmg_name 1 nd) (pmg_name 2 nd)))
      (pms_cons (pms_set 3 nd (pm_bin opAdd o2Add (pm_fn_call (F_parsed_head.mono (by decide)) hr gd lt (pma_cons (pm_var 1) pma_nil)) (pm_tup (pma_cons (pm_callTy call_tuple_of oTuple T.n_tuple (by decide +kernel) (pma_cons (pm_lcX (own := [("words", 4)]) (t := (.nm 4)) tk rfl rfl nd (pmi_all (pm_var 2)) (blkOk_by (by kernel_rfl)) (fun s H C cl fp => (pg_name (i := 4) nd rfl (.inl rfl) (.inr rfl))) (fun s H C cl fp W => pmts_nil') (fun s H C cl fp W l => (pm_fn_call (F_parsed_step.mono (by decide)) hr gd l (pma_cons (pm_var 4) pma_nil)))) pma_nil)) pma_nil))))
      (pms_cons (pms_if (PW.pt (pmw_or (pmt_not (pmt_val (pm_fn_call (F_is_machine.mono (by decide)) hr gd lt (pma_cons (pm_var 3) pma_nil)))) (pmw_or1 (pmt_cmp (op_neD hr.units) o2Ne (pm_fn_call (F_machine_text.mono (by decide)) hr gd lt (pma_cons (pm_var 3) pma_nil)) (pm_var 0))))) (pms_one (pms_raiseT tk PySem.F.excBase_ValueError e_ParseError)) pms_nil)
      (pms_one (pms_ret (pm_var 3))))))
/-! _law_read_back -/
def b__law_read_back : MS := (sTryIs (sRet (mFn 1 f_parse_machine (aCons (mVar 0) aNil))) 1 sub_LimitError is_ParseError .non (.str "other"))
def f__law_read_back : FM := defM 2 b__law_read_back
theorem ok__law_read_back (T : Txt K mg) (F_parse_machine : FnM P w K mg base 7 "parse_machine" 1 f_parse_machine) (F : Fun K "_law_read_back" "_law_read_back" s__law_read_back f fd) (hx : mg "_law_read_back" = some (.ref f)) (hb : Binds K fd ["text"] []) : FnM P w K mg base 8 "_law_read_back" 1 f__law_read_back := by
  obtain ⟨C_LimitError, e_LimitError⟩ := T.x_LimitError
  obtain ⟨C_ParseError, e_ParseError⟩ := T.x_ParseError
  exact fn_mirror (N := ["text", "e"]) (ps := ["text"]) F ⟨rfl, rfl, rfl, by decide +kernel, rfl, by decide +kernel, by decide +kernel⟩ hx hb fun cdv A outer s H E gd hr tk => by
    have nd : (["text", "e"] : List Str).Nodup := by decide +kernel
    have lt := lets_of tk
    exact (pms_one (pms_tryIs (i := 1) rfl rfl nd rfl rfl ⟨rfl, by decide, .inl e_LimitError.gC⟩ tk (fun W2 pn xe tk2 => (pms_one (pms_ret (pm_fn_call (F_parse_machine.mono (by decide)) hr gd (lets_of tk2) (pma_cons (pm_var 0) pma_nil))))) (T.sub_LimitError e_LimitError.gC) (T.is_ParseError e_ParseError.gC) e_ParseError.gC T.n_isinstance (fun _ _ => .non) (fun _ _ => .str _) (fun _ => pe_non) (fun _ => pe_str)))
/-! _law_spoilt -/
def b__law_spoilt : MS := (sSeq (sPar 2 3 (aCons (mFn 2 f__law_draw (aCons (mVar 0) (aCons (mCall gLen (aCons (mVar 1) aNil)) aNil))) (aCons (mFn 2 f__law_draw (aCons (mVar 0) (aCons (mC (.int 6)) aNil))) aNil)))
  (sSeq (sSet 4 (m2 gIx (mC (.str "ab01239 ,-+=\nz")) (mFn 2 f__law_draw (aCons (mVar 0) (aCons (mC (.int 14)) aNil)))))
  (sSeq (sIf (mB (m2 gEq (mVar 3) (mC (.int 0)))) (sRet (m2 gAdd (mSl gSlice (mVar 1) oNone (oSome (mVar 2))) (mSl gSlice (mVar 1) (oSome (m2 gAdd (mVar 2) (mC (.int 1)))) oNone))) sNext)
  (sSeq (sIf (mB (m2 gEq (mVar 3) (mC (.int 1)))) (sRet (m2 gAdd (m2 gAdd (mSl gSlice (mVar 1) oNone (oSome (mVar 2))) (mVar 4)) (mSl gSlice (mVar 1) (oSome (mVar 2)) oNone))) sNext)
  (sSeq (sIf (mB (m2 gLtD (mVar 3) (mC (.int 4)))) (sRet (m2 gAdd (m2 gAdd (mSl gSlice (mVar 1) oNone (oSome (mVar 2))) (mVar 4)) (mSl gSlice (mVar 1) (oSome (m2 gAdd (mVar 2) (mC (.int 1)))) oNone))) sNext)
  (sSeq (sSet 5 (mMethT isStr gSplit (mVar 1) (aCons (mC (.str "\n")) aNil)))
  (sSeq (sSet 6 (mFn 2 f__law_draw (aCons (mVar 0) (aCons (mCall gLen (aCons (mVar 5) aNil)) aNil))))
  (sSeq (sIf (mB (m2 gEq (mVar 3) (mC (.int 4)))) (sRet (mMethT isStr gJoin (mC (.str "\n")) (aCons (m2 gAdd (mSl gSlice (mVar 5) oNone (oSome (mVar 6))) (mSl gSlice (mVar 5) (oSome (m2 gAdd (mVar 6) (mC (.int 1)))) oNone)) aNil))) sNext)
  (sRet (mMethT isStr gJoin (mC (.str "\n")) (aCons (m2 gAdd (m2 gAdd (mSl gSlice (mVar 5) oNone (oSome (mVar 6))) (mSl gSlice (mVar 5) (oSome (mVar 6)) (oSome (m2 gAdd (mVar 6) (mC (.int 1)))))) (mSl gSlice (mVar 5) (oSome (mVar 6)) oNone)) aNil)))))))))))
def f__law_spoilt : FM := defM 7 b__law_spoilt
theorem ok__law_spoilt (T : Txt K mg) (F__law_draw : FnM P w K mg base 1 "_law_draw" 2 f__law_draw) (F : Fun K "_law_spoilt" "_law_spoilt" s__law_spoilt f fd) (hx : mg "_law_spoilt" = some (.ref f)) (hb : Binds K fd ["stream", "text"] []) : FnM P w K mg base 2 "_law_spoilt" 2 f__law_spoilt := by
  exact fn_mirror (N := ["stream", "text", "at", "way", "sign", "lines", "place"]) (ps := ["stream", "text"]) F ⟨rfl, rfl, rfl, by decide +kernel, rfl, by decide +kernel, by decide +kernel⟩ hx hb fun cdv A outer s H E gd hr tk => by
    have nd : (["stream", "text", "at", "way", "sign", "lines", "place"] : List Str).Nodup := by decide +kernel
    have lt := lets_of tk
    exact (pms_cons (pms_par 2 3 nd (pma_cons (pm_fn_call (F__law_draw.mono (by decide)) hr gd lt (pma_cons (pm_var 0) (pma_cons (pm_callB call_len oLen T.n_len (by decide +kernel) (pma_cons (pm_var 1) pma_nil)) pma_nil))) (pma_cons (pm_fn_call (F__law_draw.mono (by decide)) hr gd lt (pma_cons (pm_var 0) (pma_cons pm_int pma_nil))) pma_nil)))
      (pms_cons (pms_set 4 nd (pm_ix ix_seq o2Ix pm_str (pm_fn_call (F__law_draw.mono (by decide)) hr gd lt (pma_cons (pm_var 0) (pma_cons pm_int pma_nil)))))
      (pms_cons (pms_if (pmt_cmp (op_eqD hr.units) o2Eq (pm_var 3) pm_int) (pms_one (pms_ret (pm_bin opAdd o2Add (pm_sl opSlice oSlice (pm_var 1) pmo_none (pmo_some (pm_var 2))) (pm_sl opSlice oSlice (pm_var 1) (pmo_some (pm_bin opAdd o2Add (pm_var 2) pm_int)) pmo_none)))) pms_nil)
      (pms_cons (pms_if (pmt_cmp (op_eqD hr.units) o2Eq (pm_var 3) pm_int) (pms_one (pms_ret (pm_bin opAdd o2Add (pm_bin opAdd o2Add (pm_sl opSlice oSlice (pm_var 1) pmo_none (pmo_some (pm_var 2))) (pm_var 4)) (pm_sl opSlice oSlice (pm_var 1) (pmo_some (pm_var 2)) pmo_none)))) pms_nil)
      (pms_cons (pms_if (pmt_cmp (opLtD hr.units) o2LtD (pm_var 3) pm_int) (pms_one (pms_ret (pm_bin opAdd o2Add (pm_bin opAdd o2Add (pm_sl opSlice oSlice (pm_var 1) pmo_none (pmo_some (pm_var 2))) (pm_var 4)) (pm_sl opSlice oSlice (pm_var 1) (pmo_some (pm_bin opAdd o2Add (pm_var 2) pm_int)) pmo_none)))) pms_nil)
      (pms_cons (pms_set 5 nd (pm_bm PySem.F.plainAttrs_str PySem.F.slot_str_split PySem.F.type_str_split mt_split oIsStr oSplit (pm_var 1) (pma_cons pm_str pma_nil)))
      (pms_cons (pms_set 6 nd (pm_fn_call (F__law_draw.mono (by decide)) hr gd lt (pma_cons (pm_var 0) (pma_cons (pm_callB call_len oLen T.n_len (by decide +kernel) (pma_cons (pm_var 5) pma_nil)) pma_nil))))
      (pms_cons (pms_if (pmt_cmp (op_eqD hr.units) o2Eq (pm_var 3) pm_int) (pms_one (pms_ret (pm_bm PySem.F.plainAttrs_str PySem.F.slot_str_join PySem.F.type_str_join mt_join oIsStr oJoin pm_str (pma_cons (pm_bin opAdd o2Add (pm_sl opSlice oSlice (pm_var 5) pmo_none (pmo_some (pm_var 6))) (pm_sl opSlice oSlice (pm_var 5) (pmo_some (pm_bin opAdd o2Add (pm_var 6) pm_int)) pmo_none)) pma_nil)))) pms_nil)
      (pms_one (pms_ret (pm_bm PySem.F.plainAttrs_str PySem.F.slot_str_join PySem.F.type_str_join mt_join oIsStr oJoin pm_str (pma_cons (pm_bin opAdd o2Add (pm_bin opAdd o2Add (pm_sl opSlice oSlice (pm_var 5) pmo_none (pmo_some (pm_var 6))) (pm_sl opSlice oSlice (pm_var 5) (pmo_some (pm_var 6)) (pmo_some (pm_bin opAdd o2Add (pm_var 6) pm_int)))) (pm_sl opSlice oSlice (pm_var 5) (pmo_some (pm_var 6)) pmo_none)) pma_nil))))))))))))
/-! law -/
def b_law : MS := (sSeq (sFor (MR.iRng (aCons (mCall gMax (aCons (mC (.int 1)) (aCons (mCall gMin (aCons (mC (.int 8)) (aCons (mCall gLen (aCons (mVar 0) aNil)) aNil))) aNil))) aNil)) (gN 1) (sSeq (sSet 2 (mFn 2 f__law_stream (aCons (mVar 0) (aCons (mVar 1) aNil))))
  (sSeq (sSet 3 (m2 gIx (mLst (aCons (mC (.str "a")) (aCons (mC (.str "ab")) (aCons (mC (.str "abc")) (aCons (mC (.str "bxyz")) aNil))))) (mFn 2 f__law_draw (aCons (mVar 2) (aCons (mC (.int 4)) aNil)))))
  (sSeq (sSet 4 (mFn 4 f__law_machine (aCons (mVar 2) (aCons (mVar 3) (aCons (m2 gAdd (mC (.int 1)) (mFn 2 f__law_draw (aCons (mVar 2) (aCons (mC (.int 8)) aNil)))) (aCons (mFn 2 f__law_draw (aCons (mVar 2) (aCons (mC (.int 3)) aNil))) aNil))))))
  (sSeq (sPar 5 6 (aCons (mFn 1 f__law_text_of (aCons (mVar 4) aNil)) (aCons (mCall gRepr (aCons (mVar 4) aNil)) aNil)))
  (sSeq (sIf (mOrT (mB (m2 gNe (mCall gRepr (aCons (mFn 1 f_machine_text (aCons (mVar 4) aNil)) aNil)) (mCall gRepr (aCons (mVar 5) aNil)))) (mB (m2 gNe (mCall gRepr (aCons (mVar 4) aNil)) (mVar 6)))) (sRet (mC (.bl false))) sNext)
  (sSeq (sIf (mOrT (mB (m2 gNe (mCall gRepr (aCons (mFn 1 f__law_read_back (aCons (mVar 5) aNil)) aNil)) (mVar 6))) (mB (m2 gNe (mCall gRepr (aCons (mFn 1 f__law_parsed (aCons (mVar 5) aNil)) aNil)) (mVar 6)))) (sRet (mC (.bl false))) sNext)
  (sFor (MR.iRng (aCons (mC (.int 14)) aNil)) (gN 7) (sSeq (sSet 8 (mFn 2 f__law_spoilt (aCons (mVar 2) (aCons (mVar 5) aNil))))
  (sIf (mB (m2 gNe (mCall gRepr (aCons (mFn 1 f__law_read_back (aCons (mVar 8) aNil)) aNil)) (mCall gRepr (aCons (mFn 1 f__law_parsed (aCons (mVar 8) aNil)) aNil)))) (sRet (mC (.bl false))) sNext))))))))))
  (sSeq (sSet 9 (mCall gTuple (aCons (mCall gSortedG (aCons (mLc (MR.iRng (aCons (mC (.int 60)) aNil)) [1] (.nm 1) tYesM (mTup (aCons (m2 gMod (mVar 1) (mC (.int 8))) (aCons (m2 gIx (mC (.str "abcd")) (m2 gMod (m2 gDiv (mVar 1) (mC (.int 8))) (mC (.int 4)))) (aCons (m2 gDiv (mVar 1) (mC (.int 32))) (aCons (m2 gMod (mVar 1) (mC (.int 4))) (aCons (m2 gMod (m2 gAdd (mVar 1) (mC (.int 3))) (mC (.int 8))) aNil))))))) aNil)) aNil)))
  (sSeq (sSet 10 (mTup (aCons (mC (.str "abcd")) (aCons (mC (.int 8)) (aCons (mTup aNil) (aCons (mTupRg (mC (.int 8))) (aCons (mVar 9) aNil)))))))
  (sSeq (sIf (mOrT (mB (m2 gNe (mFn 1 f__law_read_back (aCons (mFn 1 f_machine_text (aCons (mVar 10) aNil)) aNil)) (mVar 10))) (mB (m2 gNe (mMethT isStr gCount (mFn 1 f_machine_text (aCons (mVar 10) aNil)) (aCons (mC (.str "\n")) aNil)) (mC (.int 60))))) (sRet (mC (.bl false))) sNext)
  (sSeq (sSet 11 (mC (.str "machine a 1 starts - finals -")))
  (sSeq (sSet 12 (mLst (aCons (mVar 11) (aCons (mC (.str "machine a 1 starts 0 finals 0\n0 a =3 0")) (aCons (mC (.str "machine a 1 starts 0,0 finals -")) (aCons (m2 gAdd (mVar 11) (mC (.str "\n"))) aNil))))))
  (sSeq (sSet 12 (m2 gAdd (mVar 12) (mLst (aCons (mC (.str "machine  a 1 starts - finals -")) (aCons (mC (.str "machine a 01 starts - finals -")) (aCons (mC (.str "")) (aCons (m2 gAdd (mC (.str "M")) (mSl gSlice (mVar 11) (oSome (mC (.int 1))) oNone)) aNil)))))))
  (sSeq (sSet 12 (m2 gAdd (mVar 12) (mLst (aCons (m2 gAdd (mVar 11) (mC (.str " "))) (aCons (mC (.str "machine a 9 starts - finals -")) (aCons (mC (.str "machine a 2 starts 1,0 finals -")) aNil))))))
  (sSeq (sSet 13 (m2 gMulS (mC (.str "9")) (mC (.int 5000))))
  (sSeq (sSet 12 (m2 gAdd (mVar 12) (mLst (aCons (m2 gAdd (mVar 11) (mC (.str "\n0 a 1 0"))) (aCons (mC (.str "machine a 1 starts , finals -")) (aCons (m2 gAdd (m2 gAdd (mC (.str "machine a ")) (mVar 13)) (mC (.str " starts - finals -"))) aNil))))))
  (sSeq (sSet 12 (m2 gAdd (mVar 12) (mLst (aCons (m2 gAdd (m2 gAdd (mC (.str "machine a 1 starts ")) (mVar 13)) (mC (.str " finals -"))) (aCons (m2 gAdd (m2 gAdd (m2 gAdd (mVar 11) (mC (.str "\n0 a +"))) (mVar 13)) (mC (.str " 0"))) aNil)))))
  (sSeq (sSet 14 (m2 gAdd (mLst (aCons (mTup (aCons (mC (.str "a")) (aCons (mC (.int 1)) (aCons (mTup aNil) (aCons (mTup aNil) (aCons (mTup aNil) aNil)))))) (aCons (mTup (aCons (mC (.str "a")) (aCons (mC (.int 1)) (aCons (mTup (aCons (mC (.int 0)) aNil)) (aCons (mTup (aCons (mC (.int 0)) aNil)) (aCons (mTup (aCons (mTup (aCons (mC (.int 0)) (aCons (mC (.str "a")) (aCons (mC (.int 1)) (aCons (mC (.int 3)) (aCons (mC (.int 0)) aNil)))))) aNil)) aNil)))))) aNil))) (m2 gMulS (mLst (aCons (mC .non) aNil)) (mC (.int 14)))))
  (sRet (m2 gEq (mLc (iAll (mVar 12)) [5] (.nm 5) tYesM (mFn 1 f__law_read_back (aCons (mVar 5) aNil))) (mVar 14)))))))))))))))
def f_law : FM := defM 15 b_law
theorem ok_law (T : Txt K mg) (F_machine_text : FnM P w K mg base 6 "machine_text" 1 f_machine_text) (F__law_stream : FnM P w K mg base 1 "_law_stream" 2 f__law_stream) (F__law_draw : FnM P w K mg base 1 "_law_draw" 2 f__law_draw) (F__law_machine : FnM P w K mg base 3 "_law_machine" 4 f__law_machine) (F__law_text_of : FnM P w K mg base 2 "_law_text_of" 1 f__law_text_of) (F__law_parsed : FnM P w K mg base 5 "_law_parsed" 1 f__law_parsed) (F__law_read_back : FnM P w K mg base 8 "_law_read_back" 1 f__law_read_back) (F__law_spoilt : FnM P w K mg base 2 "_law_spoilt" 2 f__law_spoilt) (F : Fun K "law" "law" s_law f fd) : FnG P w K mg base 9 f fd ["script"] (spM ⟨K, mg, P, w⟩ 1 f_law) := by
  exact fn_mirrorG (N := ["script", "at", "stream", "signs", "machine", "text", "before", "turn", "other", "rows", "wide", "plain", "texts", "digits", "due"]) (ps := ["script"]) F ⟨rfl, rfl, rfl, by decide +kernel, rfl, by decide +kernel, by decide +kernel⟩ fun cdv A outer s H E gd hr tk => by
    have nd : (["script", "at", "stream", "signs", "machine", "text", "before", "turn", "other", "rows", "wide", "plain", "texts", "digits", "due"] : List Str).Nodup := by decide +kernel
    have lt := lets_of tk
    exact (pms_cons (pms_for (passes_of rfl) (pmi_rng T.n_range (pma_cons (pm_callB (call_max2 rfl) oMax T.n_max (by decide +kernel) (pma_cons pm_int (pma_cons (pm_callB (call_min2 rfl) oMin T.n_min (by decide +kernel) (pma_cons pm_int (pma_cons (pm_callB call_len oLen T.n_len (by decide +kernel) (pma_cons (pm_var 0) pma_nil)) pma_nil))) pma_nil))) pma_nil)) (pmg_name 1 nd) (pms_cons (pms_set 2 nd (pm_fn_call (F__law_stream.mono (by decide)) hr gd lt (pma_cons (pm_var 0) (pma_cons (pm_var 1) pma_nil))))
      (pms_cons (pms_set 3 nd (pm_ix ix_seq o2Ix (pm_lst (pma_cons pm_str (pma_cons pm_str (pma_cons pm_str (pma_cons pm_str pma_nil))))) (pm_fn_call (F__law_draw.mono (by decide)) hr gd lt (pma_cons (pm_var 2) (pma_cons pm_int pma_nil)))))
      (pms_cons (pms_set 4 nd (pm_fn_call (F__law_machine.mono (by decide)) hr gd lt (pma_cons (pm_var 2) (pma_cons (pm_var 3) (pma_cons (pm_bin opAdd o2Add pm_int (pm_fn_call (F__law_draw.mono (by decide)) hr gd lt (pma_cons (pm_var 2) (pma_cons pm_int pma_nil)))) (pma_cons (pm_fn_call (F__law_draw.mono (by decide)) hr gd lt (pma_cons (pm_var 2) (pma_cons pm_int pma_nil))) pma_nil))))))
      (pms_cons (pms_par 5 6 nd (pma_cons (pm_fn_call (F__law_text_of.mono (by decide)) hr gd lt (pma_cons (pm_var 4) pma_nil)) (pma_cons (pm_callB (call_reprD gd hr.units) oRepr T.n_repr (by decide +kernel) (pma_cons (pm_var 4) pma_nil)) pma_nil)))
      (pms_cons (pms_if (PW.pt (pmw_or (pmt_cmp (op_neD hr.units) o2Ne (pm_callB (call_reprD gd hr.units) oRepr T.n_repr (by decide +kernel) (pma_cons (pm_fn_call (F_machine_text.mono (by decide)) hr gd lt (pma_cons (pm_var 4) pma_nil)) pma_nil)) (pm_callB (call_reprD gd hr.units) oRepr T.n_repr (by decide +kernel) (pma_cons (pm_var 5) pma_nil))) (pmw_or1 (pmt_cmp (op_neD hr.units) o2Ne (pm_callB (call_reprD gd hr.units) oRepr T.n_repr (by decide +kernel) (pma_cons (pm_var 4) pma_nil)) (pm_var 6))))) (pms_one (pms_ret pm_bl)) pms_nil)
      (pms_cons (pms_if (PW.pt (pmw_or (pmt_cmp (op_neD hr.units) o2Ne (pm_callB (call_reprD gd hr.units) oRepr T.n_repr (by decide +kernel) (pma_cons (pm_fn_call (F__law_read_back.mono (by decide)) hr gd lt (pma_cons (pm_var 5) pma_nil)) pma_nil)) (pm_var 6)) (pmw_or1 (pmt_cmp (op_neD hr.units) o2Ne (pm_callB (call_reprD gd hr.units) oRepr T.n_repr (by decide +kernel) (pma_cons (pm_fn_call (F__law_parsed.mono (by decide)) hr gd lt (pma_cons (pm_var 5) pma_nil)) pma_nil)) (pm_var 6))))) (pms_one (pms_ret pm_bl)) pms_nil)
      (pms_one (pms_for (passes_of rfl) (pmi_rng T.n_range (pma_cons pm_int pma_nil)) (pmg_name 7 nd) (pms_cons (pms_set 8 nd (pm_fn_call (F__law_spoilt.mono (by decide)) hr gd lt (pma_cons (pm_var 2) (pma_cons (pm_var 5) pma_nil))))
      (pms_one (pms_if (pmt_cmp (op_neD hr.units) o2Ne (pm_callB (call_reprD gd hr.units) oRepr T.n_repr (by decide +kernel) (pma_cons (pm_fn_call (F__law_read_back.mono (by decide)) hr gd lt (pma_cons (pm_var 8) pma_nil)) pma_nil)) (pm_callB (call_reprD gd hr.units) oRepr T.n_repr (by decide +kernel) (pma_cons (pm_fn_call (F__law_parsed.mono (by decide)) hr gd lt (pma_cons (pm_var 8) pma_nil)) pma_nil))) (pms_one (pms_ret pm_bl)) pms_nil))))))))))))
      (pms_cons (pms_set 9 nd (pm_callTy call_tuple_of oTuple T.n_tuple (by decide +kernel) (pma_cons (pm_callB (cr_sortG hr.units) oSortedG T.n_sorted (by decide +kernel) (pma_cons (pm_lc (own := [("at", 1)]) (t := (.nm 1)) nd (pmi_rng T.n_range (pma_cons pm_int pma_nil)) (blkOk_by (by kernel_rfl)) (fun s H C cl fp => (pg_name (i := 1) nd rfl (.inl rfl) (.inr rfl))) (fun s H C cl fp => pmts_nil) (fun s H C cl fp => (pm_tup (pma_cons (pm_bin op_mod o2Mod (pm_var 1) pm_int) (pma_cons (pm_ix ix_seq o2Ix pm_str (pm_bin op_mod o2Mod (pm_bin op_fdivW o2Div (pm_var 1) pm_int) pm_int)) (pma_cons (pm_bin op_fdivW o2Div (pm_var 1) pm_int) (pma_cons (pm_bin op_mod o2Mod (pm_var 1) pm_int) (pma_cons (pm_bin op_mod o2Mod (pm_bin opAdd o2Add (pm_var 1) pm_int) pm_int) pma_nil)))))))) pma_nil)) pma_nil)))
      (pms_cons (pms_set 10 nd (pm_tup (pma_cons pm_str (pma_cons pm_int (pma_cons (pm_tup pma_nil) (pma_cons (pm_tupRg rfl T.n_tuple T.n_range pm_int) (pma_cons (pm_var 9) pma_nil)))))))
      (pms_cons (pms_if (PW.pt (pmw_or (pmt_cmp (op_neD hr.units) o2Ne (pm_fn_call (F__law_read_back.mono (by decide)) hr gd lt (pma_cons (pm_fn_call (F_machine_text.mono (by decide)) hr gd lt (pma_cons (pm_var 10) pma_nil)) pma_nil)) (pm_var 10)) (pmw_or1 (pmt_cmp (op_neD hr.units) o2Ne (pm_bm PySem.F.plainAttrs_str PySem.F.slot_str_count PySem.F.type_str_count mt_count oIsStr oCount (pm_fn_call (F_machine_text.mono (by decide)) hr gd lt (pma_cons (pm_var 10) pma_nil)) (pma_cons pm_str pma_nil)) pm_int)))) (pms_one (pms_ret pm_bl)) pms_nil)
      (pms_cons (pms_set 11 nd pm_str)
      (pms_cons (pms_set 12 nd (pm_lst (pma_cons (pm_var 11) (pma_cons pm_str (pma_cons pm_str (pma_cons (pm_bin opAdd o2Add (pm_var 11) pm_str) pma_nil))))))
      (pms_cons (pms_set 12 nd (pm_bin opAdd o2Add (pm_var 12) (pm_lst (pma_cons pm_str (pma_cons pm_str (pma_cons pm_str (pma_cons (pm_bin opAdd o2Add pm_str (pm_sl opSlice oSlice (pm_var 11) (pmo_some pm_int) pmo_none)) pma_nil)))))))
      (pms_cons (pms_set 12 nd (pm_bin opAdd o2Add (pm_var 12) (pm_lst (pma_cons (pm_bin opAdd o2Add (pm_var 11) pm_str) (pma_cons pm_str (pma_cons pm_str pma_nil))))))
      (pms_cons (pms_set 13 nd (pm_bin opMulA o2MulA pm_str pm_int))
      (pms_cons (pms_set 12 nd (pm_bin opAdd o2Add (pm_var 12) (pm_lst (pma_cons (pm_bin opAdd o2Add (pm_var 11) pm_str) (pma_cons pm_str (pma_cons (pm_bin opAdd o2Add (pm_bin opAdd o2Add pm_str (pm_var 13)) pm_str) pma_nil))))))
      (pms_cons (pms_set 12 nd (pm_bin opAdd o2Add (pm_var 12) (pm_lst (pma_cons (pm_bin opAdd o2Add (pm_bin opAdd o2Add pm_str (pm_var 13)) pm_str) (pma_cons (pm_bin opAdd o2Add (pm_bin opAdd o2Add (pm_bin opAdd o2Add (pm_var 11) pm_str) (pm_var 13)) pm_str) pma_nil)))))
      (pms_cons (pms_set 14 nd (pm_bin opAdd o2Add (pm_lst (pma_cons (pm_tup (pma_cons pm_str (pma_cons pm_int (pma_cons (pm_tup pma_nil) (pma_cons (pm_tup pma_nil) (pma_cons (pm_tup pma_nil) pma_nil)))))) (pma_cons (pm_tup (pma_cons pm_str (pma_cons pm_int (pma_cons (pm_tup (pma_cons pm_int pma_nil)) (pma_cons (pm_tup (pma_cons pm_int pma_nil)) (pma_cons (pm_tup (pma_cons (pm_tup (pma_cons pm_int (pma_cons pm_str (pma_cons pm_int (pma_cons pm_int (pma_cons pm_int pma_nil)))))) pma_nil)) pma_nil)))))) pma_nil))) (pm_bin opMulA o2MulA (pm_lst (pma_cons pm_non pma_nil)) pm_int)))
      (pms_one (pms_ret (pm_cmp (op_eqD hr.units) o2Eq (pm_lc (own := [("text", 5)]) (t := (.nm 5)) nd (pmi_all (pm_var 12)) (blkOk_by (by kernel_rfl)) (fun s H C cl fp => (pg_name (i := 5) nd rfl (.inl rfl) (.inr rfl))) (fun s H C cl fp => pmts_nil) (fun s H C cl fp => (pm_fn_call (F__law_read_back.mono (by decide)) hr gd lets0 (pma_cons (pm_var 5) pma_nil)))) (pm_var 14))))))))))))))))
end
set_option maxHeartbeats 4000000 in
theorem law_mk {P : Program} {w : World} {K : PySem.W.Frag} {h : Heap} {mg : Str → Option Value} {fa : Addr} (X : K.In h) (G : h.Ns mainGlobals mg) (hfa : mg "law" = some (.ref fa))
    {f_is_integer_ : Addr} {oc_is_integer kv_is_integer dc_is_integer pm_is_integer cd_is_integer ct_is_integer : Value} {od_is_integer an_is_integer : Option Addr} {sl_is_integer : Array (Option Value)}
    {f_is_sign_ : Addr} {oc_is_sign kv_is_sign dc_is_sign pm_is_sign cd_is_sign ct_is_sign : Value} {od_is_sign an_is_sign : Option Addr} {sl_is_sign : Array (Option Value)}
    {f_is_alphabet_ : Addr} {oc_is_alphabet kv_is_alphabet dc_is_alphabet pm_is_alphabet cd_is_alphabet ct_is_alphabet : Value} {od_is_alphabet an_is_alphabet : Option Addr} {sl_is_alphabet : Array (Option Value)}
    {f_are_ascending_ : Addr} {oc_are_ascending kv_are_ascending dc_are_ascending pm_are_ascending cd_are_ascending ct_are_ascending : Value} {od_are_ascending an_are_ascending : Option Addr} {sl_are_ascending : Array (Option Value)}
    {f_are_states_ : Addr} {oc_are_states kv_are_states dc_are_states pm_are_states cd_are_states ct_are_states : Value} {od_are_states an_are_states : Option Addr} {sl_are_states : Array (Option Value)}
    {f_is_letter_ : Addr} {oc_is_letter kv_is_letter dc_is_letter pm_is_letter cd_is_letter ct_is_letter : Value} {od_is_letter an_is_letter : Option Addr} {sl_is_letter : Array (Option Value)}
    {f_is_step_ : Addr} {oc_is_step kv_is_step dc_is_step pm_is_step cd_is_step ct_is_step : Value} {od_is_step an_is_step : Option Addr} {sl_is_step : Array (Option Value)}
    {f_is_machine_ : Addr} {oc_is_machine kv_is_machine dc_is_machine pm_is_machine cd_is_machine ct_is_machine : Value} {od_is_machine an_is_machine : Option Addr} {sl_is_machine : Array (Option Value)}
    {f_require_machine_ : Addr} {oc_require_machine kv_require_machine dc_require_machine pm_require_machine cd_require_machine ct_require_machine : Value} {od_require_machine an_require_machine : Option Addr} {sl_require_machine : Array (Option Value)}
    {f_numbers_text_ : Addr} {oc_numbers_text kv_numbers_text dc_numbers_text pm_numbers_text cd_numbers_text ct_numbers_text : Value} {od_numbers_text an_numbers_text : Option Addr} {sl_numbers_text : Array (Option Value)}
    {f_step_text_ : Addr} {oc_step_text kv_step_text dc_step_text pm_step_text cd_step_text ct_step_text : Value} {od_step_text an_step_text : Option Addr} {sl_step_text : Array (Option Value)}
    {f_machine_text_ : Addr} {oc_machine_text kv_machine_text dc_machine_text pm_machine_text cd_machine_text ct_machine_text : Value} {od_machine_text an_machine_text : Option Addr} {sl_machine_text : Array (Option Value)}
    {f__law_stream_ : Addr} {oc__law_stream kv__law_stream dc__law_stream pm__law_stream cd__law_stream ct__law_stream : Value} {od__law_stream an__law_stream : Option Addr} {sl__law_stream : Array (Option Value)}
    {f__law_draw_ : Addr} {oc__law_draw kv__law_draw dc__law_draw pm__law_draw cd__law_draw ct__law_draw : Value} {od__law_draw an__law_draw : Option Addr} {sl__law_draw : Array (Option Value)}
    {f__law_step_ : Addr} {oc__law_step kv__law_step dc__law_step pm__law_step cd__law_step ct__law_step : Value} {od__law_step an__law_step : Option Addr} {sl__law_step : Array (Option Value)}
    {f__law_machine_ : Addr} {oc__law_machine kv__law_machine dc__law_machine pm__law_machine cd__law_machine ct__law_machine : Value} {od__law_machine an__law_machine : Option Addr} {sl__law_machine : Array (Option Value)}
    {f__law_listed_ : Addr} {oc__law_listed kv__law_listed dc__law_listed pm__law_listed cd__law_listed ct__law_listed : Value} {od__law_listed an__law_listed : Option Addr} {sl__law_listed : Array (Option Value)}
    {f__law_text_of_ : Addr} {oc__law_text_of kv__law_text_of dc__law_text_of pm__law_text_of cd__law_text_of ct__law_text_of : Value} {od__law_text_of an__law_text_of : Option Addr} {sl__law_text_of : Array (Option Value)}
    {f__law_small_ : Addr} {oc__law_small kv__law_small dc__law_small pm__law_small cd__law_small ct__law_small : Value} {od__law_small an__law_small : Option Addr} {sl__law_small : Array (Option Value)}
    {f__law_states_ : Addr} {oc__law_states kv__law_states dc__law_states pm__law_states cd__law_states ct__law_states : Value} {od__law_states an__law_states : Option Addr} {sl__law_states : Array (Option Value)}
    {f__law_parsed_ : Addr} {oc__law_parsed kv__law_parsed dc__law_parsed pm__law_parsed cd__law_parsed ct__law_parsed : Value} {od__law_parsed an__law_parsed : Option Addr} {sl__law_parsed : Array (Option Value)}
    {f_lines_of_ : Addr} {oc_lines_of kv_lines_of dc_lines_of pm_lines_of cd_lines_of ct_lines_of : Value} {od_lines_of an_lines_of : Option Addr} {sl_lines_of : Array (Option Value)}
    {f_number_of_ : Addr} {oc_number_of kv_number_of dc_number_of pm_number_of cd_number_of ct_number_of : Value} {od_number_of an_number_of : Option Addr} {sl_number_of : Array (Option Value)}
    {f_parsed_step_ : Addr} {oc_parsed_step kv_parsed_step dc_parsed_step pm_parsed_step cd_parsed_step ct_parsed_step : Value} {od_parsed_step an_parsed_step : Option Addr} {sl_parsed_step : Array (Option Value)}
    {f_numbers_of_ : Addr} {oc_numbers_of kv_numbers_of dc_numbers_of pm_numbers_of cd_numbers_of ct_numbers_of : Value} {od_numbers_of an_numbers_of : Option Addr} {sl_numbers_of : Array (Option Value)}
    {f_parsed_head_ : Addr} {oc_parsed_head kv_parsed_head dc_parsed_head pm_parsed_head cd_parsed_head ct_parsed_head : Value} {od_parsed_head an_parsed_head : Option Addr} {sl_parsed_head : Array (Option Value)}
    {f_parse_machine_ : Addr} {oc_parse_machine kv_parse_machine dc_parse_machine pm_parse_machine cd_parse_machine ct_parse_machine : Value} {od_parse_machine an_parse_machine : Option Addr} {sl_parse_machine : Array (Option Value)}
    {f__law_read_back_ : Addr} {oc__law_read_back kv__law_read_back dc__law_read_back pm__law_read_back cd__law_read_back ct__law_read_back : Value} {od__law_read_back an__law_read_back : Option Addr} {sl__law_read_back : Array (Option Value)}
    {f__law_spoilt_ : Addr} {oc__law_spoilt kv__law_spoilt dc__law_spoilt pm__law_spoilt cd__law_spoilt ct__law_spoilt : Value} {od__law_spoilt an__law_spoilt : Option Addr} {sl__law_spoilt : Array (Option Value)}
    {f_law_ : Addr} {oc_law kv_law dc_law pm_law cd_law ct_law : Value} {od_law an_law : Option Addr} {sl_law : Array (Option Value)}
    {C_LimitError : Addr} (x_LimitError : ExK K "LimitError" C_LimitError [.type "ValueError", .type "Exception", .type "BaseException", .type "object"] "ValueError.__new__")
    {C_InvalidMachine : Addr} (x_InvalidMachine : ExK K "InvalidMachine" C_InvalidMachine [.type "ValueError", .type "Exception", .type "BaseException", .type "object"] "ValueError.__new__")
    {C_ParseError : Addr} (x_ParseError : ExK K "ParseError" C_ParseError [.type "ValueError", .type "Exception", .type "BaseException", .type "object"] "ValueError.__new__")
    (s_LimitError_LimitError : PySem.W.subIn K (.ref C_LimitError) (.ref C_LimitError) = some true)
    (s_LimitError_InvalidMachine : PySem.W.subIn K (.ref C_InvalidMachine) (.ref C_LimitError) = some true)
    (s_LimitError_ParseError : PySem.W.subIn K (.ref C_ParseError) (.ref C_LimitError) = some true)
    (s_ParseError_LimitError : PySem.W.subIn K (.ref C_LimitError) (.ref C_ParseError) = some false)
    (d_ParseError_LimitError : C_LimitError ≠ C_ParseError)
    (s_ParseError_InvalidMachine : PySem.W.subIn K (.ref C_InvalidMachine) (.ref C_ParseError) = some false)
    (d_ParseError_InvalidMachine : C_InvalidMachine ≠ C_ParseError)
    (s_ParseError_ParseError : PySem.W.subIn K (.ref C_ParseError) (.ref C_ParseError) = some true)
    (n_abs : PySem.W.nsIn K mainGlobals "abs" = some none)
    (n_all : PySem.W.nsIn K mainGlobals "all" = some none)
    (n_bool : PySem.W.nsIn K mainGlobals "bool" = some none)
    (n_int : PySem.W.nsIn K mainGlobals "int" = some none)
    (n_isinstance : PySem.W.nsIn K mainGlobals "isinstance" = some none)
    (n_len : PySem.W.nsIn K mainGlobals "len" = some none)
    (n_max : PySem.W.nsIn K mainGlobals "max" = some none)
    (n_min : PySem.W.nsIn K mainGlobals "min" = some none)
    (n_range : PySem.W.nsIn K mainGlobals "range" = some none)
    (n_repr : PySem.W.nsIn K mainGlobals "repr" = some none)
    (n_sorted : PySem.W.nsIn K mainGlobals "sorted" = some none)
    (n_str : PySem.W.nsIn K mainGlobals "str" = some none)
    (n_tuple : PySem.W.nsIn K mainGlobals "tuple" = some none)
    (n_zip : PySem.W.nsIn K mainGlobals "zip" = some none)
    {z_DIGITS : Str} {t_DIGITS : Tok} (c_DIGITS : PySem.W.nsIn K mainGlobals "DIGITS" = some (some (.str z_DIGITS t_DIGITS))) (v_DIGITS : z_DIGITS = "0123456789")
    {t_MAX_COST : Tok} (c_MAX_COST : PySem.W.nsIn K mainGlobals "MAX_COST" = some (some (.int 3 t_MAX_COST)))
    {t_MAX_DIGITS : Tok} (c_MAX_DIGITS : PySem.W.nsIn K mainGlobals "MAX_DIGITS" = some (some (.int 6 t_MAX_DIGITS)))
    {t_MAX_LETTERS : Tok} (c_MAX_LETTERS : PySem.W.nsIn K mainGlobals "MAX_LETTERS" = some (some (.int 4 t_MAX_LETTERS)))
    {t_MAX_STATES : Tok} (c_MAX_STATES : PySem.W.nsIn K mainGlobals "MAX_STATES" = some (some (.int 8 t_MAX_STATES)))
    {t_MAX_STEPS : Tok} (c_MAX_STEPS : PySem.W.nsIn K mainGlobals "MAX_STEPS" = some (some (.int 60 t_MAX_STEPS)))
    {z_NOTHING : Str} {t_NOTHING : Tok} (c_NOTHING : PySem.W.nsIn K mainGlobals "NOTHING" = some (some (.str z_NOTHING t_NOTHING))) (v_NOTHING : z_NOTHING = "-")
    {z_SIGNS : Str} {t_SIGNS : Tok} (c_SIGNS : PySem.W.nsIn K mainGlobals "SIGNS" = some (some (.str z_SIGNS t_SIGNS))) (v_SIGNS : z_SIGNS = "abcdefghijklmnopqrstuvwxyz")
    (a_is_integer : PySem.W.nsIn K mainGlobals "is_integer" = some (some (.ref f_is_integer_))) (l_is_integer : K.lookup f_is_integer_ = some ⟨oc_is_integer, od_is_integer, .func (PySem.W.fnOf "is_integer" "is_integer" (defArgs s_is_integer) (defBody s_is_integer) (defScope s_is_integer) .none kv_is_integer dc_is_integer pm_is_integer an_is_integer cd_is_integer ct_is_integer), sl_is_integer⟩) (q_is_integer : PySem.W.codeIn K cd_is_integer "is_integer" = true) (k_is_integer : PySem.W.keepIn K (.ref f_is_integer_) = true)
    (a_is_sign : PySem.W.nsIn K mainGlobals "is_sign" = some (some (.ref f_is_sign_))) (l_is_sign : K.lookup f_is_sign_ = some ⟨oc_is_sign, od_is_sign, .func (PySem.W.fnOf "is_sign" "is_sign" (defArgs s_is_sign) (defBody s_is_sign) (defScope s_is_sign) .none kv_is_sign dc_is_sign pm_is_sign an_is_sign cd_is_sign ct_is_sign), sl_is_sign⟩) (q_is_sign : PySem.W.codeIn K cd_is_sign "is_sign" = true) (k_is_sign : PySem.W.keepIn K (.ref f_is_sign_) = true)
    (a_is_alphabet : PySem.W.nsIn K mainGlobals "is_alphabet" = some (some (.ref f_is_alphabet_))) (l_is_alphabet : K.lookup f_is_alphabet_ = some ⟨oc_is_alphabet, od_is_alphabet, .func (PySem.W.fnOf "is_alphabet" "is_alphabet" (defArgs s_is_alphabet) (defBody s_is_alphabet) (defScope s_is_alphabet) .none kv_is_alphabet dc_is_alphabet pm_is_alphabet an_is_alphabet cd_is_alphabet ct_is_alphabet), sl_is_alphabet⟩) (q_is_alphabet : PySem.W.codeIn K cd_is_alphabet "is_alphabet" = true) (k_is_alphabet : PySem.W.keepIn K (.ref f_is_alphabet_) = true)
    (a_are_ascending : PySem.W.nsIn K mainGlobals "are_ascending" = some (some (.ref f_are_ascending_))) (l_are_ascending : K.lookup f_are_ascending_ = some ⟨oc_are_ascending, od_are_ascending, .func (PySem.W.fnOf "are_ascending" "are_ascending" (defArgs s_are_ascending) (defBody s_are_ascending) (defScope s_are_ascending) .none kv_are_ascending dc_are_ascending pm_are_ascending an_are_ascending cd_are_ascending ct_are_ascending), sl_are_ascending⟩) (q_are_ascending : PySem.W.codeIn K cd_are_ascending "are_ascending" = true) (k_are_ascending : PySem.W.keepIn K (.ref f_are_ascending_) = true)
    (a_are_states : PySem.W.nsIn K mainGlobals "are_states" = some (some (.ref f_are_states_))) (l_are_states : K.lookup f_are_states_ = some ⟨oc_are_states, od_are_states, .func (PySem.W.fnOf "are_states" "are_states" (defArgs s_are_states) (defBody s_are_states) (defScope s_are_states) .none kv_are_states dc_are_states pm_are_states an_are_states cd_are_states ct_are_states), sl_are_states⟩) (q_are_states : PySem.W.codeIn K cd_are_states "are_states" = true) (k_are_states : PySem.W.keepIn K (.ref f_are_states_) = true)
    (a_is_letter : PySem.W.nsIn K mainGlobals "is_letter" = some (some (.ref f_is_letter_))) (l_is_letter : K.lookup f_is_letter_ = some ⟨oc_is_letter, od_is_letter, .func (PySem.W.fnOf "is_letter" "is_letter" (defArgs s_is_letter) (defBody s_is_letter) (defScope s_is_letter) .none kv_is_letter dc_is_letter pm_is_letter an_is_letter cd_is_letter ct_is_letter), sl_is_letter⟩) (q_is_letter : PySem.W.codeIn K cd_is_letter "is_letter" = true) (k_is_letter : PySem.W.keepIn K (.ref f_is_letter_) = true)
    (a_is_step : PySem.W.nsIn K mainGlobals "is_step" = some (some (.ref f_is_step_))) (l_is_step : K.lookup f_is_step_ = some ⟨oc_is_step, od_is_step, .func (PySem.W.fnOf "is_step" "is_step" (defArgs s_is_step) (defBody s_is_step) (defScope s_is_step) .none kv_is_step dc_is_step pm_is_step an_is_step cd_is_step ct_is_step), sl_is_step⟩) (q_is_step : PySem.W.codeIn K cd_is_step "is_step" = true) (k_is_step : PySem.W.keepIn K (.ref f_is_step_) = true)
    (a_is_machine : PySem.W.nsIn K mainGlobals "is_machine" = some (some (.ref f_is_machine_))) (l_is_machine : K.lookup f_is_machine_ = some ⟨oc_is_machine, od_is_machine, .func (PySem.W.fnOf "is_machine" "is_machine" (defArgs s_is_machine) (defBody s_is_machine) (defScope s_is_machine) .none kv_is_machine dc_is_machine pm_is_machine an_is_machine cd_is_machine ct_is_machine), sl_is_machine⟩) (q_is_machine : PySem.W.codeIn K cd_is_machine "is_machine" = true) (k_is_machine : PySem.W.keepIn K (.ref f_is_machine_) = true)
    (a_require_machine : PySem.W.nsIn K mainGlobals "require_machine" = some (some (.ref f_require_machine_))) (l_require_machine : K.lookup f_require_machine_ = some ⟨oc_require_machine, od_require_machine, .func (PySem.W.fnOf "require_machine" "require_machine" (defArgs s_require_machine) (defBody s_require_machine) (defScope s_require_machine) .none kv_require_machine dc_require_machine pm_require_machine an_require_machine cd_require_machine ct_require_machine), sl_require_machine⟩) (q_require_machine : PySem.W.codeIn K cd_require_machine "require_machine" = true) (k_require_machine : PySem.W.keepIn K (.ref f_require_machine_) = true)
    (a_numbers_text : PySem.W.nsIn K mainGlobals "numbers_text" = some (some (.ref f_numbers_text_))) (l_numbers_text : K.lookup f_numbers_text_ = some ⟨oc_numbers_text, od_numbers_text, .func (PySem.W.fnOf "numbers_text" "numbers_text" (defArgs s_numbers_text) (defBody s_numbers_text) (defScope s_numbers_text) .none kv_numbers_text dc_numbers_text pm_numbers_text an_numbers_text cd_numbers_text ct_numbers_text), sl_numbers_text⟩) (q_numbers_text : PySem.W.codeIn K cd_numbers_text "numbers_text" = true) (k_numbers_text : PySem.W.keepIn K (.ref f_numbers_text_) = true)
    (a_step_text : PySem.W.nsIn K mainGlobals "step_text" = some (some (.ref f_step_text_))) (l_step_text : K.lookup f_step_text_ = some ⟨oc_step_text, od_step_text, .func (PySem.W.fnOf "step_text" "step_text" (defArgs s_step_text) (defBody s_step_text) (defScope s_step_text) .none kv_step_text dc_step_text pm_step_text an_step_text cd_step_text ct_step_text), sl_step_text⟩) (q_step_text : PySem.W.codeIn K cd_step_text "step_text" = true) (k_step_text : PySem.W.keepIn K (.ref f_step_text_) = true)
    (a_machine_text : PySem.W.nsIn K mainGlobals "machine_text" = some (some (.ref f_machine_text_))) (l_machine_text : K.lookup f_machine_text_ = some ⟨oc_machine_text, od_machine_text, .func (PySem.W.fnOf "machine_text" "machine_text" (defArgs s_machine_text) (defBody s_machine_text) (defScope s_machine_text) .none kv_machine_text dc_machine_text pm_machine_text an_machine_text cd_machine_text ct_machine_text), sl_machine_text⟩) (q_machine_text : PySem.W.codeIn K cd_machine_text "machine_text" = true) (k_machine_text : PySem.W.keepIn K (.ref f_machine_text_) = true)
    (a__law_stream : PySem.W.nsIn K mainGlobals "_law_stream" = some (some (.ref f__law_stream_))) (l__law_stream : K.lookup f__law_stream_ = some ⟨oc__law_stream, od__law_stream, .func (PySem.W.fnOf "_law_stream" "_law_stream" (defArgs s__law_stream) (defBody s__law_stream) (defScope s__law_stream) .none kv__law_stream dc__law_stream pm__law_stream an__law_stream cd__law_stream ct__law_stream), sl__law_stream⟩) (q__law_stream : PySem.W.codeIn K cd__law_stream "_law_stream" = true) (k__law_stream : PySem.W.keepIn K (.ref f__law_stream_) = true)
    (a__law_draw : PySem.W.nsIn K mainGlobals "_law_draw" = some (some (.ref f__law_draw_))) (l__law_draw : K.lookup f__law_draw_ = some ⟨oc__law_draw, od__law_draw, .func (PySem.W.fnOf "_law_draw" "_law_draw" (defArgs s__law_draw) (defBody s__law_draw) (defScope s__law_draw) .none kv__law_draw dc__law_draw pm__law_draw an__law_draw cd__law_draw ct__law_draw), sl__law_draw⟩) (q__law_draw : PySem.W.codeIn K cd__law_draw "_law_draw" = true) (k__law_draw : PySem.W.keepIn K (.ref f__law_draw_) = true)
    (a__law_step : PySem.W.nsIn K mainGlobals "_law_step" = some (some (.ref f__law_step_))) (l__law_step : K.lookup f__law_step_ = some ⟨oc__law_step, od__law_step, .func (PySem.W.fnOf "_law_step" "_law_step" (defArgs s__law_step) (defBody s__law_step) (defScope s__law_step) .none kv__law_step dc__law_step pm__law_step an__law_step cd__law_step ct__law_step), sl__law_step⟩) (q__law_step : PySem.W.codeIn K cd__law_step "_law_step" = true) (k__law_step : PySem.W.keepIn K (.ref f__law_step_) = true)
    (a__law_machine : PySem.W.nsIn K mainGlobals "_law_machine" = some (some (.ref f__law_machine_))) (l__law_machine : K.lookup f__law_machine_ = some ⟨oc__law_machine, od__law_machine, .func (PySem.W.fnOf "_law_machine" "_law_machine" (defArgs s__law_machine) (defBody s__law_machine) (defScope s__law_machine) .none kv__law_machine dc__law_machine pm__law_machine an__law_machine cd__law_machine ct__law_machine), sl__law_machine⟩) (q__law_machine : PySem.W.codeIn K cd__law_machine "_law_machine" = true) (k__law_machine : PySem.W.keepIn K (.ref f__law_machine_) = true)
    (a__law_listed : PySem.W.nsIn K mainGlobals "_law_listed" = some (some (.ref f__law_listed_))) (l__law_listed : K.lookup f__law_listed_ = some ⟨oc__law_listed, od__law_listed, .func (PySem.W.fnOf "_law_listed" "_law_listed" (defArgs s__law_listed) (defBody s__law_listed) (defScope s__law_listed) .none kv__law_listed dc__law_listed pm__law_listed an__law_listed cd__law_listed ct__law_listed), sl__law_listed⟩) (q__law_listed : PySem.W.codeIn K cd__law_listed "_law_listed" = true) (k__law_listed : PySem.W.keepIn K (.ref f__law_listed_) = true)
    (a__law_text_of : PySem.W.nsIn K mainGlobals "_law_text_of" = some (some (.ref f__law_text_of_))) (l__law_text_of : K.lookup f__law_text_of_ = some ⟨oc__law_text_of, od__law_text_of, .func (PySem.W.fnOf "_law_text_of" "_law_text_of" (defArgs s__law_text_of) (defBody s__law_text_of) (defScope s__law_text_of) .none kv__law_text_of dc__law_text_of pm__law_text_of an__law_text_of cd__law_text_of ct__law_text_of), sl__law_text_of⟩) (q__law_text_of : PySem.W.codeIn K cd__law_text_of "_law_text_of" = true) (k__law_text_of : PySem.W.keepIn K (.ref f__law_text_of_) = true)
    (a__law_small : PySem.W.nsIn K mainGlobals "_law_small" = some (some (.ref f__law_small_))) (l__law_small : K.lookup f__law_small_ = some ⟨oc__law_small, od__law_small, .func (PySem.W.fnOf "_law_small" "_law_small" (defArgs s__law_small) (defBody s__law_small) (defScope s__law_small) .none kv__law_small dc__law_small pm__law_small an__law_small cd__law_small ct__law_small), sl__law_small⟩) (q__law_small : PySem.W.codeIn K cd__law_small "_law_small" = true) (k__law_small : PySem.W.keepIn K (.ref f__law_small_) = true)
    (a__law_states : PySem.W.nsIn K mainGlobals "_law_states" = some (some (.ref f__law_states_))) (l__law_states : K.lookup f__law_states_ = some ⟨oc__law_states, od__law_states, .func (PySem.W.fnOf "_law_states" "_law_states" (defArgs s__law_states) (defBody s__law_states) (defScope s__law_states) .none kv__law_states dc__law_states pm__law_states an__law_states cd__law_states ct__law_states), sl__law_states⟩) (q__law_states : PySem.W.codeIn K cd__law_states "_law_states" = true) (k__law_states : PySem.W.keepIn K (.ref f__law_states_) = true)
    (a__law_parsed : PySem.W.nsIn K mainGlobals "_law_parsed" = some (some (.ref f__law_parsed_))) (l__law_parsed : K.lookup f__law_parsed_ = some ⟨oc__law_parsed, od__law_parsed, .func (PySem.W.fnOf "_law_parsed" "_law_parsed" (defArgs s__law_parsed) (defBody s__law_parsed) (defScope s__law_parsed) .none kv__law_parsed dc__law_parsed pm__law_parsed an__law_parsed cd__law_parsed ct__law_parsed), sl__law_parsed⟩) (q__law_parsed : PySem.W.codeIn K cd__law_parsed "_law_parsed" = true) (k__law_parsed : PySem.W.keepIn K (.ref f__law_parsed_) = true)
    (a_lines_of : PySem.W.nsIn K mainGlobals "lines_of" = some (some (.ref f_lines_of_))) (l_lines_of : K.lookup f_lines_of_ = some ⟨oc_lines_of, od_lines_of, .func (PySem.W.fnOf "lines_of" "lines_of" (defArgs s_lines_of) (defBody s_lines_of) (defScope s_lines_of) .none kv_lines_of dc_lines_of pm_lines_of an_lines_of cd_lines_of ct_lines_of), sl_lines_of⟩) (q_lines_of : PySem.W.codeIn K cd_lines_of "lines_of" = true) (k_lines_of : PySem.W.keepIn K (.ref f_lines_of_) = true)
    (a_number_of : PySem.W.nsIn K mainGlobals "number_of" = some (some (.ref f_number_of_))) (l_number_of : K.lookup f_number_of_ = some ⟨oc_number_of, od_number_of, .func (PySem.W.fnOf "number_of" "number_of" (defArgs s_number_of) (defBody s_number_of) (defScope s_number_of) .none kv_number_of dc_number_of pm_number_of an_number_of cd_number_of ct_number_of), sl_number_of⟩) (q_number_of : PySem.W.codeIn K cd_number_of "number_of" = true) (k_number_of : PySem.W.keepIn K (.ref f_number_of_) = true)
    (a_parsed_step : PySem.W.nsIn K mainGlobals "parsed_step" = some (some (.ref f_parsed_step_))) (l_parsed_step : K.lookup f_parsed_step_ = some ⟨oc_parsed_step, od_parsed_step, .func (PySem.W.fnOf "parsed_step" "parsed_step" (defArgs s_parsed_step) (defBody s_parsed_step) (defScope s_parsed_step) .none kv_parsed_step dc_parsed_step pm_parsed_step an_parsed_step cd_parsed_step ct_parsed_step), sl_parsed_step⟩) (q_parsed_step : PySem.W.codeIn K cd_parsed_step "parsed_step" = true) (k_parsed_step : PySem.W.keepIn K (.ref f_parsed_step_) = true)
    (a_numbers_of : PySem.W.nsIn K mainGlobals "numbers_of" = some (some (.ref f_numbers_of_))) (l_numbers_of : K.lookup f_numbers_of_ = some ⟨oc_numbers_of, od_numbers_of, .func (PySem.W.fnOf "numbers_of" "numbers_of" (defArgs s_numbers_of) (defBody s_numbers_of) (defScope s_numbers_of) .none kv_numbers_of dc_numbers_of pm_numbers_of an_numbers_of cd_numbers_of ct_numbers_of), sl_numbers_of⟩) (q_numbers_of : PySem.W.codeIn K cd_numbers_of "numbers_of" = true) (k_numbers_of : PySem.W.keepIn K (.ref f_numbers_of_) = true)
    (a_parsed_head : PySem.W.nsIn K mainGlobals "parsed_head" = some (some (.ref f_parsed_head_))) (l_parsed_head : K.lookup f_parsed_head_ = some ⟨oc_parsed_head, od_parsed_head, .func (PySem.W.fnOf "parsed_head" "parsed_head" (defArgs s_parsed_head) (defBody s_parsed_head) (defScope s_parsed_head) .none kv_parsed_head dc_parsed_head pm_parsed_head an_parsed_head cd_parsed_head ct_parsed_head), sl_parsed_head⟩) (q_parsed_head : PySem.W.codeIn K cd_parsed_head "parsed_head" = true) (k_parsed_head : PySem.W.keepIn K (.ref f_parsed_head_) = true)
    (a_parse_machine : PySem.W.nsIn K mainGlobals "parse_machine" = some (some (.ref f_parse_machine_))) (l_parse_machine : K.lookup f_parse_machine_ = some ⟨oc_parse_machine, od_parse_machine, .func (PySem.W.fnOf "parse_machine" "parse_machine" (defArgs s_parse_machine) (defBody s_parse_machine) (defScope s_parse_machine) .none kv_parse_machine dc_parse_machine pm_parse_machine an_parse_machine cd_parse_machine ct_parse_machine), sl_parse_machine⟩) (q_parse_machine : PySem.W.codeIn K cd_parse_machine "parse_machine" = true) (k_parse_machine : PySem.W.keepIn K (.ref f_parse_machine_) = true)
    (a__law_read_back : PySem.W.nsIn K mainGlobals "_law_read_back" = some (some (.ref f__law_read_back_))) (l__law_read_back : K.lookup f__law_read_back_ = some ⟨oc__law_read_back, od__law_read_back, .func (PySem.W.fnOf "_law_read_back" "_law_read_back" (defArgs s__law_read_back) (defBody s__law_read_back) (defScope s__law_read_back) .none kv__law_read_back dc__law_read_back pm__law_read_back an__law_read_back cd__law_read_back ct__law_read_back), sl__law_read_back⟩) (q__law_read_back : PySem.W.codeIn K cd__law_read_back "_law_read_back" = true) (k__law_read_back : PySem.W.keepIn K (.ref f__law_read_back_) = true)
    (a__law_spoilt : PySem.W.nsIn K mainGlobals "_law_spoilt" = some (some (.ref f__law_spoilt_))) (l__law_spoilt : K.lookup f__law_spoilt_ = some ⟨oc__law_spoilt, od__law_spoilt, .func (PySem.W.fnOf "_law_spoilt" "_law_spoilt" (defArgs s__law_spoilt) (defBody s__law_spoilt) (defScope s__law_spoilt) .none kv__law_spoilt dc__law_spoilt pm__law_spoilt an__law_spoilt cd__law_spoilt ct__law_spoilt), sl__law_spoilt⟩) (q__law_spoilt : PySem.W.codeIn K cd__law_spoilt "_law_spoilt" = true) (k__law_spoilt : PySem.W.keepIn K (.ref f__law_spoilt_) = true)
    (a_law : PySem.W.nsIn K mainGlobals "law" = some (some (.ref f_law_))) (l_law : K.lookup f_law_ = some ⟨oc_law, od_law, .func (PySem.W.fnOf "law" "law" (defArgs s_law) (defBody s_law) (defScope s_law) .none kv_law dc_law pm_law an_law cd_law ct_law), sl_law⟩) (q_law : PySem.W.codeIn K cd_law "law" = true) (k_law : PySem.W.keepIn K (.ref f_law_) = true)
    (hlaw : ∀ ns : List Int, ns.length ≤ 63 → ∃ st, f_law [.scr ns] [] = .ok (.bl true) st) :
    ∃ fd : FuncData, (∀ (s : Shared) (u : Value), BindsTo s fd ⟨[u], []⟩ [("script", u)]) ∧ ∀ base : Heap, K.In base → base.Ns mainGlobals mg → FnG P w K mg base 9 fa fd ["script"] (spLaw K) := by
  have e := hfa.symm.trans (PySem.W.mg_of X G a_law)
  cases e
  have T : Txt K mg := {
    n_abs := PySem.W.mg_none_of X G n_abs
    n_all := PySem.W.mg_none_of X G n_all
    n_bool := PySem.W.mg_none_of X G n_bool
    n_int := PySem.W.mg_none_of X G n_int
    n_isinstance := PySem.W.mg_none_of X G n_isinstance
    n_len := PySem.W.mg_none_of X G n_len
    n_max := PySem.W.mg_none_of X G n_max
    n_min := PySem.W.mg_none_of X G n_min
    n_range := PySem.W.mg_none_of X G n_range
    n_repr := PySem.W.mg_none_of X G n_repr
    n_sorted := PySem.W.mg_none_of X G n_sorted
    n_str := PySem.W.mg_none_of X G n_str
    n_tuple := PySem.W.mg_none_of X G n_tuple
    n_zip := PySem.W.mg_none_of X G n_zip
    c_DIGITS := ⟨_, PySem.W.mg_of X G c_DIGITS, rel_txt v_DIGITS⟩
    c_MAX_COST := ⟨_, PySem.W.mg_of X G c_MAX_COST, rel_num⟩
    c_MAX_DIGITS := ⟨_, PySem.W.mg_of X G c_MAX_DIGITS, rel_num⟩
    c_MAX_LETTERS := ⟨_, PySem.W.mg_of X G c_MAX_LETTERS, rel_num⟩
    c_MAX_STATES := ⟨_, PySem.W.mg_of X G c_MAX_STATES, rel_num⟩
    c_MAX_STEPS := ⟨_, PySem.W.mg_of X G c_MAX_STEPS, rel_num⟩
    c_NOTHING := ⟨_, PySem.W.mg_of X G c_NOTHING, rel_txt v_NOTHING⟩
    c_SIGNS := ⟨_, PySem.W.mg_of X G c_SIGNS, rel_txt v_SIGNS⟩
    x_LimitError := ⟨_, x_LimitError.f X G⟩
    x_InvalidMachine := ⟨_, x_InvalidMachine.f X G⟩
    x_ParseError := ⟨_, x_ParseError.f X G⟩
    sub_LimitError := fun hC c b C hb hc => by
      cases hC.symm.trans (PySem.W.mg_of X G x_LimitError.gC)
      unfold sub_LimitError at hb
      split at hb
      · rename_i e; subst e; cases hb; cases hc.symm.trans (PySem.W.mg_of X G x_LimitError.gC); exact x_LimitError.exm s_LimitError_LimitError
      split at hb
      · rename_i e; subst e; cases hb; cases hc.symm.trans (PySem.W.mg_of X G x_InvalidMachine.gC); exact x_LimitError.exm s_LimitError_InvalidMachine
      split at hb
      · rename_i e; subst e; cases hb; cases hc.symm.trans (PySem.W.mg_of X G x_ParseError.gC); exact x_LimitError.exm s_LimitError_ParseError
      cases hb
    is_ParseError := fun hC c b C hb hc => by
      cases hC.symm.trans (PySem.W.mg_of X G x_ParseError.gC)
      unfold is_ParseError at hb
      split at hb
      · rename_i e; subst e; cases hb; cases hc.symm.trans (PySem.W.mg_of X G x_LimitError.gC); exact ⟨x_LimitError.c, x_ParseError.kit s_ParseError_LimitError (fun z => absurd z d_ParseError_LimitError)⟩
      split at hb
      · rename_i e; subst e; cases hb; cases hc.symm.trans (PySem.W.mg_of X G x_InvalidMachine.gC); exact ⟨x_InvalidMachine.c, x_ParseError.kit s_ParseError_InvalidMachine (fun z => absurd z d_ParseError_InvalidMachine)⟩
      split at hb
      · rename_i e; subst e; cases hb; cases hc.symm.trans (PySem.W.mg_of X G x_ParseError.gC); exact ⟨x_ParseError.c, x_ParseError.kit s_ParseError_ParseError (fun _ => rfl)⟩
      cases hb
    }
  have U_is_integer := fun_mk (st := s_is_integer) l_is_integer q_is_integer k_is_integer
  have B_is_integer := U_is_integer.binds (ps := ["value", "low", "high"]) fun _ _ _ _ _ _ us hl => match us, hl with | [_, _, _], _ => rfl
  have U_is_sign := fun_mk (st := s_is_sign) l_is_sign q_is_sign k_is_sign
  have B_is_sign := U_is_sign.binds (ps := ["value"]) fun _ _ _ _ _ _ us hl => match us, hl with | [_], _ => rfl
  have U_is_alphabet := fun_mk (st := s_is_alphabet) l_is_alphabet q_is_alphabet k_is_alphabet
  have B_is_alphabet := U_is_alphabet.binds (ps := ["value"]) fun _ _ _ _ _ _ us hl => match us, hl with | [_], _ => rfl
  have U_are_ascending := fun_mk (st := s_are_ascending) l_are_ascending q_are_ascending k_are_ascending
  have B_are_ascending := U_are_ascending.binds (ps := ["items"]) fun _ _ _ _ _ _ us hl => match us, hl with | [_], _ => rfl
  have U_are_states := fun_mk (st := s_are_states) l_are_states q_are_states k_are_states
  have B_are_states := U_are_states.binds (ps := ["size", "value"]) fun _ _ _ _ _ _ us hl => match us, hl with | [_, _], _ => rfl
  have U_is_letter := fun_mk (st := s_is_letter) l_is_letter q_is_letter k_is_letter
  have B_is_letter := U_is_letter.binds (ps := ["alphabet", "value"]) fun _ _ _ _ _ _ us hl => match us, hl with | [_, _], _ => rfl
  have U_is_step := fun_mk (st := s_is_step) l_is_step q_is_step k_is_step
  have B_is_step := U_is_step.binds (ps := ["alphabet", "size", "value"]) fun _ _ _ _ _ _ us hl => match us, hl with | [_, _, _], _ => rfl
  have U_is_machine := fun_mk (st := s_is_machine) l_is_machine q_is_machine k_is_machine
  have B_is_machine := U_is_machine.binds (ps := ["value"]) fun _ _ _ _ _ _ us hl => match us, hl with | [_], _ => rfl
  have U_require_machine := fun_mk (st := s_require_machine) l_require_machine q_require_machine k_require_machine
  have B_require_machine := U_require_machine.binds (ps := ["machine"]) fun _ _ _ _ _ _ us hl => match us, hl with | [_], _ => rfl
  have U_numbers_text := fun_mk (st := s_numbers_text) l_numbers_text q_numbers_text k_numbers_text
  have B_numbers_text := U_numbers_text.binds (ps := ["numbers", "separator"]) fun _ _ _ _ _ _ us hl => match us, hl with | [_, _], _ => rfl
  have U_step_text := fun_mk (st := s_step_text) l_step_text q_step_text k_step_text
  have B_step_text := U_step_text.binds (ps := ["step"]) fun _ _ _ _ _ _ us hl => match us, hl with | [_], _ => rfl
  have U_machine_text := fun_mk (st := s_machine_text) l_machine_text q_machine_text k_machine_text
  have B_machine_text := U_machine_text.binds (ps := ["machine"]) fun _ _ _ _ _ _ us hl => match us, hl with | [_], _ => rfl
  have U__law_stream := fun_mk (st := s__law_stream) l__law_stream q__law_stream k__law_stream
  have B__law_stream := U__law_stream.binds (ps := ["script", "at"]) fun _ _ _ _ _ _ us hl => match us, hl with | [_, _], _ => rfl
  have U__law_draw := fun_mk (st := s__law_draw) l__law_draw q__law_draw k__law_draw
  have B__law_draw := U__law_draw.binds (ps := ["stream", "total"]) fun _ _ _ _ _ _ us hl => match us, hl with | [_, _], _ => rfl
  have U__law_step := fun_mk (st := s__law_step) l__law_step q__law_step k__law_step
  have B__law_step := U__law_step.binds (ps := ["stream", "state", "sign", "later", "way"]) fun _ _ _ _ _ _ us hl => match us, hl with | [_, _, _, _, _], _ => rfl
  have U__law_machine := fun_mk (st := s__law_machine) l__law_machine q__law_machine k__law_machine
  have B__law_machine := U__law_machine.binds (ps := ["stream", "signs", "size", "way"]) fun _ _ _ _ _ _ us hl => match us, hl with | [_, _, _, _], _ => rfl
  have U__law_listed := fun_mk (st := s__law_listed) l__law_listed q__law_listed k__law_listed
  have B__law_listed := U__law_listed.binds (ps := ["states"]) fun _ _ _ _ _ _ us hl => match us, hl with | [_], _ => rfl
  have U__law_text_of := fun_mk (st := s__law_text_of) l__law_text_of q__law_text_of k__law_text_of
  have B__law_text_of := U__law_text_of.binds (ps := ["machine"]) fun _ _ _ _ _ _ us hl => match us, hl with | [_], _ => rfl
  have U__law_small := fun_mk (st := s__law_small) l__law_small q__law_small k__law_small
  have B__law_small := U__law_small.binds (ps := ["text"]) fun _ _ _ _ _ _ us hl => match us, hl with | [_], _ => rfl
  have U__law_states := fun_mk (st := s__law_states) l__law_states q__law_states k__law_states
  have B__law_states := U__law_states.binds (ps := ["text"]) fun _ _ _ _ _ _ us hl => match us, hl with | [_], _ => rfl
  have U__law_parsed := fun_mk (st := s__law_parsed) l__law_parsed q__law_parsed k__law_parsed
  have B__law_parsed := U__law_parsed.binds (ps := ["text"]) fun _ _ _ _ _ _ us hl => match us, hl with | [_], _ => rfl
  have U_lines_of := fun_mk (st := s_lines_of) l_lines_of q_lines_of k_lines_of
  have B_lines_of := U_lines_of.binds (ps := ["text"]) fun _ _ _ _ _ _ us hl => match us, hl with | [_], _ => rfl
  have U_number_of := fun_mk (st := s_number_of) l_number_of q_number_of k_number_of
  have B_number_of := U_number_of.binds (ps := ["text"]) fun _ _ _ _ _ _ us hl => match us, hl with | [_], _ => rfl
  have U_parsed_step := fun_mk (st := s_parsed_step) l_parsed_step q_parsed_step k_parsed_step
  have B_parsed_step := U_parsed_step.binds (ps := ["words"]) fun _ _ _ _ _ _ us hl => match us, hl with | [_], _ => rfl
  have U_numbers_of := fun_mk (st := s_numbers_of) l_numbers_of q_numbers_of k_numbers_of
  have B_numbers_of := U_numbers_of.binds (ps := ["text", "separator"]) fun _ _ _ _ _ _ us hl => match us, hl with | [_, _], _ => rfl
  have U_parsed_head := fun_mk (st := s_parsed_head) l_parsed_head q_parsed_head k_parsed_head
  have B_parsed_head := U_parsed_head.binds (ps := ["words"]) fun _ _ _ _ _ _ us hl => match us, hl with | [_], _ => rfl
  have U_parse_machine := fun_mk (st := s_parse_machine) l_parse_machine q_parse_machine k_parse_machine
  have B_parse_machine := U_parse_machine.binds (ps := ["text"]) fun _ _ _ _ _ _ us hl => match us, hl with | [_], _ => rfl
  have U__law_read_back := fun_mk (st := s__law_read_back) l__law_read_back q__law_read_back k__law_read_back
  have B__law_read_back := U__law_read_back.binds (ps := ["text"]) fun _ _ _ _ _ _ us hl => match us, hl with | [_], _ => rfl
  have U__law_spoilt := fun_mk (st := s__law_spoilt) l__law_spoilt q__law_spoilt k__law_spoilt
  have B__law_spoilt := U__law_spoilt.binds (ps := ["stream", "text"]) fun _ _ _ _ _ _ us hl => match us, hl with | [_, _], _ => rfl
  have U_law := fun_mk (st := s_law) l_law q_law k_law
  have B_law := U_law.binds (ps := ["script"]) fun _ _ _ _ _ _ us hl => match us, hl with | [_], _ => rfl
  refine ⟨PySem.W.fnOf "law" "law" (defArgs s_law) (defBody s_law) (defScope s_law) .none kv_law dc_law pm_law an_law cd_law ct_law, fun s u => .of_eq rfl, fun base _ _ => ?_⟩
  have F_is_integer := ok_is_integer (P := P) (w := w) (base := base) T  U_is_integer (PySem.W.mg_of X G a_is_integer) B_is_integer
  have F_is_sign := ok_is_sign (P := P) (w := w) (base := base) T  U_is_sign (PySem.W.mg_of X G a_is_sign) B_is_sign
  have F_is_alphabet := ok_is_alphabet (P := P) (w := w) (base := base) T F_is_sign U_is_alphabet (PySem.W.mg_of X G a_is_alphabet) B_is_alphabet
  have F_are_ascending := ok_are_ascending (P := P) (w := w) (base := base) T  U_are_ascending (PySem.W.mg_of X G a_are_ascending) B_are_ascending
  have F_are_states := ok_are_states (P := P) (w := w) (base := base) T F_is_integer F_are_ascending U_are_states (PySem.W.mg_of X G a_are_states) B_are_states
  have F_is_letter := ok_is_letter (P := P) (w := w) (base := base) T F_is_sign U_is_letter (PySem.W.mg_of X G a_is_letter) B_is_letter
  have F_is_step := ok_is_step (P := P) (w := w) (base := base) T F_is_integer F_is_letter U_is_step (PySem.W.mg_of X G a_is_step) B_is_step
  have F_is_machine := ok_is_machine (P := P) (w := w) (base := base) T F_is_integer F_is_alphabet F_are_ascending F_are_states F_is_step U_is_machine (PySem.W.mg_of X G a_is_machine) B_is_machine
  have F_require_machine := ok_require_machine (P := P) (w := w) (base := base) T F_is_machine U_require_machine (PySem.W.mg_of X G a_require_machine) B_require_machine
  have F_numbers_text := ok_numbers_text (P := P) (w := w) (base := base) T  U_numbers_text (PySem.W.mg_of X G a_numbers_text) B_numbers_text
  have F_step_text := ok_step_text (P := P) (w := w) (base := base) T  U_step_text (PySem.W.mg_of X G a_step_text) B_step_text
  have F_machine_text := ok_machine_text (P := P) (w := w) (base := base) T F_require_machine F_numbers_text F_step_text U_machine_text (PySem.W.mg_of X G a_machine_text) B_machine_text
  have F__law_stream := ok__law_stream (P := P) (w := w) (base := base) T  U__law_stream (PySem.W.mg_of X G a__law_stream) B__law_stream
  have F__law_draw := ok__law_draw (P := P) (w := w) (base := base) T  U__law_draw (PySem.W.mg_of X G a__law_draw) B__law_draw
  have F__law_step := ok__law_step (P := P) (w := w) (base := base) T F__law_draw U__law_step (PySem.W.mg_of X G a__law_step) B__law_step
  have F__law_machine := ok__law_machine (P := P) (w := w) (base := base) T F__law_draw F__law_step U__law_machine (PySem.W.mg_of X G a__law_machine) B__law_machine
  have F__law_listed := ok__law_listed (P := P) (w := w) (base := base) T  U__law_listed (PySem.W.mg_of X G a__law_listed) B__law_listed
  have F__law_text_of := ok__law_text_of (P := P) (w := w) (base := base) T F__law_listed U__law_text_of (PySem.W.mg_of X G a__law_text_of) B__law_text_of
  have F__law_small := ok__law_small (P := P) (w := w) (base := base) T  U__law_small (PySem.W.mg_of X G a__law_small) B__law_small
  have F__law_states := ok__law_states (P := P) (w := w) (base := base) T F__law_small U__law_states (PySem.W.mg_of X G a__law_states) B__law_states
  have F__law_parsed := ok__law_parsed (P := P) (w := w) (base := base) T F_is_machine F__law_text_of F__law_small F__law_states U__law_parsed (PySem.W.mg_of X G a__law_parsed) B__law_parsed
  have F_lines_of := ok_lines_of (P := P) (w := w) (base := base) T  U_lines_of (PySem.W.mg_of X G a_lines_of) B_lines_of
  have F_number_of := ok_number_of (P := P) (w := w) (base := base) T  U_number_of (PySem.W.mg_of X G a_number_of) B_number_of
  have F_parsed_step := ok_parsed_step (P := P) (w := w) (base := base) T F_number_of U_parsed_step (PySem.W.mg_of X G a_parsed_step) B_parsed_step
  have F_numbers_of := ok_numbers_of (P := P) (w := w) (base := base) T F_number_of U_numbers_of (PySem.W.mg_of X G a_numbers_of) B_numbers_of
  have F_parsed_head := ok_parsed_head (P := P) (w := w) (base := base) T F_number_of F_numbers_of U_parsed_head (PySem.W.mg_of X G a_parsed_head) B_parsed_head
  have F_parse_machine := ok_parse_machine (P := P) (w := w) (base := base) T F_is_machine F_machine_text F_lines_of F_parsed_step F_parsed_head U_parse_machine (PySem.W.mg_of X G a_parse_machine) B_parse_machine
  have F__law_read_back := ok__law_read_back (P := P) (w := w) (base := base) T F_parse_machine U__law_read_back (PySem.W.mg_of X G a__law_read_back) B__law_read_back
  have F__law_spoilt := ok__law_spoilt (P := P) (w := w) (base := base) T F__law_draw U__law_spoilt (PySem.W.mg_of X G a__law_spoilt) B__law_spoilt
  have F_law := ok_law (P := P) (w := w) (base := base) T F_machine_text F__law_stream F__law_draw F__law_machine F__law_text_of F__law_parsed F__law_read_back F__law_spoilt U_law
  exact law_end F_law hlaw
end K83

/-! what the defs of k83 give: small tests, numbers, lines -/
namespace K83
open PySem L2 TL MR
@[simp] theorem kb1 : kitB "int" "int" = some true := by decide +kernel
@[simp] theorem kb2 : kitB "int" "bool" = some false := by decide +kernel
@[simp] theorem kb3 : kitB "int" "str" = some false := by decide +kernel
@[simp] theorem kb4 : kitB "str" "int" = some false := by decide +kernel
@[simp] theorem kb5 : kitB "str" "str" = some true := by decide +kernel
@[simp] theorem kb6 : kitB "tuple" "tuple" = some true := by decide +kernel
@[simp] theorem kb7 : kitB "str" "tuple" = some false := by decide +kernel
@[simp] theorem kb8 : kitB "int" "tuple" = some false := by decide +kernel
@[simp] theorem ty_int (i : Int) (st : Sto) : tyName (.int i) st = some "int" := rfl
@[simp] theorem ty_str (i : Str) (st : Sto) : tyName (.str i) st = some "str" := rfl
@[simp] theorem ty_tup (i : List MV) (st : Sto) : tyName (.tup i) st = some "tuple" := rfl
/-- a row's item: an int or a short text -/
inductive Item (N : Nat) : MV → Prop
  | int (i : Int) : Item N (.int i)
  | str (s : Str) : Asc N s → Item N (.str s)
def isInt (m : MV) (lo hi : Int) : Bool := match m with
  | .int i => decide (lo ≤ i) && decide (i ≤ hi)
  | _ => false
theorem is_integer_eq {N : Nat} {m : MV} (h : Item N m) (lo hi : Int) (st : Sto) : f_is_integer [m, .int lo, .int hi] st = .ok (.bl (isInt m lo hi)) st := by
  cases h with
  | int i =>
    by_cases h1 : lo ≤ i <;> by_cases h2 : i ≤ hi <;> simp [f_is_integer, b_is_integer, defM, gIsi, gLe, gOrd, isInt, h1, h2]
  | str s hs => simp [f_is_integer, b_is_integer, defM, gIsi, isInt]
/-- one sign, a to z -/
def lowc (c : Nat) : Bool := decide (97 ≤ c) && decide (c ≤ 122)
def isSign (m : MV) : Bool := match m with
  | .str s => match tl s with
    | [c] => lowc c
    | _ => false
  | _ => false
theorem signs_mem (c : Nat) : decide (c ∈ (Str.ofString "abcdefghijklmnopqrstuvwxyz").cps.toList) = lowc c := by
  rw [show (Str.ofString "abcdefghijklmnopqrstuvwxyz").cps.toList = "abcdefghijklmnopqrstuvwxyz".toList.map Char.toNat from tl_ofString _]
  unfold lowc
  rw [← Bool.decide_and]
  apply decide_eq_decide.mpr
  constructor
  · intro h
    have : ∀ c ∈ "abcdefghijklmnopqrstuvwxyz".toList.map Char.toNat, 97 ≤ c ∧ c ≤ 122 := by decide
    exact this c h
  · rintro ⟨h1, h2⟩
    have : ∀ c, c < 123 → 97 ≤ c → c ∈ "abcdefghijklmnopqrstuvwxyz".toList.map Char.toNat := by decide
    exact this c (by omega) h1
theorem is_sign_eq {N : Nat} (hN : N ≤ 16777216) {m : MV} (h : Item N m) (st : Sto) : f_is_sign [m] st = .ok (.bl (isSign m)) st := by
  cases h with
  | int i => simp [f_is_sign, b_is_sign, defM, gIsi, isSign]
  | str s hs =>
    have hl : s.length ≤ 16777216 := Nat.le_trans hs.1 hN
    have hlt := len_tl s
    by_cases h1 : s.length = 1
    · obtain ⟨c, hc⟩ := List.length_eq_one_iff.mp (hlt.symm.trans h1)
      have es : s = ⟨#[c]⟩ := ext_tl hc
      subst es
      have hm := signs_mem c
      have e1 : (⟨#[c]⟩ : Str).length = 1 := rfl
      have hz : isSign (.str ⟨#[c]⟩) = lowc c := rfl
      rw [hz, ← hm]
      simp [f_is_sign, b_is_sign, defM, gIsi, gLen, gEq_int, e1, gIn, isInM]
    · have hz : isSign (.str s) = false := by
        show (match tl s with | [c] => lowc c | _ => false) = false
        cases e : tl s with
        | nil => rfl
        | cons a r =>
          cases r with
          | nil => rw [hlt, e] at h1; exact absurd rfl h1
          | cons b q => rfl
      have h2 : ¬ ((s.length : Int) = 1) := by omega
      simp [f_is_sign, b_is_sign, defM, gIsi, gLen, hl, gEq_int, h2, hz]
/-- an alphabet -/
def rising : List Nat → Bool
  | a :: b :: r => decide (a < b) && rising (b :: r)
  | _ => true
def isAlph (s : Str) : Bool := decide (1 ≤ (tl s).length) && decide ((tl s).length ≤ 4) && (tl s).all lowc && rising (tl s)
theorem zip_rising : ∀ l : List Nat, (List.zipWith (fun a b => decide (a < b)) l (l.drop 1)).all id = rising l
  | [] => rfl
  | [a] => rfl
  | a :: b :: r => by
    have ih := zip_rising (b :: r)
    simp only [List.drop_succ_cons, List.drop_zero, List.zipWith_cons_cons, List.all_cons, rising] at ih ⊢
    rw [ih]
    rfl
theorem zip_get {xs ys : List MV} {y : MV} (h : y ∈ zipM xs ys) : ∃ a b, a ∈ xs ∧ b ∈ ys ∧ y = .tup [a, b] := by
  unfold zipM at h
  rw [List.mem_iff_getElem] at h
  obtain ⟨i, hi, e⟩ := h
  rw [List.getElem_zipWith] at e
  exact ⟨_, _, List.getElem_mem _, List.getElem_mem _, e.symm⟩
abbrev one (c : Nat) : MV := .str ⟨#[c]⟩
theorem lt_one (a b : Nat) : sLt ⟨#[a]⟩ ⟨#[b]⟩ = decide (a < b) := by
  unfold sLt
  apply decide_eq_decide.mpr
  show [a] < [b] ↔ a < b
  rw [List.cons_lt_cons_iff]
  simp
theorem one_asc {c : Nat} (h : c < 128) : Asc 1 ⟨#[c]⟩ := ⟨Nat.le_refl _, fun d hd => by simp at hd; rw [hd]; exact h⟩
theorem tl_cut1 (s : Str) : tl (cutS s (some 1) none) = (tl s).drop 1 := by
  show ((s.cps.toList.drop (HT.sIx s.length 0 (some 1))).take (HT.sIx s.length s.length none - HT.sIx s.length 0 (some 1))) = _
  have e : HT.sIx s.length 0 (some 1) = min 1 s.length := HT.sIx_nat _ _ 1
  rw [e, HT.sIx_none]
  have hl : s.cps.toList.length = s.length := by simp [Str.length]
  by_cases h : s.length = 0
  · have : s.cps.toList = [] := List.length_eq_zero_iff.mp (hl.trans h)
    simp [this]
  · have : min 1 s.length = 1 := by omega
    rw [this]
    apply List.take_of_length_le
    rw [List.length_drop, hl]
    omega
theorem is_alphabet_eq {N : Nat} (hN : N ≤ 16777216) {s : Str} (h : Asc N s) (st : Sto) : f_is_alphabet [.str s] st = .ok (.bl (isAlph s)) st := by
  have hl : s.length ≤ 16777216 := Nat.le_trans h.1 hN
  have hlt := len_tl s
  have c1 : compM (.nm 1) tYesM (mFn 1 f_is_sign (aCons (mVar 1) aNil)) (s.cps.toList.map fun c => .str ⟨#[c]⟩) [some (.str s), none, none, none] [] st = .ok ([] ++ (s.cps.toList.map fun c => .str ⟨#[c]⟩).map fun m => .bl (isSign m)) st := by
    apply compM_map
    · intro y hy
      obtain ⟨c, hc, rfl⟩ := List.mem_map.mp hy
      refine ⟨_, rfl, ?_⟩
      simp [is_sign_eq (Nat.le_of_ble_eq_true rfl : 1 ≤ 16777216) (Item.str _ (one_asc (h.2 c hc)))]
    · simp; exact hl
  have e1 : ((s.cps.toList.map fun c => (MV.str ⟨#[c]⟩)).map fun m => MV.bl (isSign m)) = ((tl s).map lowc).map MV.bl := by
    rw [List.map_map, List.map_map]
    rfl
  have e2 : ((tl s).map lowc).all id = (tl s).all lowc := by rw [List.all_map]; rfl
  rcases Classical.em (1 ≤ s.length) with g1 | g1
  case inr =>
    have z : isAlph s = false := by unfold isAlph; rw [← hlt, decide_eq_false g1]; rfl
    rw [z]
    have g1' : ¬ (1 ≤ (s.length : Int)) := by omega
    simp [f_is_alphabet, b_is_alphabet, defM, gIsi, gLe, gOrd, gLen, hl, g1']
  rcases Classical.em (s.length ≤ 4) with g2 | g2
  case inr =>
    have z : isAlph s = false := by unfold isAlph; rw [← hlt, decide_eq_false g2]; simp
    rw [z]
    have g1' : (1 ≤ (s.length : Int)) := by omega
    have g2' : ¬ ((s.length : Int) ≤ 4) := by omega
    simp [f_is_alphabet, b_is_alphabet, defM, gIsi, gLe, gOrd, gLen, hl, g1', g2']
  have g1' : (1 ≤ (s.length : Int)) := by omega
  have g2' : ((s.length : Int) ≤ 4) := by omega
  rw [e1, List.nil_append] at c1
  cases g3 : (tl s).all lowc with
  | false =>
    have z : isAlph s = false := by unfold isAlph; rw [g3]; simp
    rw [z]
    rw [g3] at e2
    simp [f_is_alphabet, b_is_alphabet, defM, gIsi, gLe, gOrd, gLen, hl, g1', g2', c1, gAll_map, e2, -List.map_map, -List.all_map]
  | true =>
    rw [g3] at e2
    have z : isAlph s = rising (tl s) := by unfold isAlph; rw [g3, ← hlt, decide_eq_true g1, decide_eq_true g2]; rfl
    rw [z]
    have hcut : (cutS s (some 1) none).cps.toList = (tl s).drop 1 := tl_cut1 s
    let g : MV → MV := fun m => match m with | .tup [.str a, .str b] => .bl (sLt a b) | _ => .non
    have c2 : compM (.tp [2, 3]) tYesM (m2 gLtD (mVar 2) (mVar 3)) (zipM (s.cps.toList.map fun c => .str ⟨#[c]⟩) ((cutS s (some 1) none).cps.toList.map fun c => .str ⟨#[c]⟩)) [some (.str s), none, none, none] [] st =
        .ok ([] ++ (zipM (s.cps.toList.map fun c => .str ⟨#[c]⟩) ((cutS s (some 1) none).cps.toList.map fun c => .str ⟨#[c]⟩)).map g) st := by
      apply compM_map
      · intro y hy
        obtain ⟨a, b, ha, hb, rfl⟩ := zip_get hy
        obtain ⟨c, hc, rfl⟩ := List.mem_map.mp ha
        obtain ⟨d, hd, rfl⟩ := List.mem_map.mp hb
        exact ⟨[some (.str s), none, some (one c), some (one d)], rfl, rfl⟩
      · simp only [zipM, List.length_zipWith, List.length_map, List.length_nil]
        have : s.cps.toList.length = s.length := by simp [Str.length]
        omega
    have e3 : (zipM (s.cps.toList.map fun c => (MV.str ⟨#[c]⟩)) ((cutS s (some 1) none).cps.toList.map fun c => (MV.str ⟨#[c]⟩))).map g = (List.zipWith (fun a b => decide (a < b)) (tl s) ((tl s).drop 1)).map MV.bl := by
      rw [hcut]
      unfold zipM
      rw [List.zipWith_map, List.map_zipWith, List.map_zipWith]
      congr 1
      funext a b
      show MV.bl (sLt ⟨#[a]⟩ ⟨#[b]⟩) = _
      rw [lt_one]
    rw [e3, List.nil_append] at c2
    have e4 := zip_rising (tl s)
    rw [List.drop_one] at e4
    simp [f_is_alphabet, b_is_alphabet, defM, gIsi, gLe, gOrd, gLen, hl, g1', g2', c1, gAll_map, e2, gSlice, c2, e4, -List.map_map, -List.all_map, -List.map_zipWith]
theorem mem_one {al : Str} {c : Nat} : decide (c ∈ al.cps.toList) = decide (c ∈ tl al) := rfl
def isLetter (al : Str) (m : MV) : Bool := match m with
  | .str s => match tl s with
    | [c] => lowc c && decide (c ∈ tl al)
    | _ => false
  | _ => false
theorem str_one (s : Str) : (∃ c, s = ⟨#[c]⟩) ∨ (isSign (.str s) = false ∧ ∀ al, isLetter al (.str s) = false) := by
  cases e : tl s with
  | nil =>
    refine .inr ⟨?_, fun al => ?_⟩
    · show (match tl s with | [c] => lowc c | _ => false) = false
      rw [e]
    · show (match tl s with | [c] => lowc c && decide (c ∈ tl al) | _ => false) = false
      rw [e]
  | cons a r =>
    cases r with
    | nil => exact .inl ⟨a, ext_tl e⟩
    | cons b q =>
      refine .inr ⟨?_, fun al => ?_⟩
      · show (match tl s with | [c] => lowc c | _ => false) = false
        rw [e]
      · show (match tl s with | [c] => lowc c && decide (c ∈ tl al) | _ => false) = false
        rw [e]
theorem is_letter_eq {N : Nat} (hN : N ≤ 16777216) {al : Str} {m : MV} (h : Item N m) (st : Sto) : f_is_letter [.str al, m] st = .ok (.bl (isLetter al m)) st := by
  have h0 := is_sign_eq hN h st
  cases h with
  | int i =>
    have e0 : isSign (.int i) = false := rfl
    have e1 : isLetter al (.int i) = false := rfl
    simp [f_is_letter, b_is_letter, defM, h0, e0, e1]
  | str s hs =>
    rcases str_one s with ⟨c, rfl⟩ | ⟨e0, e1⟩
    · have e0 : isLetter al (.str ⟨#[c]⟩) = (lowc c && decide (c ∈ tl al)) := rfl
      have e1 : isSign (.str ⟨#[c]⟩) = lowc c := rfl
      rw [e0]
      rw [e1] at h0
      cases hc : lowc c with
      | false => rw [hc] at h0; simp [f_is_letter, b_is_letter, defM, h0]
      | true => rw [hc] at h0; simp [f_is_letter, b_is_letter, defM, h0, gIn, isInM]
    · rw [e0] at h0
      simp [f_is_letter, b_is_letter, defM, h0, e1 al]
def dig (c : Nat) : Bool := decide (48 ≤ c) && decide (c ≤ 57)
def numO (p : Str) : Option Nat := if (decide (1 ≤ (tl p).length) && decide ((tl p).length ≤ 6) && (tl p).all dig && (decide (tl p = [48]) || !decide ((tl p).head? = some 48))) = true then some (NumText.digitsVal (tl p)) else none
theorem digs_lt : ∀ (l : List Nat) (acc : Nat), (∀ c ∈ l, 48 ≤ c ∧ c ≤ 57) → l.foldl (fun acc c => acc * 10 + (c - 48)) acc < (acc + 1) * 10 ^ l.length
  | [], acc, _ => by simp
  | c :: l, acc, h => by
    have h1 := h c List.mem_cons_self
    have ih := digs_lt l (acc * 10 + (c - 48)) fun d hd => h d (List.mem_cons_of_mem _ hd)
    refine Nat.lt_of_lt_of_le ih ?_
    rw [List.length_cons, Nat.pow_succ, Nat.mul_comm (10 ^ l.length) 10, ← Nat.mul_assoc]
    exact Nat.mul_le_mul_right _ (by omega)
theorem all_dig {l : List Nat} : l.all dig = true ↔ NumText.AllDigits l := by
  rw [List.all_eq_true]
  unfold NumText.AllDigits dig
  constructor
  · intro h c hc
    have := h c hc
    simpa using this
  · intro h c hc
    have := h c hc
    simpa using this
theorem numO_some {p : Str} {n : Nat} (h : numO p = some n) : p = numS n ∧ n < 10 ^ 6 := by
  unfold numO at h
  split at h
  · rename_i c
    simp only [Bool.and_eq_true, Bool.or_eq_true, decide_eq_true_eq, Bool.not_eq_true', decide_eq_false_iff_not] at c
    obtain ⟨⟨⟨c1, c2⟩, c3⟩, c4⟩ := c
    have d := all_dig.mp c3
    cases h
    refine ⟨numS_of d (fun e => by rw [e] at c1; simp at c1) c4, ?_⟩
    have := digs_lt (tl p) 0 d
    unfold NumText.digitsVal
    refine Nat.lt_of_lt_of_le this ?_
    rw [Nat.zero_add, Nat.one_mul]
    exact Nat.pow_le_pow_right (by decide) c2
  · cases h
theorem numL_head (n : Nat) : numL n = [48] ∨ (numL n).head? ≠ some 48 := by
  induction n using Nat.strongRecOn with
  | _ n ih =>
    by_cases h : n < 10
    · rw [numL_lt h]
      by_cases z : n = 0
      · subst z; exact .inl rfl
      · right
        simp
        omega
    · right
      rw [numL_step (by omega)]
      rcases ih (n / 10) (by omega) with e | e
      · have : numL (n / 10) = numL 0 := by rw [e, numL_lt (by decide)]
        have := numL_inj this
        omega
      · have hne := numL_ne (n / 10)
        cases q : numL (n / 10) with
        | nil => exact absurd q hne
        | cons a r => rw [q] at e; simpa using e
theorem numO_numS {n : Nat} (h : n < 10 ^ 6) : numO (numS n) = some n := by
  unfold numO
  rw [tl_numS]
  have h1 : 1 ≤ (numL n).length := List.length_pos_iff.mpr (numL_ne n)
  have h2 : (numL n).length ≤ 6 := numL_len (by decide) h
  have h3 := all_dig.mpr (numL_digits n)
  rw [decide_eq_true h1, decide_eq_true h2, h3, numL_val]
  rcases numL_head n with e | e
  · simp [e]
  · simp [e]
theorem digits_mem (c : Nat) : decide (c ∈ (Str.ofString "0123456789").cps.toList) = dig c := by
  rw [show (Str.ofString "0123456789").cps.toList = "0123456789".toList.map Char.toNat from tl_ofString _]
  unfold dig
  rw [← Bool.decide_and]
  apply decide_eq_decide.mpr
  constructor
  · intro h
    have : ∀ c ∈ "0123456789".toList.map Char.toNat, 48 ≤ c ∧ c ≤ 57 := by decide
    exact this c h
  · rintro ⟨h1, h2⟩
    have : ∀ c, c < 58 → 48 ≤ c → c ∈ "0123456789".toList.map Char.toNat := by decide
    exact this c (by omega) h1
theorem lit0 : Str.ofString "0" = ⟨#[48]⟩ := ext_tl (tl_ofString "0")
def gDig (m : MV) : MV := match m with
  | .str s => .bl (dig (s.cps.getD 0 0))
  | _ => .non
theorem number_of_eq {N : Nat} (hN : N ≤ 16777216) {p : Str} (h : Asc N p) (st : Sto) : f_number_of [.str p] st = match numO p with | some n => .ok (.int n) st | none => .exc ⟨"ParseError", [], []⟩ st := by
  have hl : p.length ≤ 16777216 := Nat.le_trans h.1 hN
  have hlt := len_tl p
  by_cases g1 : 1 ≤ p.length
  case neg =>
    have z : numO p = none := by unfold numO; rw [← hlt, decide_eq_false g1]; rfl
    rw [z]
    have g1' : ¬ (1 ≤ (p.length : Int)) := by omega
    simp [f_number_of, b_number_of, defM, gLe, gOrd, gLen, hl, g1']
  by_cases g2 : p.length ≤ 6
  case neg =>
    have z : numO p = none := by unfold numO; rw [← hlt, decide_eq_false g2]; simp
    rw [z]
    have g1' : (1 ≤ (p.length : Int)) := by omega
    have g2' : ¬ ((p.length : Int) ≤ 6) := by omega
    simp [f_number_of, b_number_of, defM, gLe, gOrd, gLen, hl, g1', g2']
  have g1' : (1 ≤ (p.length : Int)) := by omega
  have g2' : ((p.length : Int) ≤ 6) := by omega
  have c1 : compM (.nm 1) tYesM (m2 gIn (mVar 1) (mC (.str "0123456789"))) (p.cps.toList.map fun c => MV.str ⟨#[c]⟩) [some (.str p), none] [] st = .ok ([] ++ (p.cps.toList.map fun c => MV.str ⟨#[c]⟩).map gDig) st := by
    apply compM_map
    · intro y hy
      obtain ⟨c, hc, rfl⟩ := List.mem_map.mp hy
      refine ⟨_, rfl, ?_⟩
      have q := digits_mem c
      have q2 : isInM (.str ⟨#[c]⟩) (.str "0123456789") st = some (dig c) := by
        show (if (#[c] : Array Nat).size = 1 then some (decide (c ∈ (Str.ofString "0123456789").cps.toList)) else none) = _
        rw [q]
        rfl
      simp [gIn, q2, gDig]
    · simp; exact hl
  have e1 : ((p.cps.toList.map fun c => (MV.str ⟨#[c]⟩)).map gDig) = ((tl p).map dig).map MV.bl := by
    rw [List.map_map, List.map_map]
    rfl
  have e2 : ((tl p).map dig).all id = (tl p).all dig := by rw [List.all_map]; rfl
  rw [e1, List.nil_append] at c1
  cases g3 : (tl p).all dig with
  | false =>
    have z : numO p = none := by unfold numO; rw [g3]; simp
    rw [z]
    rw [g3] at e2
    simp [f_number_of, b_number_of, defM, gLe, gOrd, gLen, hl, g1', g2', c1, gAll_map, e2, -List.map_map, -List.all_map]
  | true =>
    rw [g3] at e2
    obtain ⟨a, r, ep⟩ : ∃ a r, tl p = a :: r := by
      cases q : tl p with
      | nil => rw [q] at hlt; simp at hlt; omega
      | cons a r => exact ⟨a, r, rfl⟩
    have ix : gIx (.str p) (.int 0) st = .ok (.str ⟨#[a]⟩) st := by
      have : atI p.cps.toList 0 = some a := by rw [show p.cps.toList = a :: r from ep]; simp [atI, ixN]
      simp [gIx, hl, this]
    have ha : a < 128 := h.2 a (by rw [ep]; exact List.mem_cons_self)
    have q1 := gNe_str h (asc_lit (s := "0") (n := 1)) st
    have q2 := gEq_str (one_asc ha) (asc_lit (s := "0") (n := 1)) st
    have k1 : (p = Str.ofString "0") ↔ tl p = [48] := by rw [lit0]; exact ⟨fun e => by rw [e], fun e => ext_tl e⟩
    have k2 : ((⟨#[a]⟩ : Str) = Str.ofString "0") ↔ a = 48 := by rw [lit0]; simp
    have k3 : (tl p).head? = some 48 ↔ a = 48 := by rw [ep]; simp
    have hi : numO p = some (NumText.digitsVal (tl p)) → gInt [.str p] st = .ok (.int (NumText.digitsVal (tl p) : Nat)) st := fun hz => by
      obtain ⟨z1, z2⟩ := numO_some hz
      have := int_numS z2
      rw [← z1] at this
      have h6 : p.length ≤ 640 := by omega
      simp [gInt, this, h6]
    by_cases g4 : tl p = [48]
    · have z : numO p = some (NumText.digitsVal (tl p)) := by unfold numO; rw [← hlt, g3, decide_eq_true g1, decide_eq_true g2, decide_eq_true g4]; rfl
      have hi := hi z
      rw [z]
      rw [decide_eq_true (k1.mpr g4)] at q1
      simp [f_number_of, b_number_of, defM, gLe, gOrd, gLen, hl, g1', g2', c1, gAll_map, e2, q1, hi, -List.map_map, -List.all_map]
    · rw [decide_eq_false (fun e => g4 (k1.mp e))] at q1
      by_cases g5 : a = 48
      · have z : numO p = none := by unfold numO; rw [decide_eq_false g4, decide_eq_true (k3.mpr g5)]; simp
        rw [z]
        rw [decide_eq_true (k2.mpr g5)] at q2
        simp [f_number_of, b_number_of, defM, gLe, gOrd, gLen, hl, g1', g2', c1, gAll_map, e2, q1, ix, q2, -List.map_map, -List.all_map]
      · have z : numO p = some (NumText.digitsVal (tl p)) := by unfold numO; rw [← hlt, g3, decide_eq_true g1, decide_eq_true g2, decide_eq_false (fun e => g5 (k3.mp e))]; simp
        have hi := hi z
        rw [z]
        rw [decide_eq_false (fun e => g5 (k2.mp e))] at q2
        simp [f_number_of, b_number_of, defM, gLe, gOrd, gLen, hl, g1', g2', c1, gAll_map, e2, q1, ix, q2, hi, -List.map_map, -List.all_map]
def cutAt (c : Nat) (t : Str) : List Str := (spl [c] 0 [] (tl t)).map fun l => ⟨l.toArray⟩
theorem cutAt_tl (c : Nat) (t : Str) : (cutAt c t).map tl = spl [c] 0 [] (tl t) := by
  unfold cutAt
  rw [List.map_map]
  conv => rhs; rw [← List.map_id (spl [c] 0 [] (tl t))]
  rfl
theorem split_cut {c : Nat} (hc : c < 256) (t : Str) : Txt.split t ⟨#[c]⟩ = cutAt c t := by
  apply map_tl_inj
  rw [cutAt_tl, split_spl t ⟨#[c]⟩ (by simp) (kind_ok (by simp [hc]))]
theorem spl_sub (c : Nat) : ∀ (l acc : List Nat), ∀ q ∈ spl [c] 0 acc l, q.length ≤ acc.length + l.length ∧ ∀ d ∈ q, d ∈ acc ∨ d ∈ l
  | [], acc, q, h => by
    rw [spl_nil] at h
    simp at h
    subst h
    exact ⟨by simp, fun d hd => .inl hd⟩
  | a :: l, acc, q, h => by
    cases hp : pre [c] (a :: l) with
    | true =>
      rw [spl_hit hp] at h
      rcases List.mem_cons.mp h with h | h
      · subst h
        exact ⟨by simp, fun d hd => .inl hd⟩
      · obtain ⟨h1, h2⟩ := spl_sub c l [] q h
        refine ⟨by simp at h1 ⊢; omega, fun d hd => ?_⟩
        rcases h2 d hd with z | z
        · cases z
        · exact .inr (List.mem_cons_of_mem _ z)
    | false =>
      rw [spl_miss hp] at h
      obtain ⟨h1, h2⟩ := spl_sub c l (acc ++ [a]) q h
      refine ⟨by simp at h1 ⊢; omega, fun d hd => ?_⟩
      rcases h2 d hd with z | z
      · rcases List.mem_append.mp z with z | z
        · exact .inl z
        · exact .inr (by rw [List.mem_singleton.mp z]; exact List.mem_cons_self)
      · exact .inr (List.mem_cons_of_mem _ z)
theorem spl_count (c : Nat) : ∀ (l acc : List Nat), 1 ≤ (spl [c] 0 acc l).length ∧ (spl [c] 0 acc l).length ≤ l.length + 1
  | [], acc => by rw [spl_nil]; simp
  | a :: l, acc => by
    cases hp : pre [c] (a :: l) with
    | true =>
      rw [spl_hit hp]
      have := spl_count c l []
      simp only [List.length_cons, List.length_nil, Nat.zero_add, Nat.sub_self]
      omega
    | false =>
      rw [spl_miss hp]
      have := spl_count c l (acc ++ [a])
      simp only [List.length_cons]
      omega
theorem cut_asc {c N : Nat} {t p : Str} (h : Asc N t) (hp : p ∈ cutAt c t) : Asc N p := by
  obtain ⟨l, hl, rfl⟩ := List.mem_map.mp hp
  obtain ⟨h1, h2⟩ := spl_sub c _ _ l hl
  refine ⟨?_, fun d hd => ?_⟩
  · have := h.1
    rw [len_tl] at this ⊢
    simp at h1 ⊢
    simp at this
    omega
  · rcases h2 d hd with z | z
    · cases z
    · exact h.2 d z
theorem cut_len {c N : Nat} {t : Str} (h : Asc N t) : 1 ≤ (cutAt c t).length ∧ (cutAt c t).length ≤ N + 1 := by
  unfold cutAt
  rw [List.length_map]
  have h1 := spl_count c (tl t) []
  have h2 := h.1
  rw [len_tl] at h2
  omega
theorem litN : Str.ofString "\n" = ⟨#[10]⟩ := ext_tl (tl_ofString "\n")
theorem litS : Str.ofString " " = ⟨#[32]⟩ := ext_tl (tl_ofString " ")
abbrev sts (l : List Str) : List MV := l.map .str
theorem gSplit_nl {t : Str} (h : Asc 8000 t) (st : Sto) : gSplit (.str t) [.str (Str.ofString "\n")] st = .ok (.lst (sts (cutAt 10 t))) st := by
  have h1 : t.length + 2 ≤ 16777216 := by have := h.1; omega
  rw [litN]
  show (if (⟨#[10]⟩ : Str).length ≠ 0 ∧ t.length + 2 ≤ 16777216 then Res.ok (MV.lst ((Txt.split t ⟨#[10]⟩).map .str)) st else .bad) = _
  rw [if_pos ⟨by decide, h1⟩, split_cut (by decide)]
theorem gSplit_sp {t : Str} (h : Asc 8000 t) (st : Sto) : gSplit (.str t) [.str (Str.ofString " ")] st = .ok (.lst (sts (cutAt 32 t))) st := by
  have h1 : t.length + 2 ≤ 16777216 := by have := h.1; omega
  rw [litS]
  show (if (⟨#[32]⟩ : Str).length ≠ 0 ∧ t.length + 2 ≤ 16777216 then Res.ok (MV.lst ((Txt.split t ⟨#[32]⟩).map .str)) st else .bad) = _
  rw [if_pos ⟨by decide, h1⟩, split_cut (by decide)]
@[simp] theorem isStr_str (a : Str) (st : Sto) : isStr (.str a) st = true := rfl
theorem lines_of_eq {t : Str} (h : Asc 8000 t) (st : Sto) : f_lines_of [.str t] st = .ok (.lst ((cutAt 10 t).map fun l => .lst (sts (cutAt 32 l)))) st := by
  have c1 : compM (.nm 1) tYesM (mMethT isStr gSplit (mVar 1) (aCons (mC (.str " ")) aNil)) (sts (cutAt 10 t)) [some (.str t), none] [] st = .ok ([] ++ (sts (cutAt 10 t)).map fun m => match m with | .str l => .lst (sts (cutAt 32 l)) | _ => .non) st := by
    apply compM_map
    · intro y hy
      obtain ⟨l, hl, rfl⟩ := List.mem_map.mp hy
      refine ⟨_, rfl, ?_⟩
      simp [gSplit_sp (cut_asc h hl)]
    · have := (cut_len (c := 10) h).2
      simp
      omega
  have e1 : ((sts (cutAt 10 t)).map fun m => match m with | .str l => MV.lst (sts (cutAt 32 l)) | _ => .non) = (cutAt 10 t).map fun l => .lst (sts (cutAt 32 l)) := by
    rw [List.map_map]
    rfl
  rw [e1, List.nil_append] at c1
  simp [f_lines_of, b_lines_of, defM, gIsi, gSplit_nl h, c1, -List.map_map]
@[simp] theorem i_rng {r : MA} {env : MEnv} {st : Sto} : iRng r env st = (r env st).bind fun xs st' => match xs with | [.int n] => if -1000000000 ≤ n ∧ n ≤ 1000000000 then .ok (rngL 0 n.toNat) st' else .bad | _ => .bad := rfl
@[simp] theorem i_rng2 {r : MA} {env : MEnv} {st : Sto} : iRng2 r env st = (r env st).bind fun xs st' => match xs with | [.int a, .int b] => if (-1000000000 ≤ a ∧ a ≤ 1000000000) ∧ (-1000000000 ≤ b ∧ b ≤ 1000000000) then .ok (rngL a (b - a).toNat) st' else .bad | _ => .bad := rfl
theorem mapM_mem {α β : Type} {f : α → Option β} : ∀ {l : List α} {m : List β}, l.mapM f = some m → m.length = l.length ∧ ∀ b ∈ m, ∃ a ∈ l, f a = some b
  | [], m, h => by cases h; exact ⟨rfl, fun _ h => nomatch h⟩
  | a :: l, m, h => by
    rw [List.mapM_cons] at h
    cases e1 : f a with
    | none => rw [e1] at h; cases h
    | some n =>
      cases e2 : l.mapM f with
      | none => rw [e1, e2] at h; cases h
      | some w =>
        rw [e1, e2] at h
        cases h
        obtain ⟨i1, i2⟩ := mapM_mem e2
        refine ⟨by simp [i1], fun b hb => ?_⟩
        rcases List.mem_cons.mp hb with hb | hb
        · exact ⟨a, List.mem_cons_self, by rw [hb]; exact e1⟩
        · obtain ⟨c, hc, e⟩ := i2 b hb
          exact ⟨c, List.mem_cons_of_mem _ hc, e⟩
@[simp] theorem forM_nil {g : MTg} {b : MS} {env : MEnv} {st : Sto} : forM g b [] env st = .nx env st := rfl
theorem forM_step {g : MTg} {b : MS} {y : MV} {ys : List MV} {env env1 env2 : MEnv} {st st1 st2 : Sto} (h1 : g y env st = some (env1, st1)) (h2 : b env1 st1 = .nx env2 st2) : forM g b (y :: ys) env st = forM g b ys env2 st2 := by
  show (match g y env st with
    | none => Flw.bad
    | some (env1, st1) => match b env1 st1 with
      | .nx env2 st2 => forM g b ys env2 st2
      | .ct env2 st2 => forM g b ys env2 st2
      | .bk env2 st2 => .nx env2 st2
      | .rt m st2 => .rt m st2
      | .exc c env2 st2 => .exc c env2 st2
      | .bad => .bad) = _
  rw [h1]
  simp only [h2]
theorem at_last (st : Sto) (x : MO) : (st ++ [x])[st.length]? = some x := by simp
theorem set_last (st : Sto) (x y : MO) : (st ++ [x]).set st.length y = st ++ [y] := by
  rw [List.set_append_right _ _ (Nat.le_refl _)]
  simp
theorem append_last (st : Sto) (xs : List MV) (m : MV) (h : xs.length < 16777216) : gAppend (.obj st.length) [m] (st ++ [.lst xs]) = .ok .non (st ++ [.lst (xs ++ [m])]) := by
  simp [gAppend, h, set_last]
theorem items_last (st : Sto) (xs : List MV) : itemsOf (.obj st.length) (st ++ [.lst xs]) = some xs := by
  simp [itemsOf]
theorem isLst_last (st : Sto) (xs : List MV) : isLst (.obj st.length) (st ++ [.lst xs]) = true := by
  simp [isLst, MR.listOf]
theorem tuple_last (st : Sto) (xs : List MV) : gTuple [.obj st.length] (st ++ [.lst xs]) = .ok (.tup xs) (st ++ [.lst xs]) := by
  simp [gTuple, items_last]
theorem cutM_1 (x : MV) (xs : List MV) : cutM (x :: xs) (some 1) none = xs := by
  unfold cutM
  have e : HT.sIx (x :: xs).length 0 (some 1) = min 1 (x :: xs).length := HT.sIx_nat _ _ 1
  rw [e, HT.sIx_none]
  have : min 1 (x :: xs).length = 1 := by simp
  rw [this]
  simp
theorem gSlL1 (x : MV) (xs : List MV) (st : Sto) : gSlice (.lst (x :: xs)) (some 1) none st = .ok (.lst xs) st := by
  show Res.ok (MV.lst (cutM (x :: xs) (some 1) none)) st = _
  rw [cutM_1]
theorem gSlT1 (x : MV) (xs : List MV) (st : Sto) : gSlice (.tup (x :: xs)) (some 1) none st = .ok (.tup xs) st := by
  show Res.ok (MV.tup (cutM (x :: xs) (some 1) none)) st = _
  rw [cutM_1]
end K83

/-! texts joined, the stream of draws, what is shown -/
namespace K83
open PySem L2 TL MR
theorem gIx0 (m : MV) (ps : List MV) (st : Sto) : gIx (.lst (m :: ps)) (.int 0) st = .ok m st := by
  simp [gIx, atI, ixN]
theorem gIxT0 (m : MV) (ps : List MV) (st : Sto) : gIx (.tup (m :: ps)) (.int 0) st = .ok m st := by
  simp [gIx, atI, ixN]
theorem gLenL (ps : List MV) (st : Sto) : gLen [.lst ps] st = .ok (.int ps.length) st := by simp [gLen]
theorem gLenT (ps : List MV) (st : Sto) : gLen [.tup ps] st = .ok (.int ps.length) st := by simp [gLen]
theorem numS_len {n : Nat} (h : n < 400) : (numS n).length ≤ 3 := by
  rw [len_tl, tl_numS]
  exact numL_len (by decide) (by omega)
theorem join_len {c B : Nat} : ∀ {ps : List (List Nat)}, (∀ p ∈ ps, p.length ≤ B) → (joinL [c] ps).length ≤ ps.length * (B + 1)
  | [], _ => by simp [joinL]
  | [p], h => by
    show p.length ≤ 1 * (B + 1)
    have := h p List.mem_cons_self
    omega
  | p :: q :: r, h => by
    show (p ++ ([c] ++ joinL [c] (q :: r))).length ≤ _
    have h1 := h p List.mem_cons_self
    have ih := join_len (c := c) (ps := q :: r) fun x hx => h x (List.mem_cons_of_mem _ hx)
    rw [List.length_append, List.length_append, List.length_cons (a := p), Nat.add_mul, Nat.one_mul]
    simp only [List.length_singleton]
    omega
theorem join_mem {c d : Nat} : ∀ {ps : List (List Nat)}, d ∈ joinL [c] ps → d = c ∨ ∃ p ∈ ps, d ∈ p
  | [], h => by cases h
  | [p], h => .inr ⟨p, List.mem_cons_self, h⟩
  | p :: q :: r, h => by
    have h : d ∈ p ++ ([c] ++ joinL [c] (q :: r)) := h
    rcases List.mem_append.mp h with h | h
    · exact .inr ⟨p, List.mem_cons_self, h⟩
    · rcases List.mem_append.mp h with h | h
      · exact .inl (List.mem_singleton.mp h)
      · rcases join_mem h with h | ⟨x, hx, h⟩
        · exact .inl h
        · exact .inr ⟨x, List.mem_cons_of_mem _ hx, h⟩
theorem tl_joined (c : Nat) (ps : List Str) : tl (Txt.join ⟨#[c]⟩ ps) = joinL [c] (ps.map tl) := by rw [join_eq, tl_join]
theorem joined_asc {c B : Nat} (hc : c < 128) {ps : List Str} (h : ∀ p ∈ ps, Asc B p) : Asc (ps.length * (B + 1)) (Txt.join ⟨#[c]⟩ ps) := by
  refine ⟨?_, fun d hd => ?_⟩
  · rw [len_tl, tl_joined]
    have := join_len (c := c) (B := B) (ps := ps.map tl) fun p hp => by
      obtain ⟨q, hq, rfl⟩ := List.mem_map.mp hp
      rw [← len_tl]; exact (h q hq).1
    simpa using this
  · rw [tl_joined] at hd
    rcases join_mem hd with e | ⟨p, hp, e⟩
    · rw [e]; exact hc
    · obtain ⟨q, hq, rfl⟩ := List.mem_map.mp hp
      exact (h q hq).2 d e
theorem cut_joined {c : Nat} (hc : c < 256) {ps : List Str} (hne : ps ≠ []) (h : ∀ p ∈ ps, c ∉ tl p) : cutAt c (Txt.join ⟨#[c]⟩ ps) = ps := by
  rw [← split_cut hc]
  exact split_join (s := c) (S := []) rfl (by simp [hc]) hne h
theorem _root_.MR.Asc.mono {n m : Nat} {t : Str} (h : Asc n t) (hn : n ≤ m) : Asc m t := ⟨Nat.le_trans h.1 hn, h.2⟩
theorem num3 {n : Nat} (h : n < 400) : Asc 3 (numS n) := ⟨numS_len h, (numS_asc (n := n) (by omega)).2⟩
theorem num_free {n s : Nat} (h : s < 48) : s ∉ tl (numS n) := by rw [tl_numS]; exact numL_free (.inl h)
theorem low_asc {c : Nat} (h : lowc c = true) : Asc 1 ⟨#[c]⟩ := one_asc (by unfold lowc at h; simp at h; omega)
theorem low_free {c s : Nat} (h : lowc c = true) (hs : s < 48) : s ∉ tl ⟨#[c]⟩ := by
  unfold lowc at h
  simp at h
  simp
  omega
theorem lit_tl (s : String) : tl (Str.ofString s) = s.toList.map Char.toNat := tl_ofString s
theorem len_app (x y : Str) : (x ++ y).length = x.length + y.length := by
  rw [len_tl, tl_append, List.length_append, ← len_tl, ← len_tl]
theorem itemsOf_stsM (ps : List Str) (st : Sto) : (itemsOf (.lst (sts ps)) st).bind strsOf = some ps := by
  show strsOf (ps.map .str) = some ps
  exact strsOf_map ps
theorem gJoin_lst {y : Str} {ps : List Str} {B : Nat} (h : ∀ p ∈ ps, p.length ≤ B) (hy : y.length ≤ 1) (hb : ps.length * (B + 1) ≤ 16777216) (st : Sto) : gJoin (.str y) [.lst (sts ps)] st = .ok (.str (Txt.join y ps)) st := by
  have hs : ∀ l : List Str, (∀ p ∈ l, p.length ≤ B) → (l.map (·.length)).sum ≤ l.length * B := by
    intro l
    induction l with
    | nil => intro _; simp
    | cons a l ih =>
      intro h
      have h1 := h a List.mem_cons_self
      have h2 := ih fun p hp => h p (List.mem_cons_of_mem _ hp)
      simp only [List.map_cons, List.sum_cons, List.length_cons]
      rw [Nat.add_mul]
      omega
  have c1 : (ps.map (·.length)).sum + ps.length * y.length ≤ 16777216 := by
    have e1 := hs ps h
    have e2 : ps.length * y.length ≤ ps.length * 1 := Nat.mul_le_mul_left _ hy
    rw [Nat.mul_add] at hb
    omega
  have := itemsOf_stsM ps st
  simp only [gJoin, this, c1, if_true]
theorem lenS1 : (Str.ofString " ").length = 1 := by rw [len_tl, lit_tl]; rfl
theorem gIxT1 (a m : MV) (ps : List MV) (st : Sto) : gIx (.tup (a :: m :: ps)) (.int 1) st = .ok m st := by
  have : atI (a :: m :: ps) 1 = some m := by
    unfold atI ixN
    rw [if_pos (by decide), if_pos (by simp; omega)]
    rfl
  simp [gIx, this]
theorem litE : Str.ofString "" = ⟨#[]⟩ := ext_tl (tl_ofString "")
def Strm (k : Nat) (st : Sto) : Prop := ∃ a b c : Int, st[k]? = some (.lst [.int a, .int b, .int c])
theorem Strm.app {k : Nat} {st : Sto} (h : Strm k st) (tail : Sto) : Strm k (st ++ tail) := by
  obtain ⟨a, b, c, e⟩ := h
  exact ⟨a, b, c, by rw [List.getElem?_append_left (List.getElem?_eq_some_iff.mp e).1]; exact e⟩
theorem mul_l {i j : Int} (h : -(2 ^ 64) < i ∧ i < 2 ^ 64) (st : Sto) : gMulS (.int i) (.int j) st = .ok (.int (i * j)) st := by
  have : mulOk i j = true := by unfold mulOk; rw [decide_eq_true_iff]; exact .inl (.inl h)
  show (if mulOk i j = true then Res.ok (MV.int (i * j)) st else .bad) = _
  rw [if_pos this]
theorem mul_r {i j : Int} (h : -(2 ^ 64) < j ∧ j < 2 ^ 64) (st : Sto) : gMulS (.int i) (.int j) st = .ok (.int (i * j)) st := by
  have : mulOk i j = true := by unfold mulOk; rw [decide_eq_true_iff]; exact .inl (.inr h)
  show (if mulOk i j = true then Res.ok (MV.int (i * j)) st else .bad) = _
  rw [if_pos this]
theorem gMod_eq {i j : Int} (h : 0 < j) (st : Sto) : gMod (.int i) (.int j) st = .ok (.int (i % j)) st := by
  simp [gMod, gI, h]
theorem gDiv_eq {i j : Int} (h : 0 < j) (h2 : j < 2 ^ 64) (st : Sto) : gDiv (.int i) (.int j) st = .ok (.int (i / j)) st := by
  have : j.natAbs.log2 < 9000 := by
    have := (Nat.log2_lt (n := j.natAbs) (k := 64) (by omega)).mpr (by omega)
    omega
  simp [gDiv, gI, h, this]
theorem gAddI (i j : Int) (st : Sto) : MR.gAdd (.int i) (.int j) st = .ok (.int (i + j)) st := rfl
theorem gSubI (i j : Int) (st : Sto) : MR.gSub (.int i) (.int j) st = .ok (.int (i - j)) st := rfl
theorem gLtI (i j : Int) (st : Sto) : gLtD (.int i) (.int j) st = .ok (.bl (decide (i < j))) st := rfl
theorem gGtI (i j : Int) (st : Sto) : gGt (.int i) (.int j) st = .ok (.bl (decide (j < i))) st := rfl
theorem ix_obj {k : Nat} {st : Sto} {a b c : Int} (h : st[k]? = some (.lst [.int a, .int b, .int c])) : gIx (.obj k) (.int 0) st = .ok (.int a) st ∧ gIx (.obj k) (.int 1) st = .ok (.int b) st ∧ gIx (.obj k) (.int 2) st = .ok (.int c) st := by
  refine ⟨?_, ?_, ?_⟩ <;> simp [gIx, itemsOf, h, atI, ixN]
theorem set_obj {k : Nat} {st : Sto} {a b c : Int} (h : st[k]? = some (.lst [.int a, .int b, .int c])) (x : Int) : setAtG (.obj k) (.int 0) (.int x) st = some (st.set k (.lst [.int x, .int b, .int c])) ∧ setAtG (.obj k) (.int 2) (.int x) st = some (st.set k (.lst [.int a, .int b, .int x])) := by
  refine ⟨?_, ?_⟩ <;> simp [setAtG, h, ixN]
theorem draw_eq {k : Nat} {st : Sto} (h : Strm k st) {d : Nat} (hd : 0 < d) (hd2 : d < 2 ^ 60) (tail : Sto) : ∃ (r : Nat) (s2 : Sto), f__law_draw [.obj k, .int d] (st ++ tail) = .ok (.int r) (s2 ++ tail) ∧ r < d ∧ s2.length = st.length ∧ Strm k s2 := by
  obtain ⟨a, b, c, e⟩ := h
  have hk : k < st.length := (List.getElem?_eq_some_iff.mp e).1
  have e' : (st ++ tail)[k]? = some (.lst [.int a, .int b, .int c]) := by rw [List.getElem?_append_left hk]; exact e
  obtain ⟨i0, i1, i2⟩ := ix_obj e'
  have hdi : (0 : Int) < d := by omega
  have hdj : (d : Int) < 2 ^ 64 := by omega
  have fin : ∀ x : Int, ∃ r : Nat, r < d ∧ x % d = r := fun x => ⟨(x % d).toNat, by
    have h1 := Int.emod_nonneg x (b := d) (by omega)
    have h2 := Int.emod_lt_of_pos x hdi
    omega, by
    have h1 := Int.emod_nonneg x (b := d) (by omega)
    omega⟩
  have fs : ∀ y : MO, (st ++ tail).set k y = st.set k y ++ tail := fun y => List.set_append_left _ _ hk
  by_cases ha : 0 < a
  · obtain ⟨r, hr, er⟩ := fin a
    refine ⟨r, st.set k (.lst [.int (a / d), .int b, .int c]), ?_, hr, by simp, ⟨a / d, b, c, by simp [hk]⟩⟩
    have s1 := (set_obj e' (a / d)).1
    rw [fs] at s1
    simp [f__law_draw, b__law_draw, defM, i0, gGtI, ha, gMod_eq hdi, gDiv_eq hdi hdj, s1, er]
  · have s1 := (set_obj e' (c + 1)).2
    rw [fs] at s1
    have e2 : (st.set k (.lst [.int a, .int b, .int (c + 1)]) ++ tail)[k]? = some (.lst [.int a, .int b, .int (c + 1)]) := by
      rw [List.getElem?_append_left (by simpa using hk)]
      simp [hk]
    obtain ⟨j0, j1, j2⟩ := ix_obj e2
    have p1 : (0 : Int) < 2305843009213693951 := by decide
    have p2 : (0 : Int) < 2305843009213693921 := by decide
    have p3 : (0 : Int) < 2305843009213693907 := by decide
    have p4 : (0 : Int) < 4096 := by decide
    have p5 : (4096 : Int) < 2 ^ 64 := by decide
    have b1 : ∀ x : Int, -(2 ^ 64) < x % 2305843009213693951 ∧ x % 2305843009213693951 < 2 ^ 64 := fun x => by omega
    have m1 : ∀ (x : Int) s, gMulS (.int 1000003) (.int x) s = .ok (.int (1000003 * x)) s := fun x s => mul_l (by decide) s
    have m2 : ∀ (x : Int) s, gMulS (.int 8191) (.int x) s = .ok (.int (8191 * x)) s := fun x s => mul_l (by decide) s
    have m3 : ∀ (x y : Int) s, gMulS (.int x) (.int (y % 2305843009213693951)) s = .ok (.int (x * (y % 2305843009213693951))) s := fun x y s => mul_r (b1 y) s
    generalize hw : ((b + 1000003 * (c + 1)) % 2305843009213693951) = w at *
    obtain ⟨r, hr, er⟩ := fin ((w * w % 2305843009213693921 * w + 8191 * (c + 1)) % 2305843009213693907 / 4096)
    have bw : -(2 ^ 64) < w ∧ w < 2 ^ 64 := by rw [← hw]; exact b1 _
    have m4 : ∀ (x : Int) s, gMulS (.int x) (.int w) s = .ok (.int (x * w)) s := fun x s => mul_r bw s
    refine ⟨r, st.set k (.lst [.int a, .int b, .int (c + 1)]), ?_, hr, by simp, ⟨a, b, c + 1, by simp [hk]⟩⟩
    simp [f__law_draw, b__law_draw, defM, i0, i1, i2, j0, j1, j2, gGtI, ha, gMod_eq hdi, gDiv_eq p4 p5, s1, er, gAddI, gMod_eq p1, gMod_eq p2, gMod_eq p3, m1, m2, m4, hw]
theorem pow1 (st : Sto) : gPow (.int 10) (.int 60) st = .ok (.int ((10 : Int) ^ 60)) st := by
  show (if (decide ((0 : Int) ≤ 60 ∧ (60 : Int) ≤ 1000 ∧ (10 : Int).natAbs.log2 < 1000)) = true then Res.ok (MV.int ((10 : Int) ^ (60 : Int).toNat)) st else .bad) = _
  rw [if_pos (by decide +kernel)]
  rfl
theorem pow3 (st : Sto) : gPow (.int 10) (.int 18) st = .ok (.int ((10 : Int) ^ 18)) st := by
  show (if (decide ((0 : Int) ≤ 18 ∧ (18 : Int) ≤ 1000 ∧ (10 : Int).natAbs.log2 < 1000)) = true then Res.ok (MV.int ((10 : Int) ^ (18 : Int).toNat)) st else .bad) = _
  rw [if_pos (by decide +kernel)]
  rfl
theorem pow2 (st : Sto) : ∃ z : Int, 0 < z ∧ gPow (.int ((10 : Int) ^ 60)) (.int 12) st = .ok (.int z) st := by
  refine ⟨((10 : Int) ^ 60) ^ (12 : Int).toNat, by decide +kernel, ?_⟩
  show (if (decide ((0 : Int) ≤ 12 ∧ (12 : Int) ≤ 1000 ∧ ((10 : Int) ^ 60).natAbs.log2 < 1000)) = true then Res.ok (MV.int (((10 : Int) ^ 60) ^ (12 : Int).toNat)) st else .bad) = _
  rw [if_pos (by decide +kernel)]
theorem stream_eq {ns : List Int} {t : Nat} (st : Sto) : ∃ a b c : Int, f__law_stream [.scr ns, .int t] st = .ok (.obj st.length) (st ++ [.lst [.int a, .int b, .int c]]) := by
  obtain ⟨z, hz, p2⟩ := pow2 st
  have hp1 := pow1 st
  have hp3 := pow3 st
  generalize (10 : Int) ^ 60 = P at hp1 p2
  generalize (10 : Int) ^ 18 = Q at hp3
  obtain ⟨v0, a1⟩ : ∃ y : Int, gMulS (.int 7) (.int t) st = .ok (.int y) st := ⟨_, mul_l (by decide) st⟩
  obtain ⟨v1, a2⟩ : ∃ y : Int, MR.gAdd (.int v0) (.int 3) st = .ok (.int y) st := ⟨_, rfl⟩
  have gl : gLen [.scr ns] st = .ok (.int ns.length) st := rfl
  have tail : ∀ v : Int, ∃ w x y p q r i j s u m n o : Int, ∃ b : Bool, gAbs [.int v] st = .ok (.int w) st ∧ gMod (.int w) (.int z) st = .ok (.int x) st ∧ gMod (.int x) (.int 2147483629) st = .ok (.int y) st ∧
      gMulS (.int y) (.int 48271) st = .ok (.int p) st ∧ gMulS (.int 977) (.int t) st = .ok (.int q) st ∧ MR.gAdd (.int p) (.int q) st = .ok (.int r) st ∧ gLtD (.int v) (.int 0) st = .ok (.bl b) st ∧ gInt [.bl b] st = .ok (.int i) st ∧
      gMulS (.int 2) (.int i) st = .ok (.int j) st ∧ MR.gAdd (.int r) (.int j) st = .ok (.int s) st ∧ MR.gAdd (.int s) (.int 11) st = .ok (.int u) st ∧ gMod (.int u) (.int 2147483647) st = .ok (.int m) st ∧
      MR.gSub (.int x) (.int Q) st = .ok (.int n) st ∧ gMax [.int 0, .int n] st = .ok (.int o) st := fun v =>
    ⟨_, _, _, _, _, _, _, _, _, _, _, _, _, _, rfl, gMod_eq hz st, gMod_eq (by decide) st, mul_r (by decide) st, mul_l (by decide) st, rfl, rfl, rfl, mul_l (by decide) st, rfl, rfl, gMod_eq (by decide) st, rfl, rfl⟩
  have g0 := gLtI t ns.length st
  by_cases h : (t : Int) < ns.length
  · rw [decide_eq_true h] at g0
    have h : t < ns.length := by omega
    have gi : gIx (.scr ns) (.int t) st = .ok (.int ns[t]) st := by
      have : atI ns (t : Int) = some ns[t] := by simp [atI, ixN, h]
      simp [gIx, this]
    generalize ns[t] = v at gi
    obtain ⟨w, x, y, p, q, r, i, j, s, u, m, n, o, b, c1, c2, c3, c4, c5, c6, c7, c8, c9, c10, c11, c12, c13, c14⟩ := tail v
    refine ⟨o, m, 0, ?_⟩
    simp [f__law_stream, b__law_stream, defM, a1, a2, gl, g0, gi, hp1, p2, hp3, c1, c2, c3, c4, c5, c6, c7, c8, c9, c10, c11, c12, c13, c14]
  · rw [decide_eq_false h] at g0
    obtain ⟨w, x, y, p, q, r, i, j, s, u, m, n, o, b, c1, c2, c3, c4, c5, c6, c7, c8, c9, c10, c11, c12, c13, c14⟩ := tail v1
    refine ⟨o, m, 0, ?_⟩
    simp [f__law_stream, b__law_stream, defM, a1, a2, gl, g0, hp1, p2, hp3, c1, c2, c3, c4, c5, c6, c7, c8, c9, c10, c11, c12, c13, c14]
theorem gLen_str {N : Nat} {s : Str} (h : Asc N s) (hN : N ≤ 16777216) (st : Sto) : gLen [.str s] st = .ok (.int s.length) st := by
  have : s.length ≤ 16777216 := Nat.le_trans h.1 hN
  show (if s.length ≤ 16777216 then Res.ok (MV.int s.length) st else .bad) = _
  rw [if_pos this]
theorem gIx_str {N : Nat} {s : Str} (h : Asc N s) (hN : N ≤ 16777216) {d : Nat} (hd : d < s.length) (st : Sto) : ∃ c, c ∈ tl s ∧ c < 128 ∧ gIx (.str s) (.int d) st = .ok (.str ⟨#[c]⟩) st := by
  have hl : s.length ≤ 16777216 := Nat.le_trans h.1 hN
  have hd' : d < (tl s).length := by rw [← len_tl]; exact hd
  refine ⟨(tl s)[d], List.getElem_mem hd', h.2 _ (List.getElem_mem hd'), ?_⟩
  have : atI s.cps.toList (d : Int) = some (tl s)[d] := by
    unfold atI ixN
    have hd2 : d < s.cps.toList.length := hd'
    rw [if_pos (by omega), if_pos (by omega)]
    show (tl s)[(d : Int).toNat]? = _
    rw [Int.toNat_natCast, List.getElem?_eq_getElem hd']
  simp [gIx, hl, this]
theorem isLst_at {n : Nat} {s : Sto} (h : s.length = n) (xs : List MV) : isLst (.obj n) (s ++ [.lst xs]) = true := by subst h; exact isLst_last s xs
theorem append_at {n : Nat} {s : Sto} (h : s.length = n) (xs : List MV) (m : MV) (hx : xs.length < 16777216) : gAppend (.obj n) [m] (s ++ [.lst xs]) = .ok .non (s ++ [.lst (xs ++ [m])]) := by subst h; exact append_last s xs m hx
theorem alph_pos {al : Str} (hal : isAlph al = true) : 1 ≤ al.length ∧ al.length ≤ 4 ∧ ∀ c ∈ tl al, lowc c = true := by
  unfold isAlph at hal
  simp only [Bool.and_eq_true, decide_eq_true_eq] at hal
  rw [len_tl]
  exact ⟨hal.1.1.1, hal.1.1.2, fun c hc => List.all_eq_true.mp hal.1.2 c hc⟩
theorem alph_asc {al : Str} (hal : isAlph al = true) : Asc 4 al := by
  obtain ⟨h1, h2, h3⟩ := alph_pos hal
  refine ⟨h2, fun c hc => ?_⟩
  have := h3 c hc
  unfold lowc at this
  simp at this
  omega
theorem cutS_asc {N : Nat} {z : Str} (h : Asc N z) (lo hi : Option Int) : Asc N (cutS z lo hi) := by
  have sub : ∀ (a b : Nat), List.Sublist (((tl z).drop a).take b) (tl z) := fun a b => (List.take_sublist _ _).trans (List.drop_sublist _ _)
  have s := sub (HT.sIx z.length 0 lo) (HT.sIx z.length z.length hi - HT.sIx z.length 0 lo)
  refine ⟨?_, fun c hc => h.2 c (s.subset hc)⟩
  have h1 := h.1
  have := s.length_le
  rw [len_tl] at h1 ⊢
  exact Nat.le_trans this h1
theorem gSl_str {N : Nat} {z : Str} (h : Asc N z) (hN : N ≤ 8000) (lo hi : Option Int) (st : Sto) : ∃ y, gSlice (.str z) lo hi st = .ok (.str y) st ∧ Asc N y := by
  have hl : z.length ≤ 16777216 := by have := h.1; omega
  refine ⟨cutS z lo hi, ?_, cutS_asc h lo hi⟩
  show (if z.length ≤ 16777216 then Res.ok (MV.str (cutS z lo hi)) st else .bad) = _
  rw [if_pos hl]
theorem gAdd_str {N M : Nat} {a b : Str} (ha : Asc N a) (hb : Asc M b) (h : N + M ≤ 8000) (st : Sto) : ∃ y, MR.gAdd (.str a) (.str b) st = .ok (.str y) st ∧ Asc (N + M) y := by
  have h1 := ha.1
  have h2 := hb.1
  refine ⟨a ++ b, ?_, ?_, fun c hc => ?_⟩
  · show (if a.length + b.length ≤ 16777216 then Res.ok (MV.str (a ++ b)) st else .bad) = _
    rw [if_pos (by omega)]
  · rw [len_app]; omega
  · rw [tl_append] at hc
    rcases List.mem_append.mp hc with hc | hc
    · exact ha.2 c hc
    · exact hb.2 c hc
theorem gSl_sts (ls : List Str) (lo hi : Option Int) (st : Sto) : ∃ l2 : List Str, gSlice (.lst (sts ls)) lo hi st = .ok (.lst (sts l2)) st ∧ l2.length ≤ ls.length ∧ ∀ p ∈ l2, p ∈ ls := by
  have e : cutM (sts ls) lo hi = sts ((ls.drop (HT.sIx (sts ls).length 0 lo)).take (HT.sIx (sts ls).length (sts ls).length hi - HT.sIx (sts ls).length 0 lo)) := by
    unfold cutM sts
    rw [List.map_take, List.map_drop]
  have s : List.Sublist ((ls.drop (HT.sIx (sts ls).length 0 lo)).take (HT.sIx (sts ls).length (sts ls).length hi - HT.sIx (sts ls).length 0 lo)) ls := (List.take_sublist _ _).trans (List.drop_sublist _ _)
  refine ⟨_, ?_, s.length_le, fun p hp => s.subset hp⟩
  rw [← e]
  rfl
theorem gAdd_sts (a b : List Str) (h : a.length + b.length ≤ 16777216) (st : Sto) : MR.gAdd (.lst (sts a)) (.lst (sts b)) st = .ok (.lst (sts (a ++ b))) st := by
  show (if (sts a).length + (sts b).length ≤ 16777216 then Res.ok (MV.lst (sts a ++ sts b)) st else .bad) = _
  rw [if_pos (by simpa using h)]
  unfold sts
  rw [List.map_append]
theorem hex_asc : ∀ c, c < 128 → ∀ d ∈ (Nat.toDigits 16 c).map Char.toNat, d < 128 := by decide +kernel
theorem reprChar_asc {q c : Nat} (hc : c < 128) : ∀ d ∈ Builtin.Str.reprChar q c, d < 128 := by
  have hx := hex_asc c hc
  unfold Builtin.Str.reprChar
  intro d hd
  repeat' split at hd
  · simp at hd; omega
  · simp at hd; omega
  · simp at hd; omega
  · simp at hd; omega
  · simp at hd; omega
  · rcases List.mem_append.mp hd with hd | hd
    · simp at hd; omega
    · rcases List.mem_append.mp hd with hd | hd
      · have := (List.mem_replicate.mp hd).2; omega
      · exact hx d hd
  · omega
  · omega
theorem foldl_asc (q : Nat) : ∀ (l : List Nat) (acc : Array Nat), (∀ c ∈ l, c < 128) → (∀ c ∈ acc.toList, c < 128) → ∀ d ∈ (l.foldl (fun out c => out ++ (Builtin.Str.reprChar q c).toArray) acc).toList, d < 128
  | [], acc, _, ha => ha
  | c :: r, acc, h, ha => by
    refine foldl_asc q r _ (fun d hd => h d (List.mem_cons_of_mem _ hd)) fun d hd => ?_
    rw [Array.toList_append] at hd
    rcases List.mem_append.mp hd with hd | hd
    · exact ha d hd
    · exact reprChar_asc (h c List.mem_cons_self) d hd
theorem repr_asc {N : Nat} {x : Str} (h : Asc N x) : Asc (10 * N + 2) (reprText x) := by
  have hq : reprQuote x < 128 := by unfold reprQuote; split <;> decide
  refine ⟨?_, fun d hd => ?_⟩
  · have := StrLaws.reprText_len x fun c hc => Nat.lt_trans (h.2 c hc) (by decide)
    have := h.1
    omega
  · unfold reprText at hd
    have hd : d ∈ ((x.cps.foldl (fun out c => out ++ (Builtin.Str.reprChar (reprQuote x) c).toArray) #[reprQuote x]).push (reprQuote x)).toList := hd
    rw [Array.toList_push, ← Array.foldl_toList] at hd
    rcases List.mem_append.mp hd with hd | hd
    · exact foldl_asc (reprQuote x) x.cps.toList #[reprQuote x] h.2 (fun c hc => by simp at hc; omega) d hd
    · rw [List.mem_singleton.mp hd]; exact hq
/-- data that is shown in few plain signs -/
structure Good (N : Nat) (d : PyData) : Prop where
  asc : Asc N d.shown
  sh : d.showable = true
  dep : d.depth ≤ 2
theorem joinS_mem {S : List Nat} {d : Nat} : ∀ {ps : List (List Nat)}, d ∈ joinL S ps → d ∈ S ∨ ∃ p ∈ ps, d ∈ p
  | [], h => by cases h
  | [p], h => .inr ⟨p, List.mem_cons_self, h⟩
  | p :: q :: r, h => by
    have h : d ∈ p ++ (S ++ joinL S (q :: r)) := h
    rcases List.mem_append.mp h with h | h
    · exact .inr ⟨p, List.mem_cons_self, h⟩
    · rcases List.mem_append.mp h with h | h
      · exact .inl h
      · rcases joinS_mem h with h | ⟨x, hx, h⟩
        · exact .inl h
        · exact .inr ⟨x, List.mem_cons_of_mem _ hx, h⟩
theorem tupleText_asc {N : Nat} {ts : List Str} (h : ∀ t ∈ ts, Asc N t) : Asc (ts.length * (N + 2) + 3) (tupleText ts) := by
  have hs : ∀ l : List Str, (∀ p ∈ l, Asc N p) → (l.map (·.length)).sum ≤ l.length * N := by
    intro l
    induction l with
    | nil => intro _; simp
    | cons a l ih =>
      intro h
      have h1 := (h a List.mem_cons_self).1
      have h2 := ih fun p hp => h p (List.mem_cons_of_mem _ hp)
      simp only [List.map_cons, List.sum_cons, List.length_cons]
      rw [Nat.add_mul]
      omega
  refine ⟨?_, fun d hd => ?_⟩
  · have := tupleText_len_le ts
    have := hs ts h
    rw [Nat.mul_add]
    omega
  · unfold tupleText at hd
    rw [tl_append, tl_append] at hd
    rcases List.mem_append.mp hd with hd | hd
    · rcases List.mem_append.mp hd with hd | hd
      · rw [lit_tl] at hd
        have : ∀ c ∈ "(".toList.map Char.toNat, c < 128 := by decide
        exact this d hd
      · rw [tl_join] at hd
        rcases joinS_mem hd with hd | ⟨p, hp, hd⟩
        · rw [lit_tl] at hd
          have : ∀ c ∈ ", ".toList.map Char.toNat, c < 128 := by decide
          exact this d hd
        · obtain ⟨t, ht, rfl⟩ := List.mem_map.mp hp
          exact (h t ht).2 d hd
    · split at hd
      · rw [lit_tl] at hd
        have : ∀ c ∈ ",)".toList.map Char.toNat, c < 128 := by decide
        exact this d hd
      · rw [lit_tl] at hd
        have : ∀ c ∈ ")".toList.map Char.toNat, c < 128 := by decide
        exact this d hd
theorem Good.strd {N : Nat} {x : Str} (h : Asc N x) : Good (10 * N + 2) (.str x) := ⟨by simp only [PyData.shown]; exact repr_asc h, by simp only [PyData.showable], by simp [PyData.depth]⟩
theorem Good.num {n : Nat} (h : n < 400) : Good 62 (.int n) := ⟨by
    have e : (PyData.int (n : Int)).shown = numS n := by simp only [PyData.shown]; rfl
    rw [e]
    exact (num3 h).mono (by decide), by
    have := log2_small (n := n) (by omega)
    simp only [PyData.showable]
    simpa using this, by simp [PyData.depth]⟩
theorem Good.mono {N M : Nat} {d : PyData} (h : Good N d) (hn : N ≤ M) : Good M d := ⟨h.asc.mono hn, h.sh, h.dep⟩
structure GoodAll (N D : Nat) (ds : List PyData) : Prop where
  asc : ∀ t ∈ PyData.shownAll ds, Asc N t
  sh : PyData.showableAll ds = true
  dep : PyData.depthAll ds ≤ D
theorem shownAll_len : ∀ ds : List PyData, (PyData.shownAll ds).length = ds.length
  | [] => by simp only [PyData.shownAll]; rfl
  | d :: ds => by simp only [PyData.shownAll, List.length_cons, shownAll_len ds]
theorem GoodAll.nil (N D : Nat) : GoodAll N D [] := ⟨(fun t ht => by simp only [PyData.shownAll] at ht; cases ht), by simp only [PyData.showableAll], by simp [PyData.depthAll]⟩
theorem GoodAll.cons {N D : Nat} {d : PyData} {ds : List PyData} (h1 : Asc N d.shown) (h2 : d.showable = true) (h3 : d.depth ≤ D) (h : GoodAll N D ds) : GoodAll N D (d :: ds) :=
  ⟨fun t ht => by
    simp only [PyData.shownAll] at ht
    rcases List.mem_cons.mp ht with e | e
    · rw [e]; exact h1
    · exact h.asc t e, by simp only [PyData.showableAll, h2, h.sh]; rfl, by simp only [PyData.depthAll]; exact Nat.max_le.mpr ⟨h3, h.dep⟩⟩
theorem GoodAll.tuple {N D : Nat} {ds : List PyData} (h : GoodAll N D ds) : Asc (ds.length * (N + 2) + 3) (PyData.tuple ds).shown ∧ (PyData.tuple ds).showable = true ∧ (PyData.tuple ds).depth ≤ D + 1 := by
  refine ⟨?_, by simp only [PyData.showable]; exact h.sh, by simp only [PyData.depth]; have := h.dep; omega⟩
  simp only [PyData.shown]
  have := tupleText_asc h.asc
  rw [shownAll_len] at this
  exact this
theorem zero_dep (x : Str) : (PyData.str x).depth ≤ 0 := by simp [PyData.depth]
theorem zero_depI (x : Int) : (PyData.int x).depth ≤ 0 := by simp [PyData.depth]
theorem repr_str {N : Nat} {x : Str} (h : Asc N x) (hN : N ≤ 8000) : ∃ y, Asc 90000 y ∧ ∀ st, gRepr [.str x] st = .ok (.str y) st := by
  have g := Good.strd h
  refine ⟨(PyData.str x).shown, g.asc.mono (by omega), fun st => ?_⟩
  have et : topD (.str x) st = some (.str x) := rfl
  have c : ((PyData.str x).showable = true ∧ (PyData.str x).depth ≤ 60) ∧ (PyData.str x).shown.length ≤ 16777216 := ⟨⟨g.sh, by have := g.dep; omega⟩, by have := g.asc.1; omega⟩
  simp only [gRepr, et, c, and_self, if_true]
theorem repr_non : ∃ y, Asc 90000 y ∧ ∀ st, gRepr [.non] st = .ok (.str y) st := by
  have e : (PyData.none).shown = Str.ofString "None" := by simp only [PyData.shown]
  refine ⟨Str.ofString "None", asc_lit (n := 4) |>.mono (by decide), fun st => ?_⟩
  have et : topD .non st = some .none := rfl
  have c : ((PyData.none).showable = true ∧ (PyData.none).depth ≤ 60) ∧ (PyData.none).shown.length ≤ 16777216 := ⟨⟨by simp only [PyData.showable], by simp [PyData.depth]⟩, by rw [e]; decide⟩
  rw [← e]
  simp only [gRepr, et, c, and_self, if_true]
theorem gNe_same {N : Nat} {y : Str} (h : Asc N y) (st : Sto) : gNe (.str y) (.str y) st = .ok (.bl false) st := by
  rw [gNe_str h h, decide_eq_true rfl]
  rfl
end K83

/-! machines as data; is_machine -/
namespace K83
open PySem L2 TL MR
structure Stp where
  a : Int
  b : Str
  c : Int
  d : Int
  e : Int
def Stp.mv (s : Stp) : MV := .tup [.int s.a, .str s.b, .int s.c, .int s.d, .int s.e]
def Stp.pd (s : Stp) : PyData := .tuple [.int s.a, .str s.b, .int s.c, .int s.d, .int s.e]
structure Mach where
  al : Str
  size : Int
  starts : List Int
  finals : List Int
  steps : List Stp
def tupI (l : List Int) : MV := .tup (l.map .int)
def Mach.mv (p : Mach) : MV := .tup [.str p.al, .int p.size, tupI p.starts, tupI p.finals, .tup (p.steps.map Stp.mv)]
def inR (lo hi i : Int) : Bool := decide (lo ≤ i) && decide (i ≤ hi)
def ascG {α : Type} (lt : α → α → Bool) : List α → Bool
  | a :: b :: r => lt a b && ascG lt (b :: r)
  | _ => true
def ltI (a b : Int) : Bool := decide (a < b)
def ltS (a b : Stp) : Bool := PySem.W.dataLt a.pd b.pd
def statesOk (size : Int) (l : List Int) : Bool := l.all (inR 0 (size - 1)) && ascG ltI l
def stepOk (al : Str) (size : Int) (s : Stp) : Bool := inR 0 (size - 1) s.a && inR 0 (size - 1) s.e && isLetter al (.str s.b) && inR 0 1 s.c && inR 0 3 s.d
def isM (p : Mach) : Bool := isAlph p.al && inR 1 8 p.size && statesOk p.size p.starts && statesOk p.size p.finals && decide (p.steps.length ≤ 60) && p.steps.all (stepOk p.al p.size) && ascG ltS p.steps
/-- texts in a machine's parts are short -/
structure Mach.Sm (p : Mach) : Prop where
  al : Asc 8000 p.al
  st : ∀ s ∈ p.steps, Asc 8000 s.b
  n1 : p.starts.length ≤ 10000
  n2 : p.finals.length ≤ 10000
  n3 : p.steps.length ≤ 10000
theorem isI_eq (i lo hi : Int) (st : Sto) : f_is_integer [.int i, .int lo, .int hi] st = .ok (.bl (inR lo hi i)) st := is_integer_eq (N := 0) (.int i) lo hi st
theorem zip_asc {α : Type} (lt : α → α → Bool) : ∀ l : List α, (List.zipWith lt l (l.drop 1)).all id = ascG lt l
  | [] => rfl
  | [a] => rfl
  | a :: b :: r => by
    have ih := zip_asc lt (b :: r)
    simp only [List.drop_succ_cons, List.drop_zero, List.zipWith_cons_cons, List.all_cons, ascG] at ih ⊢
    rw [ih]
    rfl
theorem cutM_tail {α : Type} (g : α → MV) (l : List α) : cutM (l.map g) (some 1) none = (l.drop 1).map g := by
  cases l with
  | nil => rfl
  | cons a r => rw [List.map_cons, cutM_1]; rfl
theorem are_asc_eq {α : Type} (g : α → MV) (lt : α → α → Bool) (h : ∀ x y st, gLtD (g x) (g y) st = .ok (.bl (lt x y)) st) (xs : List α) (hl : xs.length ≤ 16777216) (st : Sto) :
    f_are_ascending [.tup (xs.map g)] st = .ok (.bl (ascG lt xs)) st := by
  let k : MV → MV := fun m => match m with | .tup [a, b] => (match gLtD a b st with | .ok v _ => v | _ => .non) | _ => .non
  have c : compM (.tp [1, 2]) tYesM (m2 gLtD (mVar 1) (mVar 2)) (zipM (xs.map g) ((xs.drop 1).map g)) [some (.tup (xs.map g)), none, none] [] st = .ok ([] ++ (zipM (xs.map g) ((xs.drop 1).map g)).map k) st := by
    apply compM_map
    · intro y hy
      obtain ⟨a, b, ha, hb, rfl⟩ := zip_get hy
      obtain ⟨x, _, rfl⟩ := List.mem_map.mp ha
      obtain ⟨z, _, rfl⟩ := List.mem_map.mp hb
      refine ⟨[some (.tup (xs.map g)), some (g x), some (g z)], rfl, ?_⟩
      have hk : k (.tup [g x, g z]) = .bl (lt x z) := by show (match gLtD (g x) (g z) st with | .ok v _ => v | _ => .non) = _; rw [h]
      rw [hk]
      simp [h]
    · simp only [zipM, List.length_zipWith, List.length_map, List.length_nil]
      omega
  have e : (zipM (xs.map g) ((xs.drop 1).map g)).map k = (List.zipWith lt xs (xs.drop 1)).map MV.bl := by
    unfold zipM
    rw [List.zipWith_map, List.map_zipWith, List.map_zipWith]
    congr 1
    funext a b
    show (match gLtD (g a) (g b) st with | .ok v _ => v | _ => .non) = _
    rw [h]
  rw [e, List.nil_append] at c
  have z := zip_asc lt xs
  rw [List.drop_one] at z c
  rw [List.map_tail] at c
  simp [f_are_ascending, b_are_ascending, defM, gSlice, cutM_tail, c, gAll_map, z, -List.map_zipWith, -List.map_map]
theorem ltI_eq (x y : Int) (st : Sto) : gLtD (.int x) (.int y) st = .ok (.bl (ltI x y)) st := rfl
theorem toD_stp (s : Stp) : toD s.mv = some s.pd := rfl
theorem ordOk_stp (s t : Stp) : ordOk s.pd t.pd = true := by
  unfold ordOk Stp.pd
  simp [PySem.W.alike, PySem.W.alikeAll, PyData.depth, PyData.depthAll]
theorem ltS_eq (x y : Stp) (st : Sto) : gLtD x.mv y.mv st = .ok (.bl (ltS x y)) st := by
  show (match topD x.mv st, topD y.mv st with
    | some d, some e => if ordOk d e = true then Res.ok (MV.bl (PySem.W.dataLt d e)) st else .bad
    | _, _ => .bad) = _
  rw [show topD x.mv st = some x.pd from rfl, show topD y.mv st = some y.pd from rfl]
  show (if ordOk x.pd y.pd = true then Res.ok (MV.bl (PySem.W.dataLt x.pd y.pd)) st else .bad) = _
  rw [if_pos (ordOk_stp x y)]
  rfl
theorem all_comp {α : Type} {t : Tgt} {elt : ME} {g : α → MV} {f : α → Bool} {env : MEnv} {st : Sto} {xs : List α} (h : ∀ x ∈ xs, ∃ env1, t.bind (g x) env = some env1 ∧ elt env1 st = .ok (.bl (f x)) st) (hl : xs.length ≤ 16777216) :
    compM t tYesM elt (xs.map g) env [] st = .ok (((xs.map f).map MV.bl)) st := by
  have : ∀ {xs : List α} {acc : List MV}, (∀ x ∈ xs, ∃ env1, t.bind (g x) env = some env1 ∧ elt env1 st = .ok (.bl (f x)) st) → acc.length + xs.length ≤ 16777216 → compM t tYesM elt (xs.map g) env acc st = .ok (acc ++ (xs.map f).map MV.bl) st := by
    intro xs
    induction xs with
    | nil => intro acc _ _; simp [compM]
    | cons x xs ih =>
      intro acc h hl
      obtain ⟨env1, e1, e2⟩ := h x List.mem_cons_self
      have hl' : acc.length < 16777216 := by simp at hl; omega
      rw [List.map_cons]
      unfold compM
      rw [e1]
      show (match tYesM env1 st with
        | .ok true st1 => (match elt env1 st1 with
          | .ok v st2 => if acc.length < 16777216 then compM t tYesM elt (xs.map g) env (acc ++ [v]) st2 else .bad
          | _ => .bad)
        | .ok false st1 => compM t tYesM elt (xs.map g) env acc st1
        | _ => .bad) = _
      simp only [tYesM, e2, if_pos hl']
      rw [ih (fun z hz => h z (List.mem_cons_of_mem _ hz)) (by simp at hl ⊢; omega)]
      simp
  have q := this (xs := xs) (acc := []) h (by simpa using hl)
  rw [List.nil_append] at q
  exact q
theorem all_map_id {α : Type} (f : α → Bool) (xs : List α) : (xs.map f).all id = xs.all f := by rw [List.all_map]; rfl
theorem are_states_eq (size : Int) (l : List Int) (hl : l.length ≤ 10000) (st : Sto) : f_are_states [.int size, tupI l] st = .ok (.bl (statesOk size l)) st := by
  have c : compM (.nm 2) tYesM (mFn 3 f_is_integer (aCons (mVar 2) (aCons (mC (.int 0)) (aCons (m2 gSub (mVar 0) (mC (.int 1))) aNil)))) (l.map MV.int) [some (.int size), some (tupI l), none] [] st = .ok (((l.map (inR 0 (size - 1))).map MV.bl)) st := by
    apply all_comp
    · intro x hx
      refine ⟨_, rfl, ?_⟩
      simp [gSubI, isI_eq]
    · omega
  have a := are_asc_eq MV.int ltI ltI_eq l (by omega) st
  have e := all_map_id (inR 0 (size - 1)) l
  unfold tupI at c ⊢
  unfold statesOk
  cases hg : l.all (inR 0 (size - 1)) with
  | false =>
    rw [hg] at e
    simp [f_are_states, b_are_states, defM, gIsi, c, gAll_map, e, -List.map_map, -List.all_map]
  | true =>
    rw [hg] at e
    simp [f_are_states, b_are_states, defM, gIsi, c, gAll_map, e, a, -List.map_map, -List.all_map]
theorem is_step_eq {al : Str} (size : Int) (s : Stp) (h : Asc 8000 s.b) (st : Sto) : f_is_step [.str al, .int size, s.mv] st = .ok (.bl (stepOk al size s)) st := by
  have hl := is_letter_eq (N := 8000) (by decide) (al := al) (Item.str _ h) st
  unfold Stp.mv stepOk
  have hb : isLetter al (.str s.b) = isLetter al (.str s.b) := rfl
  generalize isLetter al (.str s.b) = B at *
  obtain ⟨a, b, c, d, e⟩ := s
  dsimp only at *
  cases h1 : inR 0 (size - 1) a <;> cases h2 : inR 0 (size - 1) e <;> cases B <;> cases h3 : inR 0 1 c <;> cases h4 : inR 0 3 d <;>
    simp [f_is_step, b_is_step, defM, gIsi, gLen, gNe, topD, toD, sh_int, PyData.eqv, gConsM, gSubI, isI_eq, hl, h1, h2, h3, h4]
end K83
namespace K83
open PySem L2 TL MR
theorem is_machine_eq {p : Mach} (h : p.Sm) (st : Sto) : f_is_machine [p.mv] st = .ok (.bl (isM p)) st := by
  have h1 := is_alphabet_eq (N := 8000) (by decide) h.al st
  have h2 := isI_eq p.size 1 8 st
  have h3 := are_states_eq p.size p.starts h.n1 st
  have h4 := are_states_eq p.size p.finals h.n2 st
  have hl5 := h.n3
  have h5 := are_asc_eq Stp.mv ltS ltS_eq p.steps (by omega) st
  have c : ∀ e1 e2 e3 e4 : Option MV, compM (.nm 6) tYesM (mFn 3 f_is_step (aCons (mVar 1) (aCons (mVar 2) (aCons (mVar 6) aNil)))) (p.steps.map Stp.mv) [e1, some (.str p.al), some (.int p.size), e2, e3, e4, none] [] st = .ok (((p.steps.map (stepOk p.al p.size)).map MV.bl)) st := by
    intro e1 e2 e3 e4
    apply all_comp
    · intro x hx
      refine ⟨_, rfl, ?_⟩
      simp [is_step_eq p.size x (h.st x hx) st]
    · omega
  have e := all_map_id (stepOk p.al p.size) p.steps
  have e6 : (p.steps.map Stp.mv).length = p.steps.length := List.length_map _
  unfold Mach.mv isM
  obtain ⟨al, size, starts, finals, steps⟩ := p
  dsimp only at *
  generalize steps.map Stp.mv = SM at *
  cases g1 : isAlph al with
  | false => rw [g1] at h1; simp [f_is_machine, b_is_machine, defM, gIsi, gLen, gNe, topD, toD, sh_int, PyData.eqv, gConsM, h1]
  | true =>
    rw [g1] at h1
    cases g2 : inR 1 8 size with
    | false => rw [g2] at h2; simp [f_is_machine, b_is_machine, defM, gIsi, gLen, gNe, topD, toD, sh_int, PyData.eqv, gConsM, h1, h2]
    | true =>
      rw [g2] at h2
      cases g3 : statesOk size starts with
      | false => rw [g3] at h3; simp [f_is_machine, b_is_machine, defM, gIsi, gLen, gNe, topD, toD, sh_int, PyData.eqv, gConsM, h1, h2, h3]
      | true =>
        rw [g3] at h3
        cases g4 : statesOk size finals with
        | false => rw [g4] at h4; simp [f_is_machine, b_is_machine, defM, gIsi, gLen, gNe, topD, toD, sh_int, PyData.eqv, gConsM, h1, h2, h3, h4]
        | true =>
          rw [g4] at h4
          by_cases hh : steps.length ≤ 60
          case neg => have e7 : (60 : Int) < (steps.length : Int) := by omega
                      simp [f_is_machine, b_is_machine, defM, gIsi, gNe, topD, toD, sh_int, PyData.eqv, gConsM, gLenT, h1, h2, h3, h4, e6, gGtI, e7, hh]
          case pos =>
            have e7 : ¬ (60 : Int) < (steps.length : Int) := by omega
            cases g6 : steps.all (stepOk al size) with
            | false => rw [g6] at e; simp [f_is_machine, b_is_machine, defM, gIsi, gNe, topD, toD, sh_int, PyData.eqv, gConsM, gLenT, h1, h2, h3, h4, e6, gGtI, e7, hh, c, gAll_map, e, -List.map_map, -List.all_map]
            | true => rw [g6] at e; simp [f_is_machine, b_is_machine, defM, gIsi, gNe, topD, toD, sh_int, PyData.eqv, gConsM, gLenT, h1, h2, h3, h4, e6, gGtI, e7, hh, c, gAll_map, e, h5, -List.map_map, -List.all_map]
end K83

/-! machines that are machines, their texts -/
namespace K83
open PySem L2 TL MR
structure NS where
  a : Nat
  b : Nat
  c : Nat
  d : Nat
  e : Nat
  deriving DecidableEq
def NS.up (s : NS) : Stp := ⟨s.a, ⟨#[s.b]⟩, s.c, s.d, s.e⟩
structure NM where
  al : Str
  size : Nat
  starts : List Nat
  finals : List Nat
  steps : List NS
def nInts (l : List Nat) : List Int := l.map fun (i : Nat) => (i : Int)
def NM.up (q : NM) : Mach := ⟨q.al, q.size, nInts q.starts, nInts q.finals, q.steps.map NS.up⟩
structure NS.Ok (s : NS) : Prop where
  a : s.a < 8
  b : lowc s.b = true
  c : s.c ≤ 1
  d : s.d ≤ 3
  e : s.e < 8
structure NM.Ok (q : NM) : Prop where
  isM : isM q.up = true
  al : isAlph q.al = true
  size : q.size ≤ 8
  st : ∀ i ∈ q.starts, i < 8
  fi : ∀ i ∈ q.finals, i < 8
  sl : q.starts.length ≤ 8
  fl : q.finals.length ≤ 8
  len : q.steps.length ≤ 60
  ok : ∀ s ∈ q.steps, s.Ok
theorem inR_is {lo hi i : Int} (h : inR lo hi i = true) : lo ≤ i ∧ i ≤ hi := by
  unfold inR at h
  simp at h
  exact h
theorem ascI_pw : ∀ {l : List Int}, ascG ltI l = true → l.Pairwise (· < ·)
  | [], _ => .nil
  | [a], _ => List.pairwise_singleton _ _
  | a :: b :: r, h => by
    rw [ascG, Bool.and_eq_true] at h
    have ih := ascI_pw h.2
    have hab : a < b := by have := h.1; unfold ltI at this; exact of_decide_eq_true this
    refine List.pairwise_cons.mpr ⟨fun x hx => ?_, ih⟩
    rcases List.mem_cons.mp hx with e | hx
    · rw [e]; exact hab
    · exact Int.lt_trans hab ((List.pairwise_cons.mp ih).1 x hx)
theorem nodup_len : ∀ {l m : List Int}, l.Nodup → (∀ x ∈ l, x ∈ m) → l.length ≤ m.length
  | [], m, _, _ => Nat.zero_le _
  | a :: l, m, h, hs => by
    have ha := hs a List.mem_cons_self
    have hn := List.nodup_cons.mp h
    have := nodup_len (l := l) (m := m.erase a) hn.2 fun x hx => (List.mem_erase_of_ne (fun e => hn.1 (by rw [← e]; exact hx))).mpr (hs x (List.mem_cons_of_mem _ hx))
    rw [List.length_erase_of_mem ha] at this
    have := List.length_pos_of_mem ha
    simp only [List.length_cons]
    omega
theorem states_nat {size : Int} {l : List Int} (h : statesOk size l = true) (hs : size ≤ 8) : ∃ n : List Nat, l = nInts n ∧ (∀ i ∈ n, i < 8) ∧ n.length ≤ 8 := by
  unfold statesOk at h
  rw [Bool.and_eq_true] at h
  have hr : ∀ i ∈ l, 0 ≤ i ∧ i ≤ size - 1 := fun i hi => inR_is (List.all_eq_true.mp h.1 i hi)
  have hp := ascI_pw h.2
  refine ⟨l.map Int.toNat, ?_, fun i hi => ?_, ?_⟩
  · unfold nInts
    rw [List.map_map]
    conv => lhs; rw [← List.map_id l]
    exact List.map_congr_left fun i hi => by have := hr i hi; show i = ((i.toNat : Nat) : Int); omega
  · obtain ⟨j, hj, rfl⟩ := List.mem_map.mp hi
    have := hr j hj; omega
  · rw [List.length_map]
    have nd : l.Nodup := hp.imp fun z => Int.ne_of_lt z
    refine nodup_len (m := [0, 1, 2, 3, 4, 5, 6, 7]) nd fun x hx => ?_
    have := hr x hx
    simp only [List.mem_cons, List.not_mem_nil, or_false]
    omega
theorem letter_one {al s : Str} (h : isLetter al (.str s) = true) : ∃ c, s = ⟨#[c]⟩ ∧ lowc c = true := by
  rcases str_one s with ⟨c, rfl⟩ | ⟨_, e⟩
  · refine ⟨c, rfl, ?_⟩
    have e : isLetter al (.str ⟨#[c]⟩) = (lowc c && decide (c ∈ tl al)) := rfl
    rw [e, Bool.and_eq_true] at h
    exact h.1
  · rw [e al] at h; cases h
theorem steps_nat {al : Str} {size : Int} (hs : size ≤ 8) : ∀ {l : List Stp}, l.all (stepOk al size) = true → ∃ n : List NS, l = n.map NS.up ∧ ∀ s ∈ n, s.Ok
  | [], _ => ⟨[], rfl, fun s h => by cases h⟩
  | s :: l, h => by
    rw [List.all_cons, Bool.and_eq_true] at h
    obtain ⟨n, e, hn⟩ := steps_nat hs h.2
    have h1 := h.1
    unfold stepOk at h1
    simp only [Bool.and_eq_true] at h1
    obtain ⟨⟨⟨⟨z1, z2⟩, z3⟩, z4⟩, z5⟩ := h1
    obtain ⟨ch, e3, l3⟩ := letter_one z3
    have y1 := inR_is z1; have y2 := inR_is z2; have y4 := inR_is z4; have y5 := inR_is z5
    refine ⟨⟨s.a.toNat, ch, s.c.toNat, s.d.toNat, s.e.toNat⟩ :: n, ?_, fun t ht => ?_⟩
    · rw [List.map_cons, ← e]
      congr 1
      obtain ⟨a, b, c, d, e'⟩ := s
      dsimp only at *
      subst e3
      show (⟨a, ⟨#[ch]⟩, c, d, e'⟩ : Stp) = ⟨((a.toNat : Nat) : Int), ⟨#[ch]⟩, ((c.toNat : Nat) : Int), ((d.toNat : Nat) : Int), ((e'.toNat : Nat) : Int)⟩
      rw [Int.toNat_of_nonneg y1.1, Int.toNat_of_nonneg y4.1, Int.toNat_of_nonneg y5.1, Int.toNat_of_nonneg y2.1]
    · rcases List.mem_cons.mp ht with r | ht
      · subst r
        exact ⟨by show s.a.toNat < 8; omega, l3, by show s.c.toNat ≤ 1; omega, by show s.d.toNat ≤ 3; omega, by show s.e.toNat < 8; omega⟩
      · exact hn t ht
theorem isM_nat {p : Mach} (h : isM p = true) : ∃ q : NM, p = q.up ∧ q.Ok := by
  have h0 := h
  unfold isM at h
  simp only [Bool.and_eq_true] at h
  obtain ⟨⟨⟨⟨⟨⟨h1, h2⟩, h3⟩, h4⟩, h5⟩, h6⟩, h7⟩ := h
  have y2 := inR_is h2
  obtain ⟨n1, e1, b1, c1⟩ := states_nat h3 y2.2
  obtain ⟨n2, e2, b2, c2⟩ := states_nat h4 y2.2
  obtain ⟨n3, e3, b3⟩ := steps_nat y2.2 h6
  have ep : p = (NM.mk p.al p.size.toNat n1 n2 n3).up := by
    obtain ⟨al, size, starts, finals, steps⟩ := p
    dsimp only at *
    unfold NM.up
    subst e1 e2 e3
    congr 1
    show size = ((size.toNat : Nat) : Int)
    omega
  refine ⟨⟨p.al, p.size.toNat, n1, n2, n3⟩, ep, ?_⟩
  exact ⟨by rw [← ep]; exact h0, h1, by show p.size.toNat ≤ 8; omega, b1, b2, c1, c2, by have := of_decide_eq_true h5; rw [e3, List.length_map] at this; exact this, b3⟩
/-! ### the texts -/
def listS (l : List Nat) : Str := if l = [] then Str.ofString "-" else Txt.join (Str.ofString ",") (l.map numS)
def sgn (c : Nat) : Str := if c = 1 then Str.ofString "=" else Str.ofString "+"
def stepW (s : NS) : List Str := [numS s.a, ⟨#[s.b]⟩, sgn s.c ++ numS s.d, numS s.e]
def headW (q : NM) : List Str := [Str.ofString "machine", q.al, numS q.size, Str.ofString "starts", listS q.starts, Str.ofString "finals", listS q.finals]
def joinSp (l : List Str) : Str := Txt.join (Str.ofString " ") l
def linesM (q : NM) : List Str := joinSp (headW q) :: q.steps.map fun s => joinSp (stepW s)
def textM (q : NM) : Str := Txt.join (Str.ofString "\n") (linesM q)
theorem litC : Str.ofString "," = ⟨#[44]⟩ := ext_tl (tl_ofString ",")
theorem litEq : Str.ofString "=" = ⟨#[61]⟩ := ext_tl (tl_ofString "=")
theorem litPl : Str.ofString "+" = ⟨#[43]⟩ := ext_tl (tl_ofString "+")
theorem num1 {n : Nat} (h : n < 10) : Asc 1 (numS n) ∧ (∀ c ∈ tl (numS n), 48 ≤ c ∧ c ≤ 57) := by
  have e : tl (numS n) = [48 + n] := by rw [tl_numS, numL_lt h]
  refine ⟨⟨by rw [len_tl, e]; exact Nat.le_refl _, fun c hc => ?_⟩, fun c hc => ?_⟩
  · rw [e] at hc; simp at hc; omega
  · rw [e] at hc; simp at hc; omega
/-- a short text without a blank, a comma, an end of line -/
structure Wd (N : Nat) (p : Str) : Prop where
  asc : Asc N p
  sp : 32 ∉ tl p
  nl : 10 ∉ tl p
theorem Wd.mono {N M : Nat} {p : Str} (h : Wd N p) (hn : N ≤ M) : Wd M p := ⟨h.asc.mono hn, h.sp, h.nl⟩
theorem num_wd {n : Nat} (h : n < 10) : Wd 1 (numS n) := ⟨(num1 h).1, fun m => by have := (num1 h).2 _ m; omega, fun m => by have := (num1 h).2 _ m; omega⟩
theorem sgn_wd (c : Nat) : Wd 1 (sgn c) := by
  unfold sgn
  split
  · rw [litEq]; exact ⟨one_asc (by decide), by decide, by decide⟩
  · rw [litPl]; exact ⟨one_asc (by decide), by decide, by decide⟩
theorem app_wd {N M : Nat} {p q : Str} (h : Wd N p) (g : Wd M q) : Wd (N + M) (p ++ q) := by
  have ha : Asc (N + M) (p ++ q) := ⟨by rw [len_app]; exact Nat.add_le_add h.asc.1 g.asc.1, fun c hc => by
    rw [tl_append] at hc
    rcases List.mem_append.mp hc with hc | hc
    · exact h.asc.2 c hc
    · exact g.asc.2 c hc⟩
  refine ⟨ha, fun m => ?_, fun m => ?_⟩
  · rw [tl_append] at m
    rcases List.mem_append.mp m with m | m
    · exact h.sp m
    · exact g.sp m
  · rw [tl_append] at m
    rcases List.mem_append.mp m with m | m
    · exact h.nl m
    · exact g.nl m
theorem lit_wd {s : String} {N : Nat} (h : (s.toList.map Char.toNat).length ≤ N := by decide) (h1 : ∀ c ∈ s.toList.map Char.toNat, c < 128 := by decide) (h2 : 32 ∉ s.toList.map Char.toNat := by decide) (h3 : 10 ∉ s.toList.map Char.toNat := by decide) : Wd N (Str.ofString s) :=
  ⟨asc_lit h h1, by rw [lit_tl]; exact h2, by rw [lit_tl]; exact h3⟩
theorem list_wd {l : List Nat} (h : ∀ i ∈ l, i < 8) (hl : l.length ≤ 8) : Wd 16 (listS l) := by
  unfold listS
  split
  · exact lit_wd
  · rw [litC]
    have hp : ∀ p ∈ l.map numS, Wd 1 p := fun p hp => by
      obtain ⟨i, hi, rfl⟩ := List.mem_map.mp hp
      exact num_wd (by have := h i hi; omega)
    refine ⟨(joined_asc (by decide) fun p hp' => (hp p hp').asc).mono (by simp; omega), fun m => ?_, fun m => ?_⟩
    · rw [tl_joined] at m
      rcases join_mem m with e | ⟨p, hp', hm⟩
      · cases e
      · obtain ⟨q, hq, rfl⟩ := List.mem_map.mp hp'
        exact (hp q hq).sp hm
    · rw [tl_joined] at m
      rcases join_mem m with e | ⟨p, hp', hm⟩
      · cases e
      · obtain ⟨q, hq, rfl⟩ := List.mem_map.mp hp'
        exact (hp q hq).nl hm
theorem alph_wd {al : Str} (h : isAlph al = true) : Wd 4 al := by
  have h0 := (alph_pos h).2.2
  refine ⟨alph_asc h, fun m => ?_, fun m => ?_⟩
  · have := h0 _ m; cases this
  · have := h0 _ m; cases this
theorem low_wd {c : Nat} (h : lowc c = true) : Wd 1 ⟨#[c]⟩ := ⟨low_asc h, low_free h (by decide), low_free h (by decide)⟩
theorem headW_wd {q : NM} (h : q.Ok) : ∀ p ∈ headW q, Wd 16 p := by
  intro p hp
  have := h.size
  simp only [headW, List.mem_cons, List.not_mem_nil, or_false] at hp
  rcases hp with e | e | e | e | e | e | e
  · rw [e]; exact lit_wd
  · rw [e]; exact (alph_wd h.al).mono (by decide)
  · rw [e]; exact (num_wd (by omega)).mono (by decide)
  · rw [e]; exact lit_wd
  · rw [e]; exact list_wd h.st h.sl
  · rw [e]; exact lit_wd
  · rw [e]; exact list_wd h.fi h.fl
theorem stepW_wd {s : NS} (h : s.Ok) : ∀ p ∈ stepW s, Wd 2 p := by
  intro p hp
  have h1 := h.a; have h2 := h.d; have h3 := h.e
  simp only [stepW, List.mem_cons, List.not_mem_nil, or_false] at hp
  rcases hp with e | e | e | e
  · rw [e]; exact (num_wd (by omega)).mono (by decide)
  · rw [e]; exact (low_wd h.b).mono (by decide)
  · rw [e]; exact app_wd (sgn_wd _) (num_wd (by omega))
  · rw [e]; exact (num_wd (by omega)).mono (by decide)
theorem join_ln {N : Nat} {ps : List Str} (h : ∀ p ∈ ps, Wd N p) : Asc (ps.length * (N + 1)) (joinSp ps) ∧ 10 ∉ tl (joinSp ps) := by
  unfold joinSp
  rw [litS]
  refine ⟨joined_asc (by decide) fun p hp => (h p hp).asc, fun m => ?_⟩
  rw [tl_joined] at m
  rcases join_mem m with e | ⟨p, hp', hm⟩
  · cases e
  · obtain ⟨q, hq, rfl⟩ := List.mem_map.mp hp'
    exact (h q hq).nl hm
theorem join_cut {N : Nat} {ps : List Str} (hne : ps ≠ []) (h : ∀ p ∈ ps, Wd N p) : cutAt 32 (joinSp ps) = ps := by
  unfold joinSp
  rw [litS]
  exact cut_joined (by decide) hne fun p hp => (h p hp).sp
theorem lines_ok {q : NM} (h : q.Ok) : ∀ p ∈ linesM q, Asc 119 p ∧ 10 ∉ tl p := by
  intro p hp
  rcases List.mem_cons.mp hp with e | hp
  · rw [e]; exact join_ln (headW_wd h)
  · obtain ⟨s, hs, rfl⟩ := List.mem_map.mp hp
    have := join_ln (stepW_wd (h.ok s hs))
    exact ⟨this.1.mono (by show 4 * 3 ≤ 119; decide), this.2⟩
theorem lines_len {q : NM} (h : q.Ok) : (linesM q).length ≤ 61 := by
  unfold linesM
  rw [List.length_cons, List.length_map]
  have := h.len
  omega
theorem text_asc {q : NM} (h : q.Ok) : Asc 7320 (textM q) := by
  unfold textM
  rw [litN]
  exact (joined_asc (by decide) fun p hp => (lines_ok h p hp).1).mono (by have := lines_len h; omega)
theorem text_cut {q : NM} (h : q.Ok) : cutAt 10 (textM q) = linesM q := by
  unfold textM
  rw [litN]
  exact cut_joined (by decide) (by simp [linesM]) fun p hp => (lines_ok h p hp).2
end K83

/-! machine_text, the law's text -/
namespace K83
open PySem L2 TL MR
theorem toD_item {N : Nat} {m : MV} (h : Item N m) : ∃ d, toD m = some d ∧ d.canLay0 = true ∧ d.depth = 0 := by
  cases h with
  | int i => exact ⟨.int i, rfl, by simp [PyData.canLay0], by simp [PyData.depth]⟩
  | str s hs => exact ⟨.str s, rfl, hs.ok, by simp [PyData.depth]⟩
theorem toDs_items {N : Nat} : ∀ {row : List MV}, (∀ m ∈ row, Item N m) → ∃ ds, toDs row = some ds ∧ PyData.canLayAll0 ds = true ∧ PyData.depthAll ds = 0 ∧ ds.length = row.length
  | [], _ => ⟨[], rfl, by simp [PyData.canLayAll0], by simp [PyData.depthAll], rfl⟩
  | m :: r, h => by
    obtain ⟨d, e1, e2, e3⟩ := toD_item (h m List.mem_cons_self)
    obtain ⟨ds, f1, f2, f3, f4⟩ := toDs_items (fun x hx => h x (List.mem_cons_of_mem _ hx))
    exact ⟨d :: ds, by simp [toDs, e1, f1], by simp [PyData.canLayAll0, e2, f2], by simp [PyData.depthAll, e3, f3], by simp [f4]⟩
theorem gNe_nil (l : List Nat) (st : Sto) : gNe (tupI (nInts l)) (.tup []) st = .ok (.bl (!decide (l = []))) st := by
  obtain ⟨ds, e1, e2, e3, e4⟩ := toDs_items (N := 0) (row := (nInts l).map MV.int) (fun m hm => by obtain ⟨i, _, rfl⟩ := List.mem_map.mp hm; exact .int i)
  have s1 : SeqAt.shaped (.tuple ds) = true := by
    unfold SeqAt.shaped
    simp [PyData.canLay0, PyData.depth, e2, e3]
  have s2 : SeqAt.shaped (.tuple []) = true := by decide
  have e5 : PyData.eqv (.tuple ds) (.tuple []) = decide (l = []) := by
    cases l with
    | nil =>
      have : ds = [] := List.length_eq_zero_iff.mp e4
      subst this
      rfl
    | cons m r =>
      cases ds with
      | nil => cases e4
      | cons d ds => rfl
  simp [gNe, topD, tupI, toD, e1, toDs, s1, s2, e5]
theorem nums_comp {l : List Nat} (h : ∀ i ∈ l, i < 8) (hl : l.length ≤ 8) (j : Nat) (env : MEnv) (hj : j < env.length) (st : Sto) : compM (.nm j) tYesM (mCall gStr (aCons (mVar j) aNil)) ((nInts l).map MV.int) env [] st = .ok (sts (l.map numS)) st := by
  have c : compM (.nm j) tYesM (mCall gStr (aCons (mVar j) aNil)) ((nInts l).map MV.int) env [] st = .ok ([] ++ ((nInts l).map MV.int).map fun m => match m with | .int i => .str (numS i.toNat) | _ => .non) st := by
    apply compM_map
    · intro y hy
      unfold nInts at hy
      rw [List.map_map] at hy
      obtain ⟨i, hi, rfl⟩ := List.mem_map.mp hy
      refine ⟨env.set j (some (.int (i : Int))), rfl, ?_⟩
      have e : gStr [.int (i : Int)] st = .ok (.str (numS i)) st := gStr_nat (by have := h i hi; omega) st
      simp [hj, e]
    · simp [nInts]; omega
  rw [c, List.nil_append]
  unfold nInts sts
  rw [List.map_map, List.map_map, List.map_map]
  rfl
theorem join_nums {l : List Nat} (h : ∀ i ∈ l, i < 8) (hl : l.length ≤ 8) (st : Sto) : gJoin (.str (Str.ofString ",")) [.lst (sts (l.map numS))] st = .ok (.str (Txt.join (Str.ofString ",") (l.map numS))) st :=
  gJoin_lst (B := 1) (fun p hp => by obtain ⟨i, hi, rfl⟩ := List.mem_map.mp hp; exact (num_wd (n := i) (by have := h i hi; omega)).asc.1) (by rw [litC]; decide) (by simp; omega) st
theorem numbers_text_eq {l : List Nat} (h : ∀ i ∈ l, i < 8) (hl : l.length ≤ 8) (st : Sto) : f_numbers_text [tupI (nInts l), .str (Str.ofString ",")] st = .ok (.str (listS l)) st := by
  have g := gNe_nil l st
  have c := nums_comp h hl 2 [some (tupI (nInts l)), some (.str (Str.ofString ",")), none] (by simp) st
  have j := join_nums h hl st
  have ef : frozen (tupI (nInts l)) = some ((nInts l).map MV.int) := rfl
  unfold listS
  by_cases hn : l = []
  · rw [decide_eq_true hn] at g
    rw [if_pos hn]
    simp [f_numbers_text, b_numbers_text, defM, g]
  · rw [decide_eq_false hn] at g
    rw [if_neg hn]
    unfold tupI at g c ef ⊢
    generalize (nInts l).map MV.int = L at *
    simp [f_numbers_text, b_numbers_text, defM, g, c, j, -List.map_map]
theorem law_listed_eq {l : List Nat} (h : ∀ i ∈ l, i < 8) (hl : l.length ≤ 8) (st : Sto) : f__law_listed [tupI (nInts l)] st = .ok (.str (listS l)) st := by
  have g := gNe_nil l st
  have c := nums_comp h hl 1 [some (tupI (nInts l)), none] (by simp) st
  have j := join_nums h hl st
  unfold listS
  by_cases hn : l = []
  · rw [decide_eq_true hn] at g
    rw [if_pos hn]
    simp [f__law_listed, b__law_listed, defM, g]
  · rw [decide_eq_false hn] at g
    rw [if_neg hn]
    unfold tupI at g c ⊢
    generalize (nInts l).map MV.int = L at *
    simp [f__law_listed, b__law_listed, defM, g, c, j, -List.map_map]
theorem app_str (x y : Str) : Str.empty ++ x = x := by
  apply ext_tl
  rw [tl_append]
  rfl
theorem step_join (s : NS) : joinSp (stepW s) = numS s.a ++ Str.ofString " " ++ ⟨#[s.b]⟩ ++ Str.ofString " " ++ sgn s.c ++ numS s.d ++ Str.ofString " " ++ numS s.e := by
  apply ext_tl
  unfold joinSp stepW
  rw [litS, tl_joined]
  have t1 : ∀ c : Nat, tl (⟨#[c]⟩ : Str) = [c] := fun _ => rfl
  simp [joinL, tl_append, t1]
theorem step_text_eq {s : NS} (h : s.Ok) (st : Sto) : f_step_text [s.up.mv] st = .ok (.str (joinSp (stepW s))) st := by
  have h1 := h.a; have h2 := h.d; have h3 := h.e; have h4 := h.c
  have n1 := (num_wd (n := s.a) (by omega)).asc.1
  have n2 := (num_wd (n := s.d) (by omega)).asc.1
  have n3 := (num_wd (n := s.e) (by omega)).asc.1
  have n4 := (sgn_wd s.c).asc.1
  have l1 := log2_small (n := s.a) (by omega)
  have l2 := log2_small (n := s.d) (by omega)
  have l3 := log2_small (n := s.e) (by omega)
  have ls : (Str.ofString " ").length = 1 := lenS1
  have lb : (⟨#[s.b]⟩ : Str).length = 1 := rfl
  have g := gEq_int (s.c : Int) 1 st
  rw [step_join]
  have e1 : Str.ofString (Int.repr (s.a : Int)) = numS s.a := rfl
  have e2 : Str.ofString (Int.repr (s.d : Int)) = numS s.d := rfl
  have e3 : Str.ofString (Int.repr (s.e : Int)) = numS s.e := rfl
  have hs : (if ((s.c : Int) = 1) then Str.ofString "=" else Str.ofString "+") = sgn s.c := by
    unfold sgn
    by_cases hc : s.c = 1
    · rw [if_pos hc, if_pos (by omega)]
    · rw [if_neg hc, if_neg (by omega)]
  have z : ∀ x : Str, Str.empty ++ x = x := fun x => app_str x x
  have q1 : s.up.mv = .tup [.int s.a, .str ⟨#[s.b]⟩, .int s.c, .int s.d, .int s.e] := rfl
  rw [q1]
  obtain ⟨a, b, c, d, e⟩ := s
  dsimp only at *
  generalize numS a = A at *
  generalize numS d = D at *
  generalize numS e = F at *
  generalize hSP : Str.ofString " " = SP at *
  by_cases hc : (c : Int) = 1
  · rw [if_pos hc] at hs
    rw [decide_eq_true hc] at g
    have n4' : (Str.ofString "=").length ≤ 1 := by rw [hs]; exact n4
    simp [f_step_text, b_step_text, defM, gConsM, g, e1, e2, e3, z, len_app, hSP, l1, l2, l3, lb, ls]
    iterate 4 (rw [if_pos (by omega)])
    rw [hs, if_pos (by omega)]
    simp only [bind_ok]
    iterate 4 (rw [if_pos (by omega)])
    rfl
  · rw [if_neg hc] at hs
    rw [decide_eq_false hc] at g
    simp [f_step_text, b_step_text, defM, gConsM, g, e1, e2, e3, z, len_app, hSP, l1, l2, l3, lb, ls]
    iterate 4 (rw [if_pos (by omega)])
    rw [hs, if_pos (by omega)]
    simp only [bind_ok]
    iterate 4 (rw [if_pos (by omega)])
    rfl
end K83

/-! machine_text, the law's text -/
namespace K83
open PySem L2 TL MR
theorem NM.Ok.sm {q : NM} (h : q.Ok) : q.up.Sm where
  al := (alph_asc h.al).mono (by decide)
  st := fun s hs => by
    obtain ⟨t, ht, rfl⟩ := List.mem_map.mp hs
    exact (low_asc (h.ok t ht).b).mono (by decide)
  n1 := by show (nInts q.starts).length ≤ 10000; unfold nInts; rw [List.length_map]; have := h.sl; omega
  n2 := by show (nInts q.finals).length ≤ 10000; unfold nInts; rw [List.length_map]; have := h.fl; omega
  n3 := by show (q.steps.map NS.up).length ≤ 10000; rw [List.length_map]; have := h.len; omega
theorem is_m_eq {q : NM} (h : q.Ok) (st : Sto) : f_is_machine [q.up.mv] st = .ok (.bl true) st := by
  rw [is_machine_eq h.sm, h.isM]
theorem require_eq {q : NM} (h : q.Ok) (st : Sto) : f_require_machine [q.up.mv] st = .ok .non st := by
  have e := is_m_eq h st
  simp [f_require_machine, b_require_machine, defM, e]
theorem steps_comp {q : NM} (h : q.Ok) (env : MEnv) (hj : 7 < env.length) (st : Sto) : compM (.nm 7) tYesM (mFn 1 f_step_text (aCons (mVar 7) aNil)) ((q.steps.map NS.up).map Stp.mv) env [] st = .ok (sts (q.steps.map fun s => joinSp (stepW s))) st := by
  have c : ∀ {l : List NS} {acc : List MV}, (∀ s ∈ l, s.Ok) → acc.length + l.length ≤ 16777216 → compM (.nm 7) tYesM (mFn 1 f_step_text (aCons (mVar 7) aNil)) ((l.map NS.up).map Stp.mv) env acc st = .ok (acc ++ sts (l.map fun s => joinSp (stepW s))) st := by
    intro l
    induction l with
    | nil => intro acc _ _; simp [compM]
    | cons s l ih =>
      intro acc hk hl
      have e := step_text_eq (hk s List.mem_cons_self) st
      have hl' : acc.length < 16777216 := by simp at hl; omega
      rw [List.map_cons, List.map_cons]
      unfold compM
      show (match tYesM (env.set 7 (some s.up.mv)) st with
        | .ok true st1 => (match (mFn 1 f_step_text (aCons (mVar 7) aNil)) (env.set 7 (some s.up.mv)) st1 with
          | .ok v st2 => if acc.length < 16777216 then compM (.nm 7) tYesM (mFn 1 f_step_text (aCons (mVar 7) aNil)) ((l.map NS.up).map Stp.mv) env (acc ++ [v]) st2 else .bad
          | _ => .bad)
        | .ok false st1 => compM (.nm 7) tYesM (mFn 1 f_step_text (aCons (mVar 7) aNil)) ((l.map NS.up).map Stp.mv) env acc st1
        | _ => .bad) = _
      have e2 : (mFn 1 f_step_text (aCons (mVar 7) aNil)) (env.set 7 (some s.up.mv)) st = .ok (.str (joinSp (stepW s))) st := by simp [hj, e]
      simp only [tYesM, e2, if_pos hl']
      rw [ih (fun z hz => hk z (List.mem_cons_of_mem _ hz)) (by simp at hl ⊢; omega)]
      simp
  have := c (l := q.steps) (acc := []) h.ok (by simp; have := h.len; omega)
  rw [List.nil_append] at this
  exact this
theorem join_head {q : NM} (h : q.Ok) (st : Sto) : gJoin (.str (Str.ofString " ")) [.lst (sts (headW q))] st = .ok (.str (joinSp (headW q))) st :=
  gJoin_lst (B := 16) (fun p hp => (headW_wd h p hp).asc.1) (by rw [lenS1]; decide) (by simp [headW]) st
theorem join_lines {q : NM} (h : q.Ok) (st : Sto) : gJoin (.str (Str.ofString "\n")) [.lst (sts (linesM q))] st = .ok (.str (textM q)) st :=
  gJoin_lst (B := 119) (fun p hp => (lines_ok h p hp).1.1) (by rw [litN]; decide) (by have := lines_len h; omega) st
theorem isStr_s (a : Str) (st : Sto) : isStr (.str a) st = true := rfl
theorem gStr_small {n : Nat} (h : n < 10) (st : Sto) : gStr [.int (n : Int)] st = .ok (.str (numS n)) st := gStr_nat (by omega) st
theorem machine_text_eq {q : NM} (h : q.Ok) (st : Sto) : f_machine_text [q.up.mv] st = .ok (.str (textM q)) st := by
  have r := require_eq h st
  have t1 := numbers_text_eq h.st h.sl st
  have t2 := numbers_text_eq h.fi h.fl st
  have t3 := gStr_small (n := q.size) (by have := h.size; omega) st
  have c := fun env hj => steps_comp h env hj st
  have j1 := join_head h st
  have j2 := join_lines h st
  have hl := h.len
  unfold linesM at j2
  have e : q.up.mv = .tup [.str q.al, .int q.size, tupI (nInts q.starts), tupI (nInts q.finals), .tup ((q.steps.map NS.up).map Stp.mv)] := rfl
  have es : sts (joinSp (headW q) :: q.steps.map fun s => joinSp (stepW s)) = .str (joinSp (headW q)) :: sts (q.steps.map fun s => joinSp (stepW s)) := rfl
  have ehl : (sts (q.steps.map fun s => joinSp (stepW s))).length = q.steps.length := by unfold sts; rw [List.length_map, List.length_map]
  rw [es] at j2
  have eh : sts (headW q) = [.str (Str.ofString "machine"), .str q.al, .str (numS q.size), .str (Str.ofString "starts"), .str (listS q.starts), .str (Str.ofString "finals"), .str (listS q.finals)] := rfl
  rw [eh] at j1
  rw [e] at r ⊢
  generalize (q.steps.map NS.up).map Stp.mv = SM at *
  generalize sts (q.steps.map fun s => joinSp (stepW s)) = LM at *
  generalize joinSp (headW q) = HW at *
  generalize tupI (nInts q.starts) = T1 at *
  generalize tupI (nInts q.finals) = T2 at *
  have ga : MR.gAdd (.lst [.str HW]) (.lst LM) st = .ok (.lst (.str HW :: LM)) st := by
    show (if [MV.str HW].length + LM.length ≤ 16777216 then Res.ok (MV.lst ([.str HW] ++ LM)) st else .bad) = _
    rw [if_pos (by simp; omega)]
    rfl
  simp [f_machine_text, b_machine_text, defM, gConsM, r, t1, t2, t3, c, j1, j2, ga]
/-! the law's -/
abbrev bodyT : MS := (sExpr (mMethT isLst gAppend (mVar 7) (aCons (mMethT isStr gJoin (mC (.str " ")) (aCons (mLst (aCons (mCall gStr (aCons (mVar 8) aNil)) (aCons (mVar 9) (aCons (m2 gAdd (m2 gIx (mC (.str "+=")) (mVar 10)) (mCall gStr (aCons (mVar 11) aNil))) (aCons (mCall gStr (aCons (mVar 12) aNil)) aNil))))) aNil)) aNil)))
abbrev tgT : MTg := (gTL 5 (gConsM (gN 8) (gConsM (gN 9) (gConsM (gN 10) (gConsM (gN 11) (gConsM (gN 12) gNilM))))))
theorem sgn_at {c : Nat} (h : c ≤ 1) (st : Sto) : gIx (.str (Str.ofString "+=")) (.int (c : Int)) st = .ok (.str (sgn c)) st := by
  have e : Str.ofString "+=" = ⟨#[43, 61]⟩ := ext_tl (tl_ofString "+=")
  rw [e]
  have : c = 0 ∨ c = 1 := by omega
  rcases this with rfl | rfl
  · rw [show sgn 0 = ⟨#[43]⟩ from litPl]; rfl
  · rw [show sgn 1 = ⟨#[61]⟩ from litEq]; rfl
theorem stepT {s : NS} (h : s.Ok) {n : Nat} {s0 : Sto} (hn : s0.length = n) (acc : List MV) (ha : acc.length < 16777216) (e0 e1 e2 e3 e4 e5 e6 : Option MV) (st : Sto) :
    bodyT [e0, e1, e2, e3, e4, e5, e6, some (.obj n), some (.int s.a), some (.str ⟨#[s.b]⟩), some (.int s.c), some (.int s.d), some (.int s.e)] (s0 ++ [.lst acc]) =
      .nx [e0, e1, e2, e3, e4, e5, e6, some (.obj n), some (.int s.a), some (.str ⟨#[s.b]⟩), some (.int s.c), some (.int s.d), some (.int s.e)] (s0 ++ [.lst (acc ++ [.str (joinSp (stepW s))])]) := by
  have h1 := h.a; have h2 := h.d; have h3 := h.e
  have t1 := fun st => gStr_small (n := s.a) (by omega) st
  have t2 := fun st => gStr_small (n := s.d) (by omega) st
  have t3 := fun st => gStr_small (n := s.e) (by omega) st
  have t4 := fun st => sgn_at h.c st
  have n1 := (sgn_wd s.c).asc.1
  have n2 := (num_wd (n := s.d) (by omega)).asc.1
  have ga : ∀ st, MR.gAdd (.str (sgn s.c)) (.str (numS s.d)) st = .ok (.str (sgn s.c ++ numS s.d)) st := fun st => by
    show (if (sgn s.c).length + (numS s.d).length ≤ 16777216 then Res.ok (MV.str (sgn s.c ++ numS s.d)) st else .bad) = _
    rw [if_pos (by omega)]
  have j := fun st => gJoin_lst (y := Str.ofString " ") (ps := stepW s) (B := 2) (fun p hp => (stepW_wd h p hp).asc.1) (by rw [lenS1]; decide) (by simp [stepW]) st
  have es : sts (stepW s) = [.str (numS s.a), .str ⟨#[s.b]⟩, .str (sgn s.c ++ numS s.d), .str (numS s.e)] := rfl
  rw [es] at j
  have j' : ∀ st, gJoin (.str (Str.ofString " ")) [.lst [.str (numS s.a), .str ⟨#[s.b]⟩, .str (sgn s.c ++ numS s.d), .str (numS s.e)]] st = .ok (.str (joinSp (stepW s))) st := j
  have il := isLst_at hn acc
  have ap := append_at hn acc (.str (joinSp (stepW s))) ha
  simp [t1, t2, t3, t4, ga, j', il, ap, isStr_s]
theorem loopT {n : Nat} {s0 : Sto} (hn : s0.length = n) (e0 e1 e2 e3 e4 e5 e6 : Option MV) : ∀ (l : List NS) (acc : List MV) (e8 e9 e10 e11 e12 : Option MV), (∀ s ∈ l, s.Ok) → acc.length + l.length ≤ 100 → ∃ f8 f9 f10 f11 f12,
    forM tgT bodyT ((l.map NS.up).map Stp.mv) [e0, e1, e2, e3, e4, e5, e6, some (.obj n), e8, e9, e10, e11, e12] (s0 ++ [.lst acc]) =
      .nx [e0, e1, e2, e3, e4, e5, e6, some (.obj n), f8, f9, f10, f11, f12] (s0 ++ [.lst (acc ++ sts (l.map fun s => joinSp (stepW s)))])
  | [], acc, e8, e9, e10, e11, e12, _, _ => ⟨e8, e9, e10, e11, e12, by simp⟩
  | s :: l, acc, e8, e9, e10, e11, e12, h, hl => by
    have hl' : acc.length + (l.length + 1) ≤ 100 := hl
    obtain ⟨f8, f9, f10, f11, f12, ih⟩ := loopT hn e0 e1 e2 e3 e4 e5 e6 l (acc ++ [.str (joinSp (stepW s))]) (some (.int s.a)) (some (.str ⟨#[s.b]⟩)) (some (.int s.c)) (some (.int s.d)) (some (.int s.e)) (fun z hz => h z (List.mem_cons_of_mem _ hz)) (by simp; omega)
    refine ⟨f8, f9, f10, f11, f12, ?_⟩
    rw [List.map_cons, List.map_cons]
    rw [forM_step (env1 := [e0, e1, e2, e3, e4, e5, e6, some (.obj n), some (.int s.a), some (.str ⟨#[s.b]⟩), some (.int s.c), some (.int s.d), some (.int s.e)]) (st1 := s0 ++ [.lst acc]) rfl (stepT (h s List.mem_cons_self) hn acc (by omega) e0 e1 e2 e3 e4 e5 e6 s0), ih]
    simp
theorem law_text_eq {q : NM} (h : q.Ok) (st : Sto) : ∃ x, f__law_text_of [q.up.mv] st = .ok (.str (textM q)) (st ++ [x]) := by
  have t1 := law_listed_eq h.st h.sl st
  have t2 := law_listed_eq h.fi h.fl st
  have t3 := gStr_small (n := q.size) (by have := h.size; omega) st
  have j1 := join_head h st
  have hl := h.len
  have e : q.up.mv = .tup [.str q.al, .int q.size, tupI (nInts q.starts), tupI (nInts q.finals), .tup ((q.steps.map NS.up).map Stp.mv)] := rfl
  have eh : sts (headW q) = [.str (Str.ofString "machine"), .str q.al, .str (numS q.size), .str (Str.ofString "starts"), .str (listS q.starts), .str (Str.ofString "finals"), .str (listS q.finals)] := rfl
  rw [eh] at j1
  let E : List (Option MV) := [some q.up.mv, some (.str q.al), some (.int q.size), some (tupI (nInts q.starts)), some (tupI (nInts q.finals)), some (.tup ((q.steps.map NS.up).map Stp.mv)), some (.lst (sts (headW q)))]
  obtain ⟨f8, f9, f10, f11, f12, lp⟩ := loopT (s0 := st) rfl (some q.up.mv) (some (.str q.al)) (some (.int q.size)) (some (tupI (nInts q.starts))) (some (tupI (nInts q.finals))) (some (.tup ((q.steps.map NS.up).map Stp.mv))) (some (.lst (sts (headW q)))) q.steps [.str (joinSp (headW q))] none none none none none h.ok (by simp; omega)
  rw [eh] at lp
  have jl : gJoin (.str (Str.ofString "\n")) [.obj st.length] (st ++ [.lst ([.str (joinSp (headW q))] ++ sts (q.steps.map fun s => joinSp (stepW s)))]) = .ok (.str (textM q)) (st ++ [.lst ([.str (joinSp (headW q))] ++ sts (q.steps.map fun s => joinSp (stepW s)))]) := by
    have := join_lines h (st ++ [.lst ([.str (joinSp (headW q))] ++ sts (q.steps.map fun s => joinSp (stepW s)))])
    rw [← this]
    unfold gJoin
    simp only [items_last]
    rfl
  refine ⟨.lst ([.str (joinSp (headW q))] ++ sts (q.steps.map fun s => joinSp (stepW s))), ?_⟩
  rw [e] at lp ⊢
  generalize (q.steps.map NS.up).map Stp.mv = SM at *
  generalize sts (q.steps.map fun s => joinSp (stepW s)) = LM at *
  generalize joinSp (headW q) = HW at *
  generalize tupI (nInts q.starts) = T1 at *
  generalize tupI (nInts q.finals) = T2 at *
  have jl' : gJoin (.str (Str.ofString "\n")) [.obj st.length] (st ++ [.lst (.str HW :: LM)]) = .ok (.str (textM q)) (st ++ [.lst (.str HW :: LM)]) := jl
  simp [f__law_text_of, b__law_text_of, defM, gConsM, t1, t2, t3, j1, lp, jl']
end K83

/-! parse_machine -/
namespace K83
open PySem L2 TL MR
theorem mapM_num (l : List Str) : (sts l).mapM (fun m => match m with | .str p => (numO p).map fun (n : Nat) => MV.int n | _ => none) = (l.mapM numO).map fun ns => ns.map fun (n : Nat) => MV.int n := by
  induction l with
  | nil => rfl
  | cons a l ih =>
    simp only [sts, List.map_cons, List.mapM_cons] at ih ⊢
    rw [ih]
    cases numO a with
    | none => rfl
    | some n => cases l.mapM numO <;> rfl
abbrev pe : Ex := ⟨"ParseError", [], []⟩
theorem gSplit_c {t : Str} (h : Asc 8000 t) (st : Sto) : gSplit (.str t) [.str (Str.ofString ",")] st = .ok (.lst (sts (cutAt 44 t))) st := by
  have h1 : t.length + 2 ≤ 16777216 := by have := h.1; omega
  rw [litC]
  show (if (⟨#[44]⟩ : Str).length ≠ 0 ∧ t.length + 2 ≤ 16777216 then Res.ok (MV.lst ((Txt.split t ⟨#[44]⟩).map .str)) st else .bad) = _
  rw [if_pos ⟨by decide, h1⟩, split_cut (by decide)]
def numsO (s : Str) : Option (List Nat) := if s = Str.ofString "-" then some [] else (cutAt 44 s).mapM numO
def mvN (l : List Nat) : List MV := l.map fun (n : Nat) => MV.int n
theorem mvN_eq (l : List Nat) : mvN l = (nInts l).map MV.int := by unfold mvN nInts; rw [List.map_map]; rfl
theorem num_comp {ps : List Str} (hl : ps.length ≤ 8001) (h : ∀ p ∈ ps, Asc 8000 p) {j : Nat} {env : MEnv} (hj : j < env.length) (st : Sto) : compX (.nm j) tYesM (mFn 1 f_number_of (aCons (mVar j) aNil)) (sts ps) env [] st =
    (match ps.mapM numO with | some ns => .ok (mvN ns) st | none => .exc pe st) := by
  have c1 : compX (.nm j) tYesM (mFn 1 f_number_of (aCons (mVar j) aNil)) (sts ps) env [] st =
      (match (sts ps).mapM (fun m => match m with | .str p => (numO p).map fun (n : Nat) => MV.int n | _ => none) with | some vs => .ok ([] ++ vs) st | none => .exc pe st) := by
    apply compX_map
    · intro y hy
      obtain ⟨p, hp, rfl⟩ := List.mem_map.mp hy
      refine ⟨env.set j (some (.str p)), rfl, ?_⟩
      have := number_of_eq (Nat.le_of_ble_eq_true rfl) (h p hp) st
      simp [hj, this]
      cases numO p <;> rfl
    · simp
      omega
  rw [mapM_num] at c1
  rw [c1]
  cases ps.mapM numO <;> rfl
theorem mapM_len {α β : Type} {f : α → Option β} {l : List α} {m : List β} (h : l.mapM f = some m) : m.length = l.length := (mapM_mem h).1
theorem numbers_of_eq {s : Str} (h : Asc 8000 s) (st : Sto) : f_numbers_of [.str s, .str (Str.ofString ",")] st = match numsO s with | some ns => .ok (tupI (nInts ns)) st | none => .exc pe st := by
  have q1 := gEq_str h (asc_lit (s := "-") (n := 1)) st
  unfold numsO
  by_cases k1 : s = Str.ofString "-"
  · rw [decide_eq_true k1] at q1
    rw [if_pos k1]
    simp [f_numbers_of, b_numbers_of, defM, q1]
    rfl
  · rw [decide_eq_false k1] at q1
    rw [if_neg k1]
    have sp := gSplit_c h st
    have hl := (cut_len (c := 44) h).2
    have c := num_comp (ps := cutAt 44 s) hl (fun p hp => cut_asc h hp) (j := 2) (env := [some (.str s), some (.str (Str.ofString ",")), none]) (by simp) st
    cases e : (cutAt 44 s).mapM numO with
    | none =>
      rw [e] at c
      simp [f_numbers_of, b_numbers_of, defM, q1, sp, c]
    | some ns =>
      rw [e] at c
      have z : MV.tup (mvN ns) = tupI (nInts ns) := by unfold tupI; rw [mvN_eq]
      have gt : gTuple [.lst (mvN ns)] st = .ok (.tup (mvN ns)) st := rfl
      simp [f_numbers_of, b_numbers_of, defM, q1, sp, c, gt, z]
/-! ### the first line -/
structure Hd where
  al : Str
  n : Nat
  s : List Nat
  f : List Nat
def Hd.mvs (h : Hd) : List MV := [.str h.al, .int h.n, tupI (nInts h.s), tupI (nInts h.f)]
def headO (ws : List Str) : Option Hd := match ws with
  | [w0, w1, w2, w3, w4, w5, w6] => if w0 = Str.ofString "machine" ∧ w3 = Str.ofString "starts" ∧ w5 = Str.ofString "finals" then
      (numO w2).bind fun n => (numsO w4).bind fun s => (numsO w6).bind fun f => some ⟨w1, n, s, f⟩ else none
  | _ => none
theorem headO7 (w0 w1 w2 w3 w4 w5 w6 : Str) : headO [w0, w1, w2, w3, w4, w5, w6] = if w0 = Str.ofString "machine" ∧ w3 = Str.ofString "starts" ∧ w5 = Str.ofString "finals" then
      (numO w2).bind fun n => (numsO w4).bind fun s => (numsO w6).bind fun f => some ⟨w1, n, s, f⟩ else none := rfl
theorem gNe_int (i j : Int) (st : Sto) : gNe (.int i) (.int j) st = .ok (.bl (!decide (i = j))) st := by
  simp [gNe, topD, toD, sh_int, PyData.eqv, Bool.beq_eq_decide_eq]
theorem gNe_str3 {a b c x y z : Str} (ha : Asc 8000 a) (hb : Asc 8000 b) (hc : Asc 8000 c) (hx : Asc 8000 x) (hy : Asc 8000 y) (hz : Asc 8000 z) (st : Sto) :
    gNe (.lst [.str a, .str b, .str c]) (.lst [.str x, .str y, .str z]) st = .ok (.bl (!decide (a = x ∧ b = y ∧ c = z))) st := by
  have s1 : ∀ {a b c : Str}, Asc 8000 a → Asc 8000 b → Asc 8000 c → SeqAt.shaped (.list [.str a, .str b, .str c]) = true := fun ha hb hc => by
    unfold SeqAt.shaped
    simp [PyData.canLay0, PyData.canLayAll0, PyData.depth, PyData.depthAll]
    have := ha.ok; have := hb.ok; have := hc.ok
    simp_all [PyData.canLay0]
  have e : PyData.eqv (.list [.str a, .str b, .str c]) (.list [.str x, .str y, .str z]) = decide (a = x ∧ b = y ∧ c = z) := by
    simp [PyData.eqv, PyData.eqvAll, str_dec]
  simp [gNe, topD, toD, toDs, s1 ha hb hc, s1 hx hy hz, e]
theorem atL {xs : List MV} {i : Nat} {m : MV} (h : xs[i]? = some m) (st : Sto) : gIx (.lst xs) (.int (i : Int)) st = .ok m st := by
  have hi : i < xs.length := (List.getElem?_eq_some_iff.mp h).1
  have : atI xs (i : Int) = some m := by simp [atI, ixN, hi]; exact (List.getElem?_eq_some_iff.mp h).2
  show (match itemsOf (.lst xs) st with
    | some xs => (match atI xs (i : Int) with
      | some x => Res.ok x st
      | none => .bad)
    | none => .bad) = _
  rw [it_lst]
  simp only [this]
theorem parsed_head_eq {ws : List Str} (h : ∀ p ∈ ws, Asc 8000 p) (st : Sto) : f_parsed_head [.lst (sts ws)] st = match headO ws with | some d => .ok (.tup d.mvs) st | none => .exc pe st := by
  have gl : gLen [.lst (sts ws)] st = .ok (.int ws.length) st := by rw [gLenL]; unfold sts; rw [List.length_map]
  have gn := gNe_int ws.length 7 st
  by_cases hl : ws.length = 7
  · match ws, hl, h with
    | [w0, w1, w2, w3, w4, w5, w6], _, h =>
      have gn : gNe (.int ((([w0, w1, w2, w3, w4, w5, w6] : List Str).length : Nat) : Int)) (.int 7) st = .ok (.bl false) st := by rw [gn]; rfl
      have a0 : Asc 8000 w0 := h _ (by simp)
      have a2 : Asc 8000 w2 := h _ (by simp)
      have a3 : Asc 8000 w3 := h _ (by simp)
      have a4 : Asc 8000 w4 := h _ (by simp)
      have a5 : Asc 8000 w5 := h _ (by simp)
      have a6 : Asc 8000 w6 := h _ (by simp)
      have g3 := gNe_str3 a0 a3 a5 (asc_lit (s := "machine")) (asc_lit (s := "starts")) (asc_lit (s := "finals")) st
      have i0 := atL (xs := sts [w0, w1, w2, w3, w4, w5, w6]) (i := 0) rfl st
      have i1 := atL (xs := sts [w0, w1, w2, w3, w4, w5, w6]) (i := 1) rfl st
      have i2 := atL (xs := sts [w0, w1, w2, w3, w4, w5, w6]) (i := 2) rfl st
      have i3 := atL (xs := sts [w0, w1, w2, w3, w4, w5, w6]) (i := 3) rfl st
      have i4 := atL (xs := sts [w0, w1, w2, w3, w4, w5, w6]) (i := 4) rfl st
      have i5 := atL (xs := sts [w0, w1, w2, w3, w4, w5, w6]) (i := 5) rfl st
      have i6 := atL (xs := sts [w0, w1, w2, w3, w4, w5, w6]) (i := 6) rfl st
      have n2 := number_of_eq (Nat.le_of_ble_eq_true rfl) a2 st
      have n4 := numbers_of_eq a4 st
      have n6 := numbers_of_eq a6 st
      generalize sts [w0, w1, w2, w3, w4, w5, w6] = L at *
      have gl7 : gLen [.lst L] st = .ok (.int 7) st := gl
      have gn7 : gNe (.int 7) (.int 7) st = .ok (.bl false) st := gNe_int 7 7 st
      rw [headO7]
      by_cases hc : w0 = Str.ofString "machine" ∧ w3 = Str.ofString "starts" ∧ w5 = Str.ofString "finals"
      · rw [decide_eq_true hc] at g3
        rw [if_pos hc]
        have i0' : gIx (.lst L) (.int 0) st = .ok (.str w0) st := i0
        have i1' : gIx (.lst L) (.int 1) st = .ok (.str w1) st := i1
        have i2' : gIx (.lst L) (.int 2) st = .ok (.str w2) st := i2
        have i3' : gIx (.lst L) (.int 3) st = .ok (.str w3) st := i3
        have i4' : gIx (.lst L) (.int 4) st = .ok (.str w4) st := i4
        have i5' : gIx (.lst L) (.int 5) st = .ok (.str w5) st := i5
        have i6' : gIx (.lst L) (.int 6) st = .ok (.str w6) st := i6
        cases e2 : numO w2 with
        | none => rw [e2] at n2; simp [f_parsed_head, b_parsed_head, defM, gl7, gn7, i0', i1', i2', i3', i5', g3, n2]
        | some n =>
          rw [e2] at n2
          cases e4 : numsO w4 with
          | none => rw [e4] at n4; simp [f_parsed_head, b_parsed_head, defM, gl7, gn7, i0', i1', i2', i3', i4', i5', g3, n2, n4]
          | some s =>
            rw [e4] at n4
            cases e6 : numsO w6 with
            | none => rw [e6] at n6; simp [f_parsed_head, b_parsed_head, defM, gl7, gn7, i0', i1', i2', i3', i4', i5', i6', g3, n2, n4, n6]
            | some f => rw [e6] at n6; simp [f_parsed_head, b_parsed_head, defM, gl7, gn7, i0', i1', i2', i3', i4', i5', i6', g3, n2, n4, n6, Hd.mvs]
      · rw [decide_eq_false hc] at g3
        rw [if_neg hc]
        have i0' : gIx (.lst L) (.int 0) st = .ok (.str w0) st := i0
        have i3' : gIx (.lst L) (.int 3) st = .ok (.str w3) st := i3
        have i5' : gIx (.lst L) (.int 5) st = .ok (.str w5) st := i5
        simp [f_parsed_head, b_parsed_head, defM, gl7, gn7, i0', i3', i5', g3]
  · have hl' : ¬ ((ws.length : Int) = 7) := by omega
    rw [decide_eq_false hl'] at gn
    have z : headO ws = none := by
      unfold headO
      split
      · exact absurd rfl hl
      · rfl
    rw [z]
    generalize sts ws = L at *
    simp [f_parsed_head, b_parsed_head, defM, gl, gn]
end K83

namespace K83
open PySem L2 TL MR
def stepO (ws : List Str) : Option Stp := match ws with
  | [a, b, p, e] => match tl p with
    | c :: r => if c = 43 ∨ c = 61 then (numO a).bind fun n => (numO ⟨r.toArray⟩).bind fun d => (numO e).bind fun m => some ⟨n, b, if c = 61 then 1 else 0, d, m⟩ else none
    | [] => none
  | _ => none
theorem stepO4 (a b p e : Str) : stepO [a, b, p, e] = match tl p with
    | c :: r => if c = 43 ∨ c = 61 then (numO a).bind fun n => (numO ⟨r.toArray⟩).bind fun d => (numO e).bind fun m => some ⟨n, b, if c = 61 then 1 else 0, d, m⟩ else none
    | [] => none := rfl
theorem cut_to1 {N : Nat} {z : Str} (h : Asc N z) (hN : N ≤ 8000) (st : Sto) : gSlice (.str z) none (some 1) st = .ok (.str ⟨((tl z).take 1).toArray⟩) st := by
  show (if z.length ≤ 16777216 then Res.ok (MV.str (cutS z none (some 1))) st else .bad) = _
  rw [if_pos (by have := h.1; omega)]
  congr 2
  apply ext_tl
  show ((z.cps.toList.drop (HT.sIx z.length 0 none)).take (HT.sIx z.length z.length (some 1) - HT.sIx z.length 0 none)) = _
  have e : HT.sIx z.length z.length (some 1) = min 1 z.length := HT.sIx_nat _ _ 1
  rw [e, HT.sIx_none, List.drop_zero]
  have hl : z.cps.toList.length = z.length := by simp [Str.length]
  show z.cps.toList.take (min 1 z.length - 0) = z.cps.toList.take 1
  by_cases h0 : z.length = 0
  · have : z.cps.toList = [] := List.length_eq_zero_iff.mp (hl.trans h0)
    rw [this]
    simp
  · congr 1
    omega
theorem cut_fr1 {N : Nat} {z : Str} (h : Asc N z) (hN : N ≤ 8000) (st : Sto) : gSlice (.str z) (some 1) none st = .ok (.str ⟨((tl z).drop 1).toArray⟩) st := by
  show (if z.length ≤ 16777216 then Res.ok (MV.str (cutS z (some 1) none)) st else .bad) = _
  rw [if_pos (by have := h.1; omega)]
  congr 2
  apply ext_tl
  rw [tl_cut1]
theorem notin_pm (x : Str) (st : Sto) : gNotIn (.str x) (.tup [.str (Str.ofString "+"), .str (Str.ofString "=")]) st = .ok (.bl (!(decide (x = Str.ofString "+" ∨ x = Str.ofString "=")))) st := by
  show Res.ok (MV.bl (!((Str.ofString "+" == x) || ((Str.ofString "=" == x) || false)))) st = _
  congr 2
  rw [str_dec, str_dec, Bool.or_false]
  by_cases h1 : x = Str.ofString "+"
  · simp [h1]
  · by_cases h2 : x = Str.ofString "="
    · simp [h2]
    · simp [h1, h2, Ne.symm h1, Ne.symm h2]
theorem parsed_step_eq {ws : List Str} (hl8 : ws.length ≤ 8001) (h : ∀ p ∈ ws, Asc 8000 p) (st : Sto) : f_parsed_step [.lst (sts ws)] st = match stepO ws with | some s => .ok s.mv st | none => .exc pe st := by
  have gl : gLen [.lst (sts ws)] st = .ok (.int ws.length) st := by rw [gLenL]; unfold sts; rw [List.length_map]
  have gn := gNe_int ws.length 4 st
  by_cases hl : ws.length = 4
  · match ws, hl, h with
    | [a, b, p, e], _, h =>
      have gl4 : gLen [.lst (sts [a, b, p, e])] st = .ok (.int 4) st := gl
      have gn4 : gNe (.int 4) (.int 4) st = .ok (.bl false) st := gNe_int 4 4 st
      have ha : Asc 8000 a := h _ (by simp)
      have hp : Asc 8000 p := h _ (by simp)
      have he : Asc 8000 e := h _ (by simp)
      have i2 : gIx (.lst (sts [a, b, p, e])) (.int 2) st = .ok (.str p) st := atL (xs := sts [a, b, p, e]) (i := 2) rfl st
      have c1 := cut_to1 hp (Nat.le_refl _) st
      have c2 := cut_fr1 hp (Nat.le_refl _) st
      have na := number_of_eq (Nat.le_of_ble_eq_true rfl) ha st
      have ne := number_of_eq (Nat.le_of_ble_eq_true rfl) he st
      have es : sts [a, b, p, e] = [.str a, .str b, .str p, .str e] := rfl
      rw [es] at gl4 i2
      rw [es, stepO4]
      cases ep : tl p with
      | nil =>
        rw [ep] at c1
        have nt := notin_pm (⟨#[]⟩ : Str) st
        have hd : decide ((⟨#[]⟩ : Str) = Str.ofString "+" ∨ (⟨#[]⟩ : Str) = Str.ofString "=") = false := by decide
        rw [hd] at nt
        have c1 : gSlice (.str p) none (some 1) st = .ok (.str ⟨#[]⟩) st := c1
        simp [f_parsed_step, b_parsed_step, defM, gl4, gn4, i2, c1, nt]
      | cons c r =>
        rw [ep] at c1 c2
        have c1 : gSlice (.str p) none (some 1) st = .ok (.str ⟨#[c]⟩) st := c1
        have c2 : gSlice (.str p) (some 1) none st = .ok (.str ⟨r.toArray⟩) st := c2
        have nt := notin_pm (⟨#[c]⟩ : Str) st
        have hd : decide ((⟨#[c]⟩ : Str) = Str.ofString "+" ∨ (⟨#[c]⟩ : Str) = Str.ofString "=") = decide (c = 43 ∨ c = 61) := by
          rw [litPl, litEq]
          apply decide_eq_decide.mpr
          have : ∀ x y : Nat, (⟨#[x]⟩ : Str) = ⟨#[y]⟩ ↔ x = y := fun x y => ⟨fun z => by have := congrArg tl z; exact (List.cons.inj this).1, fun z => by rw [z]⟩
          rw [this, this]
        rw [hd] at nt
        have hr : Asc 8000 (⟨r.toArray⟩ : Str) := ⟨by have e1 := len_tl (⟨r.toArray⟩ : Str); have e2 := len_tl p; have := hp.1; rw [ep] at e2; have e3 : (tl (⟨r.toArray⟩ : Str)) = r := rfl; rw [e3] at e1; simp at e2; omega, fun d hd => hp.2 d (by rw [ep]; exact List.mem_cons_of_mem _ hd)⟩
        have nd := number_of_eq (Nat.le_of_ble_eq_true rfl) hr st
        have ix : gIx (.str p) (.int 0) st = .ok (.str ⟨#[c]⟩) st := by
          have hpl : p.length ≤ 16777216 := by have := hp.1; omega
          have : atI p.cps.toList 0 = some c := by
            have e0 : p.cps.toList = c :: r := ep
            rw [e0]; simp [atI, ixN]
          show (if p.length ≤ 16777216 then (match atI p.cps.toList 0 with
            | some c => Res.ok (MV.str ⟨#[c]⟩) st
            | none => .bad) else .bad) = _
          rw [if_pos hpl, this]
        have hc128 : c < 128 := hp.2 c (by rw [ep]; exact List.mem_cons_self)
        have ge := gEq_str (one_asc hc128) (asc_lit (s := "=") (n := 1)) st
        have hde : decide ((⟨#[c]⟩ : Str) = Str.ofString "=") = decide (c = 61) := by
          rw [litEq]
          apply decide_eq_decide.mpr
          exact ⟨fun z => by have := congrArg tl z; exact (List.cons.inj this).1, fun z => by rw [z]⟩
        rw [hde] at ge
        have gi : gInt [.bl (decide (c = 61))] st = .ok (.int (if c = 61 then 1 else 0)) st := by
          by_cases hc : c = 61
          · rw [decide_eq_true hc, if_pos hc]; rfl
          · rw [decide_eq_false hc, if_neg hc]; rfl
        have e0 : (match c :: r with
          | c :: r => if c = 43 ∨ c = 61 then (numO a).bind fun n => (numO ⟨r.toArray⟩).bind fun d => (numO e).bind fun m => some (⟨n, b, if c = 61 then 1 else 0, d, m⟩ : Stp) else none
          | [] => none) = (if c = 43 ∨ c = 61 then (numO a).bind fun n => (numO ⟨r.toArray⟩).bind fun d => (numO e).bind fun m => some (⟨n, b, if c = 61 then 1 else 0, d, m⟩ : Stp) else none) := rfl
        rw [e0]
        generalize decide (c = 61) = B at *
        generalize hI : (if c = 61 then (1 : Int) else 0) = Ic at *
        by_cases hc : c = 43 ∨ c = 61
        · rw [decide_eq_true hc] at nt
          rw [if_pos hc]
          cases e2 : numO a with
          | none => rw [e2] at na; simp [f_parsed_step, b_parsed_step, defM, gl4, gn4, i2, c1, nt, gConsM, na]
          | some n =>
            rw [e2] at na
            cases e4 : numO ⟨r.toArray⟩ with
            | none => rw [e4] at nd; simp [f_parsed_step, b_parsed_step, defM, gl4, gn4, i2, c1, nt, gConsM, na, ix, ge, gi, c2, nd]
            | some d =>
              rw [e4] at nd
              cases e6 : numO e with
              | none => rw [e6] at ne; simp [f_parsed_step, b_parsed_step, defM, gl4, gn4, i2, c1, nt, gConsM, na, ix, ge, gi, c2, nd, ne]
              | some m => rw [e6] at ne; simp [f_parsed_step, b_parsed_step, defM, gl4, gn4, i2, c1, nt, gConsM, na, ix, ge, gi, c2, nd, ne, Stp.mv]
        · rw [decide_eq_false hc] at nt
          rw [if_neg hc]
          simp [f_parsed_step, b_parsed_step, defM, gl4, gn4, i2, c1, nt]
  · have hl' : ¬ ((ws.length : Int) = 4) := by omega
    rw [decide_eq_false hl'] at gn
    have z : stepO ws = none := by
      unfold stepO
      split
      · exact absurd rfl hl
      · rfl
    rw [z]
    generalize sts ws = L at *
    simp [f_parsed_step, b_parsed_step, defM, gl, gn]
end K83

namespace K83
open PySem L2 TL MR
/-! ### down to numbers -/
def Stp.dn (s : Stp) : NS := ⟨s.a.toNat, (tl s.b).headD 0, s.c.toNat, s.d.toNat, s.e.toNat⟩
def Mach.dn (p : Mach) : NM := ⟨p.al, p.size.toNat, p.starts.map Int.toNat, p.finals.map Int.toNat, p.steps.map Stp.dn⟩
theorem dn_up (q : NM) : q.up.dn = q := by
  obtain ⟨al, size, starts, finals, steps⟩ := q
  have h1 : ∀ l : List Nat, (nInts l).map Int.toNat = l := fun l => by unfold nInts; rw [List.map_map]; conv => rhs; rw [← List.map_id l]
                                                                       exact List.map_congr_left fun i _ => Int.toNat_natCast i
  have h2 : (steps.map NS.up).map Stp.dn = steps := by
    rw [List.map_map]; conv => rhs; rw [← List.map_id steps]
    exact List.map_congr_left fun s _ => rfl
  show (⟨al, ((size : Nat) : Int).toNat, (nInts starts).map Int.toNat, (nInts finals).map Int.toNat, (steps.map NS.up).map Stp.dn⟩ : NM) = ⟨al, size, starts, finals, steps⟩
  rw [h1, h1, h2, Int.toNat_natCast]
def mkM (h : Hd) (ss : List Stp) : Mach := ⟨h.al, h.n, nInts h.s, nInts h.f, ss⟩
def okT (p : Mach) (t : Str) : Option Mach := if isM p = true ∧ textM p.dn = t then some p else none
def specP (t : Str) : Option Mach := match cutAt 10 t with
  | l :: ls => (headO (cutAt 32 l)).bind fun h => ((ls.map (cutAt 32)).mapM stepO).bind fun ss => okT (mkM h ss) t
  | [] => none
theorem okT_some {p p' : Mach} {t : Str} (h : okT p t = some p') : p' = p ∧ isM p = true ∧ textM p.dn = t := by
  unfold okT at h
  by_cases hc : isM p = true ∧ textM p.dn = t
  · rw [if_pos hc] at h; cases h; exact ⟨rfl, hc.1, hc.2⟩
  · rw [if_neg hc] at h; cases h
theorem specP_some {t : Str} {p : Mach} (h : specP t = some p) : ∃ q : NM, p = q.up ∧ q.Ok ∧ t = textM q := by
  unfold specP at h
  split at h
  · rename_i l ls _
    cases e1 : headO (cutAt 32 l) with
    | none => rw [e1] at h; cases h
    | some hd =>
      rw [e1] at h
      cases e2 : (ls.map (cutAt 32)).mapM stepO with
      | none => rw [e2] at h; cases h
      | some ss =>
        rw [e2] at h
        obtain ⟨z1, z2, z3⟩ := okT_some h
        subst z1
        obtain ⟨q, eq, hq⟩ := isM_nat z2
        refine ⟨q, eq, hq, ?_⟩
        rw [← z3, eq, dn_up]
  · cases h
theorem numO_small {n : Nat} (h : n < 10) : numO (numS n) = some n := numO_numS (by omega)
theorem numsO_list {l : List Nat} (h : ∀ i ∈ l, i < 8) : numsO (listS l) = some l := by
  unfold listS
  by_cases hn : l = []
  · rw [if_pos hn, hn]
    unfold numsO
    rw [if_pos rfl]
  · rw [if_neg hn]
    have hp : ∀ p ∈ l.map numS, 44 ∉ tl p := fun p hp => by
      obtain ⟨i, hi, rfl⟩ := List.mem_map.mp hp
      intro m
      have := (num1 (n := i) (by have := h i hi; omega)).2 _ m
      omega
    have hc : cutAt 44 (Txt.join (Str.ofString ",") (l.map numS)) = l.map numS := by
      rw [litC]
      exact cut_joined (by decide) (by simp [hn]) hp
    have hne : Txt.join (Str.ofString ",") (l.map numS) ≠ Str.ofString "-" := fun z => by
      rw [z] at hc
      have e1 : cutAt 44 (Str.ofString "-") = [Str.ofString "-"] := by decide +kernel
      rw [e1] at hc
      cases l with
      | nil => exact hn rfl
      | cons i r =>
        have h0 := (List.cons.inj hc).1
        have := (num1 (n := i) (by have := h i List.mem_cons_self; omega)).2 45 (by rw [← h0, lit_tl]; decide)
        omega
    unfold numsO
    rw [if_neg hne, hc]
    have : ∀ l : List Nat, (∀ i ∈ l, i < 8) → (l.map numS).mapM numO = some l := by
      intro l
      induction l with
      | nil => intro _; rfl
      | cons i r ih =>
        intro h
        rw [List.map_cons, List.mapM_cons, numO_small (by have := h i List.mem_cons_self; omega), ih (fun j hj => h j (List.mem_cons_of_mem _ hj))]
        rfl
    exact this l h
theorem head_back {q : NM} (h : q.Ok) : headO (headW q) = some ⟨q.al, q.size, q.starts, q.finals⟩ := by
  unfold headW
  rw [headO7, if_pos ⟨rfl, rfl, rfl⟩, numO_small (by have := h.size; omega), numsO_list h.st, numsO_list h.fi]
  rfl
theorem step_back {s : NS} (h : s.Ok) : stepO (stepW s) = some s.up := by
  have h1 := h.a; have h2 := h.d; have h3 := h.e; have h4 := h.c
  unfold stepW
  rw [stepO4]
  have et : ∃ c, tl (sgn s.c ++ numS s.d) = c :: tl (numS s.d) ∧ (c = 43 ∨ c = 61) ∧ (if c = 61 then (1 : Int) else 0) = s.c := by
    rw [tl_append]
    unfold sgn
    by_cases hc : s.c = 1
    · rw [if_pos hc, litEq]; exact ⟨61, rfl, .inr rfl, by rw [hc]; rfl⟩
    · rw [if_neg hc, litPl]; exact ⟨43, rfl, .inl rfl, by have : s.c = 0 := by omega
                                                          rw [this]; rfl⟩
  obtain ⟨c, e1, e2, e3⟩ := et
  rw [e1]
  show (if c = 43 ∨ c = 61 then (numO (numS s.a)).bind fun n => (numO ⟨(tl (numS s.d)).toArray⟩).bind fun d => (numO (numS s.e)).bind fun m => some (⟨n, ⟨#[s.b]⟩, if c = 61 then 1 else 0, d, m⟩ : Stp) else none) = _
  have ed : (⟨(tl (numS s.d)).toArray⟩ : Str) = numS s.d := ext_tl rfl
  rw [if_pos e2, ed, numO_small (by omega), numO_small (by omega), numO_small (by omega), e3]
  rfl
theorem steps_back : ∀ {l : List NS}, (∀ s ∈ l, s.Ok) → (l.map stepW).mapM stepO = some (l.map NS.up)
  | [], _ => rfl
  | s :: l, h => by
    rw [List.map_cons, List.mapM_cons, step_back (h s List.mem_cons_self), steps_back fun z hz => h z (List.mem_cons_of_mem _ hz)]
    rfl
theorem stepW_ne (s : NS) : stepW s ≠ [] := by simp [stepW]
theorem specP_text {q : NM} (h : q.Ok) : specP (textM q) = some q.up := by
  unfold specP
  rw [text_cut h]
  show ((headO (cutAt 32 (joinSp (headW q)))).bind fun h => (((q.steps.map fun s => joinSp (stepW s)).map (cutAt 32)).mapM stepO).bind fun ss => okT (mkM h ss) (textM q)) = _
  have e1 : cutAt 32 (joinSp (headW q)) = headW q := join_cut (by simp [headW]) (headW_wd h)
  have e2 : (q.steps.map fun s => joinSp (stepW s)).map (cutAt 32) = q.steps.map stepW := by
    rw [List.map_map]
    exact List.map_congr_left fun s hs => join_cut (stepW_ne s) (stepW_wd (h.ok s hs))
  rw [e1, e2, head_back h, steps_back h.ok]
  show okT q.up (textM q) = _
  unfold okT
  rw [if_pos ⟨h.isM, by rw [dn_up]⟩]
/-- two readers that give machines by their texts alone are one -/
theorem readers {f g : Str → Option Mach} (f1 : ∀ t p, f t = some p → ∃ q : NM, p = q.up ∧ q.Ok ∧ t = textM q) (f2 : ∀ q : NM, q.Ok → f (textM q) = some q.up) (g1 : ∀ t p, g t = some p → ∃ q : NM, p = q.up ∧ q.Ok ∧ t = textM q) (g2 : ∀ q : NM, q.Ok → g (textM q) = some q.up) (t : Str) : f t = g t := by
  cases e : f t with
  | some p => obtain ⟨q, rfl, hq, rfl⟩ := f1 t p e; exact (g2 q hq).symm
  | none =>
    cases e' : g t with
    | none => rfl
    | some p => obtain ⟨q, rfl, hq, rfl⟩ := g1 t p e'; rw [f2 q hq] at e; cases e
/-! ### the def -/
theorem mapM_steps (ls : List (List Str)) : (ls.map fun l => MV.lst (sts l)).mapM (fun m => match m with | .lst xs => ((strsOf xs).bind stepO).map Stp.mv | _ => none) = (ls.mapM stepO).map fun ss => ss.map Stp.mv := by
  induction ls with
  | nil => rfl
  | cons l ls ih =>
    rw [List.map_cons, List.mapM_cons, List.mapM_cons, ih]
    have e : strsOf (sts l) = some l := strsOf_map l
    show (((strsOf (sts l)).bind stepO).map Stp.mv >>= _) = _
    rw [e]
    show ((stepO l).map Stp.mv >>= _) = _
    cases stepO l with
    | none => rfl
    | some s => cases ls.mapM stepO <;> rfl
theorem steps_compX {ls : List Str} (hl : ls.length ≤ 8001) (h : ∀ l ∈ ls, Asc 8000 l) (env : MEnv) (hj : 4 < env.length) (st : Sto) : compX (.nm 4) tYesM (mFn 1 f_parsed_step (aCons (mVar 4) aNil)) (ls.map fun l => .lst (sts (cutAt 32 l))) env [] st =
    (match (ls.map (cutAt 32)).mapM stepO with | some ss => .ok (ss.map Stp.mv) st | none => .exc pe st) := by
  have c1 : compX (.nm 4) tYesM (mFn 1 f_parsed_step (aCons (mVar 4) aNil)) ((ls.map (cutAt 32)).map fun l => .lst (sts l)) env [] st =
      (match ((ls.map (cutAt 32)).map fun l => MV.lst (sts l)).mapM (fun m => match m with | .lst xs => ((strsOf xs).bind stepO).map Stp.mv | _ => none) with | some vs => .ok ([] ++ vs) st | none => .exc pe st) := by
    apply compX_map
    · intro y hy
      obtain ⟨ws, hw, rfl⟩ := List.mem_map.mp hy
      obtain ⟨l, hl', rfl⟩ := List.mem_map.mp hw
      refine ⟨env.set 4 (some (.lst (sts (cutAt 32 l)))), rfl, ?_⟩
      have hA := h l hl'
      have := parsed_step_eq (ws := cutAt 32 l) (cut_len hA).2 (fun p hp => cut_asc hA hp) st
      have e : strsOf (sts (cutAt 32 l)) = some (cutAt 32 l) := strsOf_map _
      have e2 : (mFn 1 f_parsed_step (aCons (mVar 4) aNil)) (env.set 4 (some (.lst (sts (cutAt 32 l))))) st = f_parsed_step [.lst (sts (cutAt 32 l))] st := by simp [hj]
      rw [e2, this]
      show _ = (match ((strsOf (sts (cutAt 32 l))).bind stepO).map Stp.mv with | some v => Res.ok v st | none => .exc pe st)
      rw [e]
      show _ = (match (stepO (cutAt 32 l)).map Stp.mv with | some v => Res.ok v st | none => .exc pe st)
      cases stepO (cutAt 32 l) <;> rfl
    · simp
      omega
  rw [mapM_steps] at c1
  rw [List.map_map] at c1
  refine Eq.trans c1 ?_
  cases (ls.map (cutAt 32)).mapM stepO <;> rfl
theorem mk_sm {l : Str} {ls : List Str} {h : Hd} {ss : List Stp} (hl : Asc 8000 l) (hls : ∀ l ∈ ls, Asc 8000 l) (hn : ls.length ≤ 8001) (e1 : headO (cutAt 32 l) = some h) (e2 : (ls.map (cutAt 32)).mapM stepO = some ss) : (mkM h ss).Sm := by
  have hnum : ∀ {w : Str} {ns : List Nat}, Asc 8000 w → numsO w = some ns → ns.length ≤ 8001 := by
    intro w ns hw e
    unfold numsO at e
    by_cases hc : w = Str.ofString "-"
    · rw [if_pos hc] at e; cases e; exact Nat.zero_le _
    · rw [if_neg hc] at e
      have := mapM_len e
      have := (cut_len (c := 44) hw).2
      omega
  have hA : ∀ p ∈ cutAt 32 l, Asc 8000 p := fun p hp => cut_asc hl hp
  have hd : Asc 8000 h.al ∧ h.s.length ≤ 8001 ∧ h.f.length ≤ 8001 := by
    unfold headO at e1
    split at e1
    · rename_i w0 w1 w2 w3 w4 w5 w6 ew
      rw [ew] at hA
      by_cases hc : w0 = Str.ofString "machine" ∧ w3 = Str.ofString "starts" ∧ w5 = Str.ofString "finals"
      · rw [if_pos hc] at e1
        cases f2 : numO w2 with
        | none => rw [f2] at e1; cases e1
        | some n =>
          rw [f2] at e1
          cases f4 : numsO w4 with
          | none => rw [f4] at e1; cases e1
          | some s =>
            rw [f4] at e1
            cases f6 : numsO w6 with
            | none => rw [f6] at e1; cases e1
            | some f =>
              rw [f6] at e1
              cases e1
              exact ⟨hA w1 (by simp), hnum (hA w4 (by simp)) f4, hnum (hA w6 (by simp)) f6⟩
      · rw [if_neg hc] at e1; cases e1
    · cases e1
  refine ⟨hd.1, fun s hs => ?_, ?_, ?_, ?_⟩
  · obtain ⟨ws, hw, e3⟩ := (mapM_mem e2).2 s hs
    obtain ⟨l', hl', rfl⟩ := List.mem_map.mp hw
    have hB : ∀ p ∈ cutAt 32 l', Asc 8000 p := fun p hp => cut_asc (hls l' hl') hp
    unfold stepO at e3
    split at e3
    · rename_i a b p e ew
      rw [ew] at hB
      split at e3
      · split at e3
        · cases f1 : numO a with
          | none => rw [f1] at e3; cases e3
          | some n =>
            rw [f1] at e3
            rename_i c r _ _
            cases f2 : numO ⟨r.toArray⟩ with
            | none => rw [f2] at e3; cases e3
            | some d =>
              rw [f2] at e3
              cases f3 : numO e with
              | none => rw [f3] at e3; cases e3
              | some m => rw [f3] at e3; cases e3; exact hB b (by simp)
        · cases e3
      · cases e3
    · cases e3
  · show (nInts h.s).length ≤ 10000; unfold nInts; rw [List.length_map]; have := hd.2.1; omega
  · show (nInts h.f).length ≤ 10000; unfold nInts; rw [List.length_map]; have := hd.2.2; omega
  · show ss.length ≤ 10000; have := mapM_len e2; rw [List.length_map] at this; omega
end K83

namespace K83
open PySem L2 TL MR
def outM (o : Option Mach) : MV := match o with
  | some p => p.mv
  | none => .non
theorem okT_eq {p : Mach} {t : Str} (hp : p.Sm) (h : Asc 8000 t) (st : Sto) :
    f_is_machine [p.mv] st = .ok (.bl (isM p)) st ∧ (isM p = true → ∃ x, Asc 8000 x ∧ f_machine_text [p.mv] st = .ok (.str x) st ∧ gNe (.str x) (.str t) st = .ok (.bl (!decide (textM p.dn = t))) st) := by
  refine ⟨is_machine_eq hp st, fun hm => ?_⟩
  obtain ⟨q, rfl, hq⟩ := isM_nat hm
  have ha := text_asc hq
  refine ⟨textM q, ha.mono (by decide), machine_text_eq hq st, ?_⟩
  rw [dn_up]
  exact gNe_str ha h st
theorem parse_machine_eq {t : Str} (h : Asc 8000 t) (st : Sto) : f_parse_machine [.str t] st = match specP t with | some p => .ok p.mv st | none => .exc pe st := by
  have lo := lines_of_eq h st
  have hlen := cut_len (c := 10) h
  unfold specP
  cases ec : cutAt 10 t with
  | nil => rw [ec] at hlen; exact absurd hlen.1 (by decide)
  | cons l ls =>
    rw [ec] at lo hlen
    have hl : Asc 8000 l := cut_asc h (by rw [ec]; exact List.mem_cons_self)
    have hls : ∀ p ∈ ls, Asc 8000 p := fun p hp => cut_asc h (by rw [ec]; exact List.mem_cons_of_mem _ hp)
    have hn : ls.length ≤ 8000 := by have := hlen.2; simp at this; omega
    have hd := parsed_head_eq (ws := cutAt 32 l) (fun p hp => cut_asc hl hp) st
    have sc := fun env hj => steps_compX (ls := ls) (by omega) hls env hj st
    rw [List.map_cons] at lo
    have hlm : (ls.map fun l => MV.lst (sts (cutAt 32 l))).length < 16384 := by rw [List.length_map]; omega
    show f_parse_machine [.str t] st = match ((headO (cutAt 32 l)).bind fun h => ((ls.map (cutAt 32)).mapM stepO).bind fun ss => okT (mkM h ss) t) with | some p => .ok p.mv st | none => .exc pe st
    cases e1 : headO (cutAt 32 l) with
    | none =>
      rw [e1] at hd
      generalize (ls.map fun l => MV.lst (sts (cutAt 32 l))) = LL at *
      simp [f_parse_machine, b_parse_machine, defM, lo, hlm, hd]
    | some d =>
      rw [e1] at hd
      cases e2 : (ls.map (cutAt 32)).mapM stepO with
      | none =>
        rw [e2] at sc
        generalize (ls.map fun l => MV.lst (sts (cutAt 32 l))) = LL at *
        simp [f_parse_machine, b_parse_machine, defM, lo, hlm, hd, sc]
      | some ss =>
        rw [e2] at sc
        have sc : ∀ (env : MEnv), 4 < env.length → compX (.nm 4) tYesM (mFn 1 f_parsed_step (aCons (mVar 4) aNil)) (ls.map fun l => .lst (sts (cutAt 32 l))) env [] st = .ok (ss.map Stp.mv) st := sc
        have sm := mk_sm hl hls (by omega) e1 e2
        obtain ⟨k1, k2⟩ := okT_eq sm h st
        have gt : gTuple [.lst (ss.map Stp.mv)] st = .ok (.tup (ss.map Stp.mv)) st := rfl
        have ga : MR.gAdd (.tup d.mvs) (.tup [.tup (ss.map Stp.mv)]) st = .ok (mkM d ss).mv st := by
          show (if d.mvs.length + 1 ≤ 16777216 then Res.ok (MV.tup (d.mvs ++ [.tup (ss.map Stp.mv)])) st else .bad) = _
          rw [if_pos (by simp [Hd.mvs])]
          rfl
        show f_parse_machine [.str t] st = match okT (mkM d ss) t with | some p => .ok p.mv st | none => .exc pe st
        generalize (ls.map fun l => MV.lst (sts (cutAt 32 l))) = LL at *
        generalize ss.map Stp.mv = SM at *
        unfold okT
        generalize hP : mkM d ss = P at *
        cases hm : isM P with
        | false =>
          rw [hm] at k1
          rw [if_neg (by simp)]
          simp [f_parse_machine, b_parse_machine, defM, lo, hlm, hd, sc, gt, ga, k1]
        | true =>
          rw [hm] at k1
          obtain ⟨x, ha, k3, k4⟩ := k2 hm
          by_cases ht : textM P.dn = t
          · rw [decide_eq_true ht] at k4
            rw [if_pos ⟨rfl, ht⟩]
            simp [f_parse_machine, b_parse_machine, defM, lo, hlm, hd, sc, gt, ga, k1, k3, k4]
          · rw [decide_eq_false ht] at k4
            rw [if_neg (fun z => ht z.2)]
            simp [f_parse_machine, b_parse_machine, defM, lo, hlm, hd, sc, gt, ga, k1, k3, k4]
theorem read_back_eq {t : Str} (h : Asc 8000 t) (st : Sto) : f__law_read_back [.str t] st = .ok (outM (specP t)) st := by
  have e := parse_machine_eq h st
  cases q : specP t with
  | none =>
    rw [q] at e
    simp only [] at e
    have s1 : sub_LimitError "ParseError" = some true := by decide +kernel
    have s2 : is_ParseError "ParseError" = some true := by decide +kernel
    have e1 : (sRet (mFn 1 f_parse_machine (aCons (mVar 0) aNil))) [some (.str t), none] st = .exc pe [some (.str t), none] st := by simp [e]
    show (match sTryIs _ 1 sub_LimitError is_ParseError .non (.str "other") [some (.str t), none] st with
      | .nx _ st' => Res.ok MV.non st'
      | .rt m st' => .ok m st'
      | .exc c _ st' => .exc c st'
      | _ => .bad) = _
    unfold sTryIs
    rw [e1]
    simp [s1, s2]
    rfl
  | some p =>
    rw [q] at e
    simp only [] at e
    have e1 : (sRet (mFn 1 f_parse_machine (aCons (mVar 0) aNil))) [some (.str t), none] st = .rt p.mv st := by simp [e]
    show (match sTryIs _ 1 sub_LimitError is_ParseError .non (.str "other") [some (.str t), none] st with
      | .nx _ st' => Res.ok MV.non st'
      | .rt m st' => .ok m st'
      | .exc c _ st' => .exc c st'
      | _ => .bad) = _
    unfold sTryIs
    rw [e1]
    rfl
/-! ### the law's reader -/
def smallI (p : Str) : Int := match numO p with
  | some n => if n < 10 then n else -1
  | none => -1
theorem law_small_eq {p : Str} (h : Asc 8000 p) (st : Sto) : f__law_small [.str p] st = .ok (.int (smallI p)) st := by
  have c1 : compM (.nm 1) tYesM (mCall gStr (aCons (mVar 1) aNil)) (rngL 0 10) [some (.str p), none] [] st = .ok ([] ++ (rngL 0 10).map fun m => match m with | .int i => .str (numS i.toNat) | _ => .non) st := by
    apply compM_map
    · intro y hy
      obtain ⟨n, hn, rfl⟩ := List.mem_map.mp hy
      have hn := List.mem_range.mp hn
      refine ⟨_, rfl, ?_⟩
      have := gStr_nat (n := n) (by omega) st
      simp [this]
    · simp [rngL]
  have e1 : ((rngL 0 10).map fun m => match m with | .int i => MV.str (numS i.toNat) | _ => .non) = (List.range 10).map fun n => .str (numS n) := by
    unfold rngL
    rw [List.map_map]
    apply List.map_congr_left
    intro n _
    simp
  rw [e1, List.nil_append] at c1
  have m1 : memM (.str p) ((List.range 10).map fun n => .str (numS n)) = (List.range 10).any fun n => numS n == p := by
    unfold memM
    rw [List.any_map]
    rfl
  have fl : ((List.range 10).map fun n => MV.str (numS n)).all flatM = true := by rw [List.all_map]; exact List.all_eq_true.mpr fun n _ => rfl
  have gi : gIn (.str p) (.lst ((List.range 10).map fun n => .str (numS n))) st = .ok (.bl ((List.range 10).any fun n => numS n == p)) st := by
    show (match (if flatM (.str p) && ((List.range 10).map fun n => MV.str (numS n)).all flatM then some (memM (.str p) ((List.range 10).map fun n => .str (numS n))) else none) with
      | some b => Res.ok (MV.bl b) st
      | none => .bad) = _
    rw [fl, m1]
    rfl
  generalize ((List.range 10).map fun n => MV.str (numS n)) = L at *
  cases hb : (List.range 10).any fun n => numS n == p with
  | true =>
    rw [hb] at gi
    obtain ⟨n, hn, e⟩ := List.any_eq_true.mp hb
    have hn := List.mem_range.mp hn
    have e := beq_iff_eq.mp e
    subst e
    have z : smallI (numS n) = n := by unfold smallI; rw [numO_small hn]; show (if n < 10 then (n : Int) else -1) = _; rw [if_pos hn]
    have gint : gInt [.str (numS n)] st = .ok (.int n) st := by
      have := int_numS (n := n) (by omega)
      have hl : (numS n).length ≤ 640 := by have := (num1 hn).1.1; omega
      simp [gInt, this, hl]
    rw [z]
    simp [f__law_small, b__law_small, defM, c1, gi, gint]
  | false =>
    rw [hb] at gi
    have z : smallI p = -1 := by
      unfold smallI
      cases e : numO p with
      | none => rfl
      | some n =>
        show (if n < 10 then (n : Int) else -1) = _
        by_cases hn : n < 10
        · exfalso
          obtain ⟨e1, _⟩ := numO_some e
          have : ((List.range 10).any fun n => numS n == p) = true := List.any_eq_true.mpr ⟨n, List.mem_range.mpr hn, by rw [e1]; exact beq_self_eq_true _⟩
          rw [hb] at this
          cases this
        · rw [if_neg hn]
    rw [z]
    simp [f__law_small, b__law_small, defM, c1, gi, gNeg]
end K83

namespace K83
open PySem L2 TL MR
def lawStates (w : Str) : List Int := if w = Str.ofString "-" then [] else (cutAt 44 w).map smallI
theorem law_states_eq {s : Str} (h : Asc 8000 s) (st : Sto) : f__law_states [.str s] st = .ok (tupI (lawStates s)) st := by
  have q1 := gEq_str h (asc_lit (s := "-") (n := 1)) st
  unfold lawStates
  by_cases k1 : s = Str.ofString "-"
  · rw [decide_eq_true k1] at q1
    rw [if_pos k1]
    simp [f__law_states, b__law_states, defM, q1]
    rfl
  · rw [decide_eq_false k1] at q1
    rw [if_neg k1]
    have sp := gSplit_c h st
    have hl := (cut_len (c := 44) h).2
    have c : compM (.nm 1) tYesM (mFn 1 f__law_small (aCons (mVar 1) aNil)) (sts (cutAt 44 s)) [some (.str s), none] [] st = .ok ([] ++ (sts (cutAt 44 s)).map fun m => match m with | .str p => .int (smallI p) | _ => .non) st := by
      apply compM_map
      · intro y hy
        obtain ⟨p, hp, rfl⟩ := List.mem_map.mp hy
        refine ⟨[some (.str s), some (.str p)], rfl, ?_⟩
        have := law_small_eq (cut_asc h hp) st
        simp [this]
      · simp
        omega
    have e : ((sts (cutAt 44 s)).map fun m => match m with | .str p => MV.int (smallI p) | _ => .non) = ((cutAt 44 s).map smallI).map MV.int := by
      unfold sts; rw [List.map_map, List.map_map]; rfl
    rw [e, List.nil_append] at c
    unfold tupI
    generalize ((cutAt 44 s).map smallI).map MV.int = L at *
    have gt : gTuple [.lst L] st = .ok (.tup L) st := rfl
    generalize sts (cutAt 44 s) = LL at *
    simp [f__law_states, b__law_states, defM, q1, sp, c, gt]
/-- a row has four words, the third of two signs -/
def rowBad (ws : List Str) : Bool := !(decide (ws.length = 4)) || (match ws[2]? with | some p => !(decide (p.length = 2)) | none => false)
def lawStep (ws : List Str) : Stp := match ws with
  | [a, b, p, e] => ⟨smallI a, b, if (tl p)[0]? = some 61 then 1 else 0, smallI ⟨((tl p).drop 1).toArray⟩, smallI e⟩
  | _ => ⟨0, ⟨#[]⟩, 0, 0, 0⟩
def lawHead (ws : List Str) (ss : List Stp) : Mach := ⟨ws.getD 1 ⟨#[]⟩, smallI (ws.getD 2 ⟨#[]⟩), lawStates (ws.getD 4 ⟨#[]⟩), lawStates (ws.getD 6 ⟨#[]⟩), ss⟩
def lawP (t : Str) : Option Mach := match cutAt 10 t with
  | l :: ls => if (cutAt 32 l).length = 7 ∧ (ls.map (cutAt 32)).any rowBad = false then okT (lawHead (cutAt 32 l) ((ls.map (cutAt 32)).map lawStep)) t else none
  | [] => none
/-- a comprehension that picks out -/
theorem compM_filter {α : Type} {t : Tgt} {tst : MT} {elt : ME} {g : α → MV} {f : α → Bool} {env : MEnv} {st : Sto} : ∀ {xs : List α} {acc : List MV}, (∀ x ∈ xs, ∃ env1, t.bind (g x) env = some env1 ∧ tst env1 st = .ok (f x) st ∧ elt env1 st = .ok (g x) st) → acc.length + xs.length ≤ 16777216 →
    compM t tst elt (xs.map g) env acc st = .ok (acc ++ (xs.filter f).map g) st
  | [], acc, _, _ => by simp [compM]
  | x :: xs, acc, h, hl => by
    obtain ⟨env1, e1, e2, e3⟩ := h x List.mem_cons_self
    have hl' : acc.length < 16777216 := by simp at hl; omega
    rw [List.map_cons]
    unfold compM
    rw [e1]
    show (match tst env1 st with
      | .ok true st1 => (match elt env1 st1 with
        | .ok v st2 => if acc.length < 16777216 then compM t tst elt (xs.map g) env (acc ++ [v]) st2 else .bad
        | _ => .bad)
      | .ok false st1 => compM t tst elt (xs.map g) env acc st1
      | _ => .bad) = _
    rw [e2]
    cases hf : f x with
    | true =>
      simp only [e3, if_pos hl']
      rw [compM_filter (fun z hz => h z (List.mem_cons_of_mem _ hz)) (by simp at hl ⊢; omega), List.filter_cons, hf]
      simp
    | false =>
      simp only []
      rw [compM_filter (fun z hz => h z (List.mem_cons_of_mem _ hz)) (by simp at hl ⊢; omega), List.filter_cons, hf]
      simp
abbrev lM (ws : List Str) : MV := .lst (sts ws)
theorem rows_data : ∀ (ls : List (List Str)), (∀ ws ∈ ls, ∀ p ∈ ws, Asc 8000 p) → ∃ ds, toDs (ls.map lM) = some ds ∧ PyData.canLayAll0 ds = true ∧ PyData.depthAll ds ≤ 1 ∧ ds.length = ls.length
  | [], _ => ⟨[], rfl, by simp [PyData.canLayAll0], by simp [PyData.depthAll], rfl⟩
  | ws :: ls, h => by
    obtain ⟨ds, e1, e2, e3, e4⟩ := rows_data ls fun x hx => h x (List.mem_cons_of_mem _ hx)
    obtain ⟨es, f1, f2, f3, f4⟩ := toDs_items (N := 8000) (row := sts ws) (fun m hm => by obtain ⟨p, hp, rfl⟩ := List.mem_map.mp hm; exact .str p (h ws List.mem_cons_self p hp))
    refine ⟨.list es :: ds, ?_, ?_, ?_, by simp [e4]⟩
    · show (toD (.lst (sts ws))).bind _ = _
      simp [toD, f1, e1]
    · simp [PyData.canLayAll0, PyData.canLay0, e2, f2]
    · simp [PyData.depthAll, PyData.depth, f3]; omega
theorem gNe_rows (ls : List (List Str)) (h : ∀ ws ∈ ls, ∀ p ∈ ws, Asc 8000 p) (st : Sto) : gNe (.lst (ls.map lM)) (.lst []) st = .ok (.bl (!decide (ls = []))) st := by
  obtain ⟨ds, e1, e2, e3, e4⟩ := rows_data ls h
  have s1 : SeqAt.shaped (.list ds) = true := by
    unfold SeqAt.shaped
    simp [PyData.canLay0, PyData.depth, e2]
    omega
  have s2 : SeqAt.shaped (.list []) = true := by decide
  have e5 : PyData.eqv (.list ds) (.list []) = decide (ls = []) := by
    cases ls with
    | nil =>
      have : ds = [] := List.length_eq_zero_iff.mp e4
      subst this
      rfl
    | cons m r =>
      cases ds with
      | nil => cases e4
      | cons d ds => rfl
  simp [gNe, topD, toD, e1, toDs, s1, s2, e5]
theorem filter_nil {α : Type} (f : α → Bool) (l : List α) : decide (l.filter f = []) = !(l.any f) := by
  induction l with
  | nil => rfl
  | cons a l ih =>
    rw [List.filter_cons, List.any_cons]
    cases f a with
    | true => simp
    | false => simpa using ih
end K83

namespace K83
open PySem L2 TL MR
abbrev bodyA : MS := (sExpr (mMethT isLst gAppend (mVar 3) (aCons (mTup (aCons (mFn 1 f__law_small (aCons (mVar 4) aNil)) (aCons (mVar 5) (aCons (mCall gInt (aCons (m2 gEq (m2 gIx (mVar 6) (mC (.int 0))) (mC (.str "="))) aNil)) (aCons (mFn 1 f__law_small (aCons (m2 gIx (mVar 6) (mC (.int 1))) aNil)) (aCons (mFn 1 f__law_small (aCons (mVar 7) aNil)) aNil)))))) aNil)))
abbrev tgA : MTg := (gTL 4 (gConsM (gN 4) (gConsM (gN 5) (gConsM (gN 6) (gConsM (gN 7) gNilM)))))
theorem rowBad_no {ws : List Str} (h : rowBad ws = false) : ∃ a b c d e, ws = [a, b, ⟨#[c, d]⟩, e] := by
  unfold rowBad at h
  rw [Bool.or_eq_false_iff] at h
  have h1 : ws.length = 4 := by simpa using h.1
  match ws, h1 with
  | [a, b, p, e], _ =>
    have h2 : (!(decide (p.length = 2))) = false := h.2
    have h2 : p.length = 2 := by simpa using h2
    have hl := len_tl p
    rw [h2] at hl
    match e0 : tl p, hl with
    | [c, d], _ =>
      exact ⟨a, b, c, d, e, by rw [show p = ⟨#[c, d]⟩ from ext_tl e0]⟩
theorem stepA {ws : List Str} (hb : rowBad ws = false) (h : ∀ p ∈ ws, Asc 8000 p) {n : Nat} {s0 : Sto} (hn : s0.length = n) (acc : List MV) (ha : acc.length < 16777216) (e0 e1 e2 e4 e5 e6 e7 e8 e9 e10 : Option MV) : ∃ f4 f5 f6 f7,
    tgA (lM ws) [e0, e1, e2, some (.obj n), e4, e5, e6, e7, e8, e9, e10] (s0 ++ [.lst acc]) = some ([e0, e1, e2, some (.obj n), f4, f5, f6, f7, e8, e9, e10], s0 ++ [.lst acc]) ∧
    bodyA [e0, e1, e2, some (.obj n), f4, f5, f6, f7, e8, e9, e10] (s0 ++ [.lst acc]) = .nx [e0, e1, e2, some (.obj n), f4, f5, f6, f7, e8, e9, e10] (s0 ++ [.lst (acc ++ [(lawStep ws).mv])]) := by
  obtain ⟨a, b, c, d, e, rfl⟩ := rowBad_no hb
  have aa : Asc 8000 a := h a (by simp)
  have ae : Asc 8000 e := h e (by simp)
  have ap : Asc 8000 (⟨#[c, d]⟩ : Str) := h _ (by simp)
  have hc : c < 128 := ap.2 c (by show c ∈ [c, d]; simp)
  have hd : d < 128 := ap.2 d (by show d ∈ [c, d]; simp)
  refine ⟨some (.str a), some (.str b), some (.str ⟨#[c, d]⟩), some (.str e), rfl, ?_⟩
  have t1 := fun st => law_small_eq aa st
  have t2 := fun st => law_small_eq ae st
  have t3 := fun st => law_small_eq ((one_asc hd).mono (by decide : 1 ≤ 8000)) st
  have i0 : ∀ st, gIx (.str ⟨#[c, d]⟩) (.int 0) st = .ok (.str ⟨#[c]⟩) st := fun st => rfl
  have i1 : ∀ st, gIx (.str ⟨#[c, d]⟩) (.int 1) st = .ok (.str ⟨#[d]⟩) st := fun st => rfl
  have ge := fun st => gEq_str (one_asc hc) (asc_lit (s := "=") (n := 1)) st
  have hde : decide ((⟨#[c]⟩ : Str) = Str.ofString "=") = decide (c = 61) := by
    rw [litEq]
    apply decide_eq_decide.mpr
    exact ⟨fun z => by have := congrArg tl z; exact (List.cons.inj this).1, fun z => by rw [z]⟩
  have gi : ∀ st, gInt [.bl (decide (c = 61))] st = .ok (.int (if c = 61 then 1 else 0)) st := fun st => by
    by_cases hc : c = 61
    · rw [decide_eq_true hc, if_pos hc]; rfl
    · rw [decide_eq_false hc, if_neg hc]; rfl
  rw [hde] at ge
  have il := isLst_at hn acc
  have ep := append_at hn acc (lawStep [a, b, ⟨#[c, d]⟩, e]).mv ha
  have em : (lawStep [a, b, ⟨#[c, d]⟩, e]).mv = .tup [.int (smallI a), .str b, .int (if c = 61 then 1 else 0), .int (smallI ⟨#[d]⟩), .int (smallI e)] := by
    have e0 : ((tl (⟨#[c, d]⟩ : Str))[0]? = some 61) = (c = 61) := by
      show (some c = some 61) = _
      simp
    show (MV.tup [.int (smallI a), .str b, .int (if (tl (⟨#[c, d]⟩ : Str))[0]? = some 61 then 1 else 0), .int (smallI ⟨((tl (⟨#[c, d]⟩ : Str)).drop 1).toArray⟩), .int (smallI e)]) = _
    simp only [e0]
    rfl
  rw [em] at ep ⊢
  generalize decide (c = 61) = B at *
  generalize (if c = 61 then (1 : Int) else 0) = I at *
  simp [t1, t2, t3, i0, i1, ge, gi, il, ep]
theorem loopA {n : Nat} {s0 : Sto} (hn : s0.length = n) (e0 e1 e2 e8 e9 e10 : Option MV) : ∀ (ls : List (List Str)) (acc : List MV) (e4 e5 e6 e7 : Option MV), (∀ ws ∈ ls, rowBad ws = false ∧ ∀ p ∈ ws, Asc 8000 p) → acc.length + ls.length ≤ 10000 → ∃ f4 f5 f6 f7,
    forM tgA bodyA (ls.map lM) [e0, e1, e2, some (.obj n), e4, e5, e6, e7, e8, e9, e10] (s0 ++ [.lst acc]) = .nx [e0, e1, e2, some (.obj n), f4, f5, f6, f7, e8, e9, e10] (s0 ++ [.lst (acc ++ (ls.map lawStep).map Stp.mv)])
  | [], acc, e4, e5, e6, e7, _, _ => ⟨e4, e5, e6, e7, by simp⟩
  | ws :: ls, acc, e4, e5, e6, e7, h, hl => by
    have hl' : acc.length + (ls.length + 1) ≤ 10000 := hl
    obtain ⟨hb, hA⟩ := h ws List.mem_cons_self
    obtain ⟨f4, f5, f6, f7, s1, s2⟩ := stepA hb hA hn acc (by omega) e0 e1 e2 e4 e5 e6 e7 e8 e9 e10
    obtain ⟨g4, g5, g6, g7, ih⟩ := loopA hn e0 e1 e2 e8 e9 e10 ls (acc ++ [(lawStep ws).mv]) f4 f5 f6 f7 (fun z hz => h z (List.mem_cons_of_mem _ hz)) (by simp; omega)
    refine ⟨g4, g5, g6, g7, ?_⟩
    rw [List.map_cons, forM_step s1 s2, ih]
    simp
theorem lawP_sm {l : Str} {ls : List Str} (hl : Asc 8000 l) (hls : ∀ l ∈ ls, Asc 8000 l) (hn : ls.length ≤ 8000) (h7 : (cutAt 32 l).length = 7) (hb : (ls.map (cutAt 32)).any rowBad = false) : (lawHead (cutAt 32 l) ((ls.map (cutAt 32)).map lawStep)).Sm := by
  have hA : ∀ p ∈ cutAt 32 l, Asc 8000 p := fun p hp => cut_asc hl hp
  have hnum : ∀ {w : Str}, Asc 8000 w → (lawStates w).length ≤ 10000 := fun {w} hw => by
    unfold lawStates
    split
    · exact Nat.zero_le _
    · rw [List.length_map]; have := (cut_len (c := 44) hw).2; omega
  match e : cutAt 32 l, h7 with
  | [w0, w1, w2, w3, w4, w5, w6], _ =>
    rw [e] at hA
    refine ⟨hA w1 (by simp), fun s hs => ?_, hnum (hA w4 (by simp)), hnum (hA w6 (by simp)), ?_⟩
    · obtain ⟨ws, hw, rfl⟩ := List.mem_map.mp hs
      have hbw : rowBad ws = false := by
        cases hr : rowBad ws with
        | false => rfl
        | true =>
          have : (ls.map (cutAt 32)).any rowBad = true := List.any_eq_true.mpr ⟨ws, hw, hr⟩
          rw [hb] at this; cases this
      obtain ⟨l', hl', rfl⟩ := List.mem_map.mp hw
      obtain ⟨a, b, c, d, e, ew⟩ := rowBad_no hbw
      rw [ew]
      exact cut_asc (c := 32) (hls l' hl') (by rw [ew]; show b ∈ [a, b, ⟨#[c, d]⟩, e]; simp)
    · show ((ls.map (cutAt 32)).map lawStep).length ≤ 10000
      rw [List.length_map, List.length_map]; omega
theorem law_parsed_eq {t : Str} (h : Asc 8000 t) (st : Sto) : ∃ gb, f__law_parsed [.str t] st = .ok (outM (lawP t)) (st ++ gb) := by
  have hlen := cut_len (c := 10) h
  have sp := gSplit_nl h st
  unfold lawP
  cases ec : cutAt 10 t with
  | nil => rw [ec] at hlen; exact absurd hlen.1 (by decide)
  | cons l ls =>
    rw [ec] at hlen sp
    have hl : Asc 8000 l := cut_asc h (by rw [ec]; exact List.mem_cons_self)
    have hls : ∀ p ∈ ls, Asc 8000 p := fun p hp => cut_asc h (by rw [ec]; exact List.mem_cons_of_mem _ hp)
    have hn : ls.length ≤ 8000 := by have := hlen.2; simp at this; omega
    have hA : ∀ p ∈ cutAt 32 l, Asc 8000 p := fun p hp => cut_asc hl hp
    -- the lines
    have c1 : compM (.nm 9) tYesM (mMethT isStr gSplit (mVar 9) (aCons (mC (.str " ")) aNil)) (sts (l :: ls)) [some (.str t), none, none, none, none, none, none, none, none, none, none] [] st = .ok (((l :: ls).map (cutAt 32)).map lM) st := by
      have : compM (.nm 9) tYesM (mMethT isStr gSplit (mVar 9) (aCons (mC (.str " ")) aNil)) (sts (l :: ls)) [some (.str t), none, none, none, none, none, none, none, none, none, none] [] st = .ok ([] ++ (sts (l :: ls)).map fun m => match m with | .str p => lM (cutAt 32 p) | _ => .non) st := by
        apply compM_map
        · intro y hy
          obtain ⟨p, hp, rfl⟩ := List.mem_map.mp hy
          have hpA : Asc 8000 p := by
            rcases List.mem_cons.mp hp with e | hp
            · rw [e]; exact hl
            · exact hls p hp
          refine ⟨[some (.str t), none, none, none, none, none, none, none, none, some (.str p), none], rfl, ?_⟩
          have := gSplit_sp hpA st
          simp [this]
        · have := hlen.2; simp at this ⊢; omega
      rw [this, List.nil_append]
      unfold sts; rw [List.map_map, List.map_map]; rfl
    let s1 : Sto := st ++ [.lst []]
    have ix0 : gIx (.lst (((l :: ls).map (cutAt 32)).map lM)) (.int 0) st = .ok (lM (cutAt 32 l)) st := by rw [List.map_cons, List.map_cons]; exact gIx0 _ _ _
    have gl : ∀ st, gLen [lM (cutAt 32 l)] st = .ok (.int (cutAt 32 l).length) st := fun st => by rw [gLenL]; unfold sts; rw [List.length_map]
    have gn := gNe_int (cutAt 32 l).length 7
    have sl : ∀ st, gSlice (.lst (((l :: ls).map (cutAt 32)).map lM)) (some 1) none st = .ok (.lst ((ls.map (cutAt 32)).map lM)) st := fun st => gSlL1 _ _ st
    by_cases h7 : (cutAt 32 l).length = 7
    case neg =>
      have h7' : ¬ (((cutAt 32 l).length : Int) = 7) := by omega
      rw [decide_eq_false h7'] at gn
      refine ⟨[.lst []], ?_⟩
      show _ = Res.ok (outM (if (cutAt 32 l).length = 7 ∧ (ls.map (cutAt 32)).any rowBad = false then okT (lawHead (cutAt 32 l) ((ls.map (cutAt 32)).map lawStep)) t else none)) _
      rw [if_neg (fun z => h7 z.1)]
      generalize lM (cutAt 32 l) = HM at *
      generalize ((l :: ls).map (cutAt 32)).map lM = LM at *
      generalize sts (l :: ls) = SS at *
      simp [f__law_parsed, b__law_parsed, defM, sp, c1, ix0, gl, gn, outM]
    have h7' : (((cutAt 32 l).length : Int) = 7) := by omega
    rw [decide_eq_true h7'] at gn
    -- rows that are bad
    have hRA : ∀ ws ∈ ls.map (cutAt 32), ∀ p ∈ ws, Asc 8000 p := fun ws hw p hp => by
      obtain ⟨l', hl', rfl⟩ := List.mem_map.mp hw
      exact cut_asc (hls l' hl') hp
    have c2 : ∀ (e1 e2 e3 : Option MV) (st : Sto), compM (.nm 10) (mOrT (mB (m2 gNe (mCall gLen (aCons (mVar 10) aNil)) (mC (.int 4)))) (mB (m2 gNe (mCall gLen (aCons (m2 gIx (mVar 10) (mC (.int 2))) aNil)) (mC (.int 2))))) (mVar 10) ((ls.map (cutAt 32)).map lM) [some (.str t), e1, e2, e3, none, none, none, none, none, none, none] [] st = .ok ([] ++ ((ls.map (cutAt 32)).filter rowBad).map lM) st := by
      intro e1 e2 e3 st
      apply compM_filter
      · intro ws hw
        refine ⟨[some (.str t), e1, e2, e3, none, none, none, none, none, none, some (lM ws)], rfl, ?_, rfl⟩
        have g1 : gLen [lM ws] st = .ok (.int ws.length) st := by rw [gLenL]; unfold sts; rw [List.length_map]
        have g2 := gNe_int ws.length 4 st
        by_cases h4 : ws.length = 4
        · match ws, h4, hRA ws hw with
          | [a, b, p, e], _, hp =>
            have g2 : gNe (.int 4) (.int 4) st = .ok (.bl false) st := gNe_int 4 4 st
            have g1 : gLen [lM [a, b, p, e]] st = .ok (.int 4) st := g1
            have i2 : gIx (lM [a, b, p, e]) (.int 2) st = .ok (.str p) st := atL (xs := sts [a, b, p, e]) (i := 2) rfl st
            have pA : Asc 8000 p := hp p (by simp)
            have g3 := gLen_str pA (by decide) st
            have g4 := gNe_int p.length 2 st
            have er : rowBad [a, b, p, e] = !(decide ((p.length : Int) = 2)) := by
              show (!(decide (4 = 4)) || !(decide (p.length = 2))) = _
              rw [show decide (p.length = 2) = decide ((p.length : Int) = 2) from decide_eq_decide.mpr (by omega)]
              rfl
            rw [er]
            generalize lM [a, b, p, e] = WM at *
            simp [g1, g2, i2, g3, g4]
        · have h4' : ¬ ((ws.length : Int) = 4) := by omega
          rw [decide_eq_false h4'] at g2
          have er : rowBad ws = true := by unfold rowBad; rw [decide_eq_false h4]; rfl
          rw [er]
          generalize lM ws = WM at *
          simp [g1, g2]
      · simp; omega
    have gr := gNe_rows ((ls.map (cutAt 32)).filter rowBad) (fun ws hw => hRA ws (List.mem_filter.mp hw).1)
    rw [filter_nil] at gr
    simp only [List.nil_append, Bool.not_not] at c2 gr
    show ∃ gb, _ = Res.ok (outM (if (cutAt 32 l).length = 7 ∧ (ls.map (cutAt 32)).any rowBad = false then okT (lawHead (cutAt 32 l) ((ls.map (cutAt 32)).map lawStep)) t else none)) _
    cases hb : (ls.map (cutAt 32)).any rowBad with
    | true =>
      rw [hb] at gr
      rw [if_neg (fun z => by cases z.2)]
      refine ⟨[.lst []], ?_⟩
      generalize lM (cutAt 32 l) = HM at *
      generalize ((l :: ls).map (cutAt 32)).map lM = LM at *
      generalize ((ls.map (cutAt 32)).filter rowBad).map lM = FM at *
      generalize (ls.map (cutAt 32)).map lM = RM at *
      generalize sts (l :: ls) = SS at *
      simp [f__law_parsed, b__law_parsed, defM, sp, c1, ix0, gl, gn, sl, c2, gr, outM]
    | false =>
      rw [hb] at gr
      rw [if_pos ⟨h7, rfl⟩]
      have sm := lawP_sm hl hls hn h7 hb
      have hbw : ∀ ws ∈ ls.map (cutAt 32), rowBad ws = false ∧ ∀ p ∈ ws, Asc 8000 p := fun ws hw => by
        refine ⟨?_, hRA ws hw⟩
        cases hr : rowBad ws with
        | false => rfl
        | true =>
          have : (ls.map (cutAt 32)).any rowBad = true := List.any_eq_true.mpr ⟨ws, hw, hr⟩
          rw [hb] at this; cases this
      obtain ⟨f4, f5, f6, f7, lp⟩ := loopA (s0 := st) rfl (some (.str t)) (some (.lst (((l :: ls).map (cutAt 32)).map lM))) (some (lM (cutAt 32 l))) none none none (ls.map (cutAt 32)) [] none none none none hbw (by simp; omega)
      have hw7 : ∃ w0 w1 w2 w3 w4 w5 w6, cutAt 32 l = [w0, w1, w2, w3, w4, w5, w6] := by
        match e : cutAt 32 l, h7 with
        | [w0, w1, w2, w3, w4, w5, w6], _ => exact ⟨w0, w1, w2, w3, w4, w5, w6, rfl⟩
      obtain ⟨w0, w1, w2, w3, w4, w5, w6, ew⟩ := hw7
      rw [ew] at hA
      have i1 : ∀ st, gIx (lM (cutAt 32 l)) (.int 1) st = .ok (.str w1) st := fun st => by rw [ew]; exact atL (xs := sts [w0, w1, w2, w3, w4, w5, w6]) (i := 1) rfl st
      have i2 : ∀ st, gIx (lM (cutAt 32 l)) (.int 2) st = .ok (.str w2) st := fun st => by rw [ew]; exact atL (xs := sts [w0, w1, w2, w3, w4, w5, w6]) (i := 2) rfl st
      have i4 : ∀ st, gIx (lM (cutAt 32 l)) (.int 4) st = .ok (.str w4) st := fun st => by rw [ew]; exact atL (xs := sts [w0, w1, w2, w3, w4, w5, w6]) (i := 4) rfl st
      have i6 : ∀ st, gIx (lM (cutAt 32 l)) (.int 6) st = .ok (.str w6) st := fun st => by rw [ew]; exact atL (xs := sts [w0, w1, w2, w3, w4, w5, w6]) (i := 6) rfl st
      have t2 := law_small_eq (hA w2 (by simp))
      have t4 := law_states_eq (hA w4 (by simp))
      have t6 := law_states_eq (hA w6 (by simp))
      have eP : lawHead (cutAt 32 l) ((ls.map (cutAt 32)).map lawStep) = ⟨w1, smallI w2, lawStates w4, lawStates w6, (ls.map (cutAt 32)).map lawStep⟩ := by rw [ew]; rfl
      rw [eP] at sm ⊢
      have eM : (⟨w1, smallI w2, lawStates w4, lawStates w6, (ls.map (cutAt 32)).map lawStep⟩ : Mach).mv = .tup [.str w1, .int (smallI w2), tupI (lawStates w4), tupI (lawStates w6), .tup (((ls.map (cutAt 32)).map lawStep).map Stp.mv)] := rfl
      have tl1 := tuple_last st (((ls.map (cutAt 32)).map lawStep).map Stp.mv)
      generalize hP : (⟨w1, smallI w2, lawStates w4, lawStates w6, (ls.map (cutAt 32)).map lawStep⟩ : Mach) = P at *
      have k1 := is_machine_eq sm
      rw [eM] at k1
      simp only [List.nil_append] at lp
      have ix0' := ix0
      generalize lM (cutAt 32 l) = HM at *
      generalize ((l :: ls).map (cutAt 32)).map lM = LM at *
      generalize ((ls.map (cutAt 32)).filter rowBad).map lM = FM at *
      generalize (ls.map (cutAt 32)).map lM = RM at *
      generalize sts (l :: ls) = SS at *
      generalize ((ls.map (cutAt 32)).map lawStep).map Stp.mv = SM at *
      generalize tupI (lawStates w4) = T4 at *
      generalize tupI (lawStates w6) = T6 at *
      unfold okT
      cases hm : isM P with
      | false =>
        rw [hm] at k1
        rw [if_neg (by simp)]
        refine ⟨[.lst SM], ?_⟩
        simp [f__law_parsed, b__law_parsed, defM, sp, c1, ix0, gl, gn, sl, c2, gr, outM, lp, i1, i2, i4, i6, t2, t4, t6, tl1, k1]
      | true =>
        rw [hm] at k1
        obtain ⟨q, eq, hq⟩ := isM_nat hm
        obtain ⟨x, lt⟩ := law_text_eq hq (st ++ [.lst SM])
        rw [← eq, eM] at lt
        have gt := gEq_str (text_asc hq) h (st ++ [.lst SM] ++ [x])
        have ed : P.dn = q := by rw [eq, dn_up]
        rw [ed]
        by_cases ht : textM q = t
        · rw [decide_eq_true ht] at gt
          rw [if_pos ⟨rfl, ht⟩]
          refine ⟨[.lst SM, x], ?_⟩
          show _ = Res.ok P.mv _
          rw [eM]
          simp at lt gt
          simp [f__law_parsed, b__law_parsed, defM, sp, c1, ix0, gl, gn, sl, c2, gr, lp, i1, i2, i4, i6, t2, t4, t6, tl1, k1, lt, gt]
        · rw [decide_eq_false ht] at gt
          rw [if_neg (fun z => ht z.2)]
          refine ⟨[.lst SM, x], ?_⟩
          simp at lt gt
          simp [f__law_parsed, b__law_parsed, defM, sp, c1, ix0, gl, gn, sl, c2, gr, lp, i1, i2, i4, i6, t2, t4, t6, tl1, k1, lt, gt, outM]
end K83

namespace K83
open PySem L2 TL MR
theorem lawP_some {t : Str} {p : Mach} (h : lawP t = some p) : ∃ q : NM, p = q.up ∧ q.Ok ∧ t = textM q := by
  unfold lawP at h
  split at h
  · rename_i l ls _
    split at h
    · obtain ⟨z1, z2, z3⟩ := okT_some h
      subst z1
      obtain ⟨q, eq, hq⟩ := isM_nat z2
      refine ⟨q, eq, hq, ?_⟩
      rw [← z3, eq, dn_up]
    · cases h
  · cases h
theorem smallI_num {n : Nat} (h : n < 10) : smallI (numS n) = n := by unfold smallI; rw [numO_small h]; show (if n < 10 then (n : Int) else -1) = _; rw [if_pos h]
theorem lawStates_list {l : List Nat} (h : ∀ i ∈ l, i < 8) : lawStates (listS l) = nInts l := by
  have e := numsO_list h
  unfold numsO at e
  unfold lawStates
  by_cases hc : listS l = Str.ofString "-"
  · rw [if_pos hc] at e ⊢
    cases e
    rfl
  · rw [if_neg hc] at e ⊢
    have : ∀ {ps : List Str} {ns : List Nat}, ps.mapM numO = some ns → (∀ i ∈ ns, i < 8) → ps.map smallI = nInts ns := by
      intro ps
      induction ps with
      | nil => intro ns h _; cases h; rfl
      | cons p ps ih =>
        intro ns h hn
        rw [List.mapM_cons] at h
        cases e1 : numO p with
        | none => rw [e1] at h; cases h
        | some n =>
          cases e2 : ps.mapM numO with
          | none => rw [e1, e2] at h; cases h
          | some ms =>
            rw [e1, e2] at h
            cases h
            have hn1 := hn n List.mem_cons_self
            rw [List.map_cons, ih e2 fun i hi => hn i (List.mem_cons_of_mem _ hi)]
            have : smallI p = n := by unfold smallI; rw [e1]; show (if n < 10 then (n : Int) else -1) = _; rw [if_pos (by omega)]
            rw [this]
            rfl
    exact this e h
theorem stepW_good {s : NS} (h : s.Ok) : rowBad (stepW s) = false ∧ lawStep (stepW s) = s.up := by
  have h1 := h.a; have h2 := h.d; have h3 := h.e; have h4 := h.c
  have et : ∃ c, tl (sgn s.c ++ numS s.d) = [c, 48 + s.d] ∧ (if c = 61 then (1 : Int) else 0) = s.c := by
    have e0 : tl (numS s.d) = [48 + s.d] := by rw [tl_numS, numL_lt (by omega)]
    rw [tl_append, e0]
    unfold sgn
    by_cases hc : s.c = 1
    · rw [if_pos hc, litEq]; exact ⟨61, rfl, by rw [hc]; rfl⟩
    · rw [if_neg hc, litPl]; exact ⟨43, rfl, by have : s.c = 0 := by omega
                                                rw [this]; rfl⟩
  obtain ⟨c, e1, e2⟩ := et
  have hl : (sgn s.c ++ numS s.d).length = 2 := by rw [len_tl, e1]; rfl
  constructor
  · unfold rowBad
    show (!(decide (4 = 4)) || !(decide ((sgn s.c ++ numS s.d).length = 2))) = false
    rw [hl]
    rfl
  · show (⟨smallI (numS s.a), ⟨#[s.b]⟩, if (tl (sgn s.c ++ numS s.d))[0]? = some 61 then 1 else 0, smallI ⟨((tl (sgn s.c ++ numS s.d)).drop 1).toArray⟩, smallI (numS s.e)⟩ : Stp) = s.up
    rw [e1]
    have ed : (⟨(([c, 48 + s.d] : List Nat).drop 1).toArray⟩ : Str) = numS s.d := ext_tl (by rw [tl_numS, numL_lt (by omega)]; rfl)
    have ec : (([c, 48 + s.d] : List Nat)[0]? = some 61) = (c = 61) := by simp
    rw [ed, smallI_num (by omega), smallI_num (by omega), smallI_num (by omega)]
    simp only [ec, e2]
    rfl
theorem lawP_text {q : NM} (h : q.Ok) : lawP (textM q) = some q.up := by
  unfold lawP
  rw [text_cut h]
  have e1 : cutAt 32 (joinSp (headW q)) = headW q := join_cut (by simp [headW]) (headW_wd h)
  have e2 : (q.steps.map fun s => joinSp (stepW s)).map (cutAt 32) = q.steps.map stepW := by
    rw [List.map_map]
    exact List.map_congr_left fun s hs => join_cut (stepW_ne s) (stepW_wd (h.ok s hs))
  show (if (cutAt 32 (joinSp (headW q))).length = 7 ∧ ((q.steps.map fun s => joinSp (stepW s)).map (cutAt 32)).any rowBad = false then okT (lawHead (cutAt 32 (joinSp (headW q))) (((q.steps.map fun s => joinSp (stepW s)).map (cutAt 32)).map lawStep)) (textM q) else none) = _
  rw [e1, e2]
  have hb : (q.steps.map stepW).any rowBad = false := by
    rw [List.any_map]
    rw [List.any_eq_false]
    intro s hs
    show ¬ (rowBad (stepW s) = true)
    rw [(stepW_good (h.ok s hs)).1]
    decide
  rw [if_pos ⟨rfl, hb⟩]
  have e3 : lawHead (headW q) ((q.steps.map stepW).map lawStep) = q.up := by
    show (⟨q.al, smallI (numS q.size), lawStates (listS q.starts), lawStates (listS q.finals), (q.steps.map stepW).map lawStep⟩ : Mach) = q.up
    rw [smallI_num (by have := h.size; omega), lawStates_list h.st, lawStates_list h.fi, List.map_map]
    have : q.steps.map (lawStep ∘ stepW) = q.steps.map NS.up := List.map_congr_left fun s hs => (stepW_good (h.ok s hs)).2
    rw [this]
    rfl
  rw [e3]
  unfold okT
  rw [if_pos ⟨h.isM, by rw [dn_up]⟩]
theorem spec_law (t : Str) : specP t = lawP t := readers (fun t p => specP_some) (fun q hq => specP_text hq) (fun t p => lawP_some) (fun q hq => lawP_text hq) t
/-! ### what is shown -/
theorem stp_good {s : NS} (h : s.Ok) : ∃ d, toD s.up.mv = some d ∧ Asc 400 d.shown ∧ d.showable = true ∧ d.depth ≤ 1 := by
  refine ⟨s.up.pd, rfl, ?_⟩
  have h1 := h.a; have h2 := h.d; have h3 := h.e; have h4 := h.c
  have gi : ∀ n : Nat, n < 400 → Asc 62 (PyData.int n).shown ∧ (PyData.int n).showable = true := fun n hn => ⟨(Good.num hn).asc, (Good.num hn).sh⟩
  have gs := Good.strd (low_asc h.b)
  have ga : GoodAll 62 0 [.int s.a, .str ⟨#[s.b]⟩, .int s.c, .int s.d, .int s.e] :=
    .cons (gi s.a (by omega)).1 (gi s.a (by omega)).2 (zero_depI _) (.cons (gs.asc.mono (by decide)) gs.sh (zero_dep _) (.cons (gi s.c (by omega)).1 (gi s.c (by omega)).2 (zero_depI _) (.cons (gi s.d (by omega)).1 (gi s.d (by omega)).2 (zero_depI _) (.cons (gi s.e (by omega)).1 (gi s.e (by omega)).2 (zero_depI _) (.nil _ _)))))
  obtain ⟨k1, k2, k3⟩ := ga.tuple
  exact ⟨k1.mono (by show 5 * (62 + 2) + 3 ≤ 400; decide), k2, k3⟩
theorem steps_good : ∀ {l : List NS}, (∀ s ∈ l, s.Ok) → ∃ ds, toDs ((l.map NS.up).map Stp.mv) = some ds ∧ ds.length = l.length ∧ GoodAll 400 1 ds
  | [], _ => ⟨[], rfl, rfl, .nil _ _⟩
  | s :: l, h => by
    obtain ⟨d, e1, e2, e3, e4⟩ := stp_good (h s List.mem_cons_self)
    obtain ⟨ds, f1, f2, f3⟩ := steps_good fun z hz => h z (List.mem_cons_of_mem _ hz)
    refine ⟨d :: ds, ?_, by simp [f2], .cons e2 e3 e4 f3⟩
    show (toD s.up.mv).bind (fun d => (toDs ((l.map NS.up).map Stp.mv)).map (d :: ·)) = _
    rw [e1, f1]
    rfl
theorem nums_good : ∀ {l : List Nat}, (∀ i ∈ l, i < 8) → ∃ ds, toDs ((nInts l).map MV.int) = some ds ∧ ds.length = l.length ∧ GoodAll 62 0 ds
  | [], _ => ⟨[], rfl, rfl, .nil _ _⟩
  | i :: l, h => by
    obtain ⟨ds, f1, f2, f3⟩ := nums_good fun z hz => h z (List.mem_cons_of_mem _ hz)
    have g := Good.num (n := i) (by have := h i List.mem_cons_self; omega)
    refine ⟨.int i :: ds, ?_, by simp [f2], .cons g.asc g.sh (zero_depI _) f3⟩
    show (toD (.int (i : Int))).bind (fun d => (toDs ((nInts l).map MV.int)).map (d :: ·)) = _
    rw [f1]
    rfl
theorem repr_mach {q : NM} (h : q.Ok) : ∃ y, Asc 130000 y ∧ ∀ st, gRepr [q.up.mv] st = .ok (.str y) st := by
  obtain ⟨d1, a1, b1, c1⟩ := nums_good h.st
  obtain ⟨d2, a2, b2, c2⟩ := nums_good h.fi
  obtain ⟨d3, a3, b3, c3⟩ := steps_good h.ok
  have t1 := c1.tuple
  have t2 := c2.tuple
  have t3 := c3.tuple
  have hs := h.size; have h1 := h.sl; have h2 := h.fl; have h3 := h.len
  have ga := Good.strd (alph_asc h.al)
  have gn := Good.num (n := q.size) (by omega)
  have g : GoodAll 25000 2 [.str q.al, .int q.size, .tuple d1, .tuple d2, .tuple d3] :=
    .cons (ga.asc.mono (by decide)) ga.sh (Nat.le_trans (zero_dep _) (by decide)) (.cons (gn.asc.mono (by decide)) gn.sh (Nat.le_trans (zero_depI _) (by decide)) (.cons (t1.1.mono (by omega)) t1.2.1 (Nat.le_trans t1.2.2 (by decide)) (.cons (t2.1.mono (by omega)) t2.2.1 (Nat.le_trans t2.2.2 (by decide)) (.cons (t3.1.mono (by omega)) t3.2.1 t3.2.2 (.nil _ _)))))
  obtain ⟨k1, k2, k3⟩ := g.tuple
  have k1 : Asc 130000 (PyData.tuple [.str q.al, .int q.size, .tuple d1, .tuple d2, .tuple d3]).shown := k1.mono (by show 5 * (25000 + 2) + 3 ≤ 130000; decide)
  refine ⟨(PyData.tuple [.str q.al, .int q.size, .tuple d1, .tuple d2, .tuple d3]).shown, k1, fun st => ?_⟩
  have et : topD q.up.mv st = some (.tuple [.str q.al, .int q.size, .tuple d1, .tuple d2, .tuple d3]) := by
    show topD (.tup [.str q.al, .int q.size, .tup ((nInts q.starts).map MV.int), .tup ((nInts q.finals).map MV.int), .tup ((q.steps.map NS.up).map Stp.mv)]) st = _
    generalize (nInts q.starts).map MV.int = A at *
    generalize (nInts q.finals).map MV.int = B at *
    generalize (q.steps.map NS.up).map Stp.mv = C at *
    simp [topD, toD, toDs, a1, a2, a3]
  generalize (PyData.tuple [.str q.al, .int q.size, .tuple d1, .tuple d2, .tuple d3]) = D at *
  have c : (D.showable = true ∧ D.depth ≤ 60) ∧ D.shown.length ≤ 16777216 := ⟨⟨k2, by omega⟩, by have := k1.1; omega⟩
  simp only [gRepr, et, c, and_self, if_true]
end K83

namespace K83
open PySem L2 TL MR
theorem cutM_to (xs : List MV) (m : Nat) : cutM xs none (some (m : Int)) = xs.take m := by
  show (xs.drop (HT.sIx xs.length 0 none)).take (HT.sIx xs.length xs.length (some (m : Int)) - HT.sIx xs.length 0 none) = _
  rw [HT.sIx_none, HT.sIx_nat, List.drop_zero, Nat.sub_zero]
  by_cases h : m ≤ xs.length
  · rw [Nat.min_eq_left h]
  · rw [Nat.min_eq_right (by omega), List.take_of_length_le (Nat.le_refl _), List.take_of_length_le (by omega)]
theorem cutM_from (xs : List MV) (m : Nat) (h : m ≤ xs.length) : cutM xs (some (m : Int)) none = xs.drop m := by
  show (xs.drop (HT.sIx xs.length 0 (some (m : Int)))).take (HT.sIx xs.length xs.length none - HT.sIx xs.length 0 (some (m : Int))) = _
  rw [HT.sIx_none, HT.sIx_nat, Nat.min_eq_left h, List.take_of_length_le (by simp)]
theorem cutM_mid (xs : List MV) (m : Nat) (h : m + 1 ≤ xs.length) : cutM xs (some (m : Int)) (some ((m : Int) + 1)) = (xs.drop m).take 1 := by
  show (xs.drop (HT.sIx xs.length 0 (some (m : Int)))).take (HT.sIx xs.length xs.length (some ((m : Int) + 1)) - HT.sIx xs.length 0 (some (m : Int))) = _
  rw [show ((m : Int) + 1) = ((m + 1 : Nat) : Int) by omega, HT.sIx_nat, HT.sIx_nat, Nat.min_eq_left (by omega : m + 1 ≤ xs.length), Nat.min_eq_left (by omega : m ≤ xs.length), show m + 1 - m = 1 by omega]
theorem sl_to (ls : List Str) (m : Nat) (st : Sto) : gSlice (.lst (sts ls)) none (some (m : Int)) st = .ok (.lst (sts (ls.take m))) st := by
  show Res.ok (MV.lst (cutM (sts ls) none (some (m : Int)))) st = _
  rw [cutM_to]; unfold sts; rw [List.map_take]
theorem sl_from (ls : List Str) (m : Nat) (h : m ≤ ls.length) (st : Sto) : gSlice (.lst (sts ls)) (some (m : Int)) none st = .ok (.lst (sts (ls.drop m))) st := by
  show Res.ok (MV.lst (cutM (sts ls) (some (m : Int)) none)) st = _
  rw [cutM_from _ _ (by unfold sts; rw [List.length_map]; exact h)]; unfold sts; rw [List.map_drop]
theorem sl_mid (ls : List Str) (m : Nat) (h : m + 1 ≤ ls.length) (st : Sto) : gSlice (.lst (sts ls)) (some (m : Int)) (some ((m : Int) + 1)) st = .ok (.lst (sts ((ls.drop m).take 1))) st := by
  show Res.ok (MV.lst (cutM (sts ls) (some (m : Int)) (some ((m : Int) + 1)))) st = _
  rw [cutM_mid _ _ (by unfold sts; rw [List.length_map]; exact h)]; unfold sts; rw [List.map_take, List.map_drop]
theorem joinL_len {c B : Nat} : ∀ {p : List Nat} {ps : List (List Nat)}, (∀ q ∈ ps, q.length ≤ B) → (joinL [c] (p :: ps)).length ≤ p.length + ps.length * (B + 1)
  | p, [], _ => by simp [joinL]
  | p, q :: ps, h => by
    have ih := joinL_len (c := c) (B := B) (p := q) (ps := ps) fun x hx => h x (List.mem_cons_of_mem _ hx)
    have hq := h q List.mem_cons_self
    have e : (joinL [c] (p :: q :: ps)).length = p.length + 1 + (joinL [c] (q :: ps)).length := by simp [joinL]; omega
    rw [e, List.length_cons, Nat.add_mul]
    omega
theorem text_asc2 {q : NM} (h : q.Ok) : Asc 900 (textM q) := by
  refine ⟨?_, (text_asc h).2⟩
  unfold textM
  rw [len_tl, litN, tl_joined]
  show (joinL [10] (tl (joinSp (headW q)) :: (q.steps.map fun s => joinSp (stepW s)).map tl)).length ≤ 900
  have h1 := (join_ln (headW_wd h)).1.1
  rw [len_tl] at h1
  have h1 : (tl (joinSp (headW q))).length ≤ 119 := h1
  have h2 := joinL_len (c := 10) (B := 12) (p := tl (joinSp (headW q))) (ps := (q.steps.map fun s => joinSp (stepW s)).map tl) (fun x hx => by
    obtain ⟨y, hy, rfl⟩ := List.mem_map.mp hx
    obtain ⟨s, hs, rfl⟩ := List.mem_map.mp hy
    have := (join_ln (stepW_wd (h.ok s hs))).1.1
    rw [len_tl] at this
    exact this)
  have h3 := h.len
  simp only [List.length_map] at h2
  omega
structure Sp (t : Str) : Prop where
  asc : Asc 900 t
  pos : 1 ≤ t.length
  few : (cutAt 10 t).length ≤ 61
  ln : ∀ p ∈ cutAt 10 t, Asc 119 p
theorem text_sp {q : NM} (h : q.Ok) : Sp (textM q) := by
  refine ⟨text_asc2 h, ?_, by rw [text_cut h]; exact lines_len h, fun p hp => by rw [text_cut h] at hp; exact (lines_ok h p hp).1⟩
  unfold textM
  rw [len_tl, litN, tl_joined]
  show 1 ≤ (joinL [10] (tl (joinSp (headW q)) :: (q.steps.map fun s => joinSp (stepW s)).map tl)).length
  have e : tl (joinSp (headW q)) = 109 :: (tl (joinSp (headW q))).drop 1 := by
    unfold joinSp headW
    rw [litS, tl_joined]
    simp [joinL, lit_tl]
  rw [e]
  cases (q.steps.map fun s => joinSp (stepW s)).map tl <;> simp [joinL]
theorem spoilt_eq {k : Nat} {st : Sto} (hs : Strm k st) {t : Str} (S : Sp t) : ∃ y st', Asc 8000 y ∧ Strm k st' ∧ f__law_spoilt [.obj k, .str t] st = .ok (.str y) st' := by
  obtain ⟨h, h1, hl, ha⟩ := S
  have h8 : Asc 8000 t := h.mono (by decide)
  obtain ⟨d, s1, e1, hd, _, hs1⟩ := draw_eq hs (d := t.length) h1 (by have := h.1; omega) []
  obtain ⟨w, s2, e2, hw, _, hs2⟩ := draw_eq hs1 (d := 6) (by decide) (by decide) []
  obtain ⟨g, s3, e3, hg, _, hs3⟩ := draw_eq hs2 (d := 14) (by decide) (by decide) []
  simp only [List.append_nil] at e1 e2 e3
  obtain ⟨c, _, hc, e4⟩ := gIx_str (s := Str.ofString "ab01239 ,-+=\nz") (N := 14) asc_lit (by decide) (d := g) (by rw [len_tl, lit_tl]; exact hg) s3
  have ac : Asc 1 ⟨#[c]⟩ := one_asc hc
  obtain ⟨x0, f0, a0⟩ := gSl_str h (by decide) none (some (d : Int)) s3
  obtain ⟨x1, f1, a1⟩ := gSl_str h (by decide) (some ((d : Int) + 1)) none s3
  obtain ⟨x2, f2, a2⟩ := gSl_str h (by decide) (some (d : Int)) none s3
  obtain ⟨y1, g1, b1⟩ := gAdd_str a0 a1 (by decide) s3
  obtain ⟨y2, g2, b2⟩ := gAdd_str a0 ac (by decide) s3
  obtain ⟨y3, g3, b3⟩ := gAdd_str b2 a2 (by decide) s3
  obtain ⟨y4, g4, b4⟩ := gAdd_str b2 a1 (by decide) s3
  have e2' : f__law_draw [.obj k, .int 6] s1 = .ok (.int w) s2 := e2
  have e3' : f__law_draw [.obj k, .int 14] s2 = .ok (.int g) s3 := e3
  have q0 := gEq_int w 0 s3
  have q1 := gEq_int w 1 s3
  have q4 := gLtI w 4 s3
  have gl := gLen_str h (by decide) st
  by_cases w0 : (w : Int) = 0
  · rw [decide_eq_true w0] at q0
    exact ⟨y1, s3, b1.mono (by decide), hs3, by simp [f__law_spoilt, b__law_spoilt, defM, gl, e1, e2', e3', e4, q0, f0, f1, g1, gAddI]⟩
  rw [decide_eq_false w0] at q0
  by_cases w1 : (w : Int) = 1
  · rw [decide_eq_true w1] at q1
    exact ⟨y3, s3, b3.mono (by decide), hs3, by simp [f__law_spoilt, b__law_spoilt, defM, gl, e1, e2', e3', e4, q0, q1, f0, f2, g2, g3, gAddI]⟩
  rw [decide_eq_false w1] at q1
  by_cases w4 : (w : Int) < 4
  · rw [decide_eq_true w4] at q4
    exact ⟨y4, s3, b4.mono (by decide), hs3, by simp [f__law_spoilt, b__law_spoilt, defM, gl, e1, e2', e3', e4, q0, q1, q4, f0, f1, g2, g4, gAddI]⟩
  rw [decide_eq_false w4] at q4
  have ls1 := (cut_len (c := 10) h).1
  have sp := gSplit_nl h8 s3
  generalize cutAt 10 t = ls at *
  obtain ⟨m, s4, e5, hm, _, hs4⟩ := draw_eq hs3 (d := ls.length) ls1 (by omega) []
  simp only [List.append_nil] at e5
  have u1 := sl_to ls m s4
  have u2 := sl_mid ls m (by omega) s4
  have u3 := sl_from ls m (by omega) s4
  have u4 : gSlice (.lst (sts ls)) (some ((m : Int) + 1)) none s4 = .ok (.lst (sts (ls.drop (m + 1)))) s4 := sl_from ls (m + 1) (by omega) s4
  have jn : ∀ (ps : List Str), (∀ p ∈ ps, p ∈ ls) → ps.length ≤ 62 → Asc 8000 (Txt.join (Str.ofString "\n") ps) ∧ gJoin (.str (Str.ofString "\n")) [.lst (sts ps)] s4 = .ok (.str (Txt.join (Str.ofString "\n") ps)) s4 := fun ps hp hn => by
    refine ⟨?_, gJoin_lst (B := 119) (fun p h => (ha p (hp p h)).1) (by rw [litN]; decide) (by omega) s4⟩
    rw [litN]
    exact (joined_asc (by decide) fun p h => ha p (hp p h)).mono (by omega)
  by_cases w5 : (w : Int) = 4
  · have q5 := gEq_int w 4 s4
    rw [decide_eq_true w5] at q5
    have k1 := gAdd_sts (ls.take m) (ls.drop (m + 1)) (by simp; omega) s4
    obtain ⟨aj, j1⟩ := jn (ls.take m ++ ls.drop (m + 1)) (fun p hp => by
      rcases List.mem_append.mp hp with hp | hp
      · exact List.mem_of_mem_take hp
      · exact List.mem_of_mem_drop hp) (by simp; omega)
    exact ⟨_, s4, aj, hs4, by simp [f__law_spoilt, b__law_spoilt, defM, gl, e1, e2', e3', e4, q0, q1, q4, sp, gLenL, e5, q5, u1, u4, k1, j1, gAddI, -List.append_assoc, -List.map_append, -List.map_take, -List.map_drop]⟩
  · have q5 := gEq_int w 4 s4
    rw [decide_eq_false w5] at q5
    have k1 := gAdd_sts (ls.take m) ((ls.drop m).take 1) (by simp; omega) s4
    have k2 := gAdd_sts (ls.take m ++ (ls.drop m).take 1) (ls.drop m) (by simp; omega) s4
    obtain ⟨aj, j1⟩ := jn (ls.take m ++ (ls.drop m).take 1 ++ ls.drop m) (fun p hp => by
      rcases List.mem_append.mp hp with hp | hp
      · rcases List.mem_append.mp hp with hp | hp
        · exact List.mem_of_mem_take hp
        · exact List.mem_of_mem_drop (List.mem_of_mem_take hp)
      · exact List.mem_of_mem_drop hp) (by simp; omega)
    exact ⟨_, s4, aj, hs4, by simp [f__law_spoilt, b__law_spoilt, defM, gl, e1, e2', e3', e4, q0, q1, q4, sp, gLenL, e5, q5, u1, u2, u3, k1, k2, j1, gAddI, -List.append_assoc, -List.map_append, -List.map_take, -List.map_drop]⟩
end K83

namespace K83
open PySem L2 TL MR
open PySem.W (dataLe dataLt keyToks keyToksAll sort_pairwise sortLe_total)
theorem zip_maps {α : Type} (g : α → MV) (d : α → PyData) : ∀ l : List α, (l.map g).zip (l.map d) = l.map fun a => (g a, d a)
  | [] => rfl
  | a :: l => by rw [List.map_cons, List.map_cons, List.zip_cons_cons, zip_maps g d l]; rfl
theorem sortD_map {α : Type} (g : α → MV) (d : α → PyData) (l : List α) : sortD (l.map g) (l.map d) = (l.mergeSort (dataLe false d)).map g := by
  unfold sortD
  rw [zip_maps, ← List.map_mergeSort (r := dataLe false d) (s := dataLe false fun t : MV × PyData => t.2) (f := fun a => (g a, d a)) (fun _ _ _ _ => rfl), List.map_map]
  rfl
theorem sorted_strict {α : Type} (d : α → PyData) (inj : ∀ a b, keyToks (d a) = keyToks (d b) → a = b) {l : List α} (nd : l.Nodup) : (l.mergeSort (dataLe false d)).Pairwise (fun a b => dataLt (d a) (d b) = true) := by
  have h1 := sort_pairwise (sortLe_total (PyProof.Rows.listOrd PyProof.Rows.itemOrd) false fun b => keyToks (d b)) l
  have h2 : (l.mergeSort (dataLe false d)).Nodup := (List.mergeSort_perm l (dataLe false d)).nodup_iff.mpr nd
  refine (h1.and h2).imp fun {a b} ⟨h, ne⟩ => ?_
  have h : (!dataLt (d b) (d a)) = true := h
  rw [Bool.not_eq_true'] at h
  cases hl : dataLt (d a) (d b) with
  | true => rfl
  | false => exact absurd (inj a b ((PyProof.Rows.listOrd PyProof.Rows.itemOrd).total _ _ hl h)) ne
theorem asc_of {α : Type} {lt : α → α → Bool} : ∀ {l : List α}, l.Pairwise (fun a b => lt a b = true) → ascG lt l = true
  | [], _ => rfl
  | [a], _ => rfl
  | a :: b :: r, h => by
    rw [ascG, (List.pairwise_cons.mp h).1 b List.mem_cons_self, asc_of (List.pairwise_cons.mp h).2]
    rfl
theorem toks_stp {s t : NS} (h : keyToks s.up.pd = keyToks t.up.pd) : s = t := by
  obtain ⟨a, b, c, d, e⟩ := s
  obtain ⟨a', b', c', d', e'⟩ := t
  simp [NS.up, Stp.pd, keyToks, keyToksAll] at h
  obtain ⟨h1, h2, h3, h4, h5⟩ := h
  have h1 := Int.ofNat.inj h1; have h3 := Int.ofNat.inj h3; have h4 := Int.ofNat.inj h4; have h5 := Int.ofNat.inj h5
  subst h1 h2 h3 h4 h5
  rfl
theorem toks_int {i j : Int} (h : keyToks (.int i) = keyToks (.int j)) : i = j := by
  simp [keyToks] at h
  exact h
/-! ### one step -/
theorem step_draw {k : Nat} {st : Sto} (hs : Strm k st) {state later way c : Nat} (h1 : state < 8) (h2 : later < 8) (h3 : way < 3) (hc : lowc c = true) (tail : Sto) :
    ∃ (s : NS) (s2 : Sto), f__law_step [.obj k, .int state, .str ⟨#[c]⟩, .int later, .int way] (st ++ tail) = .ok s.up.mv (s2 ++ tail) ∧ s.Ok ∧ s.a = state ∧ s.b = c ∧ s.e = later ∧ s2.length = st.length ∧ Strm k s2 := by
  have hw : way = 0 ∨ way = 1 ∨ way = 2 := by omega
  have costs : ∀ (d : Nat) (st : Sto), d < 6 → ∃ x : Nat, x ≤ 3 ∧ gIx (.lst [.int 0, .int 0, .int 1, .int 1, .int 2, .int 3]) (.int (d : Int)) st = .ok (.int (x : Int)) st := by
    intro d st hd
    have : d = 0 ∨ d = 1 ∨ d = 2 ∨ d = 3 ∨ d = 4 ∨ d = 5 := by omega
    rcases this with rfl | rfl | rfl | rfl | rfl | rfl
    · exact ⟨0, by decide, rfl⟩
    · exact ⟨0, by decide, rfl⟩
    · exact ⟨1, by decide, rfl⟩
    · exact ⟨1, by decide, rfl⟩
    · exact ⟨2, by decide, rfl⟩
    · exact ⟨3, by decide, rfl⟩
  have wayI : ∀ st : Sto, ∃ n : Nat, 0 < n ∧ n ≤ 6 ∧ gIx (.lst [.int 4, .int 4, .int 6]) (.int (way : Int)) st = .ok (.int (n : Int)) st := by
    intro st
    rcases hw with rfl | rfl | rfl
    · exact ⟨4, by decide, by decide, rfl⟩
    · exact ⟨4, by decide, by decide, rfl⟩
    · exact ⟨6, by decide, by decide, rfl⟩
  -- again
  have hag : ∃ (ag : Nat) (s1 : Sto), ag ≤ 1 ∧ s1.length = st.length ∧ Strm k s1 ∧ (mCall gInt (aCons (mAnd (m2 gGt (mVar 4) (mC (.int 0))) (m2 gEq (mFn 2 f__law_draw (aCons (mVar 0) (aCons (mC (.int 4)) aNil))) (mC (.int 0)))) aNil)) [some (.obj k), some (.int state), some (.str ⟨#[c]⟩), some (.int later), some (.int way), none, none] (st ++ tail) = .ok (.int (ag : Int)) (s1 ++ tail) := by
    by_cases hw0 : (0 : Int) < way
    · obtain ⟨r, s1, e1, hr, l1, hs1⟩ := draw_eq hs (d := 4) (by decide) (by decide) tail
      have e1 : f__law_draw [.obj k, .int 4] (st ++ tail) = .ok (.int r) (s1 ++ tail) := e1
      have q := gEq_int r 0 (s1 ++ tail)
      have g := gGtI way 0 (st ++ tail)
      rw [decide_eq_true hw0] at g
      by_cases hr0 : (r : Int) = 0
      · rw [decide_eq_true hr0] at q
        refine ⟨1, s1, by decide, l1, hs1, ?_⟩
        simp [g, e1, q]; rfl
      · rw [decide_eq_false hr0] at q
        refine ⟨0, s1, by decide, l1, hs1, ?_⟩
        simp [g, e1, q]; rfl
    · have g := gGtI way 0 (st ++ tail)
      rw [decide_eq_false hw0] at g
      refine ⟨0, st, by decide, rfl, hs, ?_⟩
      simp [g]; rfl
  obtain ⟨ag, s1, ha, l1, hs1, e1⟩ := hag
  obtain ⟨n, hn0, hn6, e2⟩ := wayI (s1 ++ tail)
  obtain ⟨d, s2, e3, hd, l2, hs2⟩ := draw_eq hs1 (d := n) hn0 (by omega) tail
  obtain ⟨x, hx, e4⟩ := costs d (s2 ++ tail) (by omega)
  refine ⟨⟨state, c, ag, x, later⟩, s2, ?_, ⟨h1, hc, ha, hx, h2⟩, rfl, rfl, rfl, by omega, hs2⟩
  show defM 7 b__law_step _ _ = _
  unfold defM b__law_step
  show (match (sSeq (sSet 5 _) _) [some (.obj k), some (.int state), some (.str ⟨#[c]⟩), some (.int later), some (.int way), none, none] (st ++ tail) with
    | .nx _ st' => Res.ok MV.non st'
    | .rt m st' => .ok m st'
    | .exc c _ st' => .exc c st'
    | _ => .bad) = _
  rw [s_seq, s_set, e1]
  simp [e2, e3, e4, NS.up, Stp.mv]
end K83

namespace K83
open PySem L2 TL MR
theorem forM_inv {g : MTg} {body : MS} {I : Nat → MEnv → Sto → Prop} : ∀ (ys : List MV) (j : Nat) (env : MEnv) (st : Sto), I j env st →
    (∀ y ∈ ys, ∀ i env st, i < j + ys.length → I i env st → ∃ env1 st1 env2 st2, g y env st = some (env1, st1) ∧ body env1 st1 = .nx env2 st2 ∧ I (i + 1) env2 st2) → ∃ env' st', forM g body ys env st = .nx env' st' ∧ I (j + ys.length) env' st'
  | [], j, env, st, h, _ => ⟨env, st, by simp, h⟩
  | y :: ys, j, env, st, h, hb => by
    obtain ⟨env1, st1, env2, st2, e1, e2, h2⟩ := hb y List.mem_cons_self j env st (by simp) h
    obtain ⟨env', st', e3, h3⟩ := forM_inv ys (j + 1) env2 st2 h2 fun z hz i e s hi hI => hb z (List.mem_cons_of_mem _ hz) i e s (by simp at hi ⊢; omega) hI
    refine ⟨env', st', ?_, ?_⟩
    · rw [forM_step e1 e2, e3]
    · rw [List.length_cons, show j + (ys.length + 1) = j + 1 + ys.length by omega]; exact h3
abbrev gS (s : NS) : MV := s.up.mv
def DO (l : List NS) : MO := .dict (l.map gS) (l.map fun _ => .bl true)
def insL (l : List NS) (s : NS) : List NS := if s ∈ l then l else l ++ [s]
theorem toN_gS {s t : NS} : toN (gS s) = toN (gS t) ↔ s = t := by
  constructor
  · intro h
    obtain ⟨a, b, c, d, e⟩ := s
    obtain ⟨a', b', c', d', e'⟩ := t
    have h : some (NestedKey.tup [.num a, .text ⟨#[b]⟩, .num c, .num d, .num e]) = some (NestedKey.tup [.num a', .text ⟨#[b']⟩, .num c', .num d', .num e']) := h
    have h := NestedKey.tup.inj (Option.some.inj h)
    simp at h
    obtain ⟨h1, h2, h3, h4, h5⟩ := h
    subst h2
    have h1 := Int.ofNat.inj h1; have h3 := Int.ofNat.inj h3; have h4 := Int.ofNat.inj h4; have h5 := Int.ofNat.inj h5
    subst h1 h3 h4 h5
    rfl
  · intro h; rw [h]
theorem hasK_gS (l : List NS) (s : NS) : hasK (l.map gS) (gS s) = decide (s ∈ l) := by
  unfold hasK
  rw [List.any_map]
  by_cases h : s ∈ l
  · rw [decide_eq_true h]
    exact List.any_eq_true.mpr ⟨s, h, decide_eq_true rfl⟩
  · rw [decide_eq_false h]
    rw [List.any_eq_false]
    intro t ht hh
    have := toN_gS.mp (of_decide_eq_true hh)
    exact h (this ▸ ht)
theorem putX_true (n : MV) : ∀ l : List NS, putX (l.map gS) (l.map fun _ => .bl true) n (.bl true) = l.map fun _ => .bl true
  | [] => rfl
  | s :: l => by
    unfold putX
    rw [List.map_cons, List.map_cons, List.zipWith_cons_cons]
    have := putX_true n l
    unfold putX at this
    rw [this]
    split <;> rfl
theorem nOk_gS (s : NS) : nOk (gS s) = true := by
  show decide (NestedKey.depth (.tup [.num s.a, .text ⟨#[s.b]⟩, .num s.c, .num s.d, .num s.e]) ≤ 8) = true
  apply decide_eq_true
  simp [NestedKey.depth, NestedKey.depthAll]
theorem set_DO {n : Nat} {s0 : Sto} (hn : s0.length = n) (l : List NS) (hl : l.length < 16777216) (s : NS) : setAtG (.obj n) (gS s) (.bl true) (s0 ++ [DO l]) = some (s0 ++ [DO (insL l s)]) := by
  subst hn
  have e1 : (s0 ++ [DO l])[s0.length]? = some (DO l) := at_last s0 _
  have c1 : (l.map gS).all isTupM = true := by rw [List.all_map]; exact List.all_eq_true.mpr fun _ _ => rfl
  have c2 : (l.map gS).all nOk = true := by rw [List.all_map]; exact List.all_eq_true.mpr fun t _ => nOk_gS t
  have ed : dPut (l.map gS) (l.map fun _ => .bl true) (gS s) (.bl true) = DO (insL l s) := by
    unfold dPut insL
    rw [hasK_gS, putX_true]
    by_cases h : s ∈ l
    · rw [decide_eq_true h, if_pos rfl, if_pos h]; rfl
    · rw [decide_eq_false h, if_neg (by decide), if_neg h]
      unfold DO
      simp
  unfold setAtG
  simp only [e1]
  unfold DO
  simp only []
  rw [List.length_map, if_pos hl, if_pos (show isTupM (gS s) = true from rfl), if_pos ⟨c1, nOk_gS s, c2⟩, set_last]
  rw [ed]
  rfl
structure GoodS (al : Str) (size : Nat) (s : NS) : Prop where
  ok : s.Ok
  a : s.a < size
  b : s.b ∈ tl al
  e : s.e < size
theorem insL_ok {al : Str} {size : Nat} {l : List NS} {s : NS} (h : ∀ t ∈ l, GoodS al size t) (hs : GoodS al size s) : ∀ t ∈ insL l s, GoodS al size t := by
  unfold insL
  split
  · exact h
  · intro t ht
    rcases List.mem_append.mp ht with ht | ht
    · exact h t ht
    · rw [List.mem_singleton.mp ht]; exact hs
theorem insL_nd {l : List NS} {s : NS} (h : l.Nodup) : (insL l s).Nodup := by
  unfold insL
  split
  · exact h
  · rename_i hn
    exact List.nodup_append.mpr ⟨h, by simp, fun a ha b hb e => hn (by rw [List.mem_singleton.mp hb] at e; exact e ▸ ha)⟩
theorem insL_len (l : List NS) (s : NS) : (insL l s).length ≤ l.length + 1 := by
  unfold insL
  split <;> simp
abbrev bodyI : MS := (sSeq (sSet 8 (mFn 5 f__law_step (aCons (mVar 0) (aCons (mVar 5) (aCons (mVar 6) (aCons (mFn 2 f__law_draw (aCons (mVar 0) (aCons (mVar 2) aNil))) (aCons (mVar 3) aNil)))))))
  (sSetIxG (mVar 4) (mVar 8) (mC (.bl true))))
abbrev itI : MA := (MR.iRng (aCons (m2 gIx (mLst (aCons (mC (.int 1)) (aCons (mC (.int 1)) (aCons (mC (.int 2)) (aCons (mC (.int 0)) (aCons (mC (.int 2)) aNil)))))) (mFn 2 f__law_draw (aCons (mVar 0) (aCons (mC (.int 5)) aNil)))) aNil))
abbrev bodyM : MS := sFor itI (gN 7) bodyI
abbrev bodyS : MS := sFor (iAll (mVar 1)) (gN 6) bodyM
structure Dst (al : Str) (size : Nat) (k n B : Nat) (st : Sto) : Prop where
  ex : ∃ s1 l, st = s1 ++ [DO l] ∧ Strm k s1 ∧ s1.length = n ∧ (∀ t ∈ l, GoodS al size t) ∧ l.Nodup ∧ l.length ≤ B
theorem Dst.mono {al : Str} {size k n B C : Nat} {st : Sto} (h : Dst al size k n B st) (hb : B ≤ C) : Dst al size k n C st := by
  obtain ⟨s1, l, h1, h2, h3, h4, h5, h6⟩ := h.ex
  exact ⟨s1, l, h1, h2, h3, h4, h5, Nat.le_trans h6 hb⟩
section
variable {k n size way : Nat} {al : Str}
theorem stepI {state c : Nat} (hz : 1 ≤ size) (hz8 : size ≤ 8) (hw : way < 3) (hst : state < size) (hc : lowc c = true) (hca : c ∈ tl al) {B : Nat} (hB : B < 1000) {st : Sto} (h : Dst al size k n B st) (e7 e8 : Option MV) : ∃ f8 st2, Dst al size k n (B + 1) st2 ∧
    bodyI [some (.obj k), some (.str al), some (.int size), some (.int way), some (.obj n), some (.int state), some (.str ⟨#[c]⟩), e7, e8, none, none, none] st =
      .nx [some (.obj k), some (.str al), some (.int size), some (.int way), some (.obj n), some (.int state), some (.str ⟨#[c]⟩), e7, f8, none, none, none] st2 := by
  obtain ⟨s1, l, rfl, h2, h3, h4, h5, h6⟩ := h.ex
  obtain ⟨r, s2, e1, hr, l2, hs2⟩ := draw_eq h2 (d := size) (by omega) (by omega) [DO l]
  obtain ⟨s, s3, e2, ok, z1, z2, z3, l3, hs3⟩ := step_draw hs2 (state := state) (later := r) (way := way) (c := c) (by omega) (by omega) hw hc [DO l]
  have e3 := set_DO (s0 := s3) (n := n) (by omega) l (by omega) s
  refine ⟨some (gS s), s3 ++ [DO (insL l s)], ⟨s3, insL l s, rfl, hs3, by omega, insL_ok h4 ⟨ok, by omega, by rw [z2]; exact hca, by omega⟩, insL_nd h5, by have := insL_len l s; omega⟩, ?_⟩
  simp [e1, e2, e3]
theorem cnt_at (st : Sto) {d : Nat} (h : d < 5) : ∃ x : Nat, x ≤ 2 ∧ gIx (.lst [.int 1, .int 1, .int 2, .int 0, .int 2]) (.int (d : Int)) st = .ok (.int (x : Int)) st := by
  have : d = 0 ∨ d = 1 ∨ d = 2 ∨ d = 3 ∨ d = 4 := by omega
  rcases this with rfl | rfl | rfl | rfl | rfl
  · exact ⟨1, by decide, rfl⟩
  · exact ⟨1, by decide, rfl⟩
  · exact ⟨2, by decide, rfl⟩
  · exact ⟨0, by decide, rfl⟩
  · exact ⟨2, by decide, rfl⟩
theorem stepMid {state c : Nat} (hz : 1 ≤ size) (hz8 : size ≤ 8) (hw : way < 3) (hst : state < size) (hc : lowc c = true) (hca : c ∈ tl al) {B : Nat} (hB : B < 900) {st : Sto} (h : Dst al size k n B st) (e7 e8 : Option MV) : ∃ f7 f8 st2, Dst al size k n (B + 2) st2 ∧
    bodyM [some (.obj k), some (.str al), some (.int size), some (.int way), some (.obj n), some (.int state), some (.str ⟨#[c]⟩), e7, e8, none, none, none] st =
      .nx [some (.obj k), some (.str al), some (.int size), some (.int way), some (.obj n), some (.int state), some (.str ⟨#[c]⟩), f7, f8, none, none, none] st2 := by
  obtain ⟨s1, l, rfl, h2, h3, h4, h5, h6⟩ := h.ex
  obtain ⟨r, s2, e1, hr, l2, hs2⟩ := draw_eq h2 (d := 5) (by decide) (by decide) [DO l]
  have e1 : f__law_draw [.obj k, .int 5] (s1 ++ [DO l]) = .ok (.int r) (s2 ++ [DO l]) := e1
  obtain ⟨x, hx, e2⟩ := cnt_at (s2 ++ [DO l]) hr
  have hx9 : (x : Int) ≤ 1000000000 := by omega
  have hx8 : (-1000000000 : Int) ≤ x := by omega
  obtain ⟨env', st', e3, f7, f8, e4, hD⟩ := forM_inv (g := gN 7) (body := bodyI) (I := fun j env st => ∃ f7 f8, env = [some (.obj k), some (.str al), some (.int size), some (.int way), some (.obj n), some (.int state), some (.str ⟨#[c]⟩), f7, f8, none, none, none] ∧ Dst al size k n (B + j) st)
    (rngL 0 x) 0 [some (.obj k), some (.str al), some (.int size), some (.int way), some (.obj n), some (.int state), some (.str ⟨#[c]⟩), e7, e8, none, none, none] (s2 ++ [DO l]) ⟨e7, e8, rfl, ⟨s2, l, rfl, hs2, by omega, h4, h5, by omega⟩⟩ (fun y hy i env st hi ⟨f7, f8, ee, hd⟩ => by
      subst ee
      have hi : i < 2 := by simp [rngL] at hi; omega
      obtain ⟨g8, st2, hd2, e9⟩ := stepI (al := al) hz hz8 hw hst hc hca (B := B + i) (by omega) hd (some y) f8
      exact ⟨_, _, _, _, rfl, e9, some y, g8, rfl, hd2⟩)
  subst e4
  refine ⟨f7, f8, st', hD.mono (by simp [rngL]; omega), ?_⟩
  simp [e1, e2, hx9, hx8, e3]
theorem stepOut {state : Nat} (hz : 1 ≤ size) (hz8 : size ≤ 8) (hw : way < 3) (hst : state < size) (hal : isAlph al = true) {B : Nat} (hB : B < 800) {st : Sto} (h : Dst al size k n B st) (e6 e7 e8 : Option MV) : ∃ f6 f7 f8 st2, Dst al size k n (B + 8) st2 ∧
    bodyS [some (.obj k), some (.str al), some (.int size), some (.int way), some (.obj n), some (.int state), e6, e7, e8, none, none, none] st =
      .nx [some (.obj k), some (.str al), some (.int size), some (.int way), some (.obj n), some (.int state), f6, f7, f8, none, none, none] st2 := by
  have ha := alph_pos hal
  have hlen : (al.cps.toList.map fun c => MV.str ⟨#[c]⟩).length ≤ 4 := by rw [List.length_map]; have := len_tl al; have := ha.2.1; show (tl al).length ≤ 4; omega
  obtain ⟨env', st', e3, f6, f7, f8, e4, hD⟩ := forM_inv (g := gN 6) (body := bodyM) (I := fun j env st => ∃ f6 f7 f8, env = [some (.obj k), some (.str al), some (.int size), some (.int way), some (.obj n), some (.int state), f6, f7, f8, none, none, none] ∧ Dst al size k n (B + 2 * j) st)
    (al.cps.toList.map fun c => MV.str ⟨#[c]⟩) 0 [some (.obj k), some (.str al), some (.int size), some (.int way), some (.obj n), some (.int state), e6, e7, e8, none, none, none] st ⟨e6, e7, e8, rfl, h⟩ (fun y hy i env st hi ⟨f6, f7, f8, ee, hd⟩ => by
      subst ee
      have hi : i < 4 := by omega
      obtain ⟨c, hc, rfl⟩ := List.mem_map.mp hy
      obtain ⟨g7, g8, st2, hd2, e9⟩ := stepMid (al := al) hz hz8 hw hst (ha.2.2 c hc) hc (B := B + 2 * i) (by omega) hd f7 f8
      exact ⟨_, _, _, _, rfl, e9, some (.str ⟨#[c]⟩), g7, g8, rfl, hd2.mono (by omega)⟩)
  subst e4
  refine ⟨f6, f7, f8, st', hD.mono (by omega), ?_⟩
  simp [e3]
theorem loopAll (hz : 1 ≤ size) (hz8 : size ≤ 8) (hw : way < 3) (hal : isAlph al = true) {st : Sto} (h : Dst al size k n 0 st) : ∃ f5 f6 f7 f8 st2, Dst al size k n 64 st2 ∧
    (sFor (MR.iRng (aCons (mVar 2) aNil)) (gN 5) bodyS) [some (.obj k), some (.str al), some (.int size), some (.int way), some (.obj n), none, none, none, none, none, none, none] st =
      .nx [some (.obj k), some (.str al), some (.int size), some (.int way), some (.obj n), f5, f6, f7, f8, none, none, none] st2 := by
  obtain ⟨env', st', e3, f5, f6, f7, f8, e4, hD⟩ := forM_inv (g := gN 5) (body := bodyS) (I := fun j env st => ∃ f5 f6 f7 f8, env = [some (.obj k), some (.str al), some (.int size), some (.int way), some (.obj n), f5, f6, f7, f8, none, none, none] ∧ Dst al size k n (8 * j) st)
    (rngL 0 size) 0 [some (.obj k), some (.str al), some (.int size), some (.int way), some (.obj n), none, none, none, none, none, none, none] st ⟨none, none, none, none, rfl, h⟩ (fun y hy i env st hi ⟨f5, f6, f7, f8, ee, hd⟩ => by
      subst ee
      have hi : i < 8 := by simp [rngL] at hi; omega
      obtain ⟨s, hs, rfl⟩ := List.mem_map.mp hy
      have hs := List.mem_range.mp hs
      have e0 : (0 : Int) + (s : Int) = s := by omega
      obtain ⟨g6, g7, g8, st2, hd2, e9⟩ := stepOut (al := al) (state := s) hz hz8 hw hs hal (B := 8 * i) (by omega) hd f6 f7 f8
      rw [e0]
      exact ⟨_, _, _, _, rfl, e9, some (.int s), g6, g7, g8, rfl, hd2.mono (by omega)⟩)
  subst e4
  have hx9 : (size : Int) ≤ 1000000000 := by omega
  have hx8 : (-1000000000 : Int) ≤ size := by omega
  refine ⟨f5, f6, f7, f8, st', hD.mono (by simp [rngL]; omega), ?_⟩
  simp [hx9, hx8, e3]
end
/-! ### the starts -/
def begB (size s : Nat) : Bool := decide (s = 0) || (decide (1 < size) && decide (s % 2 = 1))
def begL (size : Nat) : List Nat := (List.range size).filter (begB size)
theorem beg_ok : ∀ size : Nat, size < 9 → ∀ m : Nat, m < 10 → statesOk (size : Int) (nInts ((begL size).take m)) = true := by decide +kernel
theorem beg_pos : ∀ size : Nat, size < 9 → 1 ≤ size → 1 ≤ (begL size).length ∧ (begL size).length ≤ 8 := by decide +kernel
theorem beg_comp {size : Nat} (env : MEnv) (h5 : 5 < env.length) (h2 : env[2]? = some (some (.int size))) (hz8 : size ≤ 8) (st : Sto) :
    compM (.nm 5) (mOrT (mB (m2 gEq (mVar 5) (mC (.int 0)))) (mAndT (mB (m2 gGt (mVar 2) (mC (.int 1)))) (mB (m2 gEq (m2 gMod (mVar 5) (mC (.int 2))) (mC (.int 1)))))) (mVar 5) (rngL 0 size) env [] st = .ok ((nInts (begL size)).map MV.int) st := by
  have er : rngL 0 size = (List.range size).map fun (i : Nat) => MV.int i := by unfold rngL; exact List.map_congr_left fun i _ => by rw [Int.zero_add]
  have c := compM_filter (t := .nm 5) (tst := mOrT (mB (m2 gEq (mVar 5) (mC (.int 0)))) (mAndT (mB (m2 gGt (mVar 2) (mC (.int 1)))) (mB (m2 gEq (m2 gMod (mVar 5) (mC (.int 2))) (mC (.int 1)))))) (elt := mVar 5) (g := fun (i : Nat) => MV.int i) (f := begB size) (env := env) (st := st) (xs := List.range size) (acc := []) (fun s hs => by
    have hs := List.mem_range.mp hs
    refine ⟨env.set 5 (some (.int s)), rfl, ?_, by simp [h5]⟩
    have q0 := gEq_int s 0 st
    have q1 := gGtI size 1 st
    have q2 := gMod_eq (i := s) (j := 2) (by decide) st
    have q3 := gEq_int ((s : Int) % 2) 1 st
    have h25 : (env.set 5 (some (.int s)))[2]? = some (some (.int size)) := by rw [List.getElem?_set_ne (by decide)]; exact h2
    have d0 : decide ((s : Int) = 0) = decide (s = 0) := decide_eq_decide.mpr (by omega)
    have d1 : decide ((1 : Int) < size) = decide (1 < size) := decide_eq_decide.mpr (by omega)
    have d3 : decide ((s : Int) % 2 = 1) = decide (s % 2 = 1) := decide_eq_decide.mpr (by omega)
    rw [d0] at q0
    rw [d1] at q1
    rw [d3] at q3
    unfold begB
    generalize decide (s = 0) = b0 at *
    generalize decide (1 < size) = b1 at *
    generalize decide (s % 2 = 1) = b3 at *
    cases b0 <;> cases b1 <;> simp [h5, h25, q0, q1, q2, q3]) (by simp; omega)
  rw [er, c, List.nil_append]
  unfold begL nInts
  rw [List.map_map]
  rfl
end K83

namespace K83
open PySem L2 TL MR
open PySem.W (dataLe dataLt keyToks keyToksAll sort_pairwise sortLe_total)
/-! ### the finals -/
def EO (E : List Int) : MO := .dict (E.map .int) (E.map fun _ => .bl true)
theorem toN_int {i j : Int} : toN (.int i) = toN (.int j) ↔ i = j := by simp [toN]
theorem set_EO {n : Nat} {s0 : Sto} (hn : s0.length = n) (d e : Int) : ∃ E : List Int, (E = [d] ∨ E = [d, e]) ∧ E.Nodup ∧ setAtG (.obj n) (.int e) (.bl true) (s0 ++ [EO [d]]) = some (s0 ++ [EO E]) := by
  subst hn
  have e1 : (s0 ++ [EO [d]])[s0.length]? = some (EO [d]) := at_last s0 _
  have key : ∀ E : List Int, dPut [.int d] [.bl true] (.int e) (.bl true) = EO E → setAtG (.obj s0.length) (.int e) (.bl true) (s0 ++ [EO [d]]) = some (s0 ++ [EO E]) := fun E hE => by
    unfold setAtG
    simp only [e1]
    show (if ([MV.int d] : List MV).length < 16777216 then (if isTupM (.int e) = true then _ else if (keyOf (.int e)).isSome = true ∧ [MV.int d].all (fun q => (keyOf q).isSome) = true then some ((s0 ++ [EO [d]]).set s0.length (dPut [.int d] [.bl true] (.int e) (.bl true))) else none) else none) = _
    rw [if_pos (show ([MV.int d] : List MV).length < 16777216 from Nat.lt_of_lt_of_le (by decide : 1 < 2) (by decide)), if_neg (show ¬ (isTupM (.int e) = true) from fun z => by cases z), if_pos ⟨rfl, rfl⟩, set_last, hE]
  by_cases h : e = d
  · subst h
    refine ⟨[e], .inl rfl, by simp, key _ ?_⟩
    unfold dPut hasK
    simp [putX, EO]
  · refine ⟨[d, e], .inr rfl, by simp; exact fun z => h z.symm, key _ ?_⟩
    unfold dPut hasK
    simp [toN, EO, Ne.symm h]
theorem sorted_data {α : Type} (g : α → MV) (d : α → PyData) (hd : ∀ a, toD (g a) = some (d a)) : ∀ l : List α, toDs (l.map g) = some (l.map d)
  | [] => rfl
  | a :: l => by
    show (toD (g a)).bind (fun x => (toDs (l.map g)).map (x :: ·)) = _
    rw [hd, sorted_data g d hd l]
    rfl
theorem gSorted_dict {α : Type} (g : α → MV) (d : α → PyData) (hd : ∀ a, toD (g a) = some (d a)) {n : Nat} {st : Sto} {l : List α} {xs : List MV} (h : st[n]? = some (.dict (l.map g) xs)) (hs : sortOk (l.map d) = true) : gSortedG [.obj n] st = .ok (.lst ((l.mergeSort (dataLe false d)).map g)) st := by
  have e1 : MR.listOf (.obj n) st = none := by simp only [MR.listOf, h]
  have e2 : keysM (.obj n) st = some (l.map g) := by simp only [keysM, h]
  unfold gSortedG
  simp only [e1, e2, sorted_data g d hd l, hs, if_true, sortD_map]
theorem sortOk_gS (l : List NS) (hl : l.length ≤ 16777216) : sortOk (l.map fun s => s.up.pd) = true := by
  unfold sortOk
  rw [Bool.and_eq_true, Bool.and_eq_true, Bool.and_eq_true]
  refine ⟨⟨⟨?_, ?_⟩, ?_⟩, by rw [List.length_map]; exact decide_eq_true hl⟩
  · refine List.all_eq_true.mpr fun x hx => List.all_eq_true.mpr fun y hy => ?_
    obtain ⟨s, _, rfl⟩ := List.mem_map.mp hx
    obtain ⟨t, _, rfl⟩ := List.mem_map.mp hy
    simp [Stp.pd, PySem.W.alike, PySem.W.alikeAll]
  · rw [Bool.or_eq_true]
    refine .inl (List.all_eq_true.mpr fun x hx => ?_)
    obtain ⟨s, _, rfl⟩ := List.mem_map.mp hx
    rfl
  · refine List.all_eq_true.mpr fun x hx => ?_
    obtain ⟨s, _, rfl⟩ := List.mem_map.mp hx
    apply decide_eq_true
    simp [Stp.pd, PyData.depth, PyData.depthAll]
theorem sortOk_int (E : List Int) (hl : E.length ≤ 16777216) : sortOk (E.map PyData.int) = true := by
  unfold sortOk
  rw [Bool.and_eq_true, Bool.and_eq_true, Bool.and_eq_true]
  refine ⟨⟨⟨?_, ?_⟩, ?_⟩, by rw [List.length_map]; exact decide_eq_true hl⟩
  · refine List.all_eq_true.mpr fun x hx => List.all_eq_true.mpr fun y hy => ?_
    obtain ⟨s, _, rfl⟩ := List.mem_map.mp hx
    obtain ⟨t, _, rfl⟩ := List.mem_map.mp hy
    simp [PySem.W.alike]
  · rw [Bool.or_eq_true]
    refine .inr (List.all_eq_true.mpr fun x hx => ?_)
    obtain ⟨s, _, rfl⟩ := List.mem_map.mp hx
    rfl
  · refine List.all_eq_true.mpr fun x hx => ?_
    obtain ⟨s, _, rfl⟩ := List.mem_map.mp hx
    apply decide_eq_true
    simp [PyData.depth]
theorem states_of {size : Int} {E : List Int} (nd : E.Nodup) (h : ∀ i ∈ E, 0 ≤ i ∧ i < size) : statesOk size (E.mergeSort (dataLe false PyData.int)) = true := by
  unfold statesOk
  rw [Bool.and_eq_true]
  refine ⟨List.all_eq_true.mpr fun i hi => ?_, ?_⟩
  · have := h i (List.mem_mergeSort.mp hi)
    unfold inR
    simp
    omega
  · have := sorted_strict PyData.int (fun a b => toks_int) nd
    refine asc_of (this.imp fun {a b} z => ?_)
    rw [PySem.W.dataLt_int] at z
    exact z
theorem steps_of {al : Str} (hal : isAlph al = true) {size : Nat} {l : List NS} (nd : l.Nodup) (h : ∀ s ∈ l, GoodS al size s) (m : Nat) :
    ((((l.mergeSort (dataLe false fun s : NS => s.up.pd)).take m).map NS.up).all (stepOk al size)) = true ∧ ascG ltS (((l.mergeSort (dataLe false fun s : NS => s.up.pd)).take m).map NS.up) = true := by
  constructor
  · refine List.all_eq_true.mpr fun x hx => ?_
    obtain ⟨s, hs, rfl⟩ := List.mem_map.mp hx
    have g := h s (List.mem_mergeSort.mp (List.mem_of_mem_take hs))
    have h1 := g.a; have h2 := g.e; have h3 := g.ok.c; have h4 := g.ok.d
    have e3 : isLetter al (.str ⟨#[s.b]⟩) = (lowc s.b && decide (s.b ∈ tl al)) := rfl
    unfold stepOk
    show (inR 0 ((size : Int) - 1) s.a && inR 0 ((size : Int) - 1) s.e && isLetter al (.str ⟨#[s.b]⟩) && inR 0 1 s.c && inR 0 3 s.d) = true
    rw [e3, g.ok.b, decide_eq_true g.b]
    unfold inR
    simp
    omega
  · have := sorted_strict (fun s : NS => s.up.pd) (fun a b => toks_stp) nd
    exact asc_of (List.pairwise_map.mpr ((this.sublist (List.take_sublist _ _)).imp fun z => z))
theorem sl_toM (xs : List MV) (m : Nat) (st : Sto) : gSlice (.lst xs) none (some (m : Int)) st = .ok (.lst (xs.take m)) st := by
  show Res.ok (MV.lst (cutM xs none (some (m : Int)))) st = _
  rw [cutM_to]
theorem disp_one {e : ME} {env : MEnv} {st st1 : Sto} {d : Int} (h : e env st = .ok (.int d) st1) : mDispN (pCons e (mC (.bl true)) pNil) env st = .ok (.obj st1.length) (st1 ++ [EO [d]]) := by
  have e1 : pCons e (mC (.bl true)) pNil env st = .ok [(.int d, .bl true)] st1 := by
    unfold pCons
    rw [h]
    rfl
  unfold mDispN
  rw [e1]
  show (if (keysOf [MV.int d]).isSome = true ∧ 1 ≤ 15 then Res.ok (MV.obj st1.length) (st1 ++ [.dict (dMake [(.int d, .bl true)]).1 (dMake [(.int d, .bl true)]).2]) else .bad) = _
  rw [if_pos ⟨rfl, by decide⟩]
  rfl
abbrev RET : ME := (mTup (aCons (mVar 1) (aCons (mVar 2) (aCons (mCall gTuple (aCons (mVar 10) aNil)) (aCons (mCall gTuple (aCons (mCall gSortedG (aCons (mVar 11) aNil)) aNil)) (aCons (mCall gTuple (aCons (mSl gSlice (mCall gSortedG (aCons (mVar 4) aNil)) oNone (oSome (mC (.int 60)))) aNil)) aNil))))))
theorem ret_eq {al : Str} (hal : isAlph al = true) {size m n : Nat} (hz : 1 ≤ size) (hz8 : size ≤ 8) (hm : m < 10) {s : Sto} (hn : s.length = n) {l : List NS} (hok : ∀ t ∈ l, GoodS al size t) (hnd : l.Nodup) (hl : l.length ≤ 64) {E : List Int} (hE : E.Nodup) (hE2 : ∀ i ∈ E, 0 ≤ i ∧ i < size) (hE3 : E.length ≤ 2)
    (e0 e3 e5 e6 e7 e8 e9 : Option MV) : ∃ q : NM, q.Ok ∧ RET [e0, some (.str al), some (.int size), e3, some (.obj n), e5, e6, e7, e8, e9, some (.lst (((nInts (begL size)).map MV.int).take m)), some (.obj (n + 1))] (s ++ [DO l, EO E]) = .ok q.up.mv (s ++ [DO l, EO E]) := by
  have a1 : (s ++ [DO l, EO E])[n]? = some (.dict (l.map gS) (l.map fun _ => .bl true)) := by subst hn; simp [DO]
  have a2 : (s ++ [DO l, EO E])[n + 1]? = some (.dict (E.map .int) (E.map fun _ => .bl true)) := by subst hn; simp [EO]
  have g1 := gSorted_dict gS (fun s : NS => s.up.pd) (fun s => rfl) a1 (sortOk_gS l (by omega))
  have g2 := gSorted_dict MV.int PyData.int (fun i => rfl) a2 (sortOk_int E (by omega))
  have sl := sl_toM ((l.mergeSort (dataLe false fun s : NS => s.up.pd)).map gS) 60 (s ++ [DO l, EO E])
  have gt : ∀ (L : List MV) (st : Sto), gTuple [.lst L] st = .ok (.tup L) st := fun _ _ => rfl
  let p : Mach := ⟨al, size, nInts ((begL size).take m), E.mergeSort (dataLe false PyData.int), ((l.mergeSort (dataLe false fun s : NS => s.up.pd)).take 60).map NS.up⟩
  have hp : isM p = true := by
    obtain ⟨k1, k2⟩ := steps_of hal hnd hok 60
    unfold isM
    show (isAlph al && inR 1 8 size && statesOk size (nInts ((begL size).take m)) && statesOk size (E.mergeSort (dataLe false PyData.int)) && decide ((((l.mergeSort (dataLe false fun s : NS => s.up.pd)).take 60).map NS.up).length ≤ 60) && (((l.mergeSort (dataLe false fun s : NS => s.up.pd)).take 60).map NS.up).all (stepOk al size) && ascG ltS (((l.mergeSort (dataLe false fun s : NS => s.up.pd)).take 60).map NS.up)) = true
    rw [hal, beg_ok size (by omega) m hm, states_of hE hE2, k1, k2, decide_eq_true (show (((l.mergeSort (dataLe false fun s : NS => s.up.pd)).take 60).map NS.up).length ≤ 60 by rw [List.length_map, List.length_take]; omega)]
    unfold inR
    simp
    omega
  obtain ⟨q, eq, hq⟩ := isM_nat hp
  refine ⟨q, hq, ?_⟩
  rw [← eq]
  have em : p.mv = .tup [.str al, .int size, .tup (((nInts (begL size)).map MV.int).take m), .tup ((E.mergeSort (dataLe false PyData.int)).map MV.int), .tup (((l.mergeSort (dataLe false fun s : NS => s.up.pd)).map gS).take 60)] := by
    show MV.tup [.str al, .int size, .tup ((nInts ((begL size).take m)).map MV.int), .tup ((E.mergeSort (dataLe false PyData.int)).map MV.int), .tup ((((l.mergeSort (dataLe false fun s : NS => s.up.pd)).take 60).map NS.up).map Stp.mv)] = _
    have z1 : (nInts ((begL size).take m)).map MV.int = ((nInts (begL size)).map MV.int).take m := by unfold nInts; rw [List.map_map, List.map_map, List.map_take]
    have z2 : (((l.mergeSort (dataLe false fun s : NS => s.up.pd)).take 60).map NS.up).map Stp.mv = ((l.mergeSort (dataLe false fun s : NS => s.up.pd)).map gS).take 60 := by rw [List.map_map, List.map_take]; rfl
    rw [z1, z2]
  rw [em]
  have sl' : gSlice (.lst ((l.mergeSort (dataLe false fun s : NS => s.up.pd)).map gS)) none (some 60) (s ++ [DO l, EO E]) = .ok (.lst (((l.mergeSort (dataLe false fun s : NS => s.up.pd)).map gS).take 60)) (s ++ [DO l, EO E]) := sl
  generalize ((l.mergeSort (dataLe false fun s : NS => s.up.pd)).map gS).take 60 = S60 at *
  generalize (l.mergeSort (dataLe false fun s : NS => s.up.pd)).map gS = SL at *
  generalize (E.mergeSort (dataLe false PyData.int)).map MV.int = EL at *
  generalize ((nInts (begL size)).map MV.int).take m = BL at *
  simp [gt, g1, g2, sl']
theorem seq_nx {s1 s2 : MS} {env env' : MEnv} {st st' : Sto} {r : Flw} (h1 : s1 env st = .nx env' st') (h2 : s2 env' st' = r) : sSeq s1 s2 env st = r := by rw [s_seq, h1]; exact h2
theorem defM_rt {n : Nat} {b : MS} {args : List MV} {env : MEnv} {st st' : Sto} {m : MV} (he : args.map some ++ List.replicate (n - args.length) none = env) (h : b env st = .rt m st') : defM n b args st = .ok m st' := by
  subst he
  show (match b (args.map some ++ List.replicate (n - args.length) none) st with
    | .nx _ st' => Res.ok MV.non st'
    | .rt m st' => .ok m st'
    | .exc c _ st' => .exc c st'
    | _ => .bad) = _
  rw [h]
theorem retX {a : ME} {m : MV} {env : MEnv} {st st' : Sto} (h : a env st = .ok m st') : sRet a env st = .rt m st' := by rw [s_ret, h, bindE_ok]
theorem law_machine_eq {k : Nat} {st : Sto} (hs : Strm k st) {al : Str} (hal : isAlph al = true) {size way : Nat} (hz : 1 ≤ size) (hz8 : size ≤ 8) (hw : way < 3) :
    ∃ (q : NM) (st' : Sto), q.Ok ∧ Strm k st' ∧ f__law_machine [.obj k, .str al, .int size, .int way] st = .ok q.up.mv st' := by
  have hk : k < st.length := by obtain ⟨a, b, c, e⟩ := hs; exact (List.getElem?_eq_some_iff.mp e).1
  obtain ⟨f5, f6, f7, f8, st2, hD, lp⟩ := loopAll (k := k) (n := st.length) (al := al) hz hz8 hw hal (st := st ++ [DO []]) ⟨st, [], rfl, hs, rfl, fun t h => (by cases h), List.nodup_nil, Nat.le_refl _⟩
  obtain ⟨s1, l, rfl, hs1, hl1, hok, hnd, hlen⟩ := hD.ex
  have bc := fun env h5 h2 => beg_comp (size := size) env h5 h2 hz8 (s1 ++ [DO l])
  have bp := beg_pos size (by omega) hz
  have hbl : ((nInts (begL size)).map MV.int).length = (begL size).length := by unfold nInts; rw [List.length_map, List.length_map]
  obtain ⟨r, s2, d1, hr, l2, hs2⟩ := draw_eq hs1 (d := (begL size).length) bp.1 (by omega) [DO l]
  obtain ⟨fin, s3, d2, hf, l3, hs3⟩ := draw_eq hs2 (d := size) (by omega) (by omega) [DO l]
  obtain ⟨two, s4, d3, ht, l4, hs4⟩ := draw_eq hs3 (d := 2) (by decide) (by decide) [DO l, EO [(fin : Int)]]
  have d3 : f__law_draw [.obj k, .int 2] (s3 ++ [DO l, EO [(fin : Int)]]) = .ok (.int two) (s4 ++ [DO l, EO [(fin : Int)]]) := d3
  have e3 : s3 ++ [DO l] ++ [EO [(fin : Int)]] = s3 ++ [DO l, EO [(fin : Int)]] := by simp
  have hls3 : (s3 ++ [DO l]).length = st.length + 1 := by simp; omega
  have ed := fun env he => disp_one (e := mFn 2 f__law_draw (aCons (mVar 0) (aCons (mVar 2) aNil))) (env := env) (st := s2 ++ [DO l]) (st1 := s3 ++ [DO l]) (d := fin) he
  rw [e3, hls3] at ed
  have gl : ∀ st, gLen [.lst ((nInts (begL size)).map MV.int)] st = .ok (.int (begL size).length) st := fun st => by rw [gLenL, hbl]
  have sl : ∀ st, gSlice (.lst ((nInts (begL size)).map MV.int)) none (some (1 + (r : Int))) st = .ok (.lst (((nInts (begL size)).map MV.int).take (1 + r))) st := fun st => by
    have := sl_toM ((nInts (begL size)).map MV.int) (1 + r) st
    rw [show ((1 + r : Nat) : Int) = 1 + (r : Int) by omega] at this
    exact this
  have q2 := gEq_int two 0 (s4 ++ [DO l, EO [(fin : Int)]])
  have hx9 : (size : Int) ≤ 1000000000 := by omega
  have hx8 : (-1000000000 : Int) ≤ size := by omega
  by_cases h2 : (two : Int) = 0
  · rw [decide_eq_true h2] at q2
    obtain ⟨oth, s5, d4, ho, l5, hs5⟩ := draw_eq hs4 (d := size) (by omega) (by omega) [DO l, EO [(fin : Int)]]
    obtain ⟨E, hE, hE2, st5⟩ := set_EO (s0 := s5 ++ [DO l]) (n := st.length + 1) (by simp; omega) fin oth
    rw [show s5 ++ [DO l] ++ [EO [(fin : Int)]] = s5 ++ [DO l, EO [(fin : Int)]] by simp, show s5 ++ [DO l] ++ [EO E] = s5 ++ [DO l, EO E] by simp] at st5
    obtain ⟨q, hq, er⟩ := ret_eq hal (m := 1 + r) (n := st.length) hz hz8 (by omega) (s := s5) (by omega) hok hnd hlen hE2 (fun i hi => by
      rcases hE with z | z
      · rw [z] at hi; simp at hi; omega
      · rw [z] at hi; simp at hi; omega) (by rcases hE with z | z <;> simp [z]) (some (.obj k)) (some (.int way)) f5 f6 f7 f8 (some (.lst ((nInts (begL size)).map MV.int)))
    refine ⟨q, s5 ++ [DO l, EO E], hq, hs5.app _, ?_⟩
    refine defM_rt (env := [some (.obj k), some (.str al), some (.int size), some (.int way), none, none, none, none, none, none, none, none]) rfl ?_
    unfold b__law_machine
    refine seq_nx (st' := st ++ [DO []]) (env' := [some (.obj k), some (.str al), some (.int size), some (.int way), some (.obj st.length), none, none, none, none, none, none, none]) rfl ?_
    refine seq_nx lp ?_
    refine seq_nx (st' := s1 ++ [DO l]) (env' := [some (.obj k), some (.str al), some (.int size), some (.int way), some (.obj st.length), f5, f6, f7, f8, some (.lst ((nInts (begL size)).map MV.int)), none, none]) (by simp [hx9, hx8, bc]) ?_
    refine seq_nx (st' := s2 ++ [DO l]) (env' := [some (.obj k), some (.str al), some (.int size), some (.int way), some (.obj st.length), f5, f6, f7, f8, some (.lst ((nInts (begL size)).map MV.int)), some (.lst (((nInts (begL size)).map MV.int).take (1 + r))), none]) (by
      generalize (nInts (begL size)).map MV.int = BL at *
      simp [gl, d1, gAddI, sl]) ?_
    refine seq_nx (st' := s3 ++ [DO l, EO [(fin : Int)]]) (env' := [some (.obj k), some (.str al), some (.int size), some (.int way), some (.obj st.length), f5, f6, f7, f8, some (.lst ((nInts (begL size)).map MV.int)), some (.lst (((nInts (begL size)).map MV.int).take (1 + r))), some (.obj (st.length + 1))]) (by
      rw [s_set, ed _ (by simp [d2])]
      rfl) ?_
    refine seq_nx (st' := s5 ++ [DO l, EO E]) (env' := [some (.obj k), some (.str al), some (.int size), some (.int way), some (.obj st.length), f5, f6, f7, f8, some (.lst ((nInts (begL size)).map MV.int)), some (.lst (((nInts (begL size)).map MV.int).take (1 + r))), some (.obj (st.length + 1))]) (by
      simp [d3, q2, d4, st5]) ?_
    exact retX er
  · rw [decide_eq_false h2] at q2
    obtain ⟨q, hq, er⟩ := ret_eq hal (m := 1 + r) (n := st.length) hz hz8 (by omega) (s := s4) (by omega) hok hnd hlen (E := [(fin : Int)]) (by simp) (fun i hi => by simp at hi; omega) (by simp) (some (.obj k)) (some (.int way)) f5 f6 f7 f8 (some (.lst ((nInts (begL size)).map MV.int)))
    refine ⟨q, s4 ++ [DO l, EO [(fin : Int)]], hq, hs4.app _, ?_⟩
    refine defM_rt (env := [some (.obj k), some (.str al), some (.int size), some (.int way), none, none, none, none, none, none, none, none]) rfl ?_
    unfold b__law_machine
    refine seq_nx (st' := st ++ [DO []]) (env' := [some (.obj k), some (.str al), some (.int size), some (.int way), some (.obj st.length), none, none, none, none, none, none, none]) rfl ?_
    refine seq_nx lp ?_
    refine seq_nx (st' := s1 ++ [DO l]) (env' := [some (.obj k), some (.str al), some (.int size), some (.int way), some (.obj st.length), f5, f6, f7, f8, some (.lst ((nInts (begL size)).map MV.int)), none, none]) (by simp [hx9, hx8, bc]) ?_
    refine seq_nx (st' := s2 ++ [DO l]) (env' := [some (.obj k), some (.str al), some (.int size), some (.int way), some (.obj st.length), f5, f6, f7, f8, some (.lst ((nInts (begL size)).map MV.int)), some (.lst (((nInts (begL size)).map MV.int).take (1 + r))), none]) (by
      generalize (nInts (begL size)).map MV.int = BL at *
      simp [gl, d1, gAddI, sl]) ?_
    refine seq_nx (st' := s3 ++ [DO l, EO [(fin : Int)]]) (env' := [some (.obj k), some (.str al), some (.int size), some (.int way), some (.obj st.length), f5, f6, f7, f8, some (.lst ((nInts (begL size)).map MV.int)), some (.lst (((nInts (begL size)).map MV.int).take (1 + r))), some (.obj (st.length + 1))]) (by
      rw [s_set, ed _ (by simp [d2])]
      rfl) ?_
    refine seq_nx (st' := s4 ++ [DO l, EO [(fin : Int)]]) (env' := [some (.obj k), some (.str al), some (.int size), some (.int way), some (.obj st.length), f5, f6, f7, f8, some (.lst ((nInts (begL size)).map MV.int)), some (.lst (((nInts (begL size)).map MV.int).take (1 + r))), some (.obj (st.length + 1))]) (by
      simp [d3, q2]) ?_
    exact retX er
end K83

namespace K83
open PySem L2 TL MR
theorem repr_out (t : Str) : ∃ y, Asc 130000 y ∧ ∀ st, gRepr [outM (specP t)] st = .ok (.str y) st := by
  cases e : specP t with
  | none => obtain ⟨y, hy, h⟩ := repr_non; exact ⟨y, hy.mono (by decide), h⟩
  | some p =>
    obtain ⟨q, rfl, hq, _⟩ := specP_some e
    exact repr_mach hq
abbrev bodyV : MS := (sSeq (sSet 8 (mFn 2 f__law_spoilt (aCons (mVar 2) (aCons (mVar 5) aNil))))
  (sIf (mB (m2 gNe (mCall gRepr (aCons (mFn 1 f__law_read_back (aCons (mVar 8) aNil)) aNil)) (mCall gRepr (aCons (mFn 1 f__law_parsed (aCons (mVar 8) aNil)) aNil)))) (sRet (mC (.bl false))) sNext))
theorem stepV {t : Str} (ht : Sp t) {k : Nat} {st : Sto} (hs : Strm k st) (e0 e1 e3 e4 e6 e7 e8 e9 e10 e11 e12 e13 e14 : Option MV) : ∃ f8 st', Strm k st' ∧
    bodyV [e0, e1, some (.obj k), e3, e4, some (.str t), e6, e7, e8, e9, e10, e11, e12, e13, e14] st = .nx [e0, e1, some (.obj k), e3, e4, some (.str t), e6, e7, f8, e9, e10, e11, e12, e13, e14] st' := by
  obtain ⟨y, s1, hy, hs1, e⟩ := spoilt_eq hs ht
  have rb := read_back_eq hy s1
  obtain ⟨x, pr⟩ := law_parsed_eq hy s1
  rw [← spec_law y] at pr
  obtain ⟨z, hz, rz⟩ := repr_out y
  refine ⟨some (.str y), s1 ++ x, hs1.app _, ?_⟩
  simp [e, rb, rz, pr, gNe_same hz]
theorem loopV {t : Str} (ht : Sp t) {k : Nat} (e0 e1 e3 e4 e6 e9 e10 e11 e12 e13 e14 : Option MV) : ∀ (ys : List MV) (st : Sto) (e7 e8 : Option MV), Strm k st → ∃ f7 f8 st', Strm k st' ∧
    forM (gN 7) bodyV ys [e0, e1, some (.obj k), e3, e4, some (.str t), e6, e7, e8, e9, e10, e11, e12, e13, e14] st = .nx [e0, e1, some (.obj k), e3, e4, some (.str t), e6, f7, f8, e9, e10, e11, e12, e13, e14] st'
  | [], st, e7, e8, hs => ⟨e7, e8, st, hs, rfl⟩
  | y :: ys, st, e7, e8, hs => by
    obtain ⟨f8, s1, hs1, h1⟩ := stepV ht hs e0 e1 e3 e4 e6 (some y) e8 e9 e10 e11 e12 e13 e14
    obtain ⟨g7, g8, s2, hs2, h2⟩ := loopV ht e0 e1 e3 e4 e6 e9 e10 e11 e12 e13 e14 ys s1 (some y) f8 hs1
    exact ⟨g7, g8, s2, hs2, by rw [forM_step (env1 := [e0, e1, some (.obj k), e3, e4, some (.str t), e6, some y, e8, e9, e10, e11, e12, e13, e14]) rfl h1, h2]⟩
theorem alph_at {d : Nat} (h : d < 4) : ∃ al, isAlph al = true ∧ ∀ st, gIx (.lst [.str "a", .str "ab", .str "abc", .str "bxyz"]) (.int d) st = .ok (.str al) st := by
  match d, h with
  | 0, _ => exact ⟨Str.ofString "a", by decide +kernel, fun _ => rfl⟩
  | 1, _ => exact ⟨Str.ofString "ab", by decide +kernel, fun _ => rfl⟩
  | 2, _ => exact ⟨Str.ofString "abc", by decide +kernel, fun _ => rfl⟩
  | 3, _ => exact ⟨Str.ofString "bxyz", by decide +kernel, fun _ => rfl⟩
abbrev bodyL : MS := (sSeq (sSet 2 (mFn 2 f__law_stream (aCons (mVar 0) (aCons (mVar 1) aNil))))
  (sSeq (sSet 3 (m2 gIx (mLst (aCons (mC (.str "a")) (aCons (mC (.str "ab")) (aCons (mC (.str "abc")) (aCons (mC (.str "bxyz")) aNil))))) (mFn 2 f__law_draw (aCons (mVar 2) (aCons (mC (.int 4)) aNil)))))
  (sSeq (sSet 4 (mFn 4 f__law_machine (aCons (mVar 2) (aCons (mVar 3) (aCons (m2 MR.gAdd (mC (.int 1)) (mFn 2 f__law_draw (aCons (mVar 2) (aCons (mC (.int 8)) aNil)))) (aCons (mFn 2 f__law_draw (aCons (mVar 2) (aCons (mC (.int 3)) aNil))) aNil))))))
  (sSeq (sPar 5 6 (aCons (mFn 1 f__law_text_of (aCons (mVar 4) aNil)) (aCons (mCall gRepr (aCons (mVar 4) aNil)) aNil)))
  (sSeq (sIf (mOrT (mB (m2 gNe (mCall gRepr (aCons (mFn 1 f_machine_text (aCons (mVar 4) aNil)) aNil)) (mCall gRepr (aCons (mVar 5) aNil)))) (mB (m2 gNe (mCall gRepr (aCons (mVar 4) aNil)) (mVar 6)))) (sRet (mC (.bl false))) sNext)
  (sSeq (sIf (mOrT (mB (m2 gNe (mCall gRepr (aCons (mFn 1 f__law_read_back (aCons (mVar 5) aNil)) aNil)) (mVar 6))) (mB (m2 gNe (mCall gRepr (aCons (mFn 1 f__law_parsed (aCons (mVar 5) aNil)) aNil)) (mVar 6)))) (sRet (mC (.bl false))) sNext)
  (sFor (MR.iRng (aCons (mC (.int 14)) aNil)) (gN 7) bodyV)))))))
theorem stepL {ns : List Int} {t : Nat} (st : Sto) (e2 e3 e4 e5 e6 e7 e8 e9 e10 e11 e12 e13 e14 : Option MV) : ∃ f2 f3 f4 f5 f6 f7 f8 st',
    bodyL [some (.scr ns), some (.int t), e2, e3, e4, e5, e6, e7, e8, e9, e10, e11, e12, e13, e14] st = .nx [some (.scr ns), some (.int t), f2, f3, f4, f5, f6, f7, f8, e9, e10, e11, e12, e13, e14] st' := by
  obtain ⟨a, b, c, h1⟩ := stream_eq (ns := ns) (t := t) st
  have hs0 : Strm st.length (st ++ [.lst [.int a, .int b, .int c]]) := ⟨a, b, c, by simp⟩
  generalize st ++ [.lst [.int a, .int b, .int c]] = s1 at h1 hs0
  generalize st.length = k at h1 hs0
  obtain ⟨d, s2, h2, hd, _, hs2⟩ := draw_eq hs0 (d := 4) (by decide) (by decide) []
  obtain ⟨al, hal, h3⟩ := alph_at hd
  obtain ⟨m, s3, h4, hm, _, hs3⟩ := draw_eq hs2 (d := 8) (by decide) (by decide) []
  obtain ⟨w, s3', h4', hw, _, hs3'⟩ := draw_eq hs3 (d := 3) (by decide) (by decide) []
  simp only [List.append_nil] at h2 h4 h4'
  have h2 : f__law_draw [.obj k, .int 4] s1 = .ok (.int d) s2 := h2
  have h4 : f__law_draw [.obj k, .int 8] s2 = .ok (.int m) s3 := h4
  have h4' : f__law_draw [.obj k, .int 3] s3 = .ok (.int w) s3' := h4'
  obtain ⟨q, s4, hq, hs4, h5⟩ := law_machine_eq hs3' hal (size := 1 + m) (way := w) (by omega) (by omega) hw
  rw [show (((1 + m : Nat)) : Int) = 1 + (m : Int) from by omega] at h5
  obtain ⟨x1, h6⟩ := law_text_eq hq s4
  obtain ⟨y1, r1, q1⟩ := repr_mach hq
  have h7 := machine_text_eq hq (s4 ++ [x1])
  have sp := text_sp hq
  have ht8 : Asc 8000 (textM q) := sp.asc.mono (by decide)
  obtain ⟨y2, r2, q2⟩ := repr_str sp.asc (by decide)
  have rb := read_back_eq ht8 (s4 ++ [x1])
  obtain ⟨x3, pr⟩ := law_parsed_eq ht8 (s4 ++ [x1])
  rw [← spec_law, specP_text hq] at pr
  rw [specP_text hq] at rb
  have eo : outM (some q.up) = q.up.mv := rfl
  rw [eo] at rb pr
  obtain ⟨f7, f8, s5, hs5, lp⟩ := loopV sp (k := k) (some (.scr ns)) (some (.int t)) (some (.str al)) (some q.up.mv) (some (.str y1)) e9 e10 e11 e12 e13 e14 (rngL 0 14) (s4 ++ [x1] ++ x3) e7 e8 ((hs4.app _).app _)
  generalize textM q = tx at *
  generalize q.up.mv = Q at *
  refine ⟨some (.obj k), some (.str al), some Q, some (.str tx), some (.str y1), f7, f8, s5, ?_⟩
  refine seq_nx (env' := [some (.scr ns), some (.int t), some (.obj k), e3, e4, e5, e6, e7, e8, e9, e10, e11, e12, e13, e14]) (st' := s1) (by simp [h1]) ?_
  refine seq_nx (env' := [some (.scr ns), some (.int t), some (.obj k), some (.str al), e4, e5, e6, e7, e8, e9, e10, e11, e12, e13, e14]) (st' := s2) (by simp [h2, h3]) ?_
  refine seq_nx (env' := [some (.scr ns), some (.int t), some (.obj k), some (.str al), some Q, e5, e6, e7, e8, e9, e10, e11, e12, e13, e14]) (st' := s4) (by simp [h4, h4', gAddI, h5]) ?_
  refine seq_nx (env' := [some (.scr ns), some (.int t), some (.obj k), some (.str al), some Q, some (.str tx), some (.str y1), e7, e8, e9, e10, e11, e12, e13, e14]) (st' := s4 ++ [x1]) (by simp [h6, q1]) ?_
  refine seq_nx (env' := [some (.scr ns), some (.int t), some (.obj k), some (.str al), some Q, some (.str tx), some (.str y1), e7, e8, e9, e10, e11, e12, e13, e14]) (st' := s4 ++ [x1]) (by simp [h7, q1, q2, gNe_same r1, gNe_same r2]) ?_
  refine seq_nx (env' := [some (.scr ns), some (.int t), some (.obj k), some (.str al), some Q, some (.str tx), some (.str y1), e7, e8, e9, e10, e11, e12, e13, e14]) (st' := s4 ++ [x1] ++ x3) (by simp only [List.append_assoc] at pr ⊢; simp [rb, q1, pr, gNe_same r1]) ?_
  rw [s_for]
  simpa using lp
theorem loopL {ns : List Int} (e9 e10 e11 e12 e13 e14 : Option MV) : ∀ (ts : List Nat) (st : Sto) (e1 e2 e3 e4 e5 e6 e7 e8 : Option MV), ∃ f1 f2 f3 f4 f5 f6 f7 f8 st',
    MR.forM (gN 1) bodyL (ts.map fun (i : Nat) => MV.int (0 + (i : Int))) [some (.scr ns), e1, e2, e3, e4, e5, e6, e7, e8, e9, e10, e11, e12, e13, e14] st = .nx [some (.scr ns), f1, f2, f3, f4, f5, f6, f7, f8, e9, e10, e11, e12, e13, e14] st'
  | [], st, e1, e2, e3, e4, e5, e6, e7, e8 => ⟨_, _, _, _, _, _, _, _, _, rfl⟩
  | t :: ts, st, e1, e2, e3, e4, e5, e6, e7, e8 => by
    obtain ⟨f2, f3, f4, f5, f6, f7, f8, s1, h1⟩ := stepL (ns := ns) (t := t) st e2 e3 e4 e5 e6 e7 e8 e9 e10 e11 e12 e13 e14
    obtain ⟨g1, g2, g3, g4, g5, g6, g7, g8, s2, h2⟩ := loopL (ns := ns) e9 e10 e11 e12 e13 e14 ts s1 (some (.int t)) f2 f3 f4 f5 f6 f7 f8
    refine ⟨g1, g2, g3, g4, g5, g6, g7, g8, s2, ?_⟩
    rw [List.map_cons, forM_step (env1 := [some (.scr ns), some (.int t), e2, e3, e4, e5, e6, e7, e8, e9, e10, e11, e12, e13, e14]) (by simp) h1, h2]
end K83

namespace K83
open PySem L2 TL MR
open PySem.W (dataLe dataLt)
theorem tl_rep (x : Str) (n : Nat) : ∀ c ∈ tl (repS x n), c ∈ tl x := by
  have key : ∀ (m : Nat) (acc : Array Nat), (∀ c ∈ acc.toList, c ∈ tl x) → ∀ c ∈ ((List.replicate m x.cps).foldl (· ++ ·) acc).toList, c ∈ tl x := by
    intro m
    induction m with
    | zero => intro acc h; exact h
    | succ m ih =>
      intro acc h
      rw [List.replicate_succ, List.foldl_cons]
      apply ih
      intro c hc
      rw [Array.toList_append] at hc
      rcases List.mem_append.mp hc with hc | hc
      · exact h c hc
      · exact hc
  exact key n #[] (by simp)
theorem rep_len (x : Str) (n : Nat) : (repS x n).length = n * x.length := by
  have key : ∀ (m : Nat) (acc : Array Nat), ((List.replicate m x.cps).foldl (· ++ ·) acc).size = acc.size + m * x.cps.size := by
    intro m
    induction m with
    | zero => intro acc; simp
    | succ m ih =>
      intro acc
      rw [List.replicate_succ, List.foldl_cons, ih, Array.size_append, Nat.succ_mul]
      omega
  have := key n #[]
  show ((List.replicate n x.cps).foldl (· ++ ·) #[]).size = n * x.cps.size
  rw [this]
  simp
abbrev nines : Str := repS (Str.ofString "9") 5000
theorem nines_asc : Asc 5000 nines := ⟨by rw [rep_len]; decide +kernel, fun c hc => by
  have := tl_rep _ _ c hc
  rw [lit_tl] at this
  have h : ∀ c ∈ "9".toList.map Char.toNat, c < 128 := by decide
  exact h c this⟩
theorem count_split {x y : Str} {n : Nat} (h : (Txt.split x y).length = n + 1) (hn : 1 ≤ n) : Txt.count x y = n := by
  unfold Txt.split at h
  split at h
  · simp at h; omega
  · split at h
    · simp at h; omega
    · rw [length_partsBetween] at h
      unfold Txt.count
      omega
/-! ### data that is laid out -/
theorem stp_lay {s : NS} (h : s.Ok) : s.up.pd.canLay0 = true := by
  have := (low_asc h.b).ok
  simp [Stp.pd, NS.up, PyData.canLay0, PyData.canLayAll0] at this ⊢
  exact this
theorem steps_lay : ∀ {l : List NS}, (∀ s ∈ l, s.Ok) → PyData.canLayAll0 (l.map fun s => s.up.pd) = true ∧ PyData.depthAll (l.map fun s => s.up.pd) ≤ 1
  | [], _ => ⟨by simp [PyData.canLayAll0], by simp [PyData.depthAll]⟩
  | s :: l, h => by
    obtain ⟨h1, h2⟩ := steps_lay fun z hz => h z (List.mem_cons_of_mem _ hz)
    have h3 := stp_lay (h s List.mem_cons_self)
    refine ⟨?_, ?_⟩
    · rw [List.map_cons, PyData.canLayAll0, h3, h1]; rfl
    · rw [List.map_cons, PyData.depthAll]
      have : s.up.pd.depth ≤ 1 := by simp [Stp.pd, PyData.depth, PyData.depthAll]
      omega
theorem nums_lay (l : List Nat) : ∃ ds, toDs ((nInts l).map MV.int) = some ds ∧ PyData.canLayAll0 ds = true ∧ PyData.depthAll ds = 0 := by
  obtain ⟨ds, e1, e2, e3, _⟩ := toDs_items (N := 0) (row := (nInts l).map MV.int) (fun m hm => by obtain ⟨i, _, rfl⟩ := List.mem_map.mp hm; exact .int i)
  exact ⟨ds, e1, e2, e3⟩
theorem mach_data {q : NM} (h : q.Ok) : ∃ d, toD q.up.mv = some d ∧ d.canLay0 = true ∧ d.depth ≤ 3 := by
  obtain ⟨d1, a1, b1, c1⟩ := nums_lay q.starts
  obtain ⟨d2, a2, b2, c2⟩ := nums_lay q.finals
  have a3 : toDs ((q.steps.map NS.up).map Stp.mv) = some (q.steps.map fun s => s.up.pd) := by
    rw [List.map_map]
    exact sorted_data gS (fun s : NS => s.up.pd) (fun s => rfl) q.steps
  obtain ⟨b3, c3⟩ := steps_lay h.ok
  have ha := (alph_asc h.al).ok
  refine ⟨.tuple [.str q.al, .int q.size, .tuple d1, .tuple d2, .tuple (q.steps.map fun s => s.up.pd)], ?_, ?_, ?_⟩
  · show toD (.tup [.str q.al, .int q.size, .tup ((nInts q.starts).map MV.int), .tup ((nInts q.finals).map MV.int), .tup ((q.steps.map NS.up).map Stp.mv)]) = _
    generalize (nInts q.starts).map MV.int = A at *
    generalize (nInts q.finals).map MV.int = B at *
    generalize (q.steps.map NS.up).map Stp.mv = C at *
    generalize (q.steps.map fun s => s.up.pd) = D at *
    simp [toD, toDs, a1, a2, a3]
  · generalize (q.steps.map fun s => s.up.pd) = D at *
    simp [PyData.canLay0, PyData.canLayAll0, b1, b2, b3] at ha ⊢
    exact ha
  · generalize (q.steps.map fun s => s.up.pd) = D at *
    simp only [PyData.depth, PyData.depthAll, c1, c2]
    omega
theorem gNe_mach {q : NM} (h : q.Ok) (st : Sto) : gNe q.up.mv q.up.mv st = .ok (.bl false) st := by
  obtain ⟨d, e, h1, h2⟩ := mach_data h
  have sh : SeqAt.shaped d = true := by
    unfold SeqAt.shaped
    rw [h1]
    simp
    omega
  have er := SeqAt.eqv_refl _ (SeqAt.canLay_of_shaped sh)
  have et : topD q.up.mv st = some d := e
  simp [gNe, et, sh, er]
/-! ### the wide machine -/
def wS (i : Nat) : NS := ⟨i % 8, 97 + i / 8 % 4, i / 32, i % 4, (i + 3) % 8⟩
def W : List NS := (List.range 60).map wS
def goodB (s : NS) : Bool := decide (s.a < 8) && decide (s.e < 8) && lowc s.b && decide (s.b ∈ [97, 98, 99, 100]) && decide (s.c ≤ 1) && decide (s.d ≤ 3)
theorem W_good : W.all goodB = true := by decide +kernel
theorem W_nd : W.Nodup := by decide +kernel
abbrev abcd : Str := Str.ofString "abcd"
theorem abcd_a : isAlph abcd = true := by decide +kernel
theorem W_goodS : ∀ s ∈ W, GoodS abcd 8 s := fun s hs => by
  have := List.all_eq_true.mp W_good s hs
  unfold goodB at this
  simp only [Bool.and_eq_true] at this
  obtain ⟨⟨⟨⟨⟨h1, h2⟩, h3⟩, h4⟩, h5⟩, h6⟩ := this
  have h1 := of_decide_eq_true h1; have h2 := of_decide_eq_true h2; have h5 := of_decide_eq_true h5; have h6 := of_decide_eq_true h6; have h4 := of_decide_eq_true h4
  exact ⟨⟨h1, h3, h5, h6, h2⟩, h1, by rw [lit_tl]; exact h4, h2⟩
def wideM : Mach := ⟨abcd, 8, [], nInts (List.range 8), (W.mergeSort (dataLe false fun s : NS => s.up.pd)).map NS.up⟩
theorem W_len : (W.mergeSort (dataLe false fun s : NS => s.up.pd)).length = 60 := by rw [List.length_mergeSort]; simp [W]
theorem wide_ok : isM wideM = true := by
  obtain ⟨k1, k2⟩ := steps_of abcd_a W_nd W_goodS 60
  rw [List.take_of_length_le (by rw [W_len]; exact Nat.le_refl _)] at k1 k2
  unfold isM wideM
  show (isAlph abcd && inR 1 8 8 && statesOk 8 [] && statesOk 8 (nInts (List.range 8)) && decide (((W.mergeSort (dataLe false fun s : NS => s.up.pd)).map NS.up).length ≤ 60) && ((W.mergeSort (dataLe false fun s : NS => s.up.pd)).map NS.up).all (stepOk abcd ((8 : Nat) : Int)) && ascG ltS ((W.mergeSort (dataLe false fun s : NS => s.up.pd)).map NS.up)) = true
  rw [abcd_a, k1, k2, show statesOk 8 (nInts (List.range 8)) = true by decide +kernel, decide_eq_true (show ((W.mergeSort (dataLe false fun s : NS => s.up.pd)).map NS.up).length ≤ 60 by rw [List.length_map, W_len]; exact Nat.le_refl _)]
  rfl
theorem wide_q : ∃ q : NM, wideM = q.up ∧ q.Ok ∧ q.steps.length = 60 := by
  obtain ⟨q, e, hq⟩ := isM_nat wide_ok
  refine ⟨q, e, hq, ?_⟩
  have := congrArg (fun p : Mach => p.steps.length) e
  simp [wideM, NM.up] at this
  have w := W_len
  simp at w
  omega
/-! ### the written texts -/
theorem ok_of {q : NM} (h : isM q.up = true) : q.Ok := by
  obtain ⟨q', e, hq⟩ := isM_nat h
  have : q = q' := by rw [← dn_up q, e, dn_up]
  rw [this]; exact hq
abbrev q1 : NM := ⟨Str.ofString "a", 1, [], [], []⟩
abbrev q2 : NM := ⟨Str.ofString "a", 1, [0], [0], [⟨0, 97, 1, 3, 0⟩]⟩
abbrev plain : Str := Str.ofString "machine a 1 starts - finals -"
theorem q1_ok : q1.Ok := ok_of (by decide +kernel)
theorem q2_ok : q2.Ok := ok_of (by decide +kernel)
theorem t1_some : specP plain = some q1.up := by
  have e : plain = textM q1 := by decide +kernel
  rw [e]; exact specP_text q1_ok
theorem t2_some : specP (Str.ofString "machine a 1 starts 0 finals 0\n0 a =3 0") = some q2.up := by
  have e : Str.ofString "machine a 1 starts 0 finals 0\n0 a =3 0" = textM q2 := by decide +kernel
  rw [e]; exact specP_text q2_ok
theorem none_of_dec {t : Str} (h : (specP t).isNone = true) : specP t = none := Option.isNone_iff_eq_none.mp h
theorem none_of_len {t : Str} (h : 900 < t.length) : specP t = none := by
  cases e : specP t with
  | none => rfl
  | some p =>
    obtain ⟨q, _, hq, rfl⟩ := specP_some e
    have := (text_asc2 hq).1
    omega
theorem t3_none : specP (Str.ofString "machine a 1 starts 0,0 finals -") = none := none_of_dec (by decide +kernel)
theorem t4_none : specP (plain ++ Str.ofString "\n") = none := none_of_dec (by decide +kernel)
theorem t5_none : specP (Str.ofString "machine  a 1 starts - finals -") = none := none_of_dec (by decide +kernel)
theorem t6_none : specP (Str.ofString "machine a 01 starts - finals -") = none := none_of_dec (by decide +kernel)
theorem t7_none : specP (Str.ofString "") = none := none_of_dec (by decide +kernel)
theorem t8_none : specP (Str.ofString "M" ++ Str.ofString "achine a 1 starts - finals -") = none := none_of_dec (by decide +kernel)
theorem t9_none : specP (plain ++ Str.ofString " ") = none := none_of_dec (by decide +kernel)
theorem t10_none : specP (Str.ofString "machine a 9 starts - finals -") = none := none_of_dec (by decide +kernel)
theorem t11_none : specP (Str.ofString "machine a 2 starts 1,0 finals -") = none := none_of_dec (by decide +kernel)
theorem t12_none : specP (plain ++ Str.ofString "\n0 a 1 0") = none := none_of_dec (by decide +kernel)
theorem t13_none : specP (Str.ofString "machine a 1 starts , finals -") = none := none_of_dec (by decide +kernel)
theorem nines_len : nines.length = 5000 := by rw [rep_len]; decide +kernel
theorem t14_none : specP (Str.ofString "machine a " ++ nines ++ Str.ofString " starts - finals -") = none := none_of_len (by rw [len_app, len_app, nines_len]; omega)
theorem t15_none : specP (Str.ofString "machine a 1 starts " ++ nines ++ Str.ofString " finals -") = none := none_of_len (by rw [len_app, len_app, nines_len]; omega)
theorem t16_none : specP (plain ++ Str.ofString "\n0 a +" ++ nines ++ Str.ofString " 0") = none := none_of_len (by rw [len_app, len_app, nines_len]; omega)
end K83

namespace K83
open PySem L2 TL MR
open PySem.W (dataLe dataLt)
abbrev B0 : MS := (sFor (MR.iRng (aCons (mCall gMax (aCons (mC (.int 1)) (aCons (mCall gMin (aCons (mC (.int 8)) (aCons (mCall gLen (aCons (mVar 0) aNil)) aNil))) aNil))) aNil)) (gN 1) (sSeq (sSet 2 (mFn 2 f__law_stream (aCons (mVar 0) (aCons (mVar 1) aNil))))
  (sSeq (sSet 3 (m2 gIx (mLst (aCons (mC (.str "a")) (aCons (mC (.str "ab")) (aCons (mC (.str "abc")) (aCons (mC (.str "bxyz")) aNil))))) (mFn 2 f__law_draw (aCons (mVar 2) (aCons (mC (.int 4)) aNil)))))
  (sSeq (sSet 4 (mFn 4 f__law_machine (aCons (mVar 2) (aCons (mVar 3) (aCons (m2 MR.gAdd (mC (.int 1)) (mFn 2 f__law_draw (aCons (mVar 2) (aCons (mC (.int 8)) aNil)))) (aCons (mFn 2 f__law_draw (aCons (mVar 2) (aCons (mC (.int 3)) aNil))) aNil))))))
  (sSeq (sPar 5 6 (aCons (mFn 1 f__law_text_of (aCons (mVar 4) aNil)) (aCons (mCall gRepr (aCons (mVar 4) aNil)) aNil)))
  (sSeq (sIf (mOrT (mB (m2 gNe (mCall gRepr (aCons (mFn 1 f_machine_text (aCons (mVar 4) aNil)) aNil)) (mCall gRepr (aCons (mVar 5) aNil)))) (mB (m2 gNe (mCall gRepr (aCons (mVar 4) aNil)) (mVar 6)))) (sRet (mC (.bl false))) sNext)
  (sSeq (sIf (mOrT (mB (m2 gNe (mCall gRepr (aCons (mFn 1 f__law_read_back (aCons (mVar 5) aNil)) aNil)) (mVar 6))) (mB (m2 gNe (mCall gRepr (aCons (mFn 1 f__law_parsed (aCons (mVar 5) aNil)) aNil)) (mVar 6)))) (sRet (mC (.bl false))) sNext)
  (sFor (MR.iRng (aCons (mC (.int 14)) aNil)) (gN 7) (sSeq (sSet 8 (mFn 2 f__law_spoilt (aCons (mVar 2) (aCons (mVar 5) aNil))))
  (sIf (mB (m2 gNe (mCall gRepr (aCons (mFn 1 f__law_read_back (aCons (mVar 8) aNil)) aNil)) (mCall gRepr (aCons (mFn 1 f__law_parsed (aCons (mVar 8) aNil)) aNil)))) (sRet (mC (.bl false))) sNext))))))))))
abbrev B1 : MS := (sSet 9 (mCall gTuple (aCons (mCall gSortedG (aCons (mLc (MR.iRng (aCons (mC (.int 60)) aNil)) [1] (.nm 1) tYesM (mTup (aCons (m2 gMod (mVar 1) (mC (.int 8))) (aCons (m2 gIx (mC (.str "abcd")) (m2 gMod (m2 gDiv (mVar 1) (mC (.int 8))) (mC (.int 4)))) (aCons (m2 gDiv (mVar 1) (mC (.int 32))) (aCons (m2 gMod (mVar 1) (mC (.int 4))) (aCons (m2 gMod (m2 MR.gAdd (mVar 1) (mC (.int 3))) (mC (.int 8))) aNil))))))) aNil)) aNil)))
abbrev B2 : MS := (sSet 10 (mTup (aCons (mC (.str "abcd")) (aCons (mC (.int 8)) (aCons (mTup aNil) (aCons (mTupRg (mC (.int 8))) (aCons (mVar 9) aNil)))))))
abbrev B3 : MS := (sIf (mOrT (mB (m2 gNe (mFn 1 f__law_read_back (aCons (mFn 1 f_machine_text (aCons (mVar 10) aNil)) aNil)) (mVar 10))) (mB (m2 gNe (mMethT isStr gCount (mFn 1 f_machine_text (aCons (mVar 10) aNil)) (aCons (mC (.str "\n")) aNil)) (mC (.int 60))))) (sRet (mC (.bl false))) sNext)
abbrev B4 : MS := (sSet 11 (mC (.str "machine a 1 starts - finals -")))
abbrev B5 : MS := (sSet 12 (mLst (aCons (mVar 11) (aCons (mC (.str "machine a 1 starts 0 finals 0\n0 a =3 0")) (aCons (mC (.str "machine a 1 starts 0,0 finals -")) (aCons (m2 MR.gAdd (mVar 11) (mC (.str "\n"))) aNil))))))
abbrev B6 : MS := (sSet 12 (m2 MR.gAdd (mVar 12) (mLst (aCons (mC (.str "machine  a 1 starts - finals -")) (aCons (mC (.str "machine a 01 starts - finals -")) (aCons (mC (.str "")) (aCons (m2 MR.gAdd (mC (.str "M")) (mSl gSlice (mVar 11) (oSome (mC (.int 1))) oNone)) aNil)))))))
abbrev B7 : MS := (sSet 12 (m2 MR.gAdd (mVar 12) (mLst (aCons (m2 MR.gAdd (mVar 11) (mC (.str " "))) (aCons (mC (.str "machine a 9 starts - finals -")) (aCons (mC (.str "machine a 2 starts 1,0 finals -")) aNil))))))
abbrev B8 : MS := (sSet 13 (m2 gMulS (mC (.str "9")) (mC (.int 5000))))
abbrev B9 : MS := (sSet 12 (m2 MR.gAdd (mVar 12) (mLst (aCons (m2 MR.gAdd (mVar 11) (mC (.str "\n0 a 1 0"))) (aCons (mC (.str "machine a 1 starts , finals -")) (aCons (m2 MR.gAdd (m2 MR.gAdd (mC (.str "machine a ")) (mVar 13)) (mC (.str " starts - finals -"))) aNil))))))
abbrev B10 : MS := (sSet 12 (m2 MR.gAdd (mVar 12) (mLst (aCons (m2 MR.gAdd (m2 MR.gAdd (mC (.str "machine a 1 starts ")) (mVar 13)) (mC (.str " finals -"))) (aCons (m2 MR.gAdd (m2 MR.gAdd (m2 MR.gAdd (mVar 11) (mC (.str "\n0 a +"))) (mVar 13)) (mC (.str " 0"))) aNil)))))
abbrev B11 : MS := (sSet 14 (m2 MR.gAdd (mLst (aCons (mTup (aCons (mC (.str "a")) (aCons (mC (.int 1)) (aCons (mTup aNil) (aCons (mTup aNil) (aCons (mTup aNil) aNil)))))) (aCons (mTup (aCons (mC (.str "a")) (aCons (mC (.int 1)) (aCons (mTup (aCons (mC (.int 0)) aNil)) (aCons (mTup (aCons (mC (.int 0)) aNil)) (aCons (mTup (aCons (mTup (aCons (mC (.int 0)) (aCons (mC (.str "a")) (aCons (mC (.int 1)) (aCons (mC (.int 3)) (aCons (mC (.int 0)) aNil)))))) aNil)) aNil)))))) aNil))) (m2 gMulS (mLst (aCons (mC .non) aNil)) (mC (.int 14)))))
abbrev B12 : MS := (sRet (m2 gEq (mLc (iAll (mVar 12)) [5] (.nm 5) tYesM (mFn 1 f__law_read_back (aCons (mVar 5) aNil))) (mVar 14)))
theorem gAddLst (a b : List MV) (h : a.length + b.length ≤ 16777216) (s : Sto) : MR.gAdd (.lst a) (.lst b) s = .ok (.lst (a ++ b)) s := by
  show (if a.length + b.length ≤ 16777216 then Res.ok (MV.lst (a ++ b)) s else .bad) = _
  rw [if_pos h]
theorem gAddStr (a b : Str) (h : a.length + b.length ≤ 16777216) (s : Sto) : MR.gAdd (.str a) (.str b) s = .ok (.str (a ++ b)) s := by
  show (if a.length + b.length ≤ 16777216 then Res.ok (MV.str (a ++ b)) s else .bad) = _
  rw [if_pos h]
theorem mul9 (s : Sto) : gMulS (.str (Str.ofString "9")) (.int 5000) s = .ok (.str nines) s := by
  have h : ((2 : Int) ≤ 5000 ∧ (5000 : Int) ≤ 1000000) ∧ 1 ≤ (Str.ofString "9").length ∧ (Str.ofString "9").length * (5000 : Int).toNat ≤ 16777216 := by decide +kernel
  show (if ((2 : Int) ≤ 5000 ∧ (5000 : Int) ≤ 1000000) ∧ 1 ≤ (Str.ofString "9").length ∧ (Str.ofString "9").length * (5000 : Int).toNat ≤ 16777216 then Res.ok (MV.str (repS (Str.ofString "9") (5000 : Int).toNat)) s else .bad) = _
  rw [if_pos h]
  rfl
theorem lstC {r : MA} {xs : List MV} {env : MEnv} {st : Sto} (h : r env st = .ok xs st) (hl : xs.length ≤ 16777216) : mLst r env st = .ok (.lst xs) st := by
  rw [e_lst, h, bind_ok, if_pos hl]
theorem setX {i : Nat} {a : ME} {m : MV} {env : MEnv} {st : Sto} (h : a env st = .ok m st) : sSet i a env st = .nx (env.set i (some m)) st := by
  rw [s_set, h, bindE_ok]
theorem twoX {g : G2} {a b : ME} {x y z : MV} {env : MEnv} {st : Sto} (h : a env st = .ok x st) (h2 : b env st = .ok y st) (h3 : g x y st = .ok z st) : m2 g a b env st = .ok z st := by
  rw [e_2, h, bind_ok, h2, bind_ok, h3, noExc_ok]
theorem consX {a : ME} {r : MA} {x : MV} {xs : List MV} {env : MEnv} {st : Sto} (h : a env st = .ok x st) (h2 : r env st = .ok xs st) : aCons a r env st = .ok (x :: xs) st := by
  rw [e_cons, h, bind_ok, h2, bind_ok]
theorem tupC {r : MA} {xs : List MV} {env : MEnv} {st : Sto} (h : r env st = .ok xs st) (hl : xs.length ≤ 16777216) : mTup r env st = .ok (.tup xs) st := by
  rw [e_tup, h, bind_ok, if_pos hl]
theorem lcX {a : ME} {own : List Nat} {t : Tgt} {elt : ME} {xs ys : List MV} {env : MEnv} {st : Sto} (h : a env st = .ok (.lst xs) st) (h2 : compM t tYesM elt xs (wipeM env own) [] st = .ok ys st) : mLc (iAll a) own t tYesM elt env st = .ok (.lst ys) st := by
  have e : iAll a env st = .ok xs st := by rw [i_all, h, bind_ok]; rfl
  rw [e_lc, e, bind_ok, h2, bind_ok]

theorem elt_W (i : Nat) (hi : i < 60) (env : MEnv) (h : 1 < env.length) (st : Sto) : (mTup (aCons (m2 gMod (mVar 1) (mC (.int 8))) (aCons (m2 gIx (mC (.str "abcd")) (m2 gMod (m2 gDiv (mVar 1) (mC (.int 8))) (mC (.int 4)))) (aCons (m2 gDiv (mVar 1) (mC (.int 32))) (aCons (m2 gMod (mVar 1) (mC (.int 4))) (aCons (m2 gMod (m2 MR.gAdd (mVar 1) (mC (.int 3))) (mC (.int 8))) aNil)))))) (env.set 1 (some (.int (i : Int)))) st = .ok (gS (wS i)) st := by
  have a1 := gMod_eq (i := (i : Int)) (j := 8) (by decide) st
  have a2 := gDiv_eq (i := (i : Int)) (j := 8) (by decide) (by decide) st
  have a3 := gMod_eq (i := (i : Int) / 8) (j := 4) (by decide) st
  have a4 := gDiv_eq (i := (i : Int)) (j := 32) (by decide) (by decide) st
  have a5 := gMod_eq (i := (i : Int)) (j := 4) (by decide) st
  have a6 := gMod_eq (i := (i : Int) + 3) (j := 8) (by decide) st
  have ix : ∀ d : Nat, d < 4 → gIx (.str (Str.ofString "abcd")) (.int (d : Int)) st = .ok (.str ⟨#[97 + d]⟩) st := by
    intro d hd
    have e : Str.ofString "abcd" = ⟨#[97, 98, 99, 100]⟩ := ext_tl (tl_ofString "abcd")
    rw [e]
    have : d = 0 ∨ d = 1 ∨ d = 2 ∨ d = 3 := by omega
    rcases this with rfl | rfl | rfl | rfl <;> rfl
  have a7 := ix (i / 8 % 4) (Nat.mod_lt _ (by decide))
  have e7 : (((i / 8 % 4 : Nat)) : Int) = (i : Int) / 8 % 4 := by omega
  rw [e7] at a7
  have hg : gS (wS i) = .tup [.int ((i : Int) % 8), .str ⟨#[97 + i / 8 % 4]⟩, .int ((i : Int) / 32), .int ((i : Int) % 4), .int (((i : Int) + 3) % 8)] := by
    show MV.tup [.int ((i % 8 : Nat) : Int), .str ⟨#[97 + i / 8 % 4]⟩, .int ((i / 32 : Nat) : Int), .int ((i % 4 : Nat) : Int), .int (((i + 3) % 8 : Nat) : Int)] = _
    rw [show ((i % 8 : Nat) : Int) = (i : Int) % 8 by omega, show ((i / 32 : Nat) : Int) = (i : Int) / 32 by omega, show ((i % 4 : Nat) : Int) = (i : Int) % 4 by omega, show (((i + 3) % 8 : Nat) : Int) = ((i : Int) + 3) % 8 by omega]
  rw [hg]
  simp [h, a1, a2, a3, a4, a5, a6, a7, gAddI]
theorem comp_W (env : MEnv) (h : 1 < env.length) (st : Sto) : compM (.nm 1) tYesM (mTup (aCons (m2 gMod (mVar 1) (mC (.int 8))) (aCons (m2 gIx (mC (.str "abcd")) (m2 gMod (m2 gDiv (mVar 1) (mC (.int 8))) (mC (.int 4)))) (aCons (m2 gDiv (mVar 1) (mC (.int 32))) (aCons (m2 gMod (mVar 1) (mC (.int 4))) (aCons (m2 gMod (m2 MR.gAdd (mVar 1) (mC (.int 3))) (mC (.int 8))) aNil)))))) (rngL 0 60) env [] st = .ok (W.map gS) st := by
  have er : rngL 0 60 = (List.range 60).map fun (i : Nat) => MV.int i := by unfold rngL; exact List.map_congr_left fun i _ => by rw [Int.zero_add]
  have key : ∀ {l : List Nat} {acc : List MV}, (∀ i ∈ l, i < 60) → acc.length + l.length ≤ 1000 → compM (.nm 1) tYesM (mTup (aCons (m2 gMod (mVar 1) (mC (.int 8))) (aCons (m2 gIx (mC (.str "abcd")) (m2 gMod (m2 gDiv (mVar 1) (mC (.int 8))) (mC (.int 4)))) (aCons (m2 gDiv (mVar 1) (mC (.int 32))) (aCons (m2 gMod (mVar 1) (mC (.int 4))) (aCons (m2 gMod (m2 MR.gAdd (mVar 1) (mC (.int 3))) (mC (.int 8))) aNil)))))) (l.map fun (i : Nat) => MV.int i) env acc st = .ok (acc ++ (l.map wS).map gS) st := by
    intro l
    induction l with
    | nil => intro acc _ _; simp [compM]
    | cons i l ih =>
      intro acc hi hl
      have e := elt_W i (hi i List.mem_cons_self) env h st
      have hl' : acc.length < 16777216 := by simp at hl; omega
      generalize (mTup (aCons (m2 gMod (mVar 1) (mC (.int 8))) (aCons (m2 gIx (mC (.str "abcd")) (m2 gMod (m2 gDiv (mVar 1) (mC (.int 8))) (mC (.int 4)))) (aCons (m2 gDiv (mVar 1) (mC (.int 32))) (aCons (m2 gMod (mVar 1) (mC (.int 4))) (aCons (m2 gMod (m2 MR.gAdd (mVar 1) (mC (.int 3))) (mC (.int 8))) aNil)))))) = EL at *
      rw [List.map_cons]
      unfold compM
      show (match tYesM (env.set 1 (some (.int (i : Int)))) st with
        | .ok true st1 => (match EL (env.set 1 (some (.int (i : Int)))) st1 with
          | .ok v st2 => if acc.length < 16777216 then compM (.nm 1) tYesM EL (l.map fun (i : Nat) => MV.int i) env (acc ++ [v]) st2 else .bad
          | _ => .bad)
        | .ok false st1 => compM (.nm 1) tYesM EL (l.map fun (i : Nat) => MV.int i) env acc st1
        | _ => .bad) = _
      simp only [tYesM, e, if_pos hl']
      rw [ih (fun z hz => hi z (List.mem_cons_of_mem _ hz)) (by simp at hl ⊢; omega)]
      simp
  rw [er, key (fun i hi => List.mem_range.mp hi) (by simp), List.nil_append]
  rfl
theorem gSorted_lst {α : Type} (g : α → MV) (d : α → PyData) (hd : ∀ a, toD (g a) = some (d a)) {st : Sto} {l : List α} (hs : sortOk (l.map d) = true) : gSortedG [.lst (l.map g)] st = .ok (.lst ((l.mergeSort (dataLe false d)).map g)) st := by
  show gSorted [.lst (l.map g)] st = _
  show (match toDs (l.map g) with
    | some ds => if sortOk ds = true then Res.ok (MV.lst (sortD (l.map g) ds)) st else .bad
    | none => .bad) = _
  rw [sorted_data g d hd l]
  show (if sortOk (l.map d) = true then Res.ok (MV.lst (sortD (l.map g) (l.map d))) st else .bad) = _
  rw [if_pos hs, sortD_map]
abbrev wRows : List MV := (W.mergeSort (dataLe false fun s : NS => s.up.pd)).map gS
theorem b1 {env : MEnv} (h : 1 < env.length) (h9 : env.length = 15) (st : Sto) : B1 env st = .nx (env.set 9 (some (.tup wRows))) st := by
  have c := comp_W (env.set 1 none) (by simpa using h) st
  have s := gSorted_lst gS (fun s : NS => s.up.pd) (fun s => rfl) (st := st) (sortOk_gS W (by simp [W]))
  have gt : gTuple [.lst wRows] st = .ok (.tup wRows) st := rfl
  unfold wRows at *
  generalize (W.mergeSort (dataLe false fun s : NS => s.up.pd)).map gS = WR at *
  generalize W.map gS = WM at *
  simp [c, s, gt]
theorem wide_mv : wideM.mv = .tup [.str abcd, .int 8, .tup [], .tup (rngL 0 8), .tup wRows] := by
  have : wideM.mv = .tup [.str abcd, .int 8, .tup [], .tup ((nInts (List.range 8)).map MV.int), .tup (((W.mergeSort (dataLe false fun s : NS => s.up.pd)).map NS.up).map Stp.mv)] := rfl
  rw [this, List.map_map]
  rfl
theorem b2 {env : MEnv} (h : env[9]? = some (some (.tup wRows))) (st : Sto) : B2 env st = .nx (env.set 10 (some wideM.mv)) st := by
  rw [wide_mv]
  generalize wRows = WR at *
  simp [mTupRg, h]
theorem b3 {env : MEnv} (h : env[10]? = some (some wideM.mv)) (st : Sto) : B3 env st = .nx env st := by
  obtain ⟨q, e, hq, hl⟩ := wide_q
  rw [e] at h
  have h1 := machine_text_eq hq st
  have ht8 : Asc 8000 (textM q) := (text_asc2 hq).mono (by decide)
  have h2 := read_back_eq ht8 st
  rw [specP_text hq] at h2
  have h2 : f__law_read_back [.str (textM q)] st = .ok q.up.mv st := h2
  have h3 := gNe_mach hq st
  have hc : Txt.count (textM q) (Str.ofString "\n") = 60 := by
    rw [litN]
    apply count_split (n := 60)
    · rw [split_cut (by decide), text_cut hq]
      unfold linesM
      rw [List.length_cons, List.length_map, hl]
    · decide
  have h4 : gCount (.str (textM q)) [.str (Str.ofString "\n")] st = .ok (.int 60) st := by
    show Res.ok (MV.int (Txt.count (textM q) (Str.ofString "\n"))) st = _
    rw [hc]
  have h5 := gNe_int 60 60 st
  generalize q.up.mv = QM at *
  generalize textM q = T at *
  simp [h, h1, h2, h3, h4, h5]
abbrev txs : List Str := [plain, Str.ofString "machine a 1 starts 0 finals 0\n0 a =3 0", Str.ofString "machine a 1 starts 0,0 finals -", plain ++ Str.ofString "\n",
  Str.ofString "machine  a 1 starts - finals -", Str.ofString "machine a 01 starts - finals -", Str.ofString "", Str.ofString "M" ++ Str.ofString "achine a 1 starts - finals -",
  plain ++ Str.ofString " ", Str.ofString "machine a 9 starts - finals -", Str.ofString "machine a 2 starts 1,0 finals -",
  plain ++ Str.ofString "\n0 a 1 0", Str.ofString "machine a 1 starts , finals -", Str.ofString "machine a " ++ nines ++ Str.ofString " starts - finals -",
  Str.ofString "machine a 1 starts " ++ nines ++ Str.ofString " finals -", plain ++ Str.ofString "\n0 a +" ++ nines ++ Str.ofString " 0"]
theorem app_asc {N M : Nat} {a b : Str} (ha : Asc N a) (hb : Asc M b) : Asc (N + M) (a ++ b) := by
  refine ⟨by rw [len_app]; exact Nat.add_le_add ha.1 hb.1, fun c hc => ?_⟩
  rw [tl_append] at hc
  rcases List.mem_append.mp hc with hc | hc
  · exact ha.2 c hc
  · exact hb.2 c hc
theorem txs_asc : ∀ t ∈ txs, Asc 8000 t := by
  intro t ht
  have pl : Asc 100 plain := asc_lit
  have l1 : ∀ {s : String}, (s.toList.map Char.toNat).length ≤ 100 → (∀ c ∈ s.toList.map Char.toNat, c < 128) → Asc 100 (Str.ofString s) := fun h h2 => asc_lit h h2
  simp only [txs, List.mem_cons, List.not_mem_nil, or_false] at ht
  rcases ht with h | h | h | h | h | h | h | h | h | h | h | h | h | h | h | h
  · rw [h]; exact asc_lit
  · rw [h]; exact asc_lit
  · rw [h]; exact asc_lit
  · rw [h]; exact (app_asc pl (asc_lit (n := 100))).mono (by decide)
  · rw [h]; exact asc_lit
  · rw [h]; exact asc_lit
  · rw [h]; exact asc_lit
  · rw [h]; exact (app_asc (asc_lit (n := 100)) (asc_lit (n := 100))).mono (by decide)
  · rw [h]; exact (app_asc pl (asc_lit (n := 100))).mono (by decide)
  · rw [h]; exact asc_lit
  · rw [h]; exact asc_lit
  · rw [h]; exact (app_asc pl (asc_lit (n := 100))).mono (by decide)
  · rw [h]; exact asc_lit
  · rw [h]; exact (app_asc (app_asc (asc_lit (n := 100)) nines_asc) (asc_lit (n := 100))).mono (by decide)
  · rw [h]; exact (app_asc (app_asc (asc_lit (n := 100)) nines_asc) (asc_lit (n := 100))).mono (by decide)
  · rw [h]; exact (app_asc (app_asc (app_asc pl (asc_lit (n := 100))) nines_asc) (asc_lit (n := 100))).mono (by decide)
abbrev dueL : List MV := [q1.up.mv, q2.up.mv, .non, .non, .non, .non, .non, .non, .non, .non, .non, .non, .non, .non, .non, .non]
theorem txs_out : txs.map (fun t => outM (specP t)) = dueL := by
  simp only [txs, List.map_cons, List.map_nil, t1_some, t2_some, t3_none, t4_none, t5_none, t6_none, t7_none, t8_none, t9_none, t10_none, t11_none, t12_none, t13_none, t14_none, t15_none, t16_none]
  rfl
theorem due_comp (l : List Str) (hl : l.length ≤ 100) (ha : ∀ t ∈ l, Asc 8000 t) (env : MEnv) (h : 5 < env.length) (s : Sto) : compM (.nm 5) tYesM (mFn 1 f__law_read_back (aCons (mVar 5) aNil)) (sts l) env [] s = .ok (l.map fun t => outM (specP t)) s := by
  have c1 : compM (.nm 5) tYesM (mFn 1 f__law_read_back (aCons (mVar 5) aNil)) (sts l) env [] s = .ok ([] ++ (sts l).map fun m => match m with | .str t => outM (specP t) | _ => .non) s := by
    apply compM_map
    · intro y hy
      obtain ⟨t, ht, rfl⟩ := List.mem_map.mp hy
      refine ⟨env.set 5 (some (.str t)), rfl, ?_⟩
      have := read_back_eq (ha t ht) s
      simp [h, this]
    · simp
      omega
  rw [c1]
  unfold sts
  rw [List.nil_append, List.map_map]
  rfl
theorem due_eq (s : Sto) : gEq (.lst dueL) (.lst dueL) s = .ok (.bl true) s := by
  obtain ⟨d1, e1, l1, p1⟩ := mach_data q1_ok
  obtain ⟨d2, e2, l2, p2⟩ := mach_data q2_ok
  have e : topD (.lst dueL) s = some (.list [d1, d2, .none, .none, .none, .none, .none, .none, .none, .none, .none, .none, .none, .none, .none, .none]) := by
    show (toDs [q1.up.mv, q2.up.mv, .non, .non, .non, .non, .non, .non, .non, .non, .non, .non, .non, .non, .non, .non]).map PyData.list = _
    generalize q1.up.mv = A at *
    generalize q2.up.mv = B at *
    simp [toDs, toD, e1, e2]
  have h : SeqAt.shaped (.list [d1, d2, .none, .none, .none, .none, .none, .none, .none, .none, .none, .none, .none, .none, .none, .none]) = true := by
    unfold SeqAt.shaped
    simp [PyData.canLay0, PyData.canLayAll0, PyData.depth, PyData.depthAll, l1, l2]
    omega
  have h2 := SeqAt.eqv_refl _ (SeqAt.canLay_of_shaped h)
  unfold gEq
  rw [e]
  simp only [h, h2]
  rfl
theorem mulN (s : Sto) : gMulS (.lst [.non]) (.int 14) s = .ok (.lst [.non, .non, .non, .non, .non, .non, .non, .non, .non, .non, .non, .non, .non, .non]) s := by
  have h : (-(2 ^ 63) ≤ (14 : Int) ∧ (14 : Int) < 2 ^ 63) ∧ ([MV.non]).length * (14 : Int).toNat ≤ 16777216 := by decide +kernel
  show (if (-(2 ^ 63) ≤ (14 : Int) ∧ (14 : Int) < 2 ^ 63) ∧ ([MV.non]).length * (14 : Int).toNat ≤ 16777216 then Res.ok (MV.lst (List.replicate (14 : Int).toNat [MV.non]).flatten) s else .bad) = _
  rw [if_pos h]
  rfl
end K83

namespace K83
open PySem L2 TL MR
open PySem.W (dataLe dataLt)
theorem addS (a b : Str) (h : a.length + b.length ≤ 16777216) (s : Sto) : MR.gAdd (.str a) (.str b) s = .ok (.str (a ++ b)) s := gAddStr a b h s
theorem litA : Str.ofString "a" = ⟨#[97]⟩ := ext_tl (tl_ofString "a")
abbrev A1 : MV := .tup [.str (Str.ofString "a"), .int 1, .tup [], .tup [], .tup []]
abbrev A2 : MV := .tup [.str (Str.ofString "a"), .int 1, .tup [.int 0], .tup [.int 0], .tup [.tup [.int 0, .str (Str.ofString "a"), .int 1, .int 3, .int 0]]]
theorem dueE : dueL = [A1, A2, .non, .non, .non, .non, .non, .non, .non, .non, .non, .non, .non, .non, .non, .non] := by
  have e1 : q1.up.mv = A1 := rfl
  have e2 : q2.up.mv = A2 := by
    show MV.tup [.str (Str.ofString "a"), .int 1, .tup [.int 0], .tup [.int 0], .tup [.tup [.int 0, .str ⟨#[97]⟩, .int 1, .int 3, .int 0]]] = A2
    rw [← litA]
  show [q1.up.mv, q2.up.mv, .non, .non, .non, .non, .non, .non, .non, .non, .non, .non, .non, .non, .non, .non] = _
  rw [e1, e2]
theorem law_true : ∀ ns : List Int, ns.length ≤ 63 → ∃ st, f_law [.scr ns] [] = .ok (.bl true) st := by
  intro ns hns
  obtain ⟨m, hm, em⟩ : ∃ m : Nat, m ≤ 8 ∧ iRng (aCons (mCall gMax (aCons (mC (.int 1)) (aCons (mCall gMin (aCons (mC (.int 8)) (aCons (mCall gLen (aCons (mVar 0) aNil)) aNil))) aNil))) aNil) [some (.scr ns), none, none, none, none, none, none, none, none, none, none, none, none, none, none] [] = .ok (rngL 0 m) [] := by
    have gl : gLen [.scr ns] ([] : Sto) = .ok (.int ns.length) [] := rfl
    by_cases h1 : (ns.length : Int) < 8
    · by_cases h2 : (1 : Int) < ns.length
      · refine ⟨ns.length, by omega, ?_⟩
        have b : (-1000000000 ≤ (ns.length : Int) ∧ (ns.length : Int) ≤ 1000000000) := by omega
        simp [gl, gMin, gMax, h1, h2, b]
      · refine ⟨1, by omega, ?_⟩
        simp [gl, gMin, gMax, h1, h2]
    · refine ⟨8, by omega, ?_⟩
      simp [gl, gMin, gMax, h1]
  obtain ⟨f1, f2, f3, f4, f5, f6, f7, f8, s, lp⟩ := loopL (ns := ns) none none none none none none (List.range m) [] none none none none none none none none
  have er : ((List.range m).map fun (i : Nat) => MV.int (0 + (i : Int))) = rngL 0 m := rfl
  rw [er] at lp
  have dc := fun env h s => due_comp txs (by decide) txs_asc env h s
  rw [txs_out] at dc
  unfold txs at dc
  have de := due_eq s
  rw [dueE] at dc de
  have m9 := mul9 s
  have mN := mulN s
  have l9 := nines_len
  have pl : plain.length ≤ 100 := (asc_lit (s := "machine a 1 starts - finals -") (n := 100)).1
  have c1 : (Str.ofString "\n").length ≤ 100 := (asc_lit (n := 100)).1
  have c2 : (Str.ofString "M").length ≤ 100 := (asc_lit (n := 100)).1
  have c3 : (Str.ofString "achine a 1 starts - finals -").length ≤ 100 := (asc_lit (n := 100)).1
  have c4 : (Str.ofString " ").length ≤ 100 := (asc_lit (n := 100)).1
  have c5 : (Str.ofString "\n0 a 1 0").length ≤ 100 := (asc_lit (n := 100)).1
  have c6 : (Str.ofString "machine a ").length ≤ 100 := (asc_lit (n := 100)).1
  have c7 : (Str.ofString " starts - finals -").length ≤ 100 := (asc_lit (n := 100)).1
  have c8 : (Str.ofString "machine a 1 starts ").length ≤ 100 := (asc_lit (n := 100)).1
  have c9 : (Str.ofString " finals -").length ≤ 100 := (asc_lit (n := 100)).1
  have c10 : (Str.ofString "\n0 a +").length ≤ 100 := (asc_lit (n := 100)).1
  have c11 : (Str.ofString " 0").length ≤ 100 := (asc_lit (n := 100)).1
  have a1 := addS plain (Str.ofString "\n") (by omega) s
  have a2 := addS (Str.ofString "M") (Str.ofString "achine a 1 starts - finals -") (by omega) s
  have a3 := addS plain (Str.ofString " ") (by omega) s
  have a4 := addS plain (Str.ofString "\n0 a 1 0") (by omega) s
  have a5 := addS (Str.ofString "machine a ") nines (by omega) s
  have a6 := addS (Str.ofString "machine a " ++ nines) (Str.ofString " starts - finals -") (by rw [len_app]; omega) s
  have a7 := addS (Str.ofString "machine a 1 starts ") nines (by omega) s
  have a8 := addS (Str.ofString "machine a 1 starts " ++ nines) (Str.ofString " finals -") (by rw [len_app]; omega) s
  have a9 := addS plain (Str.ofString "\n0 a +") (by omega) s
  have a10 := addS (plain ++ Str.ofString "\n0 a +") nines (by rw [len_app]; omega) s
  have a11 := addS (plain ++ Str.ofString "\n0 a +" ++ nines) (Str.ofString " 0") (by rw [len_app, len_app]; omega) s
  have sl : mSl gSlice (mVar 11) (oSome (mC (.int 1))) oNone = mSl gSlice (mVar 11) (oSome (mC (.int 1))) oNone := rfl
  have cut : gSlice (.str plain) (some 1) none s = .ok (.str (Str.ofString "achine a 1 starts - finals -")) s := by
    rw [cut_fr1 (asc_lit (s := "machine a 1 starts - finals -") (n := 100)) (by decide) s]
    have : (⟨((tl plain).drop 1).toArray⟩ : Str) = Str.ofString "achine a 1 starts - finals -" := ext_tl (by rw [lit_tl]; show (tl plain).drop 1 = _; rw [lit_tl]; rfl)
    rw [this]
  generalize hN9 : nines = N9 at *
  refine ⟨s, defM_rt (env := [some (.scr ns), none, none, none, none, none, none, none, none, none, none, none, none, none, none]) rfl ?_⟩
  refine seq_nx (s1 := B0) (env' := [some (.scr ns), f1, f2, f3, f4, f5, f6, f7, f8, none, none, none, none, none, none]) (st' := s) (by unfold B0; rw [s_for, em, bindE_ok]; exact lp) ?_
  refine seq_nx (s1 := B1) (env' := [some (.scr ns), f1, f2, f3, f4, f5, f6, f7, f8, some (.tup wRows), none, none, none, none, none]) (st' := s) (b1 (by simp) rfl s) ?_
  refine seq_nx (s1 := B2) (env' := [some (.scr ns), f1, f2, f3, f4, f5, f6, f7, f8, some (.tup wRows), some wideM.mv, none, none, none, none]) (st' := s) (b2 rfl s) ?_
  refine seq_nx (s1 := B3) (env' := [some (.scr ns), f1, f2, f3, f4, f5, f6, f7, f8, some (.tup wRows), some wideM.mv, none, none, none, none]) (st' := s) (b3 rfl s) ?_
  generalize wRows = WR
  generalize wideM.mv = WM
  refine seq_nx (s1 := B4) (env' := [some (.scr ns), f1, f2, f3, f4, f5, f6, f7, f8, some (.tup WR), some WM, some (.str plain), none, none, none]) (st' := s) rfl ?_
  let l1 : List MV := [.str plain, .str (Str.ofString "machine a 1 starts 0 finals 0\n0 a =3 0"), .str (Str.ofString "machine a 1 starts 0,0 finals -"), .str (plain ++ Str.ofString "\n")]
  let l2 : List MV := [.str (Str.ofString "machine  a 1 starts - finals -"), .str (Str.ofString "machine a 01 starts - finals -"), .str (Str.ofString ""), .str (Str.ofString "M" ++ Str.ofString "achine a 1 starts - finals -")]
  let l3 : List MV := [.str (plain ++ Str.ofString " "), .str (Str.ofString "machine a 9 starts - finals -"), .str (Str.ofString "machine a 2 starts 1,0 finals -")]
  let l4 : List MV := [.str (plain ++ Str.ofString "\n0 a 1 0"), .str (Str.ofString "machine a 1 starts , finals -"), .str (Str.ofString "machine a " ++ N9 ++ Str.ofString " starts - finals -")]
  let l5 : List MV := [.str (Str.ofString "machine a 1 starts " ++ N9 ++ Str.ofString " finals -"), .str (plain ++ Str.ofString "\n0 a +" ++ N9 ++ Str.ofString " 0")]
  refine seq_nx (s1 := B5) (env' := [some (.scr ns), f1, f2, f3, f4, f5, f6, f7, f8, some (.tup WR), some WM, some (.str plain), some (.lst l1), none, none]) (st' := s) (setX (lstC (consX rfl (consX rfl (consX rfl (consX (twoX rfl rfl a1) rfl)))) (Nat.le_of_ble_eq_true rfl))) ?_
  have sl0 : mSl gSlice (mVar 11) (oSome (mC (.int 1))) oNone [some (.scr ns), f1, f2, f3, f4, f5, f6, f7, f8, some (.tup WR), some WM, some (.str plain), some (.lst l1), none, none] s = .ok (.str (Str.ofString "achine a 1 starts - finals -")) s := by
    rw [e_sl]
    show (noExc (gSlice (.str plain) (some 1) none s)) = _
    rw [cut]
    rfl
  refine seq_nx (s1 := B6) (env' := [some (.scr ns), f1, f2, f3, f4, f5, f6, f7, f8, some (.tup WR), some WM, some (.str plain), some (.lst (l1 ++ l2)), none, none]) (st' := s) (setX (twoX rfl (lstC (consX rfl (consX rfl (consX rfl (consX (twoX rfl sl0 a2) rfl)))) (Nat.le_of_ble_eq_true rfl)) (gAddLst l1 l2 (Nat.le_of_ble_eq_true rfl) _))) ?_
  refine seq_nx (s1 := B7) (env' := [some (.scr ns), f1, f2, f3, f4, f5, f6, f7, f8, some (.tup WR), some WM, some (.str plain), some (.lst (l1 ++ l2 ++ l3)), none, none]) (st' := s) (setX (twoX rfl (lstC (consX (twoX rfl rfl a3) (consX rfl (consX rfl rfl))) (Nat.le_of_ble_eq_true rfl)) (gAddLst (l1 ++ l2) l3 (Nat.le_of_ble_eq_true rfl) _))) ?_
  refine seq_nx (s1 := B8) (env' := [some (.scr ns), f1, f2, f3, f4, f5, f6, f7, f8, some (.tup WR), some WM, some (.str plain), some (.lst (l1 ++ l2 ++ l3)), some (.str N9), none]) (st' := s) (setX (twoX rfl rfl m9)) ?_
  refine seq_nx (s1 := B9) (env' := [some (.scr ns), f1, f2, f3, f4, f5, f6, f7, f8, some (.tup WR), some WM, some (.str plain), some (.lst (l1 ++ l2 ++ l3 ++ l4)), some (.str N9), none]) (st' := s) (setX (twoX rfl (lstC (consX (twoX rfl rfl a4) (consX rfl (consX (twoX (twoX rfl rfl a5) rfl a6) rfl))) (Nat.le_of_ble_eq_true rfl)) (gAddLst (l1 ++ l2 ++ l3) l4 (Nat.le_of_ble_eq_true rfl) _))) ?_
  refine seq_nx (s1 := B10) (env' := [some (.scr ns), f1, f2, f3, f4, f5, f6, f7, f8, some (.tup WR), some WM, some (.str plain), some (.lst (l1 ++ l2 ++ l3 ++ l4 ++ l5)), some (.str N9), none]) (st' := s) (setX (twoX rfl (lstC (consX (twoX (twoX rfl rfl a7) rfl a8) (consX (twoX (twoX (twoX rfl rfl a9) rfl a10) rfl a11) rfl)) (Nat.le_of_ble_eq_true rfl)) (gAddLst (l1 ++ l2 ++ l3 ++ l4) l5 (Nat.le_of_ble_eq_true rfl) _))) ?_
  let d1 : List MV := [A1, A2]
  let d2 : List MV := [.non, .non, .non, .non, .non, .non, .non, .non, .non, .non, .non, .non, .non, .non]
  have lb : ∀ {n : Nat}, n ≤ 16777216 → n ≤ 16777216 := fun h => h
  refine seq_nx (s1 := B11) (env' := [some (.scr ns), f1, f2, f3, f4, f5, f6, f7, f8, some (.tup WR), some WM, some (.str plain), some (.lst (l1 ++ l2 ++ l3 ++ l4 ++ l5)), some (.str N9), some (.lst (d1 ++ d2))]) (st' := s)
    (setX (twoX (lstC (consX (tupC (consX rfl (consX rfl (consX (tupC rfl (Nat.le_of_ble_eq_true rfl)) (consX (tupC rfl (Nat.le_of_ble_eq_true rfl)) (consX (tupC rfl (Nat.le_of_ble_eq_true rfl)) rfl))))) (Nat.le_of_ble_eq_true rfl))
      (consX (tupC (consX rfl (consX rfl (consX (tupC (consX rfl rfl) (Nat.le_of_ble_eq_true rfl)) (consX (tupC (consX rfl rfl) (Nat.le_of_ble_eq_true rfl)) (consX (tupC (consX (tupC (consX rfl (consX rfl (consX rfl (consX rfl (consX rfl rfl))))) (Nat.le_of_ble_eq_true rfl)) rfl) (Nat.le_of_ble_eq_true rfl)) rfl))))) (Nat.le_of_ble_eq_true rfl)) rfl)) (Nat.le_of_ble_eq_true rfl)) (twoX (lstC rfl (Nat.le_of_ble_eq_true rfl)) rfl mN) (by
        have := gAddLst d1 d2 (Nat.le_of_ble_eq_true rfl) s
        exact this))) ?_
  have c := dc (wipeM [some (.scr ns), f1, f2, f3, f4, f5, f6, f7, f8, some (.tup WR), some WM, some (.str plain), some (.lst (l1 ++ l2 ++ l3 ++ l4 ++ l5)), some (.str N9), some (.lst (d1 ++ d2))] [5]) (by simp) s
  exact retX (twoX (lcX rfl c) rfl de)
end K83

open PySem PySem.W PyProof.Rows
set_option maxRecDepth 100000 in
set_option maxHeartbeats 40000000 in
theorem PySem.Challenge.cw_openlimit_k83_texts_of_machines_holds : PySem.Challenge.rw_openlimit_k83_texts_of_machines.Holds := by
  w_on; o_law; k_head; (case hw => w_witness2)
  k_fill
  refine MR.walk_ofG (l := PySem.Challenge.rw_openlimit_k83_texts_of_machines) (n := 63) (k := 9) (x := "script") (sp := fun w => MR.spLaw _) rfl (by decide) rfl ⟨rfl, by decide, by decide⟩ (fun w h Y => PySem.W.kIn_of Y) ?F (fun _ _ a ns hl _ hS => ⟨a, ns, rfl, hS, hl, fun _ => rfl⟩)
  intro w mg fa h KX G hmg
  refine' K83.law_mk KX G hmg ?x_LimitError ?x_InvalidMachine ?x_ParseError ?s_LimitError_LimitError ?s_LimitError_InvalidMachine ?s_LimitError_ParseError ?s_ParseError_LimitError ?d_ParseError_LimitError ?s_ParseError_InvalidMachine ?d_ParseError_InvalidMachine ?s_ParseError_ParseError ?n_abs ?n_all ?n_bool ?n_int ?n_isinstance ?n_len ?n_max ?n_min ?n_range ?n_repr ?n_sorted ?n_str ?n_tuple ?n_zip ?c_DIGITS ?v_DIGITS ?c_MAX_COST ?c_MAX_DIGITS ?c_MAX_LETTERS ?c_MAX_STATES ?c_MAX_STEPS ?c_NOTHING ?v_NOTHING ?c_SIGNS ?v_SIGNS ?a_is_integer ?l_is_integer ?q_is_integer ?k_is_integer ?a_is_sign ?l_is_sign ?q_is_sign ?k_is_sign ?a_is_alphabet ?l_is_alphabet ?q_is_alphabet ?k_is_alphabet ?a_are_ascending ?l_are_ascending ?q_are_ascending ?k_are_ascending ?a_are_states ?l_are_states ?q_are_states ?k_are_states ?a_is_letter ?l_is_letter ?q_is_letter ?k_is_letter ?a_is_step ?l_is_step ?q_is_step ?k_is_step ?a_is_machine ?l_is_machine ?q_is_machine ?k_is_machine ?a_require_machine ?l_require_machine ?q_require_machine ?k_require_machine ?a_numbers_text ?l_numbers_text ?q_numbers_text ?k_numbers_text ?a_step_text ?l_step_text ?q_step_text ?k_step_text ?a_machine_text ?l_machine_text ?q_machine_text ?k_machine_text ?a__law_stream ?l__law_stream ?q__law_stream ?k__law_stream ?a__law_draw ?l__law_draw ?q__law_draw ?k__law_draw ?a__law_step ?l__law_step ?q__law_step ?k__law_step ?a__law_machine ?l__law_machine ?q__law_machine ?k__law_machine ?a__law_listed ?l__law_listed ?q__law_listed ?k__law_listed ?a__law_text_of ?l__law_text_of ?q__law_text_of ?k__law_text_of ?a__law_small ?l__law_small ?q__law_small ?k__law_small ?a__law_states ?l__law_states ?q__law_states ?k__law_states ?a__law_parsed ?l__law_parsed ?q__law_parsed ?k__law_parsed ?a_lines_of ?l_lines_of ?q_lines_of ?k_lines_of ?a_number_of ?l_number_of ?q_number_of ?k_number_of ?a_parsed_step ?l_parsed_step ?q_parsed_step ?k_parsed_step ?a_numbers_of ?l_numbers_of ?q_numbers_of ?k_numbers_of ?a_parsed_head ?l_parsed_head ?q_parsed_head ?k_parsed_head ?a_parse_machine ?l_parse_machine ?q_parse_machine ?k_parse_machine ?a__law_read_back ?l__law_read_back ?q__law_read_back ?k__law_read_back ?a__law_spoilt ?l__law_spoilt ?q__law_spoilt ?k__law_spoilt ?a_law ?l_law ?q_law ?k_law K83.law_true
  (case x_LimitError => exact ⟨by k_is, by k_exc, by k_is, by k_is, by k_is, by k_is, by k_is, by k_is, by k_is, by k_is, by k_is, by k_is, by k_is⟩)
  (case x_InvalidMachine => exact ⟨by k_is, by k_exc, by k_is, by k_is, by k_is, by k_is, by k_is, by k_is, by k_is, by k_is, by k_is, by k_is, by k_is⟩)
  (case x_ParseError => exact ⟨by k_is, by k_exc, by k_is, by k_is, by k_is, by k_is, by k_is, by k_is, by k_is, by k_is, by k_is, by k_is, by k_is⟩)
  (case s_LimitError_LimitError => first | rfl | k_is)
  (case s_LimitError_InvalidMachine => first | rfl | k_is)
  (case s_LimitError_ParseError => first | rfl | k_is)
  (case s_ParseError_LimitError => first | rfl | k_is)
  (case d_ParseError_LimitError => decide)
  (case s_ParseError_InvalidMachine => first | rfl | k_is)
  (case d_ParseError_InvalidMachine => decide)
  (case s_ParseError_ParseError => first | rfl | k_is)
  (case n_abs => k_is)
  (case n_all => k_is)
  (case n_bool => k_is)
  (case n_int => k_is)
  (case n_isinstance => k_is)
  (case n_len => k_is)
  (case n_max => k_is)
  (case n_min => k_is)
  (case n_range => k_is)
  (case n_repr => k_is)
  (case n_sorted => k_is)
  (case n_str => k_is)
  (case n_tuple => k_is)
  (case n_zip => k_is)
  (case c_DIGITS => k_is)
  (case v_DIGITS => decide +kernel)
  (case c_MAX_COST => k_is)
  (case c_MAX_DIGITS => k_is)
  (case c_MAX_LETTERS => k_is)
  (case c_MAX_STATES => k_is)
  (case c_MAX_STEPS => k_is)
  (case c_NOTHING => k_is)
  (case v_NOTHING => decide +kernel)
  (case c_SIGNS => k_is)
  (case v_SIGNS => decide +kernel)
  (case a_is_integer => k_is)
  (case l_is_integer => k_is)
  (case q_is_integer => k_is)
  (case k_is_integer => k_is)
  (case a_is_sign => k_is)
  (case l_is_sign => k_is)
  (case q_is_sign => k_is)
  (case k_is_sign => k_is)
  (case a_is_alphabet => k_is)
  (case l_is_alphabet => k_is)
  (case q_is_alphabet => k_is)
  (case k_is_alphabet => k_is)
  (case a_are_ascending => k_is)
  (case l_are_ascending => k_is)
  (case q_are_ascending => k_is)
  (case k_are_ascending => k_is)
  (case a_are_states => k_is)
  (case l_are_states => k_is)
  (case q_are_states => k_is)
  (case k_are_states => k_is)
  (case a_is_letter => k_is)
  (case l_is_letter => k_is)
  (case q_is_letter => k_is)
  (case k_is_letter => k_is)
  (case a_is_step => k_is)
  (case l_is_step => k_is)
  (case q_is_step => k_is)
  (case k_is_step => k_is)
  (case a_is_machine => k_is)
  (case l_is_machine => k_is)
  (case q_is_machine => k_is)
  (case k_is_machine => k_is)
  (case a_require_machine => k_is)
  (case l_require_machine => k_is)
  (case q_require_machine => k_is)
  (case k_require_machine => k_is)
  (case a_numbers_text => k_is)
  (case l_numbers_text => k_is)
  (case q_numbers_text => k_is)
  (case k_numbers_text => k_is)
  (case a_step_text => k_is)
  (case l_step_text => k_is)
  (case q_step_text => k_is)
  (case k_step_text => k_is)
  (case a_machine_text => k_is)
  (case l_machine_text => k_is)
  (case q_machine_text => k_is)
  (case k_machine_text => k_is)
  (case a__law_stream => k_is)
  (case l__law_stream => k_is)
  (case q__law_stream => k_is)
  (case k__law_stream => k_is)
  (case a__law_draw => k_is)
  (case l__law_draw => k_is)
  (case q__law_draw => k_is)
  (case k__law_draw => k_is)
  (case a__law_step => k_is)
  (case l__law_step => k_is)
  (case q__law_step => k_is)
  (case k__law_step => k_is)
  (case a__law_machine => k_is)
  (case l__law_machine => k_is)
  (case q__law_machine => k_is)
  (case k__law_machine => k_is)
  (case a__law_listed => k_is)
  (case l__law_listed => k_is)
  (case q__law_listed => k_is)
  (case k__law_listed => k_is)
  (case a__law_text_of => k_is)
  (case l__law_text_of => k_is)
  (case q__law_text_of => k_is)
  (case k__law_text_of => k_is)
  (case a__law_small => k_is)
  (case l__law_small => k_is)
  (case q__law_small => k_is)
  (case k__law_small => k_is)
  (case a__law_states => k_is)
  (case l__law_states => k_is)
  (case q__law_states => k_is)
  (case k__law_states => k_is)
  (case a__law_parsed => k_is)
  (case l__law_parsed => k_is)
  (case q__law_parsed => k_is)
  (case k__law_parsed => k_is)
  (case a_lines_of => k_is)
  (case l_lines_of => k_is)
  (case q_lines_of => k_is)
  (case k_lines_of => k_is)
  (case a_number_of => k_is)
  (case l_number_of => k_is)
  (case q_number_of => k_is)
  (case k_number_of => k_is)
  (case a_parsed_step => k_is)
  (case l_parsed_step => k_is)
  (case q_parsed_step => k_is)
  (case k_parsed_step => k_is)
  (case a_numbers_of => k_is)
  (case l_numbers_of => k_is)
  (case q_numbers_of => k_is)
  (case k_numbers_of => k_is)
  (case a_parsed_head => k_is)
  (case l_parsed_head => k_is)
  (case q_parsed_head => k_is)
  (case k_parsed_head => k_is)
  (case a_parse_machine => k_is)
  (case l_parse_machine => k_is)
  (case q_parse_machine => k_is)
  (case k_parse_machine => k_is)
  (case a__law_read_back => k_is)
  (case l__law_read_back => k_is)
  (case q__law_read_back => k_is)
  (case k__law_read_back => k_is)
  (case a__law_spoilt => k_is)
  (case l__law_spoilt => k_is)
  (case q__law_spoilt => k_is)
  (case k__law_spoilt => k_is)
  (case a_law => k_is)
  (case l_law => k_is)
  (case q_law => k_is)
  (case k_law => k_is)
