import PyProof.Rows.All
import Wide.All
import OpenK.AllK
import Wide.FinOn
import HandS.ForMost
import HandS.ForExc
import HandS.Walk
import HandS.CallSlots
import HandS.Star
import HandS.IsInst
import KE.KDictKeyed
import KE.KeyNested
import KE.SortData
import KE.DataCmp
import HandS.Lambda
import HandS.EndBits
import HandS.Text
import HandS.List
import HandS.TupAny
import HandS.TupMul
import HandS.Deep
import HandS.Wide
import HandS.WideBits
import HandS.RaiseMore
import HandS.StrMore
import HandS.Iter
import HandS.Zip0
import KE.GoesEnum
import KE.GoesMore
import HandS.Set
import HandS.SetFor
import HandS.Strs
import KE.GoesRaise
import KE.KUnpackStar
import HandS.ExcIs
import HandS.ExcOwn
import PyProof.ReprRoads
import PyProof.StrOps2
import HandS.FStr
import HandS.Words
import KE.KDictCopyH
import KE.KDictSum
import HandS.Small
import HandS.NoneIn
import HandS.Conv
import HandS.Property
import HandS.ClsMeth
import KE.KSuper
import HandS.SetBool
import KE.DataMinMax
import HandS.SortKw
import HandS.EndTab
import KE.DataFind
import KE.KNestM
import HandS.Head0
import HandS.Head1
import HandS.Head2
import HandS.HeadHook2
import Wide.Once
import PySem.Challenge.RW_openlimit_k86_texts_refused
set_option Elab.async false
set_option linter.all false
set_option maxRecDepth 100000
/-! A second layer over HandS: mirrors. A def's body is matched by a total Lean function over data (MV) and a store of
changeable lists; PM says that an expression does what its mirror does. -/
namespace MR
open PySem L2

/-- data of the mirrors: what does not change is held by value, what changes stands in a store -/
inductive MV where
  | non
  | bl (b : Bool)
  | int (i : Int)
  | str (s : Str)
  | ty (n : String)
  | gl (x : Str)
  | tup (xs : List MV)
  | lst (xs : List MV)
  | obj (k : Nat)
  | scr (ns : List Int)
  /-- an instance that does not change: its class, its attributes; a dict that does not change -/
  | ins (c : Str) (ns : List Str) (xs : List MV)
  | dct (ks xs : List MV)

inductive MO where
  | lst (xs : List MV)
  | dict (ks xs : List MV)
  | ins (c : Str) (ns : List Str) (xs : List MV)

/-- an error: its class, its attributes -/
structure Ex where
  c : Str
  ns : List Str := []
  xs : List MV := []

abbrev Sto := List MO
abbrev MEnv := List (Option MV)

inductive Res (α : Type) where
  | ok (a : α) (st : Sto)
  | exc (c : Ex) (st : Sto)
  | bad

def Res.post {α : Type} (r : Res α) (P : α → Sto → Prop) (E : Ex → Sto → Prop) : Prop := match r with
  | .ok a st => P a st
  | .exc c st => E c st
  | .bad => False
def Res.bind {α β : Type} (r : Res α) (f : α → Sto → Res β) : Res β := match r with
  | .ok a st => f a st
  | .exc c st => .exc c st
  | .bad => .bad
theorem Res.post_bind {α β : Type} {r : Res α} {f : α → Sto → Res β} {P : β → Sto → Prop} {E : Ex → Sto → Prop} :
    (r.bind f).post P E ↔ r.post (fun a st => (f a st).post P E) E := by
  cases r <;> exact Iff.rfl
theorem Res.post.mono {α : Type} {r : Res α} {P P' : α → Sto → Prop} {E E' : Ex → Sto → Prop} (h : r.post P E)
    (hp : ∀ a st, P a st → P' a st) (he : ∀ c st, E c st → E' c st) : r.post P' E' := by
  cases r with
  | ok a st => exact hp a st h
  | exc c st => exact he c st h
  | bad => exact h

/-- where the store's objects stand (by their numbers), and what is fenced off: lists that are being made; the caught exception: the slot of its name, where it stands -/
structure Ad where
  ix : List Addr
  fn : List Addr
  xs : Option (Nat × Addr) := none
def Ad.has (A : Ad) (a : Addr) : Prop := a ∈ A.ix ∨ a ∈ A.fn

/-- neither a table nor a code object -/
def NT (o : HO) : Prop := ∀ ps, o ≠ .tbl ps
def NCo (o : HO) : Prop := NT o ∧ ∀ c q, o ≠ LamX.CodeO c q
theorem nt_lst {xs : List V} : NT (.lst xs) := fun _ z => by cases z
theorem nt_tup {xs : List V} : NT (.tup xs) := fun _ z => by cases z
theorem nt_frz {ob : Obj} {o : HO} : NT (.frz ob o) := fun _ z => by cases z
theorem nt_ins {C dx : Addr} {fs : List (Str × V)} : NT (.ins C dx fs) := fun _ z => by cases z
theorem nt_dK {kvs : List (L2.Key × V)} : NT (.dK kvs) := fun _ z => by cases z
theorem nt_xd {fs : List (Str × V)} : NT (.xd fs) := fun _ z => by cases z
theorem nt_ext {φ : Heap → Prop} : NT (.ext φ) := fun _ z => by cases z
theorem nc_lst {xs : List V} : NCo (.lst xs) := ⟨nt_lst, fun _ _ z => by unfold LamX.CodeO at z; cases z⟩
theorem nc_ins {C dx : Addr} {fs : List (Str × V)} : NCo (.ins C dx fs) := ⟨nt_ins, fun _ _ z => by unfold LamX.CodeO at z; cases z⟩
theorem nc_dK {kvs : List (L2.Key × V)} : NCo (.dK kvs) := ⟨nt_dK, fun _ _ z => by unfold LamX.CodeO at z; cases z⟩
theorem nc_own {x : Addr} : NCo (.own x) := ⟨fun _ z => (by cases z), fun _ _ z => by unfold LamX.CodeO at z; cases z⟩
/-- a thing that is told by what its object never is: a code object -/
theorem nc_ext {φ : Heap → Prop} {a : Addr} (h : ∀ hp o vs, φ hp → hp.get? a = some o → o.data = .fields vs → False) : NCo (.ext φ) := ⟨nt_ext, fun c q z => by
  unfold LamX.CodeO at z
  have z1 := HO.ext.inj z
  let ob : Obj := { cls := .none, data := .fields #[.none, .str q 0] }
  let hp : Heap := { objs := Array.replicate (Nat.add a c + 1) ob }
  have g : ∀ b : Nat, b ≤ Nat.add a c → hp.get? b = some ob := fun b hb => by
    have q : (Array.replicate (Nat.add a c + 1) ob)[b]? = some ob := by
      rw [Array.getElem?_replicate, if_pos (Nat.lt_succ_of_le hb)]
    show (match (Array.replicate (Nat.add a c + 1) ob)[b]? with
      | some ⟨_, _, .freed, _⟩ => none
      | o => o) = some ob
    rw [q]
  have f : φ hp := by
    rw [z1]
    exact ⟨ob, _, 0, g c (Nat.le_add_left _ _), rfl, rfl⟩
  exact h hp ob _ f (g a (Nat.le_add_right _ _)) rfl⟩
/-- later: what the store does not hold stands as it was; the store's new objects are new; the fence stands -/
structure Ext (A : Ad) (H : Hp) (A' : Ad) (H' : Hp) : Prop where
  pre : ∃ B, A'.ix = A.ix ++ B
  fen : A'.fn = A.fn
  xsk : A'.xs = A.xs
  keep : ∀ b o, ¬ A.has b → H b = some o → NT o → H' b = some o
  new : ∀ p, A'.has p → A.has p ∨ ∀ o, H p = some o → NT o → False
  fk : ∀ b, b ∈ A.fn → H' b = H b
abbrev Ad.fence (A : Ad) (d : Addr) : Ad := { A with fn := d :: A.fn }
abbrev Ad.more (A : Ad) (p : Addr) : Ad := { A with ix := A.ix ++ [p] }
abbrev Ad.cut (A : Ad) (n : Nat) : Ad := { A with ix := A.ix.take n }
abbrev Ad.sx (A : Ad) (b : Option (Nat × Addr)) : Ad := { A with xs := b }
/-- what may be known of a frame beside its slots: it stands through all that happens -/
structure JP where
  J : Ad → Hp → Prop
  ext : ∀ {A : Ad} {H : Hp} {A' : Ad} {H' : Hp}, J A H → Ext A H A' H' → J A' H'
  fence : ∀ {A : Ad} {H : Hp} {d : Addr} {o : HO}, J A H → H d = none → J (Ad.fence A d) (upd H d o)
  unfence : ∀ {A : Ad} {H : Hp} {d : Addr}, J (Ad.fence A d) H → J A H
  grow : ∀ {A : Ad} {H : Hp} {d : Addr} {o : HO}, J (Ad.fence A d) H → J (Ad.fence A d) (upd H d o)
  adopt : ∀ {A : Ad} {H : Hp} {d : Addr}, J (Ad.fence A d) H → J (Ad.more A d) H
  cut : ∀ {A1 : Ad} {H1 : Hp} {A : Ad} {H : Hp} {k : Nat}, J A1 H1 → Ext A1 H1 A H → A1.ix.length = k → J (Ad.cut A k) H
  sx : ∀ {A : Ad} {H : Hp} {b : Option (Nat × Addr)}, J A H → J (Ad.sx A b) H
def JP.no : JP := { J := fun _ _ => True, ext := fun _ _ => trivial, fence := fun _ _ => trivial, unfence := fun _ => trivial, grow := fun _ => trivial, adopt := fun _ => trivial, cut := fun _ _ _ => trivial, sx := fun _ => trivial }
/-- the tables of code objects of the defs that make lambdas, and their names; what is known of the frame; the slot of a parameter that is called -/
class Tb where
  T : List (Addr × Str)
  j : JP
  cs : Option (Nat × Addr)
/-- what is written of the module -/
structure Gm where
  K : PySem.W.Frag
  mg : Str → Option Value
  P : Program
  w : World
  T : List (Addr × Str)
  j : JP
  cs : Option (Nat × Addr)
abbrev gmOf [Tb] (X : Cx) : Gm := ⟨X.K, X.mg, X.prog, X.w, Tb.T, Tb.j, Tb.cs⟩
/-- keys of dicts: whole numbers and texts; tuples -/
def keyM : L2.Key → MV
  | .inl i => .int i
  | .inr x => .str x
mutual
def toN : MV → Option NestedKey
  | .non => some .none
  | .bl b => some (.num (if b = true then 1 else 0))
  | .int i => some (.num i)
  | .str x => some (.text x)
  | .tup xs => (toNs xs).map .tup
  | .ty _ => none
  | .gl _ => none
  | .lst _ => none
  | .obj _ => none
  | .scr _ => none
  | .ins _ _ _ => none
  | .dct _ _ => none
def toNs : List MV → Option (List NestedKey)
  | [] => some []
  | x :: xs => (toN x).bind fun d => (toNs xs).map (d :: ·)
end
/-- a dict whose keys are tuples -/
def DN (P : Program) (w : World) (a : Addr) (es : List (NestedKey × Addr × V)) (h : Heap) : Prop :=
  (a == sysModules) = false ∧ es.length ≤ sizeLine ∧ ∃ xs : List (NestedKey × Addr × Value), Paired (fun (p : NestedKey × Addr × V) (q : NestedKey × Addr × Value) => p.1 = q.1 ∧ p.2.1 = q.2.1 ∧ RelV p.2.2 q.2.2) es xs ∧
    ∃ o es' ep, h.get? a = some o ∧ o.ExactDict ∧ o.data = .dict es' ep ∧ es'.toList = xs.map (entryOfKey (nestedKind P w)) ∧ (xs.map (·.1)).Nodup
abbrev DNO (G : Gm) (a : Addr) (es : List (NestedKey × Addr × V)) : HO := .ext (DN G.P G.w a es)
theorem nc_DNO {G : Gm} {a : Addr} {es : List (NestedKey × Addr × V)} : NCo (DNO G a es) := nc_ext (a := a) fun hp o vs h e d => by
  obtain ⟨_, _, xs, _, o', es', ep, e', _, d', _⟩ := h
  rw [e] at e'; cases e'
  rw [d] at d'; cases d'
def FzO (A : Ad) (H : Hp) (a : Addr) (o : HO) : Prop := Rd H a o ∧ NT o ∧ ¬ A.has a
/-- an instance that stands outside the store -/
def FzI (A : Ad) (H : Hp) (a : Addr) (o : HO) : Prop := H a = some o ∧ NT o ∧ ¬ A.has a

/-- a list (a tuple) that is read by value: tracked outside the store, or written -/
def FzL (G : Gm) (A : Ad) (H : Hp) (a : Addr) (xs : List V) : Prop := (Rd H a (.lst xs) ∧ ¬ A.has a) ∨ SqL G.K (fun _ => none) a xs
def FzT (G : Gm) (A : Ad) (H : Hp) (a : Addr) (xs : List V) : Prop := (Rd H a (.tup xs) ∧ ¬ A.has a) ∨ SqT G.K (fun _ => none) a xs
theorem rd_empty {a : Addr} {u : HO} (h : Rd (fun _ => none) a u) : False := by
  rcases h with h | ⟨_, h⟩ <;> cases h
theorem FzL.sq {G : Gm} {A : Ad} {H : Hp} {a : Addr} {xs : List V} (h : FzL G A H a xs) : SqL G.K H a xs := by
  rcases h with h | h
  · exact .inl h.1
  · rcases h with h | h
    · exact (rd_empty h).elim
    · exact .inr h
theorem FzT.sq {G : Gm} {A : Ad} {H : Hp} {a : Addr} {xs : List V} (h : FzT G A H a xs) : SqT G.K H a xs := by
  rcases h with h | h
  · exact .inl h.1
  · rcases h with h | h
    · exact (rd_empty h).elim
    · exact .inr h

mutual
inductive Rep (G : Gm) (A : Ad) (H : Hp) : V → MV → Prop
  | non : Rep G A H .non .non
  | bl (b : Bool) : Rep G A H (.bl b) (.bl b)
  | int (i : Int) : Rep G A H (.int i) (.int i)
  | str (s : Str) : Rep G A H (.str s) (.str s)
  | ty (n : String) : Rep G A H (.ty n) (.ty n)
  | gl {x : Str} {f : Addr} : G.mg x = some (.ref f) → Rep G A H (.ref f) (.gl x)
  | tup {a : Addr} {vs : List V} {ms : List MV} : FzT G A H a vs → RepAll G A H vs ms → Rep G A H (.ref a) (.tup ms)
  | lst {a : Addr} {vs : List V} {ms : List MV} : H a = some (.lst vs) → ¬ A.has a → RepAll G A H vs ms → Rep G A H (.ref a) (.lst ms)
  | obj {a : Addr} {k : Nat} : A.ix[k]? = some a → Rep G A H (.ref a) (.obj k)
  | scr {a : Addr} {ns : List Int} : FzL G A H a (ns.map V.int) → Rep G A H (.ref a) (.scr ns)
  | ins {a C dx : Addr} {c : Str} {ns : List Str} {vs : List V} {ms : List MV} : G.mg c = some (.ref C) → FzI A H a (.ins C dx (ns.zip vs)) → ns.length = ms.length → RepAll G A H vs ms → Rep G A H (.ref a) (.ins c ns ms)
  | dctL {a : Addr} {kvs : List (L2.Key × V)} {ks ms : List MV} : FzO A H a (.dK kvs) → ks = kvs.map (fun p => keyM p.1) → RepAll G A H (kvs.map (·.2)) ms → Rep G A H (.ref a) (.dct ks ms)
  | dctN {a : Addr} {es : List (NestedKey × Addr × V)} {ks ms : List MV} : FzO A H a (DNO G a es) → es ≠ [] → toNs ks = some (es.map (·.1)) → RepAll G A H (es.map fun e => V.ref e.2.1) ks → RepAll G A H (es.map (·.2.2)) ms → Rep G A H (.ref a) (.dct ks ms)
inductive RepAll (G : Gm) (A : Ad) (H : Hp) : List V → List MV → Prop
  | nil : RepAll G A H [] []
  | cons {v : V} {vs : List V} {m : MV} {ms : List MV} : Rep G A H v m → RepAll G A H vs ms → RepAll G A H (v :: vs) (m :: ms)
end

inductive ObjR (G : Gm) (A : Ad) (H : Hp) (a : Addr) : MO → Prop
  | lst {vs : List V} {ms : List MV} : H a = some (.lst vs) → RepAll G A H vs ms → ObjR G A H a (.lst ms)
  | ins {C dx : Addr} {c : Str} {ns : List Str} {vs : List V} {ms : List MV} : G.mg c = some (.ref C) → H a = some (.ins C dx (ns.zip vs)) → ns.length = ms.length → RepAll G A H vs ms → ObjR G A H a (.ins c ns ms)
  | dctL {kvs : List (L2.Key × V)} {ks ms : List MV} : H a = some (.dK kvs) → ks = kvs.map (fun p => keyM p.1) → RepAll G A H (kvs.map (·.2)) ms → ObjR G A H a (.dict ks ms)
  | dctN {es : List (NestedKey × Addr × V)} {ks ms : List MV} : H a = some (DNO G a es) → es ≠ [] → toNs ks = some (es.map (·.1)) → RepAll G A H (es.map fun e => V.ref e.2.1) ks → RepAll G A H (es.map (·.2.2)) ms → ObjR G A H a (.dict ks ms)

/-- the store stands in the heap, its k-th object at A.ix[k] -/
structure SR (G : Gm) (A : Ad) (H : Hp) (st : Sto) : Prop where
  len : A.ix.length = st.length
  nd : (A.ix ++ A.fn).Nodup
  ob : ∀ (k : Nat) (a : Addr) (o : MO), A.ix[k]? = some a → st[k]? = some o → ObjR G A H a o
  ft : ∀ b, b ∈ A.fn → ∃ o, H b = some o ∧ NCo o
  tb : LamX.Tabs G.T H
  js : G.j.J A H
theorem SR.at {G : Gm} {A : Ad} {H : Hp} {st : Sto} (s : SR G A H st) {k : Nat} {o : MO} (h : st[k]? = some o) : ∃ a, A.ix[k]? = some a ∧ ObjR G A H a o := by
  have h1 : k < A.ix.length := by rw [s.len]; exact (List.getElem?_eq_some_iff.mp h).1
  exact ⟨A.ix[k], List.getElem?_eq_getElem h1, s.ob k _ o (List.getElem?_eq_getElem h1) h⟩
theorem SR.tracked {G : Gm} {A : Ad} {H : Hp} {st : Sto} (s : SR G A H st) {a : Addr} (h : A.has a) : ∃ o, H a = some o ∧ NCo o := by
  rcases h with h | h
  · obtain ⟨k, hk, e⟩ := List.mem_iff_getElem.mp h
    have h2 : k < st.length := by rw [← s.len]; exact hk
    have q := s.ob k a (st[k]) (by rw [List.getElem?_eq_getElem hk, e]) (List.getElem?_eq_getElem h2)
    generalize st[k] = o at q
    cases q with
    | lst h _ => exact ⟨_, h, nc_lst⟩
    | ins _ h _ _ => exact ⟨_, h, nc_ins⟩
    | dctL h _ _ => exact ⟨_, h, nc_dK⟩
    | dctN h _ _ _ _ => exact ⟨_, h, nc_DNO⟩
  · exact s.ft a h
/-- the tables stand where neither a table nor a code object is changed -/
theorem tabs_upd {T : List (Addr × Str)} {H : Hp} {a : Addr} {o' : HO} (t : LamX.Tabs T H) (h : ∀ o, H a = some o → NCo o) : LamX.Tabs T (upd H a o') := fun p hp => by
  obtain ⟨ps, h1, h2, h3⟩ := t p hp
  refine ⟨ps, by rw [upd_ne (fun z => (h _ (by rw [← z]; exact h1)).1 ps rfl)]; exact h1, h2, fun pos cv hc => ?_⟩
  obtain ⟨c, e1, e2⟩ := h3 pos cv hc
  exact ⟨c, e1, by rw [upd_ne (fun z => (h _ (by rw [← z]; exact e2)).2 c p.2 rfl)]; exact e2⟩
theorem SR.new_out {G : Gm} {A : Ad} {H : Hp} {st : Sto} (s : SR G A H st) {p : Addr} (h : H p = none) : ¬ A.has p := fun m => by
  obtain ⟨o', e, _⟩ := s.tracked m
  rw [h] at e; cases e

theorem Ext.refl (A : Ad) (H : Hp) : Ext A H A H := ⟨⟨[], by simp⟩, rfl, rfl, fun _ _ _ h _ => h, fun _ h => .inl h, fun _ _ => rfl⟩
theorem Ext.at {A A' : Ad} {H H' : Hp} (e : Ext A H A' H') {k : Nat} {a : Addr} (h : A.ix[k]? = some a) : A'.ix[k]? = some a := by
  obtain ⟨B, q⟩ := e.pre
  rw [q, List.getElem?_append_left (List.getElem?_eq_some_iff.mp h).1]
  exact h
theorem Ext.out {A A' : Ad} {H H' : Hp} (e : Ext A H A' H') {a : Addr} {o : HO} (h : H a = some o) (n : ¬ A.has a) (t : NT o) : ¬ A'.has a := fun m => by
  rcases e.new a m with z | z
  · exact n z
  · exact z o h t
theorem Ext.trans {A A1 A2 : Ad} {H H1 H2 : Hp} (a : Ext A H A1 H1) (b : Ext A1 H1 A2 H2) : Ext A H A2 H2 where
  pre := by
    obtain ⟨B, q⟩ := a.pre
    obtain ⟨C, q'⟩ := b.pre
    exact ⟨B ++ C, by rw [q', q]; simp⟩
  fen := b.fen.trans a.fen
  xsk := b.xsk.trans a.xsk
  keep := fun c o n h t => b.keep c o (a.out h n t) (a.keep c o n h t) t
  new := fun p m => by
    rcases b.new p m with z | z
    · exact a.new p z
    · by_cases hp : A.has p
      · exact .inl hp
      · exact .inr fun o q t => z o (a.keep p o hp q t) t
  fk := fun c m => (b.fk c (by rw [a.fen]; exact m)).trans (a.fk c m)
/-- later, with more fences perhaps -/
structure ExtW (A : Ad) (H : Hp) (A' : Ad) (H' : Hp) : Prop where
  pre : ∃ B, A'.ix = A.ix ++ B
  keep : ∀ b o, ¬ A.has b → H b = some o → NT o → H' b = some o
  out : ∀ b o, H b = some o → ¬ A.has b → NT o → ¬ A'.has b
theorem Ext.w {A A' : Ad} {H H' : Hp} (e : Ext A H A' H') : ExtW A H A' H' := ⟨e.pre, e.keep, fun _ _ h n t => e.out h n t⟩
theorem ExtW.at {A A' : Ad} {H H' : Hp} (e : ExtW A H A' H') {k : Nat} {a : Addr} (h : A.ix[k]? = some a) : A'.ix[k]? = some a := by
  obtain ⟨B, q⟩ := e.pre
  rw [q, List.getElem?_append_left (List.getElem?_eq_some_iff.mp h).1]
  exact h
theorem ExtW.trans {A A1 A2 : Ad} {H H1 H2 : Hp} (a : ExtW A H A1 H1) (b : ExtW A1 H1 A2 H2) : ExtW A H A2 H2 where
  pre := by
    obtain ⟨B, q⟩ := a.pre
    obtain ⟨C, q'⟩ := b.pre
    exact ⟨B ++ C, by rw [q', q]; simp⟩
  keep := fun c o n h t => b.keep c o (a.out _ _ h n t) (a.keep c o n h t) t
  out := fun c o h n t => b.out c o (a.keep c o n h t) (a.out c o h n t) t
theorem none_no {H : Hp} {p : Addr} (h : H p = none) : ∀ o, H p = some o → NT o → False := fun o e _ => by rw [h] at e; cases e
theorem ExtW.fence {A A' : Ad} {H H' : Hp} {d : Addr} (e : ExtW A H A' H') (hd : H d = none) : ExtW A H (A'.fence d) H' :=
  ⟨e.pre, e.keep, fun b o h n t m => by
    rcases m with m | m
    · exact e.out b o h n t (.inl m)
    · rcases List.mem_cons.mp m with m | m
      · rw [m, hd] at h; cases h
      · exact e.out b o h n t (.inr m)⟩
/-- what a frame's slots need, at any later time -/
def relJ (A0 : Ad) (H0 : Hp) : JP where
  J := ExtW A0 H0
  ext := fun j e => j.trans e.w
  fence := fun {A H d o} j hd => ⟨j.pre, fun b u n h t => by rw [upd_ne (fun z => by rw [← z, j.keep b u n h t] at hd; cases hd)]; exact j.keep b u n h t, fun b u h n t m => by
    rcases m with m | m
    · exact j.out b u h n t (.inl m)
    · rcases List.mem_cons.mp m with m | m
      · rw [← m, j.keep b u n h t] at hd; cases hd
      · exact j.out b u h n t (.inr m)⟩
  unfence := fun {A H d} j => ⟨j.pre, j.keep, fun b u h n t m => j.out b u h n t (m.elim .inl fun z => .inr (List.mem_cons_of_mem _ z))⟩
  grow := fun {A H d o} j => ⟨j.pre, fun b u n h t => by rw [upd_ne (fun z => j.out b u h n t (.inr (by rw [z]; exact List.mem_cons_self)))]; exact j.keep b u n h t, j.out⟩
  adopt := fun {A H d} j => ⟨by
      obtain ⟨B, q⟩ := j.pre
      exact ⟨B ++ [d], by
        have q : A.ix = A0.ix ++ B := q
        show A.ix ++ [d] = _
        rw [q]; simp⟩, j.keep, fun b u h n t m => j.out b u h n t (by
      rcases m with m | m
      · rcases List.mem_append.mp m with m | m
        · exact .inl m
        · exact .inr (by rw [List.mem_singleton.mp m]; exact List.mem_cons_self)
      · exact .inr (List.mem_cons_of_mem _ m))⟩
  cut := fun {A1 H1 A H k} j e hk => ⟨by
      obtain ⟨B, q⟩ := j.pre
      obtain ⟨C, q2⟩ := e.pre
      exact ⟨B, by show A.ix.take k = _; rw [q2, ← hk, List.take_left, q]⟩, (j.trans e.w).keep, fun b u h n t m => (j.trans e.w).out b u h n t (m.imp (fun z => List.mem_of_mem_take z) id)⟩
  sx := fun {A H b} j => ⟨j.pre, j.keep, j.out⟩
/-- a new object that the store does not hold -/
theorem Ext.laid {G : Gm} {A : Ad} {H : Hp} {st : Sto} {p : Addr} {o : HO} (s : SR G A H st) (h : H p = none) : Ext A H A (upd H p o) :=
  ⟨⟨[], by simp⟩, rfl, rfl, fun b u _ e _ => by rw [upd_ne (ne_of_none e h)]; exact e, fun _ m => .inl m, fun b m => upd_ne fun z => (by
    obtain ⟨u, e, _⟩ := s.ft b m
    rw [z, h] at e; cases e)⟩
/-- a new object of the store -/
theorem Ext.made {G : Gm} {A : Ad} {H : Hp} {st : Sto} {p : Addr} {o : HO} (s : SR G A H st) (h : H p = none) : Ext A H (A.more p) (upd H p o) :=
  ⟨⟨[p], rfl⟩, rfl, rfl, fun b u _ e _ => by rw [upd_ne (ne_of_none e h)]; exact e, fun q m => by
    rcases m with m | m
    · rcases List.mem_append.mp m with m | m
      · exact .inl (.inl m)
      · rw [List.mem_singleton.mp m]; exact .inr (none_no h)
    · exact .inl (.inr m), fun b m => upd_ne fun z => (by
    obtain ⟨u, e, _⟩ := s.ft b m
    rw [z, h] at e; cases e)⟩
/-- an object of the store is changed -/
theorem Ext.set {G : Gm} {A : Ad} {H : Hp} {st : Sto} {p : Addr} {o : HO} (s : SR G A H st) (h : p ∈ A.ix) : Ext A H A (upd H p o) :=
  ⟨⟨[], by simp⟩, rfl, rfl, fun b u n e _ => by rw [upd_ne (fun z => n (by rw [z]; exact .inl h))]; exact e, fun _ m => .inl m, fun b m => upd_ne fun z => (by
    subst z
    exact (List.nodup_append.mp s.nd).2.2 b h b m rfl)⟩

section
variable {G : Gm} {A A' : Ad} {H H' : Hp}
theorem FzL.extW {a : Addr} {xs : List V} (e : ExtW A H A' H') (h : FzL G A H a xs) : FzL G A' H' a xs := by
  rcases h with ⟨h, n⟩ | h
  · rcases h with h | ⟨o, h⟩
    · exact .inl ⟨.inl (e.keep a _ n h nt_lst), e.out _ _ h n nt_lst⟩
    · exact .inl ⟨.inr ⟨o, e.keep a _ n h nt_frz⟩, e.out _ _ h n nt_frz⟩
  · exact .inr h
theorem FzT.extW {a : Addr} {xs : List V} (e : ExtW A H A' H') (h : FzT G A H a xs) : FzT G A' H' a xs := by
  rcases h with ⟨h, n⟩ | h
  · rcases h with h | ⟨o, h⟩
    · exact .inl ⟨.inl (e.keep a _ n h nt_tup), e.out _ _ h n nt_tup⟩
    · exact .inl ⟨.inr ⟨o, e.keep a _ n h nt_frz⟩, e.out _ _ h n nt_frz⟩
  · exact .inr h
theorem FzO.extW {a : Addr} {o : HO} (e : ExtW A H A' H') (h : FzO A H a o) : FzO A' H' a o := by
  rcases h with ⟨h | ⟨o, h⟩, t, n⟩
  · exact ⟨.inl (e.keep a _ n h t), t, e.out _ _ h n t⟩
  · exact ⟨.inr ⟨o, e.keep a _ n h nt_frz⟩, t, e.out _ _ h n nt_frz⟩
theorem FzI.extW {a : Addr} {o : HO} (e : ExtW A H A' H') (h : FzI A H a o) : FzI A' H' a o := ⟨e.keep a _ h.2.2 h.1 h.2.1, h.2.1, e.out _ _ h.1 h.2.2 h.2.1⟩
mutual
theorem Rep.extW (e : ExtW A H A' H') : ∀ {v : V} {m : MV}, Rep G A H v m → Rep G A' H' v m
  | _, _, .non => .non
  | _, _, .bl b => .bl b
  | _, _, .int i => .int i
  | _, _, .str s => .str s
  | _, _, .ty n => .ty n
  | _, _, .gl h => .gl h
  | _, _, .tup h r => .tup (h.extW e) (RepAll.extW e r)
  | _, _, .lst h n r => .lst (e.keep _ _ n h nt_lst) (e.out _ _ h n nt_lst) (RepAll.extW e r)
  | _, _, .obj h => .obj (e.at h)
  | _, _, .scr h => .scr (h.extW e)
  | _, _, .ins c h l r => .ins c (h.extW e) l (RepAll.extW e r)
  | _, _, .dctL h k r => .dctL (h.extW e) k (RepAll.extW e r)
  | _, _, .dctN h ne k r q => .dctN (h.extW e) ne k (RepAll.extW e r) (RepAll.extW e q)
theorem RepAll.extW (e : ExtW A H A' H') : ∀ {vs : List V} {ms : List MV}, RepAll G A H vs ms → RepAll G A' H' vs ms
  | _, _, .nil => .nil
  | _, _, .cons r rs => .cons (Rep.extW e r) (RepAll.extW e rs)
end
theorem FzL.ext {a : Addr} {xs : List V} (e : Ext A H A' H') (h : FzL G A H a xs) : FzL G A' H' a xs := h.extW e.w
theorem FzT.ext {a : Addr} {xs : List V} (e : Ext A H A' H') (h : FzT G A H a xs) : FzT G A' H' a xs := h.extW e.w
theorem Rep.ext (e : Ext A H A' H') {v : V} {m : MV} (h : Rep G A H v m) : Rep G A' H' v m := h.extW e.w
theorem RepAll.ext (e : Ext A H A' H') {vs : List V} {ms : List MV} (h : RepAll G A H vs ms) : RepAll G A' H' vs ms := h.extW e.w
theorem RepAll.length {vs : List V} {ms : List MV} : RepAll G A H vs ms → vs.length = ms.length := by
  intro h
  induction vs generalizing ms with
  | nil => cases h; rfl
  | cons v vs ih =>
    cases h with
    | cons r rs => rw [List.length_cons, List.length_cons, ih rs]
theorem RepAll.append {vs vs' : List V} {ms ms' : List MV} (h : RepAll G A H vs ms) (h' : RepAll G A H vs' ms') : RepAll G A H (vs ++ vs') (ms ++ ms') := by
  induction vs generalizing ms with
  | nil => cases h; exact h'
  | cons v vs ih =>
    cases h with
    | cons r rs => exact .cons r (ih rs)
theorem RepAll.at {vs : List V} {ms : List MV} (h : RepAll G A H vs ms) {i : Nat} {m : MV} (hm : ms[i]? = some m) : ∃ v, vs[i]? = some v ∧ Rep G A H v m := by
  induction vs generalizing ms i with
  | nil => cases h; simp at hm
  | cons v vs ih =>
    cases h with
    | cons r rs =>
      cases i with
      | zero => simp at hm; subst hm; exact ⟨v, rfl, r⟩
      | succ i => simpa using ih rs (i := i) (by simpa using hm)
theorem RepAll.at' {vs : List V} {ms : List MV} (h : RepAll G A H vs ms) {i : Nat} {v : V} (hv : vs[i]? = some v) : ∃ m, ms[i]? = some m ∧ Rep G A H v m := by
  have hl := h.length
  have h1 : i < ms.length := by rw [← hl]; exact (List.getElem?_eq_some_iff.mp hv).1
  obtain ⟨v', e, r⟩ := h.at (List.getElem?_eq_getElem h1)
  rw [hv] at e; cases e
  exact ⟨_, List.getElem?_eq_getElem h1, r⟩
theorem RepAll.take {vs : List V} {ms : List MV} (h : RepAll G A H vs ms) (n : Nat) : RepAll G A H (vs.take n) (ms.take n) := by
  induction vs generalizing ms n with
  | nil => cases h; simp; exact .nil
  | cons v vs ih =>
    cases h with
    | cons r rs =>
      cases n with
      | zero => exact .nil
      | succ n => exact .cons r (ih rs n)
theorem RepAll.drop {vs : List V} {ms : List MV} (h : RepAll G A H vs ms) (n : Nat) : RepAll G A H (vs.drop n) (ms.drop n) := by
  induction vs generalizing ms n with
  | nil => cases h; simp; exact .nil
  | cons v vs ih =>
    cases h with
    | cons r rs =>
      cases n with
      | zero => exact .cons r rs
      | succ n => exact ih rs n
theorem RepAll.set {vs : List V} {ms : List MV} (h : RepAll G A H vs ms) (n : Nat) {v : V} {m : MV} (r : Rep G A H v m) : RepAll G A H (vs.set n v) (ms.set n m) := by
  induction vs generalizing ms n with
  | nil => cases h; simp; exact .nil
  | cons w vs ih =>
    cases h with
    | cons r' rs =>
      cases n with
      | zero => exact .cons r rs
      | succ n => exact .cons r' (ih rs n)
theorem RepAll.map_of {α : Type} {f : α → V} {g : α → MV} (h : ∀ a, Rep G A H (f a) (g a)) : ∀ l : List α, RepAll G A H (l.map f) (l.map g)
  | [] => .nil
  | a :: l => .cons (h a) (RepAll.map_of h l)
theorem RepAll.repl {v : V} {m : MV} (r : Rep G A H v m) : ∀ n : Nat, RepAll G A H (List.replicate n v) (List.replicate n m)
  | 0 => .nil
  | n + 1 => .cons r (RepAll.repl r n)
theorem ObjR.ext_other {a : Addr} {o : MO} (e : Ext A H A' H') (h : ObjR G A H a o) (k : H' a = H a) : ObjR G A' H' a o := by
  cases h with
  | lst h r => exact .lst (k.trans h) (r.ext e)
  | ins c h l r => exact .ins c (k.trans h) l (r.ext e)
  | dctL h z r => exact .dctL (k.trans h) z (r.ext e)
  | dctN h ne z r q => exact .dctN (k.trans h) ne z (r.ext e) (q.ext e)

/-- the store in the heap, one more object not of the store laid -/
theorem SR.ext_same {st : Sto} (s : SR G A H st) (e : Ext A H A H') (k : ∀ a ∈ A.ix, H' a = H a) (t : LamX.Tabs G.T H') : SR G A H' st :=
  ⟨s.len, s.nd, fun i a o ha ho => (s.ob i a o ha ho).ext_other e (k a (List.mem_of_getElem? ha)), fun b m => by rw [e.fk b m]; exact s.ft b m, t, G.j.ext s.js e⟩
theorem SR.laid {st : Sto} (s : SR G A H st) {p : Addr} {o : HO} (h : H p = none) : SR G A (upd H p o) st :=
  s.ext_same (Ext.laid s h) (fun a ha => upd_ne fun z => by
    obtain ⟨o', e, _⟩ := s.tracked (.inl ha)
    rw [z, h] at e; cases e) (tabs_upd s.tb fun _ e => by rw [h] at e; cases e)
/-- a new object of the store -/
theorem SR.madeO {st : Sto} (s : SR G A H st) {p : Addr} {hob : HO} {mo : MO} (h : H p = none) (r : ObjR G (A.more p) (upd H p hob) p mo) : SR G (A.more p) (upd H p hob) (st ++ [mo]) where
  len := by simp [s.len]
  nd := by
    have h1 := List.nodup_append.mp s.nd
    have hp := s.new_out h
    show ((A.ix ++ [p]) ++ A.fn).Nodup
    rw [List.nodup_append]
    refine ⟨?_, h1.2.1, fun a ha b hb e => ?_⟩
    · rw [List.nodup_append]
      refine ⟨h1.1, by simp, fun a ha b hb e => ?_⟩
      rw [List.mem_singleton.mp hb] at e
      subst e
      exact hp (.inl ha)
    · subst e
      rcases List.mem_append.mp ha with ha | ha
      · exact h1.2.2 a ha a hb rfl
      · rw [List.mem_singleton.mp ha] at hb
        exact hp (.inr hb)
  ob := fun k a o ha ho => by
    have e : Ext A H (A.more p) (upd H p hob) := Ext.made s h
    have ha : (A.ix ++ [p])[k]? = some a := ha
    by_cases hk : k < A.ix.length
    · rw [List.getElem?_append_left hk] at ha
      rw [List.getElem?_append_left (by rw [← s.len]; exact hk)] at ho
      refine (s.ob k a o ha ho).ext_other e (upd_ne fun z => ?_)
      exact s.new_out h (.inl (by rw [← z]; exact List.mem_of_getElem? ha))
    · have hk' : k = A.ix.length := by
        have := (List.getElem?_eq_some_iff.mp ha).1
        simp at this
        omega
      subst hk'
      simp at ha
      rw [s.len] at ho
      simp at ho
      subst ha
      subst ho
      exact r
  ft := fun b m => by
    obtain ⟨o, e, n⟩ := s.ft b m
    exact ⟨o, by rw [upd_ne (fun z => by rw [z, h] at e; cases e)]; exact e, n⟩
  tb := tabs_upd s.tb fun _ e => by rw [h] at e; cases e
  js := G.j.ext s.js (Ext.made s h)
/-- a new list of the store -/
theorem SR.made {st : Sto} (s : SR G A H st) {p : Addr} {vs : List V} {ms : List MV} (h : H p = none) (r : RepAll G A H vs ms) : SR G (A.more p) (upd H p (.lst vs)) (st ++ [.lst ms]) :=
  s.madeO h (.lst upd_same (r.ext (Ext.made s h)))
theorem SR.obj_ne {st : Sto} (s : SR G A H st) {i j : Nat} {a : Addr} (h : A.ix[i]? = some a) (h' : A.ix[j]? = some a) : i = j := by
  obtain ⟨h1, e1⟩ := List.getElem?_eq_some_iff.mp h
  obtain ⟨h2, e2⟩ := List.getElem?_eq_some_iff.mp h'
  exact (List.getElem_inj (List.nodup_append.mp s.nd).1).mp (e1.trans e2.symm)
/-- an object of the store changed -/
theorem SR.setO {st : Sto} (s : SR G A H st) {k : Nat} {a : Addr} {hob : HO} {mo : MO} (h : A.ix[k]? = some a) (r : ObjR G A (upd H a hob) a mo) : SR G A (upd H a hob) (st.set k mo) where
  len := by simp [s.len]
  nd := s.nd
  ob := fun j b o hb ho => by
    have e : Ext A H A (upd H a hob) := Ext.set s (List.mem_of_getElem? h)
    by_cases hj : j = k
    · subst hj
      rw [h] at hb; cases hb
      have hl : j < st.length := by rw [← s.len]; exact (List.getElem?_eq_some_iff.mp h).1
      rw [List.getElem?_set_self hl] at ho
      cases ho
      exact r
    · rw [List.getElem?_set_ne (Ne.symm hj)] at ho
      exact (s.ob j b o hb ho).ext_other e (upd_ne fun z => hj (s.obj_ne (by rw [← z]; exact hb) h))
  ft := fun b m => by
    obtain ⟨o, e, n⟩ := s.ft b m
    exact ⟨o, by rw [(Ext.set (o := hob) s (List.mem_of_getElem? h)).fk b m]; exact e, n⟩
  tb := tabs_upd s.tb fun o e => by
    obtain ⟨o', e', n⟩ := s.tracked (a := a) (.inl (List.mem_of_getElem? h))
    rw [e] at e'; cases e'; exact n
  js := G.j.ext s.js (Ext.set s (List.mem_of_getElem? h))
/-- a list of the store changed -/
theorem SR.set {st : Sto} (s : SR G A H st) {k : Nat} {a : Addr} {vs : List V} {ms : List MV} (h : A.ix[k]? = some a) (r : RepAll G A H vs ms) : SR G A (upd H a (.lst vs)) (st.set k (.lst ms)) :=
  s.setO h (.lst upd_same (r.ext (Ext.set s (List.mem_of_getElem? h))))
/-! ### the fence: a list that is being made -/
theorem FzL.fence {d a : Addr} {xs : List V} (h : FzL G A H a xs) (hd : H d = none) (k : ∀ b o, b ≠ d → H b = some o → H' b = some o) : FzL G (A.fence d) H' a xs := by
  have ne : ∀ o, H a = some o → a ≠ d := fun o e z => by rw [z, hd] at e; cases e
  have no : ∀ o, H a = some o → ¬ A.has a → ¬ (A.fence d).has a := fun o e n m => by
    rcases m with m | m
    · exact n (.inl m)
    · rcases List.mem_cons.mp m with m | m
      · exact ne o e m
      · exact n (.inr m)
  rcases h with ⟨h | ⟨o, h⟩, n⟩ | h
  · exact .inl ⟨.inl (k a _ (ne _ h) h), no _ h n⟩
  · exact .inl ⟨.inr ⟨o, k a _ (ne _ h) h⟩, no _ h n⟩
  · exact .inr h
theorem FzT.fence {d a : Addr} {xs : List V} (h : FzT G A H a xs) (hd : H d = none) (k : ∀ b o, b ≠ d → H b = some o → H' b = some o) : FzT G (A.fence d) H' a xs := by
  have ne : ∀ o, H a = some o → a ≠ d := fun o e z => by rw [z, hd] at e; cases e
  have no : ∀ o, H a = some o → ¬ A.has a → ¬ (A.fence d).has a := fun o e n m => by
    rcases m with m | m
    · exact n (.inl m)
    · rcases List.mem_cons.mp m with m | m
      · exact ne o e m
      · exact n (.inr m)
  rcases h with ⟨h | ⟨o, h⟩, n⟩ | h
  · exact .inl ⟨.inl (k a _ (ne _ h) h), no _ h n⟩
  · exact .inl ⟨.inr ⟨o, k a _ (ne _ h) h⟩, no _ h n⟩
  · exact .inr h
theorem FzO.fence {d a : Addr} {u : HO} (h : FzO A H a u) (hd : H d = none) (k : ∀ b o, b ≠ d → H b = some o → H' b = some o) : FzO (A.fence d) H' a u := by
  have ne : ∀ o, H a = some o → a ≠ d := fun o e z => by rw [z, hd] at e; cases e
  have no : ∀ o, H a = some o → ¬ A.has a → ¬ (A.fence d).has a := fun o e n m => by
    rcases m with m | m
    · exact n (.inl m)
    · rcases List.mem_cons.mp m with m | m
      · exact ne o e m
      · exact n (.inr m)
  rcases h with ⟨h | ⟨o, h⟩, t, n⟩
  · exact ⟨.inl (k a _ (ne _ h) h), t, no _ h n⟩
  · exact ⟨.inr ⟨o, k a _ (ne _ h) h⟩, t, no _ h n⟩
theorem FzI.fence {d a : Addr} {u : HO} (h : FzI A H a u) (hd : H d = none) (k : ∀ b o, b ≠ d → H b = some o → H' b = some o) : FzI (A.fence d) H' a u := by
  have ne : a ≠ d := fun z => by rw [FzI, z, hd] at h; cases h.1
  exact ⟨k a _ ne h.1, h.2.1, fun m => by
    rcases m with m | m
    · exact h.2.2 (.inl m)
    · rcases List.mem_cons.mp m with m | m
      · exact ne m
      · exact h.2.2 (.inr m)⟩
section
variable {d : Addr} (hd : H d = none) (k : ∀ b o, b ≠ d → H b = some o → H' b = some o)
include hd k
mutual
theorem Rep.fence : ∀ {v : V} {m : MV}, Rep G A H v m → Rep G (A.fence d) H' v m
  | _, _, .non => .non
  | _, _, .bl b => .bl b
  | _, _, .int i => .int i
  | _, _, .str s => .str s
  | _, _, .ty n => .ty n
  | _, _, .gl h => .gl h
  | _, _, .tup h r => .tup (h.fence hd k) (RepAll.fence r)
  | _, _, @Rep.lst _ _ _ a vs ms h n r => .lst (k a _ (fun z => by rw [z, hd] at h; cases h) h) (fun m => by
      rcases m with m | m
      · exact n (.inl m)
      · rcases List.mem_cons.mp m with m | m
        · rw [m, hd] at h; cases h
        · exact n (.inr m)) (RepAll.fence r)
  | _, _, .obj h => .obj h
  | _, _, .scr h => .scr (h.fence hd k)
  | _, _, .ins c h l r => .ins c (h.fence hd k) l (RepAll.fence r)
  | _, _, .dctL h z r => .dctL (h.fence hd k) z (RepAll.fence r)
  | _, _, .dctN h ne z r q => .dctN (h.fence hd k) ne z (RepAll.fence r) (RepAll.fence q)
theorem RepAll.fence : ∀ {vs : List V} {ms : List MV}, RepAll G A H vs ms → RepAll G (A.fence d) H' vs ms
  | _, _, .nil => .nil
  | _, _, .cons r rs => .cons (Rep.fence r) (RepAll.fence rs)
end
end
/-- the fence goes -/
theorem FzL.unfence {d a : Addr} {xs : List V} (h : FzL G (A.fence d) H a xs) : FzL G A H a xs := by
  rcases h with ⟨h, n⟩ | h
  · exact .inl ⟨h, fun m => n (m.elim .inl fun z => .inr (List.mem_cons_of_mem _ z))⟩
  · exact .inr h
theorem FzT.unfence {d a : Addr} {xs : List V} (h : FzT G (A.fence d) H a xs) : FzT G A H a xs := by
  rcases h with ⟨h, n⟩ | h
  · exact .inl ⟨h, fun m => n (m.elim .inl fun z => .inr (List.mem_cons_of_mem _ z))⟩
  · exact .inr h
theorem FzO.unfence {d a : Addr} {u : HO} (h : FzO (A.fence d) H a u) : FzO A H a u := ⟨h.1, h.2.1, fun m => h.2.2 (m.elim .inl fun z => .inr (List.mem_cons_of_mem _ z))⟩
theorem FzI.unfence {d a : Addr} {u : HO} (h : FzI (A.fence d) H a u) : FzI A H a u := ⟨h.1, h.2.1, fun m => h.2.2 (m.elim .inl fun z => .inr (List.mem_cons_of_mem _ z))⟩
mutual
theorem Rep.unfence {d : Addr} : ∀ {v : V} {m : MV}, Rep G (A.fence d) H v m → Rep G A H v m
  | _, _, .non => .non
  | _, _, .bl b => .bl b
  | _, _, .int i => .int i
  | _, _, .str s => .str s
  | _, _, .ty n => .ty n
  | _, _, .gl h => .gl h
  | _, _, .tup h r => .tup h.unfence (RepAll.unfence r)
  | _, _, .lst h n r => .lst h (fun m => n (m.elim .inl fun z => .inr (List.mem_cons_of_mem _ z))) (RepAll.unfence r)
  | _, _, .obj h => .obj h
  | _, _, .scr h => .scr h.unfence
  | _, _, .ins c h l r => .ins c h.unfence l (RepAll.unfence r)
  | _, _, .dctL h z r => .dctL h.unfence z (RepAll.unfence r)
  | _, _, .dctN h ne z r q => .dctN h.unfence ne z (RepAll.unfence r) (RepAll.unfence q)
theorem RepAll.unfence {d : Addr} : ∀ {vs : List V} {ms : List MV}, RepAll G (A.fence d) H vs ms → RepAll G A H vs ms
  | _, _, .nil => .nil
  | _, _, .cons r rs => .cons (Rep.unfence r) (RepAll.unfence rs)
end
theorem SR.fence {st : Sto} {d : Addr} (s : SR G A H st) (hd : H d = none) (o : HO) (nc : NCo o) : SR G (A.fence d) (upd H d o) st where
  len := s.len
  nd := by
    have h1 := List.nodup_append.mp s.nd
    have hp := s.new_out hd
    show (A.ix ++ d :: A.fn).Nodup
    rw [List.nodup_append]
    refine ⟨h1.1, List.nodup_cons.mpr ⟨fun m => hp (.inr m), h1.2.1⟩, fun a ha b hb e => ?_⟩
    subst e
    rcases List.mem_cons.mp hb with m | m
    · exact hp (.inl (by rw [← m]; exact ha))
    · exact h1.2.2 a ha a m rfl
  ob := fun i a u ha hu => by
    have q := s.ob i a u ha hu
    have up : ∀ {u : HO}, H a = some u → upd H d o a = some u := fun h => by rw [upd_ne (fun z => by rw [z, hd] at h; cases h)]; exact h
    have fe : ∀ {vs : List V} {ms : List MV}, RepAll G A H vs ms → RepAll G (A.fence d) (upd H d o) vs ms := fun r => r.fence hd fun b o n e => by rw [upd_ne n]; exact e
    cases q with
    | lst h r => exact .lst (up h) (fe r)
    | ins c h l r => exact .ins c (up h) l (fe r)
    | dctL h z r => exact .dctL (up h) z (fe r)
    | dctN h ne z r q => exact .dctN (up h) ne z (fe r) (fe q)
  ft := fun b m => by
    rcases List.mem_cons.mp m with m | m
    · subst m; exact ⟨o, upd_same, nc⟩
    · obtain ⟨u, e, n⟩ := s.ft b m
      exact ⟨u, by rw [upd_ne (fun z => by rw [z, hd] at e; cases e)]; exact e, n⟩
  tb := tabs_upd s.tb fun _ e => by rw [hd] at e; cases e
  js := G.j.fence s.js hd
theorem SR.unfence {st : Sto} {d : Addr} (s : SR G (A.fence d) H st) : SR G A H st where
  len := s.len
  nd := by
    have h1 := List.nodup_append.mp s.nd
    rw [List.nodup_append]
    exact ⟨h1.1, (List.nodup_cons.mp h1.2.1).2, fun a ha b hb e => h1.2.2 a ha b (List.mem_cons_of_mem _ hb) e⟩
  ob := fun i a u ha hu => by
    have q := s.ob i a u ha hu
    cases q with
    | lst h r => exact .lst h r.unfence
    | ins c h l r => exact .ins c h l r.unfence
    | dctL h z r => exact .dctL h z r.unfence
    | dctN h ne z r q => exact .dctN h ne z r.unfence q.unfence
  ft := fun b m => s.ft b (List.mem_cons_of_mem _ m)
  tb := s.tb
  js := G.j.unfence s.js
theorem fence_ne {d a : Addr} (n : ¬ (A.fence d).has a) : a ≠ d := fun z => n (.inr (by rw [z]; exact List.mem_cons_self))
theorem FzL.grow {d a : Addr} {xs : List V} (o : HO) (h : FzL G (A.fence d) H a xs) : FzL G (A.fence d) (upd H d o) a xs := by
  rcases h with ⟨h | ⟨u, h⟩, n⟩ | h
  · exact .inl ⟨.inl (by rw [upd_ne (fence_ne n)]; exact h), n⟩
  · exact .inl ⟨.inr ⟨u, by rw [upd_ne (fence_ne n)]; exact h⟩, n⟩
  · exact .inr h
theorem FzT.grow {d a : Addr} {xs : List V} (o : HO) (h : FzT G (A.fence d) H a xs) : FzT G (A.fence d) (upd H d o) a xs := by
  rcases h with ⟨h | ⟨u, h⟩, n⟩ | h
  · exact .inl ⟨.inl (by rw [upd_ne (fence_ne n)]; exact h), n⟩
  · exact .inl ⟨.inr ⟨u, by rw [upd_ne (fence_ne n)]; exact h⟩, n⟩
  · exact .inr h
theorem FzO.grow {d a : Addr} {u : HO} (o : HO) (h : FzO (A.fence d) H a u) : FzO (A.fence d) (upd H d o) a u := by
  rcases h with ⟨h | ⟨v, h⟩, t, n⟩
  · exact ⟨.inl (by rw [upd_ne (fence_ne n)]; exact h), t, n⟩
  · exact ⟨.inr ⟨v, by rw [upd_ne (fence_ne n)]; exact h⟩, t, n⟩
theorem FzI.grow {d a : Addr} {u : HO} (o : HO) (h : FzI (A.fence d) H a u) : FzI (A.fence d) (upd H d o) a u := ⟨by rw [upd_ne (fence_ne h.2.2)]; exact h.1, h.2.1, h.2.2⟩
mutual
theorem Rep.grow {d : Addr} (o : HO) : ∀ {v : V} {m : MV}, Rep G (A.fence d) H v m → Rep G (A.fence d) (upd H d o) v m
  | _, _, .non => .non
  | _, _, .bl b => .bl b
  | _, _, .int i => .int i
  | _, _, .str s => .str s
  | _, _, .ty n => .ty n
  | _, _, .gl h => .gl h
  | _, _, .tup h r => .tup (h.grow o) (RepAll.grow o r)
  | _, _, .lst h n r => .lst (by rw [upd_ne (fence_ne n)]; exact h) n (RepAll.grow o r)
  | _, _, .obj h => .obj h
  | _, _, .scr h => .scr (h.grow o)
  | _, _, .ins c h l r => .ins c (h.grow o) l (RepAll.grow o r)
  | _, _, .dctL h z r => .dctL (h.grow o) z (RepAll.grow o r)
  | _, _, .dctN h ne z r q => .dctN (h.grow o) ne z (RepAll.grow o r) (RepAll.grow o q)
theorem RepAll.grow {d : Addr} (o : HO) : ∀ {vs : List V} {ms : List MV}, RepAll G (A.fence d) H vs ms → RepAll G (A.fence d) (upd H d o) vs ms
  | _, _, .nil => .nil
  | _, _, .cons r rs => .cons (Rep.grow o r) (RepAll.grow o rs)
end
/-- the fenced list grows -/
theorem SR.grow {st : Sto} {d : Addr} (s : SR G (A.fence d) H st) (o : HO) (nc : NCo o) : SR G (A.fence d) (upd H d o) st where
  len := s.len
  nd := s.nd
  ob := fun i a u ha hu => by
    have q := s.ob i a u ha hu
    have h1 := List.nodup_append.mp s.nd
    have ne : a ≠ d := fun z => h1.2.2 a (List.mem_of_getElem? ha) d List.mem_cons_self z
    cases q with
    | lst h r => exact .lst (by rw [upd_ne ne]; exact h) (r.grow o)
    | ins c h l r => exact .ins c (by rw [upd_ne ne]; exact h) l (r.grow o)
    | dctL h z r => exact .dctL (by rw [upd_ne ne]; exact h) z (r.grow o)
    | dctN h ne' z r q => exact .dctN (by rw [upd_ne ne]; exact h) ne' z (r.grow o) (q.grow o)
  ft := fun b m => by
    by_cases e : b = d
    · subst e; exact ⟨o, upd_same, nc⟩
    · obtain ⟨u, q, n⟩ := s.ft b m
      exact ⟨u, by rw [upd_ne e]; exact q, n⟩
  tb := tabs_upd s.tb fun u e => by
    obtain ⟨o', e', n⟩ := s.ft d List.mem_cons_self
    rw [e] at e'; cases e'; exact n
  js := G.j.grow s.js
end

/-- the slots of a frame -/
structure EnvR (G : Gm) (A : Ad) (H : Hp) (σ : St) (env : MEnv) : Prop where
  len : env.length ≤ σ.length
  xs : ∀ j a, A.xs = some (j, a) → env[j]? = some none → σ[j]? = some (some (.ref a))
  cs : ∀ j a, G.cs = some (j, a) → env[j]? = some none → σ[j]? = some (some (.ref a))
  get : ∀ (i : Nat) (m : MV), env[i]? = some (some m) → ∃ v, σ[i]? = some (some v) ∧ Rep G A H v m
theorem EnvR.ext {G : Gm} {A A' : Ad} {H H' : Hp} {σ : St} {env : MEnv} (e : Ext A H A' H') (h : EnvR G A H σ env) : EnvR G A' H' σ env :=
  ⟨h.len, fun j a q => h.xs j a (e.xsk.symm.trans q), h.cs, fun i m hm => let ⟨v, a, r⟩ := h.get i m hm; ⟨v, a, r.ext e⟩⟩
theorem EnvR.set {G : Gm} {A : Ad} {H : Hp} {σ : St} {env : MEnv} (h : EnvR G A H σ env) (i : Nat) {v : V} {m : MV} (r : Rep G A H v m) : EnvR G A H (σ.set i (some v)) (env.set i (some m)) := by
  have sl : ∀ {j : Nat} {a : Addr}, (env[j]? = some none → σ[j]? = some (some (.ref a))) → (env.set i (some m))[j]? = some none → (σ.set i (some v))[j]? = some (some (.ref a)) := fun {j a} k hj => by
    by_cases e : i = j
    · subst e
      have hl : i < env.length := by
        have := (List.getElem?_eq_some_iff.mp hj).1
        simpa using this
      rw [List.getElem?_set_self hl] at hj
      cases hj
    · rw [List.getElem?_set_ne e] at hj ⊢
      exact k hj
  refine ⟨by simpa using h.len, fun j a q => sl (h.xs j a q), fun j a q => sl (h.cs j a q), fun j m' hj => ?_⟩
  by_cases e : i = j
  · subst e
    have hl : i < env.length := by
      have := (List.getElem?_eq_some_iff.mp hj).1
      simpa using this
    rw [List.getElem?_set_self hl] at hj
    cases hj
    exact ⟨v, List.getElem?_set_self (Nat.lt_of_lt_of_le hl h.len), r⟩
  · rw [List.getElem?_set_ne e] at hj
    obtain ⟨w, a, q⟩ := h.get j m' hj
    exact ⟨w, by rw [List.getElem?_set_ne e]; exact a, q⟩
theorem EnvR.fence {G : Gm} {A : Ad} {H : Hp} {σ : St} {env : MEnv} {d : Addr} (o : HO) (hd : H d = none) (h : EnvR G A H σ env) : EnvR G (A.fence d) (upd H d o) σ env :=
  ⟨h.len, h.xs, h.cs, fun i m hm => let ⟨v, a, r⟩ := h.get i m hm; ⟨v, a, r.fence hd fun b u n e => by rw [upd_ne n]; exact e⟩⟩
theorem EnvR.grow {G : Gm} {A : Ad} {H : Hp} {σ : St} {env : MEnv} {d : Addr} (o : HO) (h : EnvR G (A.fence d) H σ env) : EnvR G (A.fence d) (upd H d o) σ env :=
  ⟨h.len, h.xs, h.cs, fun i m hm => let ⟨v, a, r⟩ := h.get i m hm; ⟨v, a, r.grow o⟩⟩
theorem SR.fence_out {G : Gm} {A : Ad} {H : Hp} {st : Sto} {d : Addr} (s : SR G (A.fence d) H st) : ¬ A.has d := fun m => by
  have h1 := List.nodup_append.mp s.nd
  rcases m with m | m
  · exact h1.2.2 d m d List.mem_cons_self rfl
  · exact (List.nodup_cons.mp h1.2.1).1 m
/-- behind the fence a part was evaluated -/
theorem Ext.unfence {G : Gm} {A A' : Ad} {H H' : Hp} {st : Sto} {d : Addr} (s : SR G (A'.fence d) H' st) (e : Ext (A.fence d) H (A'.fence d) H') : Ext A H A' H' where
  pre := e.pre
  fen := (List.cons.inj e.fen).2
  xsk := e.xsk
  keep := fun b o n h t => by
    by_cases z : b = d
    · rw [z, e.fk d List.mem_cons_self, ← z]; exact h
    · exact e.keep b o (fun m => by
        rcases m with m | m
        · exact n (.inl m)
        · rcases List.mem_cons.mp m with m | m
          · exact z m
          · exact n (.inr m)) h t
  new := fun p m => by
    rcases e.new p (m.elim .inl fun z => .inr (List.mem_cons_of_mem _ z)) with q | q
    · rcases q with q | q
      · exact .inl (.inl q)
      · rcases List.mem_cons.mp q with q | q
        · subst q; exact (s.fence_out m).elim
        · exact .inl (.inr q)
    · exact .inr q
  fk := fun b m => e.fk b (List.mem_cons_of_mem _ m)
/-- the list that is being made, new since A1 H1, has grown -/
theorem Ext.grown {G : Gm} {A1 A : Ad} {H1 H : Hp} {st : Sto} {d : Addr} (o : HO) (s : SR G A1 H1 st) (hd : H1 d = none) (e : Ext A1 H1 A H) : Ext A1 H1 A (upd H d o) where
  pre := e.pre
  fen := e.fen
  xsk := e.xsk
  keep := fun b u n h t => by rw [upd_ne (fun z => by rw [z, hd] at h; cases h)]; exact e.keep b u n h t
  new := e.new
  fk := fun b m => by
    obtain ⟨u, h, _⟩ := s.ft b m
    rw [upd_ne (fun z => by rw [z, hd] at h; cases h)]; exact e.fk b m
/-! ### another caught exception, or none -/
section
variable {G : Gm} {A A' : Ad} {H H' : Hp} (b : Option (Nat × Addr))
mutual
theorem Rep.sx : ∀ {v : V} {m : MV}, Rep G A H v m → Rep G (A.sx b) H v m
  | _, _, .non => .non
  | _, _, .bl b => .bl b
  | _, _, .int i => .int i
  | _, _, .str s => .str s
  | _, _, .ty n => .ty n
  | _, _, .gl h => .gl h
  | _, _, .tup h r => .tup h (RepAll.sx r)
  | _, _, .lst h n r => .lst h n (RepAll.sx r)
  | _, _, .obj h => .obj h
  | _, _, .scr h => .scr h
  | _, _, .ins c h l r => .ins c h l (RepAll.sx r)
  | _, _, .dctL h z r => .dctL h z (RepAll.sx r)
  | _, _, .dctN h ne z r q => .dctN h ne z (RepAll.sx r) (RepAll.sx q)
theorem RepAll.sx : ∀ {vs : List V} {ms : List MV}, RepAll G A H vs ms → RepAll G (A.sx b) H vs ms
  | _, _, .nil => .nil
  | _, _, .cons r rs => .cons (Rep.sx r) (RepAll.sx rs)
end
theorem SR.sx {st : Sto} (s : SR G A H st) : SR G (A.sx b) H st where
  len := s.len
  nd := s.nd
  ob := fun k a o ha ho => by
    cases s.ob k a o ha ho with
    | lst h r => exact .lst h (r.sx b)
    | ins c h l r => exact .ins c h l (r.sx b)
    | dctL h z r => exact .dctL h z (r.sx b)
    | dctN h ne z r q => exact .dctN h ne z (r.sx b) (q.sx b)
  ft := s.ft
  tb := s.tb
  js := G.j.sx s.js
theorem Ext.sx (e : Ext (A.sx b) H A' H') : Ext A H (A'.sx A.xs) H' := ⟨e.pre, e.fen, rfl, e.keep, e.new, e.fk⟩
theorem Ext.sx2 (e : Ext A H A' H') : Ext (A.sx b) H (A'.sx b) H' := ⟨e.pre, e.fen, rfl, e.keep, e.new, e.fk⟩
theorem EnvR.nox {σ : St} {env : MEnv} (h : EnvR G A H σ env) : EnvR G (A.sx none) H σ env := ⟨h.len, fun _ _ z => (by cases z), h.cs, fun i m hm => let ⟨v, a, r⟩ := h.get i m hm; ⟨v, a, r.sx none⟩⟩
end
end MR

/-! readings of mirrors; the judgements PM (expressions), PMT (tests), PMA (arguments); the rules that need no data of their own -/
namespace MR
open PySem L2
variable [Tb]

abbrev ME := MEnv → Sto → Res MV
abbrev MT := MEnv → Sto → Res Bool
abbrev MA := MEnv → Sto → Res (List MV)

def okP (G : Gm) (A : Ad) (H : Hp) (Q : VK) : MV → Sto → Prop := fun m st => ∀ A' H' v, Ext A H A' H' → SR G A' H' st → Rep G A' H' v m → Q v H'
def okT (G : Gm) (A : Ad) (H : Hp) (Q : Bool → Hp → Prop) : Bool → Sto → Prop := fun b st => ∀ A' H', Ext A H A' H' → SR G A' H' st → Q b H'
def okA (G : Gm) (A : Ad) (H : Hp) (Q : List V → Hp → Prop) : List MV → Sto → Prop := fun ms st => ∀ A' H' vs, Ext A H A' H' → SR G A' H' st → RepAll G A' H' vs ms → Q vs H'
/-- an error at hand: its class, its attributes -/
def ExR (G : Gm) (A : Ad) (H : Hp) (c : Ex) (C : Addr) (d : Option Addr) : Prop := G.mg c.c = some (.ref C) ∧ ((c.ns = [] ∧ c.xs = [] ∧ d = none) ∨ ∃ p vs, c.ns ≠ [] ∧ d = some p ∧ H p = some (.xd (c.ns.zip vs)) ∧ ¬ A.has p ∧ c.ns.length = c.xs.length ∧ RepAll G A H vs c.xs)
theorem ExR.ext {G : Gm} {A A' : Ad} {H H' : Hp} {c : Ex} {C : Addr} {d : Option Addr} (e : Ext A H A' H') (h : ExR G A H c C d) : ExR G A' H' c C d := by
  obtain ⟨h1, h | ⟨p, vs, h0, h2, h3, h4, h5, h6⟩⟩ := h
  · exact ⟨h1, .inl h⟩
  · exact ⟨h1, .inr ⟨p, vs, h0, h2, e.keep _ _ h4 h3 nt_xd, e.out h3 h4 nt_xd, h5, h6.ext e⟩⟩
theorem ExR.unfence {G : Gm} {A : Ad} {H : Hp} {dd : Addr} {c : Ex} {C : Addr} {d : Option Addr} (h : ExR G (A.fence dd) H c C d) : ExR G A H c C d := by
  obtain ⟨h1, h | ⟨p, vs, h0, h2, h3, h4, h5, h6⟩⟩ := h
  · exact ⟨h1, .inl h⟩
  · exact ⟨h1, .inr ⟨p, vs, h0, h2, h3, fun m => h4 (m.elim .inl fun z => .inr (List.mem_cons_of_mem _ z)), h5, h6.unfence⟩⟩
def exP (G : Gm) (A : Ad) (H : Hp) (W : XK) : Ex → Sto → Prop := fun c st => ∀ A' H' C d, Ext A H A' H' → SR G A' H' st → ExR G A' H' c C d → W (.ref C) d H'

section
variable {G : Gm} {A A' : Ad} {H H' : Hp}
theorem okP.ext {Q : VK} (e : Ext A H A' H') {m : MV} {st : Sto} (h : okP G A H Q m st) : okP G A' H' Q m st := fun B I v f s r => h B I v (e.trans f) s r
theorem okT.ext {Q : Bool → Hp → Prop} (e : Ext A H A' H') {m : Bool} {st : Sto} (h : okT G A H Q m st) : okT G A' H' Q m st := fun B I f s => h B I (e.trans f) s
theorem okA.ext {Q : List V → Hp → Prop} (e : Ext A H A' H') {m : List MV} {st : Sto} (h : okA G A H Q m st) : okA G A' H' Q m st := fun B I v f s r => h B I v (e.trans f) s r
theorem exP.ext {W : XK} (e : Ext A H A' H') {c : Ex} {st : Sto} (h : exP G A H W c st) : exP G A' H' W c st := fun B I C d f s r => h B I C d (e.trans f) s r
end

section
variable {G : Gm} {A : Ad} {H : Hp} (b : Option (Nat × Addr))
theorem okP.sx {Q : VK} {m : MV} {st : Sto} (h : okP G A H Q m st) : okP G (A.sx b) H Q m st := fun A' H' v e s r => h (A'.sx A.xs) H' v e.sx (s.sx _) (r.sx _)
theorem okT.sx {Q : Bool → Hp → Prop} {m : Bool} {st : Sto} (h : okT G A H Q m st) : okT G (A.sx b) H Q m st := fun A' H' e s => h (A'.sx A.xs) H' e.sx (s.sx _)
theorem okA.sx {Q : List V → Hp → Prop} {m : List MV} {st : Sto} (h : okA G A H Q m st) : okA G (A.sx b) H Q m st := fun A' H' v e s r => h (A'.sx A.xs) H' v e.sx (s.sx _) (r.sx _)
theorem ExR.sx {c : Ex} {C : Addr} {d : Option Addr} (h : ExR G A H c C d) : ExR G (A.sx b) H c C d := by
  obtain ⟨h1, h | ⟨p, vs, h0, h2, h3, h4, h5, h6⟩⟩ := h
  · exact ⟨h1, .inl h⟩
  · exact ⟨h1, .inr ⟨p, vs, h0, h2, h3, h4, h5, h6.sx b⟩⟩
theorem exP.sx {W : XK} {c : Ex} {st : Sto} (h : exP G A H W c st) : exP G (A.sx b) H W c st := fun A' H' C d e s r => h (A'.sx A.xs) H' C d e.sx (s.sx _) (r.sx _)
end
def tE (G : Gm) (W : WX) (m : ME) : TE := fun σ H Q => ∃ A env st, SR G A H st ∧ EnvR G A H σ env ∧ (m env st).post (okP G A H Q) (exP G A H (WE W σ))
def tT (G : Gm) (W : WX) (m : MT) : TT := fun σ H Q => ∃ A env st, SR G A H st ∧ EnvR G A H σ env ∧ (m env st).post (okT G A H Q) (exP G A H (WE W σ))
def tA (G : Gm) (W : WX) (m : MA) : TA := fun σ H Q => ∃ A env st, SR G A H st ∧ EnvR G A H σ env ∧ (m env st).post (okA G A H Q) (exP G A H (WE W σ))

/-- where no exception is caught -/
theorem tE.nox {G : Gm} {W : WX} {m : ME} {σ : St} {H : Hp} {Q : VK} (h : tE G W m σ H Q) : ∃ A env st, A.xs = none ∧ SR G A H st ∧ EnvR G A H σ env ∧ (m env st).post (okP G A H Q) (exP G A H (WE W σ)) := by
  obtain ⟨A, env, st, s, q, h⟩ := h
  exact ⟨A.sx none, env, st, rfl, s.sx _, q.nox, h.mono (fun _ _ z => z.sx _) fun _ _ z => z.sx _⟩
abbrev PM (X : Cx) (W : WX) (e : Expr) (m : ME) : Prop := PE X e (tE (gmOf X) W m)
abbrev PMT (X : Cx) (W : WX) (e : Expr) (m : MT) : Prop := PT X e (tT (gmOf X) W m)
abbrev PMW (X : Cx) (W : WX) (e : Expr) (m : MT) : Prop := PW X e (tT (gmOf X) W m)
abbrev PMA (X : Cx) (W : WX) (es : List Expr) (m : MA) : Prop := PA X es (tA (gmOf X) W m)

section
variable {X : Cx} {e : Expr} {es : List Expr}
theorem PE_imp {t t' : TE} (h : PE X e t) (i : ∀ σ H Q, t' σ H Q → t σ H Q) : PE X e t' := ⟨fun pins s σ H Q I q => h.run pins s σ H Q I (i σ H Q q)⟩
theorem PT_imp {t t' : TT} (h : PT X e t) (i : ∀ σ H Q, t' σ H Q → t σ H Q) : PT X e t' := ⟨fun pins s σ H Q I q => h.run pins s σ H Q I (i σ H Q q)⟩
theorem PW_imp {t t' : TT} (h : PW X e t) (i : ∀ σ H Q, t' σ H Q → t σ H Q) : PW X e t' := ⟨fun w pins s σ H Q I q => h.run w pins s σ H Q I (i σ H Q q)⟩
theorem PA_imp {t t' : TA} (h : PA X es t) (i : ∀ σ H Q, t' σ H Q → t σ H Q) : PA X es t' := ⟨fun p pins s σ H Q I q => h.run p pins s σ H Q I (i σ H Q q)⟩
end

section
variable {G : Gm} {W : WX} {A A0 : Ad} {H H0 : Hp} {σ : St} {env : MEnv} {st : Sto}
/-- into a part: what the part gives is told from its own ground -/
theorem inE {m : ME} {Q : VK} (s : SR G A H st) (r : EnvR G A H σ env) (e0 : Ext A0 H0 A H) (h : (m env st).post (okP G A H Q) (exP G A0 H0 (WE W σ))) : tE G W m σ H Q :=
  ⟨A, env, st, s, r, h.mono (fun _ _ q => q) fun _ _ q => q.ext e0⟩
theorem inT {m : MT} {Q : Bool → Hp → Prop} (s : SR G A H st) (r : EnvR G A H σ env) (e0 : Ext A0 H0 A H) (h : (m env st).post (okT G A H Q) (exP G A0 H0 (WE W σ))) : tT G W m σ H Q :=
  ⟨A, env, st, s, r, h.mono (fun _ _ q => q) fun _ _ q => q.ext e0⟩
theorem inA {m : MA} {Q : List V → Hp → Prop} (s : SR G A H st) (r : EnvR G A H σ env) (e0 : Ext A0 H0 A H) (h : (m env st).post (okA G A H Q) (exP G A0 H0 (WE W σ))) : tA G W m σ H Q :=
  ⟨A, env, st, s, r, h.mono (fun _ _ q => q) fun _ _ q => q.ext e0⟩
end

/-! ### constants and names -/
def mC (m : MV) : ME := fun _ st => .ok m st
def mVar (i : Nat) : ME := fun env st => match env[i]? with
  | some (some m) => .ok m st
  | _ => .bad
section
variable {X : Cx} {W : WX} {pos : Pos}
theorem pm_C {e : Expr} {v : V} {m : MV} (h : PE X e (tC v)) (r : ∀ A H, Rep (gmOf X) A H v m) : PM X W e (mC m) :=
  PE_imp h fun σ H Q ⟨A, env, st, s, _, q⟩ => q A H v (Ext.refl A H) s (r A H)
theorem pm_int {i : Int} {j : Nat} : PM X W (.Constant (.int i) j pos) (mC (.int i)) := pm_C pe_int fun _ _ => (.int i)
theorem pm_bl {b : Bool} {j : Nat} : PM X W (.Constant (.bool b) j pos) (mC (.bl b)) := pm_C pe_bl fun _ _ => (.bl b)
theorem pm_non {j : Nat} : PM X W (.Constant .none j pos) (mC .non) := pm_C pe_non fun _ _ => .non
theorem pm_str {x : Str} {j : Nat} : PM X W (.Constant (.str x) j pos) (mC (.str x)) := pm_C pe_str fun _ _ => (.str x)
theorem pm_var {x : Str} (i : Nat) (hN : X.N[i]? = some x := by rfl) (hv : Vis X.env.scope x := by first | exact Or.inl rfl | exact Or.inr (Or.inl rfl) | exact Or.inr (Or.inr rfl)) (hd : (x == ("__debug__" : Str)) = false := by decide)
    (hcd : (x == ("__classdict__" : Str)) = false := by decide) : PM X W (.Name x pos) (mVar i) :=
  PE_imp (pe_var hN hv hd hcd) fun σ H Q ⟨A, env, st, s, r, q⟩ => by
    unfold mVar at q
    split at q
    · rename_i m e
      obtain ⟨v, e1, r1⟩ := r.get i m e
      exact ⟨v, e1, q A H v (Ext.refl A H) s r1⟩
    · exact q.elim
/-- a module's constant -/
theorem pm_glob {x : Str} {v : V} {u : Value} {m : MV} (hm : X.mg x = some u) (r : RelV v u) (q : ∀ A H, Rep (gmOf X) A H v m) (hg : Gl X x := by rfl) (hd : (x == ("__debug__" : Str)) = false := by decide) : PM X W (.Name x pos) (mC m) :=
  pm_C (pe_glob hg hm r hd) q
/-- a def or class of the module -/
theorem pm_fn {x : Str} {f : Addr} (hm : X.mg x = some (.ref f)) (hg : Gl X x := by rfl) (hd : (x == ("__debug__" : Str)) = false := by decide) : PM X W (.Name x pos) (mC (.gl x)) :=
  pm_C (pe_glob (v := .ref f) hg hm rfl hd) fun _ _ => .gl hm
/-- a built-in type -/
theorem pm_ty {x : Str} {n : String} (hm : X.mg x = none) (hv : bootBuiltins x = some (.type n)) (hg : Gl X x := by rfl) (hn : x ≠ "__name__" := by decide) (hd : (x == ("__debug__" : Str)) = false := by decide) : PM X W (.Name x pos) (mC (.ty n)) :=
  pm_C (pe_bltn (v := .ty n) hg hm hv rfl hn hd) fun _ _ => .ty n
end

/-! ### operators by values -/
abbrev G2 := MV → MV → Sto → Res MV
def OpM (G : Gm) (r : R2) (g : G2) : Prop := ∀ (A : Ad) (H : Hp) (st : Sto) (x y : V) (mx my : MV) (Q : VK) (E : Ex → Sto → Prop), SR G A H st → Rep G A H x mx → Rep G A H y my → (g mx my st).post (okP G A H Q) E → (∀ c st, g mx my st ≠ .exc c st) → r x y H Q
def noExc (r : Res MV) : Res MV := match r with
  | .exc _ _ => .bad
  | r => r
theorem noExc_ne {r : Res MV} (c : Ex) (st : Sto) : noExc r ≠ .exc c st := by
  cases r <;> intro h <;> cases h
def m2 (g : G2) (a b : ME) : ME := fun env st => (a env st).bind fun x st1 => (b env st1).bind fun y st2 => noExc (g x y st2)
def m1 (g : MV → Sto → Res MV) (a : ME) : ME := fun env st => (a env st).bind fun x st1 => noExc (g x st1)
/-- by values, all in all -/
def Op2 (G : Gm) (r : R2) (g : G2) : Prop := ∀ {A : Ad} {H : Hp} {st : Sto} {x y : V} {mx my : MV} {Q : VK} {m : MV} {st' : Sto}, SR G A H st → Rep G A H x mx → Rep G A H y my → g mx my st = .ok m st' → okP G A H Q m st' → r x y H Q
def Op1 (G : Gm) (r : V → Hp → VK → Prop) (g : MV → Sto → Res MV) : Prop := ∀ {A : Ad} {H : Hp} {st : Sto} {x : V} {mx : MV} {Q : VK} {m : MV} {st' : Sto}, SR G A H st → Rep G A H x mx → g mx st = .ok m st' → okP G A H Q m st' → r x H Q
def OpN (G : Gm) (r : List V → Hp → VK → Prop) (g : List MV → Sto → Res MV) : Prop := ∀ {A : Ad} {H : Hp} {st : Sto} {xs : List V} {ms : List MV} {Q : VK} {m : MV} {st' : Sto}, SR G A H st → RepAll G A H xs ms → g ms st = .ok m st' → okP G A H Q m st' → r xs H Q
def OpMt (G : Gm) (r : V → List V → Hp → VK → Prop) (g : MV → List MV → Sto → Res MV) : Prop := ∀ {A : Ad} {H : Hp} {st : Sto} {x : V} {mx : MV} {xs : List V} {ms : List MV} {Q : VK} {m : MV} {st' : Sto}, SR G A H st → Rep G A H x mx → RepAll G A H xs ms → g mx ms st = .ok m st' → okP G A H Q m st' → r x xs H Q
theorem post_noExc {r : Res MV} {P : MV → Sto → Prop} {E : Ex → Sto → Prop} (h : (noExc r).post P E) : ∃ m st, r = .ok m st ∧ P m st := by
  cases r with
  | ok m st => exact ⟨m, st, rfl, h⟩
  | exc c st => exact h.elim
  | bad => exact h.elim

section
variable {X : Cx} {W : WX} {pos : Pos} {a b c : Expr} {ma mb mc : ME}
/-- two parts in a row, then an operation by values -/
theorem two {r : R2} {g : G2} (hr : Op2 (gmOf X) r g) {σ : St} {H : Hp} {Q : VK} (h : tE (gmOf X) W (m2 g ma mb) σ H Q) : tOp r (tE (gmOf X) W ma) (tE (gmOf X) W mb) σ H Q := by
  obtain ⟨A, env, st, s, q, h⟩ := h
  unfold m2 at h
  rw [Res.post_bind] at h
  refine inE s q (Ext.refl A H) (h.mono (fun mx st1 h1 A1 H1 x e1 s1 r1 => ?_) fun _ _ z => z)
  rw [Res.post_bind] at h1
  refine inE s1 (q.ext e1) e1 (h1.mono (fun my st2 h2 A2 H2 y e2 s2 r2 => ?_) fun _ _ z => z)
  obtain ⟨m, st', e, k⟩ := post_noExc h2
  exact hr s2 (r1.ext e2) r2 e (okP.ext (e1.trans e2) k)
theorem pm_bin {op : Operator} {r : R2} {g : G2} (ho : OpR X (binaryOp op) r) (hr : Op2 (gmOf X) r g) (ha : PM X W a ma) (hb : PM X W b mb) : PM X W (.BinOp a op b pos) (m2 g ma mb) :=
  PE_imp (pe_op ho ha hb) fun _ _ _ h => two hr h
theorem pm_cmp {op : CmpOp} {r : R2} {g : G2} (ho : OpR X (compareOp op) r) (hr : Op2 (gmOf X) r g) (ha : PM X W a ma) (hb : PM X W b mb) (hm : behindInMarks op b = false := by first | exact nomark _ | rfl) : PM X W (.Compare a [op] [b] pos) (m2 g ma mb) :=
  PE_imp (pe_cmpR ho ha hb hm) fun _ _ _ h => two hr h
theorem pm_ix {r : R2} {g : G2} (ho : IxR X r) (hr : Op2 (gmOf X) r g) (ha : PM X W a ma) (hb : PM X W b mb) (hs : PlainIx b := by exact fun _ _ => rfl) : PM X W (.Subscript a b pos) (m2 g ma mb) :=
  PE_imp (pe_ix ho ha hb hs) fun _ _ _ h => two hr h
theorem pm_un {op : UnaryOp} {r : V → Hp → VK → Prop} {g : MV → Sto → Res MV} (ho : UnR X (unaryOp op) r) (hr : Op1 (gmOf X) r g) (ha : PM X W a ma) : PM X W (.UnaryOp op a pos) (m1 g ma) :=
  PE_imp (pe_un ho ha) fun σ H Q ⟨A, env, st, s, q, h⟩ => by
    unfold m1 at h
    rw [Res.post_bind] at h
    refine inE s q (Ext.refl A H) (h.mono (fun mx st1 h1 A1 H1 x e1 s1 r1 => ?_) fun _ _ z => z)
    obtain ⟨m, st', e, k⟩ := post_noExc h1
    exact hr s1 r1 e (k.ext e1)

/-! ### and, or, not; tests -/
def toB (m : MV) (st : Sto) : Res Bool := match m with
  | .bl b => .ok b st
  | _ => .bad
/-- a value that is a bool, as a test -/
def mB (a : ME) : MT := fun env st => (a env st).bind toB
def mAndT (a b : MT) : MT := fun env st => (a env st).bind fun x st1 => if x = true then b env st1 else .ok false st1
def mOrT (a b : MT) : MT := fun env st => (a env st).bind fun x st1 => if x = true then .ok true st1 else b env st1
def mNotT (a : MT) : MT := fun env st => (a env st).bind fun x st1 => .ok (!x) st1
def mAnd (a b : ME) : ME := fun env st => (a env st).bind fun x st1 => (toB x st1).bind fun x st1 => if x = true then b env st1 else .ok (.bl false) st1
def mOr (a b : ME) : ME := fun env st => (a env st).bind fun x st1 => (toB x st1).bind fun x st1 => if x = true then .ok (.bl true) st1 else b env st1
def mNot (a : ME) : ME := fun env st => (a env st).bind fun x st1 => (toB x st1).bind fun x st1 => .ok (.bl (!x)) st1
def mIf (c : MT) (a b : ME) : ME := fun env st => (c env st).bind fun x st1 => if x = true then a env st1 else b env st1
theorem post_toB {m : MV} {st : Sto} {P : Bool → Sto → Prop} {E : Ex → Sto → Prop} (h : (toB m st).post P E) : ∃ b, m = .bl b ∧ P b st := by
  unfold toB at h
  split at h
  · exact ⟨_, rfl, h⟩
  · exact h.elim
theorem tB_of {σ : St} {H : Hp} {Q : Bool → Hp → Prop} (h : tT (gmOf X) W (mB ma) σ H Q) : tB (tE (gmOf X) W ma) σ H Q := by
  obtain ⟨A, env, st, s, q, h⟩ := h
  unfold mB at h
  rw [Res.post_bind] at h
  refine inE s q (Ext.refl A H) (h.mono (fun mx st1 h1 A1 H1 x e1 s1 r1 => ?_) fun _ _ z => z)
  obtain ⟨b, e, k⟩ := post_toB h1
  subst e
  cases r1
  exact ⟨b, rfl, k A1 H1 e1 s1⟩
theorem pmt_val (ha : PM X W a ma) (he : ∀ whole, isTrue a X.env whole = (do let v ← whole; standAt a.pos; holding [v] (truthy v)) := by intro _; rfl) : PMT X W a (mB ma) :=
  PT_imp (pt_val ha he) fun _ _ _ h => tB_of h
theorem pmt_cmp {op : CmpOp} {r : R2} {g : G2} (ho : OpR X (compareOp op) r) (hr : Op2 (gmOf X) r g) (ha : PM X W a ma) (hb : PM X W b mb) (hm : behindInMarks op b = false := by first | exact nomark _ | rfl) : PMT X W (.Compare a [op] [b] pos) (mB (m2 g ma mb)) :=
  PT_imp (pt_cmpR ho ha hb hm) fun σ H Q h => two (ma := ma) (mb := mb) (W := W) (g := g) hr (by
    obtain ⟨A, env, st, s, q, h⟩ := h
    unfold mB at h
    rw [Res.post_bind] at h
    refine inE s q (Ext.refl A H) (h.mono (fun mx st1 h1 A1 H1 x e1 s1 r1 => ?_) fun _ _ z => z)
    obtain ⟨b, e, k⟩ := post_toB h1
    subst e
    cases r1
    exact ⟨b, rfl, k A1 H1 e1 s1⟩)
variable {ta tb : MT} {rest : List Expr}
theorem in2T {σ : St} {H : Hp} {Q : Bool → Hp → Prop} (h : tT (gmOf X) W (mAndT ta tb) σ H Q) : tAnd (tT (gmOf X) W ta) (tT (gmOf X) W tb) σ H Q := by
  obtain ⟨A, env, st, s, q, h⟩ := h
  unfold mAndT at h
  rw [Res.post_bind] at h
  refine inT s q (Ext.refl A H) (h.mono (fun b st1 h1 A1 H1 e1 s1 => ?_) fun _ _ z => z)
  cases b with
  | true => exact inT s1 (q.ext e1) e1 (h1.mono (fun b st2 h2 => h2.ext e1) fun _ _ z => z)
  | false => exact h1 A1 H1 e1 s1
theorem in2O {σ : St} {H : Hp} {Q : Bool → Hp → Prop} (h : tT (gmOf X) W (mOrT ta tb) σ H Q) : tOr (tT (gmOf X) W ta) (tT (gmOf X) W tb) σ H Q := by
  obtain ⟨A, env, st, s, q, h⟩ := h
  unfold mOrT at h
  rw [Res.post_bind] at h
  refine inT s q (Ext.refl A H) (h.mono (fun b st1 h1 A1 H1 e1 s1 => ?_) fun _ _ z => z)
  cases b with
  | false => exact inT s1 (q.ext e1) e1 (h1.mono (fun b st2 h2 => h2.ext e1) fun _ _ z => z)
  | true => exact h1 A1 H1 e1 s1
theorem pmw_and1 (ha : PMT X W a ta) : PMW X W (.BoolOp .And [a] pos) ta := pw_and1 ha
theorem pmw_or1 (ha : PMT X W a ta) : PMW X W (.BoolOp .Or [a] pos) ta := pw_or1 ha
theorem pmw_and (ha : PMT X W a ta) (hb : PMW X W (.BoolOp .And (b :: rest) pos) tb) : PMW X W (.BoolOp .And (a :: b :: rest) pos) (mAndT ta tb) := PW_imp (pw_and ha hb) fun _ _ _ h => in2T h
theorem pmw_or (ha : PMT X W a ta) (hb : PMW X W (.BoolOp .Or (b :: rest) pos) tb) : PMW X W (.BoolOp .Or (a :: b :: rest) pos) (mOrT ta tb) := PW_imp (pw_or ha hb) fun _ _ _ h => in2O h
theorem pmt_not (ha : PMT X W a ta) : PMT X W (.UnaryOp .Not a pos) (mNotT ta) := PT_imp (pt_not ha) fun σ H Q ⟨A, env, st, s, q, h⟩ => by
  unfold mNotT at h
  rw [Res.post_bind] at h
  exact inT s q (Ext.refl A H) (h.mono (fun b st1 h1 A1 H1 e1 s1 => h1 A1 H1 e1 s1) fun _ _ z => z)
theorem pm_one {op : PySem.BoolOp} (ha : PM X W a ma) : PM X W (.BoolOp op [a] pos) ma := pe_one ha
theorem pm_and (ha : PM X W a ma) (hb : PM X W (.BoolOp .And (b :: rest) pos) mb) : PM X W (.BoolOp .And (a :: b :: rest) pos) (mAnd ma mb) := PE_imp (pe_and ha hb) fun σ H Q ⟨A, env, st, s, q, h⟩ => by
  unfold mAnd at h
  rw [Res.post_bind] at h
  refine inE s q (Ext.refl A H) (h.mono (fun x st1 h1 A1 H1 v e1 s1 r1 => ?_) fun _ _ z => z)
  rw [Res.post_bind] at h1
  obtain ⟨c, e, k⟩ := post_toB h1
  subst e
  cases r1
  refine ⟨c, rfl, ?_⟩
  cases c with
  | true => exact inE s1 (q.ext e1) e1 (Res.post.mono k (fun b st2 h2 => h2.ext e1) fun _ _ z => z)
  | false => exact k A1 H1 _ e1 s1 (.bl false)
theorem pm_or (ha : PM X W a ma) (hb : PM X W (.BoolOp .Or (b :: rest) pos) mb) : PM X W (.BoolOp .Or (a :: b :: rest) pos) (mOr ma mb) := PE_imp (pe_or ha hb) fun σ H Q ⟨A, env, st, s, q, h⟩ => by
  unfold mOr at h
  rw [Res.post_bind] at h
  refine inE s q (Ext.refl A H) (h.mono (fun x st1 h1 A1 H1 v e1 s1 r1 => ?_) fun _ _ z => z)
  rw [Res.post_bind] at h1
  obtain ⟨c, e, k⟩ := post_toB h1
  subst e
  cases r1
  refine ⟨c, rfl, ?_⟩
  cases c with
  | false => exact inE s1 (q.ext e1) e1 (Res.post.mono k (fun b st2 h2 => h2.ext e1) fun _ _ z => z)
  | true => exact k A1 H1 _ e1 s1 (.bl true)
theorem pm_not (ha : PM X W a ma) : PM X W (.UnaryOp .Not a pos) (mNot ma) := PE_imp (pe_not ha) fun σ H Q ⟨A, env, st, s, q, h⟩ => by
  unfold mNot at h
  rw [Res.post_bind] at h
  refine inE s q (Ext.refl A H) (h.mono (fun x st1 h1 A1 H1 v e1 s1 r1 => ?_) fun _ _ z => z)
  rw [Res.post_bind] at h1
  obtain ⟨c, e, k⟩ := post_toB h1
  subst e
  cases r1
  exact ⟨c, rfl, k A1 H1 _ e1 s1 (.bl (!c))⟩
theorem pm_if {tc : MT} (hc : PMT X W c tc) (ha : PM X W a ma) (hb : PM X W b mb) : PM X W (.IfExp c a b pos) (mIf tc ma mb) := PE_imp (pe_ifExp hc ha hb) fun σ H Q ⟨A, env, st, s, q, h⟩ => by
  unfold mIf at h
  rw [Res.post_bind] at h
  refine inT s q (Ext.refl A H) (h.mono (fun x st1 h1 A1 H1 e1 s1 => ?_) fun _ _ z => z)
  cases x with
  | true => exact inE s1 (q.ext e1) e1 (Res.post.mono h1 (fun b st2 h2 => h2.ext e1) fun _ _ z => z)
  | false => exact inE s1 (q.ext e1) e1 (Res.post.mono h1 (fun b st2 h2 => h2.ext e1) fun _ _ z => z)
/-- a < b < c -/
def mChain (g g' : G2) (a b c : ME) : ME := fun env st => (a env st).bind fun x st1 => (b env st1).bind fun y st2 => (noExc (g x y st2)).bind fun z st3 => (toB z st3).bind fun k st4 => if k = true then (c env st4).bind fun w st5 => noExc (g' y w st5) else .ok (.bl false) st4
theorem chainE {r r' : R2} {g g' : G2} (hr : Op2 (gmOf X) r g) (hr' : Op2 (gmOf X) r' g') {σ : St} {H : Hp} {Q : VK} (h : tE (gmOf X) W (mChain g g' ma mb mc) σ H Q) : tChain r r' (tE (gmOf X) W ma) (tE (gmOf X) W mb) (tE (gmOf X) W mc) σ H Q := by
  obtain ⟨A, env, st, s, q, h⟩ := h
  unfold mChain at h
  rw [Res.post_bind] at h
  refine inE s q (Ext.refl A H) (h.mono (fun mx st1 h1 A1 H1 x e1 s1 r1 => ?_) fun _ _ z => z)
  rw [Res.post_bind] at h1
  refine inE s1 (q.ext e1) e1 (h1.mono (fun my st2 h2 A2 H2 y e2 s2 r2 => ?_) fun _ _ z => z)
  rw [Res.post_bind] at h2
  obtain ⟨m, st', e, k⟩ := post_noExc h2
  refine hr s2 (r1.ext e2) r2 e (fun A3 H3 z e3 s3 r3 => ?_)
  rw [Res.post_bind] at k
  obtain ⟨b, eb, k⟩ := post_toB k
  subst eb
  cases r3
  refine ⟨b, rfl, ?_⟩
  have e03 := (e1.trans e2).trans e3
  cases b with
  | false => exact k A3 H3 _ e03 s3 (.bl false)
  | true =>
    have k : ((mc env st').bind fun w st5 => noExc (g' my w st5)).post _ _ := k
    rw [Res.post_bind] at k
    show tE (gmOf X) W mc σ H3 _
    refine inE s3 (q.ext e03) e03 (k.mono (fun mw st5 h5 A5 H5 w e5 s5 r5 => ?_) fun _ _ z => z)
    obtain ⟨m5, st6, e6, k6⟩ := post_noExc h5
    exact hr' s5 ((r2.ext e3).ext e5) r5 e6 (okP.ext (e03.trans e5) k6)
theorem pm_chain {op op' : CmpOp} {r r' : R2} {g g' : G2} (ho : OpR X (compareOp op) r) (ho' : OpR X (compareOp op') r') (hr : Op2 (gmOf X) r g) (hr' : Op2 (gmOf X) r' g') (ha : PM X W a ma) (hb : PM X W b mb) (hc : PM X W c mc)
    (hm : lastMarks [op, op'] [b, c] = false := by with_unfolding_all rfl) : PM X W (.Compare a [op, op'] [b, c] pos) (mChain g g' ma mb mc) :=
  PE_imp (pe_chain ho ho' ha hb hc hm) fun _ _ _ h => chainE hr hr' h
theorem tTest_of {t : TE} {m : ME} (i : ∀ σ H Q, tE (gmOf X) W m σ H Q → t σ H Q) {σ : St} {H : Hp} {Q : Bool → Hp → Prop} (h : tT (gmOf X) W (mB m) σ H Q) : tTest t σ H Q := by
  refine i σ H _ ?_
  obtain ⟨A, env, st, s, q, h⟩ := h
  unfold mB at h
  rw [Res.post_bind] at h
  refine inE s q (Ext.refl A H) (h.mono (fun mx st1 h1 A1 H1 x e1 s1 r1 => ?_) fun _ _ z => z)
  obtain ⟨b, e, k⟩ := post_toB h1
  subst e
  cases r1
  exact ⟨b, rfl, k A1 H1 e1 s1⟩
theorem pmt_chain {op op' : CmpOp} {r r' : R2} {g g' : G2} (ho : OpR X (compareOp op) r) (ho' : OpR X (compareOp op') r') (hr : Op2 (gmOf X) r g) (hr' : Op2 (gmOf X) r' g') (ha : PM X W a ma) (hb : PM X W b mb) (hc : PM X W c mc)
    (hm : lastMarks [op, op'] [b, c] = false := by with_unfolding_all rfl) : PMT X W (.Compare a [op, op'] [b, c] pos) (mB (mChain g g' ma mb mc)) :=
  PT_imp (pt_chain ho ho' ha hb hc hm) fun _ _ _ h => tTest_of (fun _ _ _ q => chainE hr hr' q) h
/-! ### arguments, displays, calls -/
def aNil : MA := fun _ st => .ok [] st
def aCons (a : ME) (r : MA) : MA := fun env st => (a env st).bind fun x st1 => (r env st1).bind fun xs st2 => .ok (x :: xs) st2
/-- the items of a list or a tuple -/
def itemsOf (m : MV) (st : Sto) : Option (List MV) := match m with
  | .tup xs => some xs
  | .lst xs => some xs
  | .obj k => match st[k]? with
    | some (.lst xs) => some xs
    | _ => none
  | _ => none
def aStar (a : ME) (r : MA) : MA := fun env st => (a env st).bind fun x st1 => match itemsOf x st1 with
  | some ys => (r env st1).bind fun xs st2 => .ok (ys ++ xs) st2
  | none => .bad
theorem items_rep {G : Gm} {A : Ad} {H : Hp} {st : Sto} {v : V} {m : MV} {xs : List MV} (s : SR G A H st) (r : Rep G A H v m) (h : itemsOf m st = some xs) :
    ∃ a vs, v = .ref a ∧ (SqT G.K H a vs ∨ SqL G.K H a vs) ∧ RepAll G A H vs xs := by
  cases r with
  | tup h1 h2 => cases h; exact ⟨_, _, rfl, .inl h1.sq, h2⟩
  | lst h1 h2 h3 => cases h; exact ⟨_, _, rfl, .inr (SqL.of h1), h3⟩
  | @obj a k h1 =>
    simp only [itemsOf] at h
    split at h
    · rename_i ys e
      cases h
      cases s.ob k a _ h1 e with
      | lst h2 h3 => exact ⟨_, _, rfl, .inr (SqL.of h2), h3⟩
    · cases h
  | non => cases h
  | bl => cases h
  | int => cases h
  | str => cases h
  | ty => cases h
  | gl => cases h
  | scr => cases h
  | ins => cases h
  | dctL => cases h
  | dctN => cases h
variable {es : List Expr} {mr : MA}
theorem pma_nil : PMA X W [] aNil := PA_imp pa_nil fun σ H Q ⟨A, env, st, s, q, h⟩ => h A H [] (Ext.refl A H) s .nil
theorem pma_cons (ha : PM X W a ma) (hr : PMA X W es mr) (hs : starEach (a :: es) X.env = (false, eval a X.env) :: starEach es X.env := by rfl) : PMA X W (a :: es) (aCons ma mr) :=
  PA_imp (pa_cons ha hr hs) fun σ H Q ⟨A, env, st, s, q, h⟩ => by
    unfold aCons at h
    rw [Res.post_bind] at h
    refine inE s q (Ext.refl A H) (h.mono (fun mx st1 h1 A1 H1 x e1 s1 r1 => ?_) fun _ _ z => z)
    rw [Res.post_bind] at h1
    refine inA s1 (q.ext e1) e1 (h1.mono (fun my st2 h2 A2 H2 y e2 s2 r2 => ?_) fun _ _ z => z)
    exact h2 A2 H2 _ (e1.trans e2) s2 (.cons (r1.ext e2) r2)
theorem pma_star {p : Pos} (ha : PM X W a ma) (hr : PMA X W es mr) (hs : starEach (.Starred a p :: es) X.env = (true, eval a X.env) :: starEach es X.env := by rfl) : PMA X W (.Starred a p :: es) (aStar ma mr) :=
  PA_imp (StX.pa_star ha hr hs) fun σ H Q ⟨A, env, st, s, q, h⟩ => by
    unfold aStar at h
    rw [Res.post_bind] at h
    refine inE s q (Ext.refl A H) (h.mono (fun mx st1 h1 A1 H1 x e1 s1 r1 => ?_) fun _ _ z => z)
    cases hi : itemsOf mx st1 with
    | none => rw [hi] at h1; exact h1.elim
    | some ys =>
      rw [hi] at h1
      obtain ⟨p, vs, ev, sq, rv⟩ := items_rep s1 r1 hi
      refine ⟨p, vs, ev, sq, ?_⟩
      have h1 : ((mr env st1).bind fun xs st2 => Res.ok (ys ++ xs) st2).post _ _ := h1
      rw [Res.post_bind] at h1
      refine inA s1 (q.ext e1) e1 (h1.mono (fun my st2 h2 A2 H2 y e2 s2 r2 => ?_) fun _ _ z => z)
      exact h2 A2 H2 _ (e1.trans e2) s2 ((rv.ext e2).append r2)
/-- (a, b, ..) -/
def mTup (r : MA) : ME := fun env st => (r env st).bind fun xs st1 => if xs.length ≤ 16777216 then .ok (.tup xs) st1 else .bad
/-- [a, b, ..] that never changes; one that may change -/
def mLst (r : MA) : ME := fun env st => (r env st).bind fun xs st1 => if xs.length ≤ 16777216 then .ok (.lst xs) st1 else .bad
def mLstN (r : MA) : ME := fun env st => (r env st).bind fun xs st1 => if xs.length ≤ 16777216 then .ok (.obj st1.length) (st1 ++ [.lst xs]) else .bad
theorem line_of {n : Nat} (h : n ≤ 16777216) : n ≤ sizeLine := by rw [sizeLine_eq]; exact h
theorem of_line {n : Nat} (h : n ≤ sizeLine) : n ≤ 16777216 := by rw [sizeLine_eq] at h; exact h
/-- a new tuple, a new list outside the store, a new list of the store -/
theorem fin_tup {G : Gm} {A : Ad} {H : Hp} {st : Sto} {Q : VK} {vs : List V} {ms : List MV} (s : SR G A H st) (r : RepAll G A H vs ms) (k : okP G A H Q (.tup ms) st) : ∀ p, H p = none → Q (.ref p) (upd H p (.tup vs)) := fun p hp =>
  k A _ _ (Ext.laid s hp) (s.laid hp) (.tup (.inl ⟨.inl upd_same, s.new_out hp⟩) (r.ext (Ext.laid s hp)))
theorem fin_lst {G : Gm} {A : Ad} {H : Hp} {st : Sto} {Q : VK} {vs : List V} {ms : List MV} (s : SR G A H st) (r : RepAll G A H vs ms) (k : okP G A H Q (.lst ms) st) : ∀ p, H p = none → Q (.ref p) (upd H p (.lst vs)) := fun p hp =>
  k A _ _ (Ext.laid s hp) (s.laid hp) (.lst upd_same (s.new_out hp) (r.ext (Ext.laid s hp)))
theorem fin_lstN {G : Gm} {A : Ad} {H : Hp} {st : Sto} {Q : VK} {vs : List V} {ms : List MV} (s : SR G A H st) (r : RepAll G A H vs ms) (k : okP G A H Q (.obj st.length) (st ++ [.lst ms])) : ∀ p, H p = none → Q (.ref p) (upd H p (.lst vs)) := fun p hp =>
  k (A.more p) _ _ (Ext.made s hp) (s.made hp r) (.obj (by rw [← s.len]; simp))
theorem post_ite {α : Type} {c : Prop} [Decidable c] {a : Res α} {P : α → Sto → Prop} {E : Ex → Sto → Prop} (h : (if c then a else .bad).post P E) : c ∧ a.post P E := by
  by_cases hc : c
  · rw [if_pos hc] at h; exact ⟨hc, h⟩
  · rw [if_neg hc] at h; exact h.elim
theorem pm_tup {x1 : Nat} (h : PMA X W es mr) : PM X W (.Tuple es x1 pos) (mTup mr) := PE_imp (pe_tup h) fun σ H Q ⟨A, env, st, s, q, h⟩ => by
  unfold mTup at h
  rw [Res.post_bind] at h
  refine inA s q (Ext.refl A H) (h.mono (fun mx st1 h1 A1 H1 x e1 s1 r1 => ?_) fun _ _ z => z)
  obtain ⟨hl, k⟩ := post_ite h1
  exact ⟨by rw [r1.length]; exact line_of hl, fin_tup s1 r1 (okP.ext e1 k)⟩
theorem pm_lst (h : PMA X W es mr) : PM X W (.List es pos) (mLst mr) := PE_imp (pe_lst h) fun σ H Q ⟨A, env, st, s, q, h⟩ => by
  unfold mLst at h
  rw [Res.post_bind] at h
  refine inA s q (Ext.refl A H) (h.mono (fun mx st1 h1 A1 H1 x e1 s1 r1 => ?_) fun _ _ z => z)
  obtain ⟨hl, k⟩ := post_ite h1
  exact ⟨by rw [r1.length]; exact line_of hl, fin_lst s1 r1 (okP.ext e1 k)⟩
theorem pm_lstN (h : PMA X W es mr) : PM X W (.List es pos) (mLstN mr) := PE_imp (pe_lst h) fun σ H Q ⟨A, env, st, s, q, h⟩ => by
  unfold mLstN at h
  rw [Res.post_bind] at h
  refine inA s q (Ext.refl A H) (h.mono (fun mx st1 h1 A1 H1 x e1 s1 r1 => ?_) fun _ _ z => z)
  obtain ⟨hl, k⟩ := post_ite h1
  exact ⟨by rw [r1.length]; exact line_of hl, fin_lstN s1 r1 (okP.ext e1 k)⟩
/-- a call of a builtin by values -/
def mCall (g : List MV → Sto → Res MV) (r : MA) : ME := fun env st => (r env st).bind fun xs st1 => noExc (g xs st1)
theorem callE {r : List V → Hp → VK → Prop} {g : List MV → Sto → Res MV} (hr : OpN (gmOf X) r g) {σ : St} {H : Hp} {Q : VK} (h : tE (gmOf X) W (mCall g mr) σ H Q) : tCB r (tA (gmOf X) W mr) σ H Q := by
  obtain ⟨A, env, st, s, q, h⟩ := h
  unfold mCall at h
  rw [Res.post_bind] at h
  refine inA s q (Ext.refl A H) (h.mono (fun mx st1 h1 A1 H1 x e1 s1 r1 => ?_) fun _ _ z => z)
  obtain ⟨m, st', e, k⟩ := post_noExc h1
  exact hr s1 r1 e (okP.ext e1 k)
theorem pm_callB {x : Str} {id : String} {p : Pos} {r : List V → Hp → VK → Prop} {g : List MV → Sto → Res MV} (hc : CallR X (.builtin id) r) (hr : OpN (gmOf X) r g) (hm : X.mg x = none) (hv : bootBuiltins x = some (.builtin id)) (ha : PMA X W (a :: es) mr)
    (hg : Gl X x := by rfl) (hn : x ≠ "__name__" := by decide) (hdb : (x == ("__debug__" : Str)) = false := by decide)
    (he : starEach (a :: es) X.env = (false, eval a X.env) :: starEach es X.env := by rfl) (hpl : (backTo pos (starEach es X.env)).any (·.1) = false := by rfl) : PM X W (.Call (.Name x p) (a :: es) [] pos) (mCall g mr) :=
  PE_imp (pe_callB hc hg hm hv ha hn hdb he hpl) fun _ _ _ h => callE hr h
theorem pm_callTy {x : Str} {T : String} {p : Pos} {r : List V → Hp → VK → Prop} {g : List MV → Sto → Res MV} (hc : CallR X (.type T) r) (hr : OpN (gmOf X) r g) (hm : X.mg x = none) (hv : bootBuiltins x = some (.type T)) (ha : PMA X W (a :: es) mr)
    (hg : Gl X x := by rfl) (hn : x ≠ "__name__" := by decide) (hdb : (x == ("__debug__" : Str)) = false := by decide)
    (he : starEach (a :: es) X.env = (false, eval a X.env) :: starEach es X.env := by rfl) (hpl : (backTo pos (starEach es X.env)).any (·.1) = false := by rfl) : PM X W (.Call (.Name x p) (a :: es) [] pos) (mCall g mr) :=
  PE_imp (pe_callTy hc hg hm hv ha hn hdb he hpl) fun _ _ _ h => callE hr h
/-- o.m(..), m a method of a built-in type T -/
def mMeth (g : MV → List MV → Sto → Res MV) (o : ME) (r : MA) : ME := fun env st => (o env st).bind fun x st1 => (r env st1).bind fun xs st2 => noExc (g x xs st2)
/-- the method's own type: told of the receiver ahead of the arguments -/
def OpTy (G : Gm) (T : String) (c : MV → Sto → Bool) : Prop := ∀ {A : Ad} {H : Hp} {st : Sto} {v : V} {m : MV}, SR G A H st → Rep G A H v m → c m st = true → tyV G.K T v H
def mMethT (c : MV → Sto → Bool) (g : MV → List MV → Sto → Res MV) (o : ME) (r : MA) : ME := fun env st => (o env st).bind fun x st1 => if c x st1 = true then (r env st1).bind fun xs st2 => noExc (g x xs st2) else .bad
theorem pm_bm {name : Str} {apos cpos : Pos} {T id : String} {r : V → List V → Hp → VK → Prop} {c : MV → Sto → Bool} {g : MV → List MV → Sto → Res MV} {o : Expr} {mo : ME}
    (pa : PlainAttrs T) (slot : Slot T name id) (hty : typeOf (.builtin id) = pure (.type "method_descriptor")) (hm : MtR X id r) (hc : OpTy (gmOf X) T c) (hr : OpMt (gmOf X) r g) (ho : PM X W o mo) (ha : PMA X W (a :: es) mr)
    (hbase : attributeBase o name X.env (eval o X.env) = eval o X.env := by rfl)
    (hfew : ((backTo cpos (starEach (a :: es) X.env)).all (fun x => !x.1) && (backToKw cpos (keywordEach [] X.env)).all (fun x => x.1.isSome)
      && decide ((a :: es).length + ([] : List Keyword).length + (if ([] : List Keyword).isEmpty then 0 else 1) < 30)) = true := by rfl)
    (hline : (apos.endLine == cpos.line) = true := by rfl) (hs : starEach (a :: es) X.env = (false, eval a X.env) :: starEach es X.env := by rfl) (hplain : (backTo cpos (starEach es X.env)).any (·.1) = false := by rfl) :
    PM X W (.Call (.Attribute o name apos) (a :: es) [] cpos) (mMethT c g mo mr) :=
  PE_imp (pe_bm pa slot hty hm ho ha hbase hfew hline hs hplain) fun σ H Q ⟨A, env, st, s, q, h⟩ => by
    unfold mMethT at h
    rw [Res.post_bind] at h
    refine inE s q (Ext.refl A H) (h.mono (fun mx st1 h1 A1 H1 x e1 s1 r1 => ?_) fun _ _ z => z)
    obtain ⟨hl, h1⟩ := post_ite h1
    refine ⟨hc s1 r1 hl, ?_⟩
    rw [Res.post_bind] at h1
    refine inA s1 (q.ext e1) e1 (h1.mono (fun my st2 h2 A2 H2 y e2 s2 r2 => ?_) fun _ _ z => z)
    obtain ⟨m, st', e, k⟩ := post_noExc h2
    exact hr s2 (r1.ext e2) r2 e (okP.ext (e1.trans e2) k)
theorem pm_bm0 {name : Str} {apos cpos : Pos} {T id : String} {r : V → List V → Hp → VK → Prop} {c : MV → Sto → Bool} {g : MV → List MV → Sto → Res MV} {o : Expr} {mo : ME}
    (pa : PlainAttrs T) (slot : Slot T name id) (hty : typeOf (.builtin id) = pure (.type "method_descriptor")) (hm : MtR X id r) (hc : OpTy (gmOf X) T c) (hr : OpMt (gmOf X) r g) (ho : PM X W o mo)
    (hbase : attributeBase o name X.env (eval o X.env) = eval o X.env := by rfl) (hline : (apos.endLine == cpos.line) = true := by rfl) :
    PM X W (.Call (.Attribute o name apos) [] [] cpos) (mMethT c g mo aNil) :=
  PE_imp (pe_bm0 pa slot hty hm ho hbase hline) fun σ H Q ⟨A, env, st, s, q, h⟩ => by
    unfold mMethT at h
    rw [Res.post_bind] at h
    refine inE s q (Ext.refl A H) (h.mono (fun mx st1 h1 A1 H1 x e1 s1 r1 => ?_) fun _ _ z => z)
    obtain ⟨hl, h1⟩ := post_ite h1
    refine ⟨hc s1 r1 hl, ?_⟩
    obtain ⟨m, st', e, k⟩ := post_noExc h1
    exact hr s1 r1 .nil e (okP.ext e1 k)
/-! ### slices -/
abbrev MOp := MEnv → Sto → Res (Option Int)
def oNone : MOp := fun _ st => .ok none st
def oSome (a : ME) : MOp := fun env st => (a env st).bind fun x st1 => match x with
  | .int i => .ok (some i) st1
  | _ => .bad
def tO (G : Gm) (W : WX) (m : MOp) : TO := fun σ H Q => ∃ A env st, SR G A H st ∧ EnvR G A H σ env ∧ (m env st).post (fun o st' => ∀ A' H', Ext A H A' H' → SR G A' H' st' → Q o H') (exP G A H (WE W σ))
abbrev PMO (X : Cx) (W : WX) (e : Option Expr) (m : MOp) : Prop := PO X e (tO (gmOf X) W m)
theorem PO_imp {e : Option Expr} {t t' : TO} (h : PO X e t) (i : ∀ σ H Q, t' σ H Q → t σ H Q) : PO X e t' := ⟨fun pins s σ H Q I q => h.run pins s σ H Q I (i σ H Q q)⟩
theorem pmo_none : PMO X W none oNone := PO_imp po_none fun σ H Q ⟨A, env, st, s, q, h⟩ => h A H (Ext.refl A H) s
theorem pmo_some (ha : PM X W a ma) : PMO X W (some a) (oSome ma) := PO_imp (po_some ha) fun σ H Q ⟨A, env, st, s, q, h⟩ => by
  unfold oSome at h
  rw [Res.post_bind] at h
  refine inE s q (Ext.refl A H) (h.mono (fun mx st1 h1 A1 H1 x e1 s1 r1 => ?_) fun _ _ z => z)
  split at h1
  · cases r1
    exact ⟨_, rfl, h1 A1 H1 e1 s1⟩
  · exact h1.elim
abbrev GSl := MV → Option Int → Option Int → Sto → Res MV
def mSl (g : GSl) (a : ME) (lo hi : MOp) : ME := fun env st => (a env st).bind fun x st1 => (lo env st1).bind fun l st2 => (hi env st2).bind fun u st3 => noExc (g x l u st3)
def OpSl (G : Gm) (r : V → Option Int → Option Int → Hp → VK → Prop) (g : GSl) : Prop := ∀ {A : Ad} {H : Hp} {st : Sto} {x : V} {mx : MV} {l u : Option Int} {Q : VK} {m : MV} {st' : Sto}, SR G A H st → Rep G A H x mx → g mx l u st = .ok m st' → okP G A H Q m st' → r x l u H Q
theorem inO {G : Gm} {A A0 : Ad} {H H0 : Hp} {σ : St} {env : MEnv} {st : Sto} {m : MOp} {Q : Option Int → Hp → Prop} (s : SR G A H st) (r : EnvR G A H σ env) (e0 : Ext A0 H0 A H) (h : (m env st).post (fun o st' => ∀ A' H', Ext A H A' H' → SR G A' H' st' → Q o H') (exP G A0 H0 (WE W σ))) : tO G W m σ H Q :=
  ⟨A, env, st, s, r, h.mono (fun _ _ q => q) fun _ _ q => q.ext e0⟩
theorem pm_sl {r : V → Option Int → Option Int → Hp → VK → Prop} {g : GSl} {lo hi : Option Expr} {ml mh : MOp} {p2 : Pos} (hs : SlR X r) (hr : OpSl (gmOf X) r g) (ha : PM X W a ma) (hl : PMO X W lo ml) (hh : PMO X W hi mh) :
    PM X W (.Subscript a (.Slice lo hi none p2) pos) (mSl g ma ml mh) := PE_imp (pe_slice hs ha hl hh) fun σ H Q ⟨A, env, st, s, q, h⟩ => by
  unfold mSl at h
  rw [Res.post_bind] at h
  refine inE s q (Ext.refl A H) (h.mono (fun mx st1 h1 A1 H1 x e1 s1 r1 => ?_) fun _ _ z => z)
  rw [Res.post_bind] at h1
  refine inO s1 (q.ext e1) e1 (h1.mono (fun l st2 h2 A2 H2 e2 s2 => ?_) fun _ _ z => z)
  rw [Res.post_bind] at h2
  have e02 := e1.trans e2
  refine inO s2 (q.ext e02) e02 (h2.mono (fun u st3 h3 A3 H3 e3 s3 => ?_) fun _ _ z => z)
  obtain ⟨m, st', e, k⟩ := post_noExc h3
  exact hr s3 ((r1.ext e2).ext e3) e (okP.ext (e02.trans e3) k)
end
end MR

/-! Promises of defs that also know that no repr runs around them (guards), and the end of a law over such a promise.
Why: HandS' own promise (FnOk) says nothing of the guards, and repr of a tuple or a list asks for them. -/
namespace MR
open PySem L2

/-- nothing of what runs around is a repr -/
abbrev NoG (A : Around) : Prop := A.guards = some []

/-- as FnOk, where no repr runs -/
structure FnG (P : Program) (w : World) (K : PySem.W.Frag) (mg : Str → Option Value) (base : Heap) (k : Nat) (f : Addr) (fd : FuncData) (ps : List Str) (sp : Sp) : Prop where
  len : ∀ vs H Q E, sp vs H Q E → vs.length = ps.length
  run : ∀ (A : Around) (outer : List Env) (s : Shared) (H : Hp) (args : Args) (us : List Value) (vs : List V) (Q : VK) (E : XK), Room k A → NoG A → Env0 P w K mg base A outer s H → BindsTo s fd args (ps.zip us) → Vals vs us → sp vs H Q E →
    codeAny (model P w) A (.call (.ref f) args) (CR (L2.CX P w) outer P w H s Q E) s

theorem FnG.mono {P : Program} {w : World} {K : PySem.W.Frag} {mg : Str → Option Value} {base : Heap} {j k : Nat} {f : Addr} {fd : FuncData} {ps : List Str} {sp : Sp} (F : FnG P w K mg base j f fd ps sp) (h : j ≤ k) : FnG P w K mg base k f fd ps sp :=
  { len := F.len, run := fun A outer s H args us vs Q E hr => F.run A outer s H args us vs Q E (hr.mono h) }
theorem FnG.of {P : Program} {w : World} {K : PySem.W.Frag} {mg : Str → Option Value} {base : Heap} {k : Nat} {f : Addr} {fd : FuncData} {ps : List Str} {sp : Sp} (F : FnOk P w K mg base (L2.CX P w) k f fd ps sp) : FnG P w K mg base k f fd ps sp :=
  { len := F.len, run := fun A outer s H args us vs Q E hr _ => F.run A outer s H args us vs Q E hr }

/-- a def of the text by its body -/
theorem fn_ofG {P : Program} {w : World} {K : PySem.W.Frag} {mg : Str → Option Value} {base : Heap} {x qual : Str} {st : Stmt} {f : Addr} {fd : FuncData} {N ps : List Str} {k : Nat} {sp : Sp} (F : Fun K x qual st f fd) (S : FnScope N ps (defScope st))
    (len : ∀ vs H Q E, sp vs H Q E → vs.length = ps.length)
    (body : ∀ (cdv : Value) (A : Around) (outer : List Env) (s : Shared) (H : Hp) (vs : List V) (Q : VK) (E : XK), NoG A → Room k (A.deeper (PyProof.Rows.envOfC qual (defScope st) s.heap.objs.size f cdv)) → sp vs H Q E →
      ∃ t, PSs (cxOf (L2.CX P w) P w K mg base N qual (defScope st) f cdv A outer s H E) (defBody st) t ∧ t { nx := fun _ H' => Q .non H', rt := Q } (start N vs) H) : FnG P w K mg base (k + 1) f fd ps sp := by
  obtain ⟨oc, od, kV, doc, pm, an, cdv, ct, osl, rfl, look, code⟩ := F.ex
  constructor
  · exact len
  intro A outer s H args us vs Q E room noG e0 binds rv hsp
  have hlen := len _ _ _ _ hsp
  have inK : K.In s.heap := e0.mod.kin.keeps fun b o e => (e0.bs b o e).1
  have noL : s.heap.NoLimit := e0.mod.nolimit.keeps fun b o e => (e0.bs b o e).1
  have kinds : ∀ y ∈ ps.zip us, (defScope st).names.lookup y.1 = some .local ∨ ((defScope st).names.lookup y.1 = some .cell ∧ ((cellsFrom (s.heap.objs.size + 1) (defScope st).names []).lookup y.1).isSome = true) := by
    rintro ⟨n, v⟩ hy
    rcases S.par n (List.of_mem_zip hy).1 with q | q
    · left; exact q
    · right; exact ⟨q, PySem.W.cellsFrom_some _ _ _ (.inl q)⟩
  apply codeAny_call_function room.depth (inK _ _ look) rfl S.co S.gen rfl (PySem.W.codeRec_of inK code) (binds _ _ _ _ _)
  apply PySem.wpAny_newFunctionEnv_cells S.kind kinds
  intro env he s1 ic
  subst he
  refine ⟨noL.keeps ic.toInCall.keep, codeAny_func ?_⟩
  obtain ⟨t, pt, qt⟩ := body cdv A outer s H vs Q E noG (room.deeper _) hsp
  have inv := inv_start (CX := L2.CX P w) (E := E) (cd := cdv) (qual := qual) (f := f) S room.hd e0 hlen rv ic
  refine wpAny_mono (pt.run [] s1 (start N vs) H _ inv qt) ?_ fun _ _ z => z
  intro fl s' hs
  cases fl with
  | ret u =>
    obtain ⟨v, _, H', J, r, q⟩ := hs
    exact ⟨v, H', J.os, J.bare, J.base, J.hok, r, q⟩
  | next =>
    obtain ⟨_, H', J, q⟩ := hs
    exact ⟨.non, H', J.os, J.bare, J.base, J.hok, rfl, q⟩
  | brk => exact hs.elim fun _ z => z.elim fun _ z => z.2.elim
  | cont => exact hs.elim fun _ z => z.elim fun _ z => z.2.elim
/-- f(e, ..) over such a promise; what is raised is wished for at the caller's slots -/
theorem pe_callG {X : Cx} {k : Nat} {f : Addr} {fd : FuncData} {ps : List Str} {sp : Sp} {E : L2.St → XK} {x : Str} {p pos : Pos} {e : Expr} {es : List Expr} {t : TA} (F : FnG X.prog X.w X.K X.mg X.base k f fd ps sp) (room : Room k X.A) (gd : NoG X.A)
    (hg : Gl X x) (hm : X.mg x = some (.ref f)) (hk : PySem.W.keepIn X.K (.ref f) = true) (hb : Binds X.K fd ps []) (hx : ∀ σ, PassesAt (L2.CX X.prog X.w) X σ (E σ))
    (ha : PA X (e :: es) t) (hdb : (x == ("__debug__" : Str)) = false := by decide) (he : starEach (e :: es) X.env = (false, eval e X.env) :: starEach es X.env := by rfl) (hpl : (backTo pos (starEach es X.env)).any (·.1) = false := by rfl) :
    PE X (.Call (.Name x p) (e :: es) [] pos) (tCallS sp E t) := by
  constructor
  intro pins s σ H Q I h
  apply PySem.wpAny_Call_Name_kw
  apply ld_glob I hg hm _ hdb
  refine PySem.W.callWith_K (h₀ := X.base) I.ok.mod.kin hk (wpAny_mono (ha.run pos pins s σ H _ I h) ?_ fun _ _ z => z) he hpl
  rintro us s1 ⟨vs, H1, J, r, q⟩
  refine ⟨J.kIn, ?_⟩
  have len : us.length = ps.length := r.length.symm.trans (F.len _ _ _ _ q)
  have b := hb s1 us J.kIn (by rw [List.append_nil]; exact len)
  rw [List.append_nil] at b
  apply wpAny_call
  refine codeAny_mono (F.run X.A X.stack s1 H1 ⟨us, []⟩ us vs Q (E σ) room gd J.env0 b r q) ?_
  intro res s2 hq
  cases res with
  | ok fl =>
    cases fl with
    | ret u => exact J.after hq
    | next => exact hq.elim
    | brk => exact hq.elim
    | cont => exact hq.elim
  | error err => exact hx σ pins H1 s1 err s2 J hq

/-- the heap in which the script alone is tracked, frozen -/
def scriptHp (a : Addr) (o : Obj) (ns : List Int) : Hp := fun b => if b = a then some (.frz o (.lst (ns.map V.int))) else none

/-- what is needed of an abstract heap at the law's entry -/
structure Entry (P : Program) (w : World) (K : PySem.W.Frag) (h : Heap) (a : Addr) (o : Obj) (ns : List Int) (H : Hp) : Prop where
  only : Only H
  scr : SqL K H a (ns.map V.int)
  ok : HOk P w H h
  at_a : ∀ b, H b ≠ none → b = a ∧ K.lookup a = none

theorem entry_of {P : Program} {w : World} {K : PySem.W.Frag} {h : Heap} {a : Addr} {vs : List Value} {ns : List Int} (inK : K.In h) (ha : h.get? a = some { cls := .type "list", data := .seq vs.toArray }) (hi : PyProof.Rows.IntsAre vs ns) (hl : ns.length ≤ sizeLine) :
    ∃ H, Entry P w K h a { cls := .type "list", data := .seq vs.toArray } ns H := by
  have lens := hi.length
  have rv := vals_ints hi
  cases hk : K.lookup a with
  | some o =>
    have same := inK a o hk
    rw [ha] at same
    cases same
    refine ⟨fun _ => none, fun _ => .inl rfl, .inr ⟨_, vs.toArray, _, hk, rfl, rfl, rfl, ?_, ?_⟩, fun b u z => (by cases z), fun b z => absurd rfl z⟩
    · rw [List.size_toArray, lens]; exact hl
    · simpa using rv
  | none =>
    refine ⟨scriptHp a { cls := .type "list", data := .seq vs.toArray } ns, fun b => ?_, .inl (.inr ⟨_, if_pos rfl⟩), fun b u z => ?_, fun b z => ⟨?_, hk⟩⟩
    · by_cases e : b = a
      · right; exact ⟨_, _, if_pos e⟩
      · left; exact if_neg e
    · by_cases e : b = a
      · subst e
        have z := (if_pos rfl).symm.trans z
        cases z
        refine ⟨ha, ?_, vs, _, rv, ha⟩
        rw [List.length_map]; exact hl
      · have z := (if_neg e).symm.trans z
        cases z
    · by_cases e : b = a
      · exact e
      · exact absurd (if_neg e) z

theorem law_callG {P : Program} {w : World} {K : PySem.W.Frag} {mg mb : Str → Option Value} {k : Nat} {fa a : Addr} {fd : FuncData} {x : Str} {sp : Sp} {s1 : Shared} {vs : List Value} {ns : List Int}
    (inK : K.In s1.heap) (hns : s1.heap.Ns mainGlobals mg) (hb : s1.heap.Ns builtinsNs mb) (hbb : ∀ x : Str, x ≠ "__name__" → mb x = bootBuiltins x) (noL : s1.heap.NoLimit) (hg : s1.gens = #[])
    (ha : s1.heap.get? a = some { cls := .type "list", data := .seq vs.toArray }) (hi : PyProof.Rows.IntsAre vs ns) (hl : ns.length ≤ sizeLine) (room : Room k callerA)
    (F : ∀ base : Heap, K.In base → base.Ns mainGlobals mg → FnG P w K mg base k fa fd [x] sp) (bind : ∀ (s : Shared) (u : Value), BindsTo s fd ⟨[u], []⟩ [(x, u)])
    (hsp : ∀ H : Hp, Only H → SqL K H a (ns.map V.int) → sp [.ref a] H (fun v _ => v = .bl true) fun _ _ _ => False) :
    codeAny (model P w) callerA (.call (.ref fa) ⟨[.ref a], []⟩) (fun r s' => r = .ok (.ret (.bool true)) ∧ OldK s1.heap s'.heap ∧ s'.os = s1.os ∧ PyProof.Rows.AllBare s'.gens) s1 := by
  obtain ⟨H, en⟩ := entry_of (P := P) (w := w) inK ha hi hl
  have low : ∀ {b : Addr} {o : Obj}, s1.heap.get? b = some o → H b = none → (hidT s1.heap H).get? b = some o := fun e n => hidT_get e n
  have dictLow : ∀ {b : Addr} {o : Obj} {es : Array DictEntry} {ep : Nat}, s1.heap.get? b = some o → o.data = .dict es ep → H b = none := by
    intro b o es ep e d
    apply Classical.byContradiction
    intro n
    obtain ⟨rfl, _⟩ := en.at_a b n
    rw [ha] at e
    cases e
    cases d
  have nsLow : ∀ {b : Addr} {m : Str → Option Value}, s1.heap.Ns b m → (hidT s1.heap H).Ns b m := by
    rintro b m ⟨o, es, ep, e, d, r⟩
    exact ⟨o, es, ep, low e (dictLow e d), d, r⟩
  have kLow : K.In (hidT s1.heap H) := by
    intro b o e
    apply low (inK b o e)
    apply Classical.byContradiction
    intro n
    obtain ⟨rfl, z⟩ := en.at_a b n
    rw [z] at e
    cases e
  have limLow : (hidT s1.heap H).NoLimit := by
    obtain ⟨mc, h1, h2⟩ := noL
    exact ⟨mc, nsLow h1, h2⟩
  have e0 : Env0 P w K mg (hidT s1.heap H) callerA [] s1 H := ⟨rfl, ⟨kLow, nsLow hns, ⟨mb, nsLow hb, hbb⟩, limLow⟩, fun b o e => of_hidT e, Nat.le_of_eq (hidT_size _ _), trivial, fun b m => absurd (show b ∈ ([] : List Addr) from m) (by simp), en.ok, .of_eq hg⟩
  have main := (F _ kLow (nsLow hns)).run callerA [] s1 H ⟨[.ref a], []⟩ [.ref a] [.ref a] _ _ room rfl e0 (bind s1 (.ref a)) (.cons rfl .nil) (hsp H en.only en.scr)
  refine codeAny_mono main fun r s' q => ?_
  cases r with
  | error e =>
    obtain ⟨_, _, _, _, _, _, _, _, _, _, _, _, z⟩ := q
    exact z.elim
  | ok fl =>
    cases fl with
    | ret u =>
      obtain ⟨v, H', os, bare, un, ok', rel, rfl⟩ := q
      obtain rfl : u = Value.bool true := rel
      refine ⟨rfl, OldK.of_keep fun b o e => ?_, os, bare⟩
      rcases en.only b with z | ⟨ob, xs, z⟩
      · exact un.keep b o e z (fun m => absurd (show b ∈ ([] : List Addr) from m) (by simp)) (by simp)
      · have e1 := (en.ok b _ z).1
        have e2 := (ok' b _ (un.frzs b ob _ z)).1
        rw [e] at e1
        cases e1
        exact e2
    | next => exact q.elim
    | brk => exact q.elim
    | cont => exact q.elim

/-- the end of a law's walk over such a promise (as L2's walk_of) -/
theorem walk_ofG {l : PySem.W.OpenLaw} {n k : Nat} {q : Program} {loose : List Str} {XP : (Str → Option Value) → Heap → Prop} {YP : World → Heap → Prop} {d : PySem.DefRec} {K : PySem.Params → PySem.W.Frag} {sp : World → Sp} {x : Str}
    (hn : l.most = some n) (hn2 : n ≤ sizeLine) (hdf : d.params.defaults = []) (room : Room k callerA)
    (hY : ∀ (w : World) (h : Heap), YP w h → (K w.params).In h)
    (F : ∀ (w : World) (mg : Str → Option Value) (fa : Addr) (h : Heap), (K w.params).In h → h.Ns mainGlobals mg → mg d.name = some (.ref fa) →
      ∃ fd : FuncData, (∀ (s : Shared) (u : Value), BindsTo s fd ⟨[u], []⟩ [(x, u)]) ∧ ∀ base : Heap, (K w.params).In base → base.Ns mainGlobals mg → FnG l.prog w (K w.params) mg base k fa fd [x] (sp w))
    (hsp : ∀ (w : World) (H : Hp) (a : Addr) (ns : List Int), ns.length ≤ n → Only H → SqL (K w.params) H a (ns.map V.int) → sp w [.ref a] H (fun v _ => v = .bl true) fun _ _ _ => False) :
    PySem.W.WalkO q loose XP YP l.row.toRowW d [] (fun f vs => PySem.call f vs) :=
  Att.attach_call hn hdf fun w s0 s1 mg mb fa o pm cd doc a vs ns G Y ho hd hcd hmg hobj hints hlen hg => by
    obtain ⟨fd, bind, FF⟩ := F w mg fa _ (hY w _ Y) G.T.g hmg
    exact law_callG (hY w _ Y) G.T.g G.T.b G.T.builtins G.T.nolimit hg hobj hints (Nat.le_trans hlen hn2) room FF bind fun H hO hS => hsp w H a ns hlen hO hS
end MR

/-! mirrors of statements, loops, comprehensions, defs -/
namespace MR
open PySem L2
variable [Tb]

/-! ### the call of a def -/
abbrev FM := List MV → Sto → Res MV
def spM (G : Gm) (n : Nat) (f : FM) : Sp := fun vs H Q E => ∃ A st ms, SR G A H st ∧ RepAll G A H vs ms ∧ ms.length = n ∧ (f ms st).post (okP G A H Q) (exP G A H E)
/-- the def x of the module does what f says -/
structure FnM (P : Program) (w : World) (K : PySem.W.Frag) (mg : Str → Option Value) (base : Heap) (k : Nat) (x : Str) (n : Nat) (f : FM) : Prop where
  ex : ∃ a fd ps, mg x = some (.ref a) ∧ PySem.W.keepIn K (.ref a) = true ∧ Binds K fd ps [] ∧ FnG P w K mg base k a fd ps (spM ⟨K, mg, P, w, Tb.T, Tb.j, Tb.cs⟩ n f)
theorem FnM.mono {P : Program} {w : World} {K : PySem.W.Frag} {mg : Str → Option Value} {base : Heap} {j k : Nat} {x : Str} {n : Nat} {f : FM} (F : FnM P w K mg base j x n f) (h : j ≤ k) : FnM P w K mg base k x n f := by
  obtain ⟨a, fd, ps, h1, h2, h3, h4⟩ := F.ex
  exact ⟨a, fd, ps, h1, h2, h3, h4.mono h⟩
def mFn (n : Nat) (f : FM) (r : MA) : ME := fun env st => (r env st).bind fun xs st1 => if xs.length = n then f xs st1 else .bad
/-- what a call of a def lets out is wished for -/
abbrev Lets (X : Cx) (W : WX) : Prop := ∀ σ, PassesAt (L2.CX X.prog X.w) X σ (WE W σ)
theorem lets_of {X : Cx} {W : WX} (tk : Takes X W) : Lets X W := fun σ => passAt tk σ
def W0 : WX := fun _ _ _ _ => False
theorem lets0 {X : Cx} : Lets X W0 := fun σ pins H s e s' I c => by
  obtain ⟨_, _, _, _, _, _, _, _, _, _, _, _, z⟩ := c
  exact z.elim
section
variable {X : Cx} {W : WX} {pos : Pos} {a : Expr} {es : List Expr} {mr : MA}
theorem pm_fn_call {x : Str} {p : Pos} {k n : Nat} {f : FM} (F : FnM X.prog X.w X.K X.mg X.base k x n f) (hr : Room k X.A) (gd : NoG X.A) (tk : Lets X W) (ha : PMA X W (a :: es) mr) (hg : Gl X x := by rfl) (hdb : (x == ("__debug__" : Str)) = false := by decide)
    (he : starEach (a :: es) X.env = (false, eval a X.env) :: starEach es X.env := by rfl) (hpl : (backTo pos (starEach es X.env)).any (·.1) = false := by rfl) : PM X W (.Call (.Name x p) (a :: es) [] pos) (mFn n f mr) := by
  obtain ⟨c, fd, ps, h1, h2, h3, h4⟩ := F.ex
  refine PE_imp (pe_callG (E := WE W) h4 hr gd hg h1 h2 h3 tk ha hdb he hpl) fun σ H Q ⟨A, env, st, s, q, h⟩ => ?_
  unfold mFn at h
  rw [Res.post_bind] at h
  refine inA s q (Ext.refl A H) (h.mono (fun mx st1 h1 A1 H1 x e1 s1 r1 => ?_) fun _ _ z => z)
  obtain ⟨hl, k⟩ := post_ite h1
  exact ⟨A1, st1, mx, s1, r1, hl, k.mono (fun _ _ q => q.ext e1) fun _ _ q => q.ext e1⟩
end

/-! ### statements -/
inductive Flw where
  | nx (env : MEnv) (st : Sto)
  | rt (m : MV) (st : Sto)
  | bk (env : MEnv) (st : Sto)
  | ct (env : MEnv) (st : Sto)
  | exc (c : Ex) (env : MEnv) (st : Sto)
  | bad
abbrev MS := MEnv → Sto → Flw
def stP (G : Gm) (A : Ad) (H : Hp) (P : St → Hp → Prop) (env : MEnv) (st : Sto) : Prop := ∀ A' H' σ', Ext A H A' H' → SR G A' H' st → EnvR G A' H' σ' env → P σ' H'
def exS (G : Gm) (A : Ad) (H : Hp) (W : WX) (c : Ex) (env : MEnv) (st : Sto) : Prop := ∀ A' H' σ' C d, Ext A H A' H' → SR G A' H' st → EnvR G A' H' σ' env → ExR G A' H' c C d → W (.ref C) d σ' H'
def Flw.post (f : Flw) (G : Gm) (A : Ad) (H : Hp) (W : WX) (D : Ends) : Prop := match f with
  | .nx env st => stP G A H D.nx env st
  | .rt m st => okP G A H D.rt m st
  | .bk env st => stP G A H D.bk env st
  | .ct env st => stP G A H D.ct env st
  | .exc c env st => exS G A H W c env st
  | .bad => False
section
variable {G : Gm} {A A' : Ad} {H H' : Hp} {W : WX}
theorem stP.ext {P : St → Hp → Prop} {env : MEnv} {st : Sto} (e : Ext A H A' H') (h : stP G A H P env st) : stP G A' H' P env st := fun B I σ f s r => h B I σ (e.trans f) s r
theorem exS.ext {env : MEnv} {st : Sto} {c : Ex} (e : Ext A H A' H') (h : exS G A H W c env st) : exS G A' H' W c env st := fun B I σ C d f s r => h B I σ C d (e.trans f) s r
theorem Flw.post.ext {f : Flw} {D : Ends} (e : Ext A H A' H') (h : f.post G A H W D) : f.post G A' H' W D := by
  cases f with
  | nx env st => exact stP.ext e h
  | rt m st => exact okP.ext e h
  | bk env st => exact stP.ext e h
  | ct env st => exact stP.ext e h
  | exc c env st => exact exS.ext e h
  | bad => exact h
end
def tS (G : Gm) (W : WX) (m : MS) : TS := fun D σ H => ∃ A env st, SR G A H st ∧ EnvR G A H σ env ∧ (m env st).post G A H W D
abbrev PMS (X : Cx) (W : WX) (s : Stmt) (m : MS) : Prop := PS X s (tS (gmOf X) W m)
abbrev PMSs (X : Cx) (W : WX) (s : List Stmt) (m : MS) : Prop := PSs X s (tS (gmOf X) W m)
section
variable {X : Cx}
theorem PS_imp {s : Stmt} {t t' : TS} (h : PS X s t) (i : ∀ D σ H, t' D σ H → t D σ H) : PS X s t' := ⟨fun pins s σ H D I q => h.run pins s σ H D I (i D σ H q)⟩
theorem PSs_imp {s : List Stmt} {t t' : TS} (h : PSs X s t) (i : ∀ D σ H, t' D σ H → t D σ H) : PSs X s t' := ⟨fun pins s σ H D I q => h.run pins s σ H D I (i D σ H q)⟩
end
theorem inS {G : Gm} {W : WX} {A A0 : Ad} {H H0 : Hp} {σ : St} {env : MEnv} {st : Sto} {m : MS} {D : Ends} (s : SR G A H st) (r : EnvR G A H σ env) (e0 : Ext A0 H0 A H) (h : (m env st).post G A0 H0 W D) : tS G W m D σ H :=
  ⟨A, env, st, s, r, h.ext e0⟩
/-- an expression within a statement -/
def bindE {α : Type} (r : Res α) (env : MEnv) (f : α → Sto → Flw) : Flw := match r with
  | .ok a st => f a st
  | .exc c st => .exc c env st
  | .bad => .bad
theorem post_bindE {α : Type} {r : Res α} {env : MEnv} {f : α → Sto → Flw} {G : Gm} {A : Ad} {H : Hp} {W : WX} {D : Ends} (h : (bindE r env f).post G A H W D) : r.post (fun a st => (f a st).post G A H W D) (fun c st => exS G A H W c env st) := by
  cases r <;> exact h
theorem exP_of {G : Gm} {A : Ad} {H : Hp} {W : WX} {env : MEnv} {σ : St} (q : EnvR G A H σ env) {c : Ex} {st : Sto} (h : exS G A H W c env st) : exP G A H (WE W σ) c st := fun A' H' C d e s m => h A' H' σ C d e s (q.ext e) m
def sNext : MS := fun env st => .nx env st
def sSeq (a b : MS) : MS := fun env st => match a env st with
  | .nx env' st' => b env' st'
  | r => r
def sSet (i : Nat) (a : ME) : MS := fun env st => bindE (a env st) env fun m st' => .nx (env.set i (some m)) st'
def sExpr (a : ME) : MS := fun env st => bindE (a env st) env fun _ st' => .nx env st'
def sRet (a : ME) : MS := fun env st => bindE (a env st) env fun m st' => .rt m st'
def sRetN : MS := fun _ st => .rt .non st
def sIf (c : MT) (a b : MS) : MS := fun env st => bindE (c env st) env fun k st' => if k = true then a env st' else b env st'
def sBreak : MS := fun env st => .bk env st
def sCont : MS := fun env st => .ct env st
def sRaise (x : Str) : MS := fun env st => .exc ⟨x, [], []⟩ env st
section
variable {X : Cx} {W : WX} {pos : Pos} {a c : Expr} {ma : ME} {mc : MT} {s : Stmt} {rest s1 s2 : List Stmt} {m1 m2 : MS}
theorem pms_nil : PMSs X W [] sNext := PSs_imp pss_nil fun D σ H ⟨A, env, st, s, q, h⟩ => h A H σ (Ext.refl A H) s q
theorem pms_cons (h1 : PMS X W s m1) (h2 : PMSs X W rest m2) : PMSs X W (s :: rest) (sSeq m1 m2) := PSs_imp (pss_cons h1 h2) fun D σ H ⟨A, env, st, s, q, h⟩ => by
  refine ⟨A, env, st, s, q, ?_⟩
  unfold sSeq at h
  cases e : m1 env st with
  | nx env' st' => rw [e] at h; exact fun A1 H1 σ1 e1 s1 q1 => inS s1 q1 e1 h
  | rt m st' => rw [e] at h; exact h
  | bk env' st' => rw [e] at h; exact h
  | ct env' st' => rw [e] at h; exact h
  | exc c env' st' => rw [e] at h; exact h
  | bad => rw [e] at h; exact h
theorem pms_one (h1 : PMS X W s m1) : PMSs X W [s] m1 := pss_one h1
theorem pms_set {x : Str} {pos' : Pos} (i : Nat) (hN : X.N.Nodup) (he : PM X W a ma) (hi : X.N[i]? = some x := by rfl) (hx : Loc X.env.scope x := by first | exact .inl rfl | exact .inr rfl) (hs : swapsWith a (some (.Name x pos')) pos.line X.env = pure false := by rfl)
    (hf : X.fn x = true ∨ X.env.scope.names.lookup x = some .local := by first | exact .inl rfl | exact .inr rfl | assumption) : PMS X W (.Assign [.Name x pos'] a pos) (sSet i ma) :=
  PS_imp (ps_set hN hi hx he hs hf) fun D σ H ⟨A, env, st, s, q, h⟩ => by
    refine inE s q (Ext.refl A H) ((post_bindE h).mono (fun mx st1 h1 A1 H1 x e1 s1 r1 => ?_) fun _ _ z => exP_of q z)
    exact h1 A1 H1 _ e1 s1 ((q.ext e1).set i r1)
theorem pms_expr (he : PM X W a ma) (hs : swapsWith a none pos.line X.env = pure false := by rfl) : PMS X W (.Expr a pos) (sExpr ma) := PS_imp (ps_expr he hs) fun D σ H ⟨A, env, st, s, q, h⟩ =>
  inE s q (Ext.refl A H) ((post_bindE h).mono (fun mx st1 h1 A1 H1 x e1 s1 r1 => h1 A1 H1 _ e1 s1 (q.ext e1)) fun _ _ z => exP_of q z)
theorem pms_ret (he : PM X W a ma) : PMS X W (.Return (some a) pos) (sRet ma) := PS_imp (ps_ret he) fun D σ H ⟨A, env, st, s, q, h⟩ =>
  inE s q (Ext.refl A H) ((post_bindE h).mono (fun mx st1 h1 A1 H1 x e1 s1 r1 => h1 A1 H1 _ e1 s1 r1) fun _ _ z => exP_of q z)
theorem pms_retN : PMS X W (.Return none pos) sRetN := PS_imp ps_retN fun D σ H ⟨A, env, st, s, q, h⟩ => h A H .non (Ext.refl A H) s .non
theorem pms_if (hc : PMT X W c mc) (h1 : PMSs X W s1 m1) (h2 : PMSs X W s2 m2) : PMS X W (.If c s1 s2 pos) (sIf mc m1 m2) := PS_imp (ps_if hc h1 h2) fun D σ H ⟨A, env, st, s, q, h⟩ => by
  refine inT s q (Ext.refl A H) ((post_bindE h).mono (fun b st1 h1 A1 H1 e1 s1 => ?_) fun _ _ z => exP_of q z)
  cases b with
  | true => exact inS s1 (q.ext e1) e1 h1
  | false => exact inS s1 (q.ext e1) e1 h1
theorem pms_break : PMS X W (.Break pos) sBreak := PS_imp ps_break fun D σ H ⟨A, env, st, s, q, h⟩ => h A H σ (Ext.refl A H) s q
theorem pms_cont : PMS X W (.Continue pos) sCont := PS_imp ps_continue fun D σ H ⟨A, env, st, s, q, h⟩ => h A H σ (Ext.refl A H) s q
theorem pms_raise {x : Str} {C : Addr} {t : St → Hp → XK → Prop} (hc : X.calm = true) (tk : Takes X W) (hC : X.mg x = some (.ref C)) (he : PMk X a (fun _ H Q => Q (.ref C) none H)) : PMS X W (.Raise (some a) none pos) (sRaise x) :=
  PS_imp (ps_raise hc tk he) fun D σ H ⟨A, env, st, s, q, h⟩ => h A H σ C none (Ext.refl A H) s q ⟨hC, .inl ⟨rfl, rfl, rfl⟩⟩
end

/-! ### targets -/
abbrev MTg := MV → MEnv → Sto → Option (MEnv × Sto)
def tG (G : Gm) (g : MTg) : TG := fun v σ H Q => ∃ A env st m, SR G A H st ∧ EnvR G A H σ env ∧ Rep G A H v m ∧ ∃ env' st', g m env st = some (env', st') ∧ stP G A H Q env' st'
abbrev PMG (X : Cx) (e : Expr) (g : MTg) : Prop := PG X e (tG (gmOf X) g)
abbrev MTgs := List MV → MEnv → Sto → Option (MEnv × Sto)
def tGs (G : Gm) (g : MTgs) : TGs := fun vs σ H Q => ∃ A env st ms, SR G A H st ∧ EnvR G A H σ env ∧ RepAll G A H vs ms ∧ ∃ env' st', g ms env st = some (env', st') ∧ stP G A H Q env' st'
abbrev PMGs (X : Cx) (es : List Expr) (g : MTgs) : Prop := PGs X es (tGs (gmOf X) g)
section
variable {X : Cx} {e : Expr} {es : List Expr} {g : MTg} {gs : MTgs} {pos : Pos}
theorem PG_imp {t t' : TG} (h : PG X e t) (i : ∀ v σ H Q, t' v σ H Q → t v σ H Q) : PG X e t' := ⟨fun pins s σ H v u Q I r q => h.run pins s σ H v u Q I r (i v σ H Q q)⟩
theorem PGs_imp {t t' : TGs} (h : PGs X es t) (i : ∀ v σ H Q, t' v σ H Q → t v σ H Q) : PGs X es t' := ⟨fun pins s σ H v u Q I r q => h.run pins s σ H v u Q I r (i v σ H Q q)⟩
def gN (i : Nat) : MTg := fun m env st => some (env.set i (some m), st)
theorem pmg_name {x : Str} (i : Nat) (hN : X.N.Nodup) (hi : X.N[i]? = some x := by rfl) (hx : Loc X.env.scope x := by first | exact .inl rfl | exact .inr rfl) (hf : X.fn x = true ∨ X.env.scope.names.lookup x = some .local := by first | exact .inl rfl | exact .inr rfl | assumption) : PMG X (.Name x pos) (gN i) :=
  PG_imp (pg_name hN hi hx hf) fun v σ H Q ⟨A, env, st, m, s, q, r, env', st', e1, k⟩ => by
    cases e1
    exact k A H _ (Ext.refl A H) s (q.set i r)
def gNilM : MTgs := fun ms env st => match ms with
  | [] => some (env, st)
  | _ => none
def gConsM (g : MTg) (gs : MTgs) : MTgs := fun ms env st => match ms with
  | m :: r => (g m env st).bind fun p => gs r p.1 p.2
  | [] => none
theorem pmgs_nil : PMGs X [] gNilM := PGs_imp pgs_nil fun v σ H Q ⟨A, env, st, m, s, q, r, env', st', e1, k⟩ => by
  cases r with
  | nil => cases e1; exact ⟨rfl, k A H _ (Ext.refl A H) s q⟩
  | cons _ _ => cases e1
theorem pmgs_cons (h1 : PMG X e g) (h2 : PMGs X es gs) (hst : (assignEach (e :: es) X.env).map (·.2) = assign e X.env :: (assignEach es X.env).map (·.2) := by rfl) : PMGs X (e :: es) (gConsM g gs) :=
  PGs_imp (pgs_cons h1 h2 hst) fun v σ H Q ⟨A, env, st, m, s, q, r, env', st', e1, k⟩ => by
    cases r with
    | nil => cases e1
    | @cons v vs m ms r rs =>
      have e1 : (g m env st).bind (fun p => gs ms p.1 p.2) = some (env', st') := e1
      cases eg : g m env st with
      | none => rw [eg] at e1; cases e1
      | some p =>
        rw [eg] at e1
        obtain ⟨env1, st1⟩ := p
        refine ⟨v, vs, rfl, A, env, st, m, s, q, r, env1, st1, eg, fun A1 H1 σ1 x1 s1 q1 => ?_⟩
        exact ⟨A1, env1, st1, ms, s1, q1, rs.ext x1, env', st', e1, k.ext x1⟩
/-- a, b, .. of a tuple -/
def gT (n : Nat) (gs : MTgs) : MTg := fun m env st => match m with
  | .tup xs => if xs.length = n then gs xs env st else none
  | _ => none
theorem pmg_tup {k n : Nat} (h : PMGs X es gs) (hc : X.calm = true := by rfl) (hn : (assignEach es X.env).length = n := by rfl) (hst : (assignEach es X.env).findIdx? (·.1) = none := by rfl) : PMG X (.Tuple es k pos) (gT n gs) :=
  PG_imp (pg_tup hc h hn hst) fun v σ H Q ⟨A, env, st, m, s, q, r, env', st', e1, k⟩ => by
    cases r with
    | @tup a vs ms h1 h2 =>
      have e1 : (if ms.length = n then gs ms env st else none) = some (env', st') := e1
      by_cases hl : ms.length = n
      · rw [if_pos hl] at e1
        exact ⟨a, vs, rfl, h1.sq, by rw [h2.length]; exact hl, A, env, st, ms, s, q, h2, env', st', e1, k⟩
      · rw [if_neg hl] at e1; cases e1
    | _ => cases e1
def sAsg (g : MTg) (a : ME) : MS := fun env st => bindE (a env st) env fun m st' => match g m env st' with
  | some (env', st'') => .nx env' st''
  | none => .bad
theorem pms_asg {W : WX} {tg a : Expr} {ma : ME} (he : PM X W a ma) (hg : PMG X tg g) (hs : swapsWithSole [tg] a pos.line X.env = pure false := by rfl) (hw : swappedStores [tg] a X.env = pure none := by rfl)
    (h1 : (assignEach [tg] X.env).map (·.2) = [assign tg X.env] := by rfl) : PMS X W (.Assign [tg] a pos) (sAsg g ma) :=
  PS_imp (ps_asg he hg hs hw h1) fun D σ H ⟨A, env, st, s, q, h⟩ => by
    refine inE s q (Ext.refl A H) ((post_bindE h).mono (fun mx st1 h1 A1 H1 x e1 s1 r1 => ?_) fun _ _ z => exP_of q z)
    cases eg : g mx env st1 with
    | none => rw [eg] at h1; exact h1.elim
    | some p =>
      rw [eg] at h1
      exact ⟨A1, env, st1, mx, s1, q.ext e1, r1, p.1, p.2, by rw [eg], stP.ext e1 h1⟩
end

/-! ### what is walked -/
/-- J gives ys, one by one, as long as what is not the store's stands -/
def ItM (G : Gm) (A0 : Ad) (H0 : Hp) (J : It) (ys : List MV) : Prop := ∀ A H st, ExtW A0 H0 A H → SR G A H st →
  (∀ i, i < ys.length → J.go i H) ∧ J.stop ys.length H ∧ ∀ i x H', i < ys.length → J.yld i H x H' → Ext A H A H' ∧ SR G A H' st ∧ ∃ m, ys[i]? = some m ∧ Rep G A H' x m
def tI (G : Gm) (W : WX) (m : MA) : TI := fun σ H R => ∃ A env st, SR G A H st ∧ EnvR G A H σ env ∧ (m env st).post (fun ys st' => ∀ A' H' J, Ext A H A' H' → SR G A' H' st' → ItM G A' H' J ys → R J H') (exP G A H (WE W σ))
abbrev PMI (X : Cx) (W : WX) (tg it : Expr) (m : MA) : Prop := PI X tg it (tI (gmOf X) W m)
theorem PI_imp {X : Cx} {tg it : Expr} {t t' : TI} (h : PI X tg it t) (i : ∀ σ H R, t' σ H R → t σ H R) : PI X tg it t' := ⟨fun pins s σ H R I q => h.run pins s σ H R I (i σ H R q)⟩
theorem ItM.ext {G : Gm} {A A' : Ad} {H H' : Hp} {J : It} {ys : List MV} (e : Ext A H A' H') (h : ItM G A H J ys) : ItM G A' H' J ys := fun B I st x s => h B I st (e.w.trans x) s
theorem ItM.walk {G : Gm} {A0 : Ad} {H0 : Hp} {J : It} {ys : List MV} (h : ItM G A0 H0 J ys) : Walk J ys.length (fun H => ∃ A st, ExtW A0 H0 A H ∧ SR G A H st)
    (fun i H x H' => ∀ A st, ExtW A0 H0 A H → SR G A H st → Ext A H A H' ∧ SR G A H' st ∧ ∃ m, ys[i]? = some m ∧ Rep G A H' x m) where
  goes := fun i H hi ⟨A, st, e, s⟩ => (h A H st e s).1 i hi
  stops := fun H ⟨A, st, e, s⟩ => (h A H st e s).2.1
  yields := fun i H x H' hi _ y A st e s => (h A H st e s).2.2 i x H' hi y
/-- the items of a tuple or of a list that does not change -/
def frozen (m : MV) : Option (List MV) := match m with
  | .tup xs => some xs
  | .lst xs => some xs
  | _ => none
def iSeq (a : ME) : MA := fun env st => (a env st).bind fun m st' => match frozen m with
  | some xs => .ok xs st'
  | none => .bad
theorem itm_list {G : Gm} {A : Ad} {H : Hp} {a : Addr} {vs : List V} {ms : List MV} (h : H a = some (.lst vs)) (n : ¬ A.has a) (r : RepAll G A H vs ms) : ItM G A H (Itl G.K a) ms := fun B I st e s => by
  have h1 : I a = some (.lst vs) := e.keep a _ n h nt_lst
  have r1 := r.extW e
  have hl := r.length
  refine ⟨fun i hi => ?_, ⟨vs, SqL.of h1, by omega⟩, fun i x H' hi y => ?_⟩
  · have h2 : i < vs.length := by omega
    exact ⟨vs, vs[i], SqL.of h1, List.getElem?_eq_getElem h2⟩
  · obtain ⟨rfl, y⟩ := y
    obtain ⟨m, e1, r2⟩ := r1.at' (y vs (SqL.of h1))
    exact ⟨Ext.refl _ _, s, m, e1, r2⟩
theorem itm_tup {G : Gm} {A : Ad} {H : Hp} {a : Addr} {vs : List V} {ms : List MV} (h : FzT G A H a vs) (r : RepAll G A H vs ms) : ItM G A H (Itt G.K a) ms := fun B I st e s => by
  have h1 : SqT G.K I a vs := (h.extW e).sq
  have r1 := r.extW e
  have hl := r.length
  refine ⟨fun i hi => ?_, ⟨vs, h1, by omega⟩, fun i x H' hi y => ?_⟩
  · have h2 : i < vs.length := by omega
    exact ⟨vs, vs[i], h1, List.getElem?_eq_getElem h2⟩
  · obtain ⟨rfl, y⟩ := y
    obtain ⟨m, e1, r2⟩ := r1.at' (y vs h1)
    exact ⟨Ext.refl _ _, s, m, e1, r2⟩
theorem PI_or {X : Cx} {tg it : Expr} {t t' u : TI} (h : PI X tg it t) (h' : PI X tg it t') (i : ∀ σ H R, u σ H R → t σ H R ∨ t' σ H R) : PI X tg it u := ⟨fun pins s σ H R I q => by
  rcases i σ H R q with q | q
  · exact h.run pins s σ H R I q
  · exact h'.run pins s σ H R I q⟩
/-- for x in e, e a list or a tuple, as its value tells -/
def iSq (K : PySem.W.Frag) (te : TE) : TI := fun σ H R => te σ H fun x H1 => ∃ a, x = .ref a ∧ (((∃ xs, SqL K H1 a xs) ∧ R (Itl K a) H1) ∨ ((∃ xs, SqT K H1 a xs) ∧ R (Itt K a) H1))
theorem pi_sq {X : Cx} {tg l : Expr} {tl : TE} (hl : PE X l tl) : PI X tg l (iSq X.K tl) := by
  refine ⟨fun pins s σ H R I h => ?_⟩
  refine thn (hl.run pins s σ H _ I h) fun v s1 ⟨x, H1, I1, r1, a, ex, q⟩ => ?_
  subst ex
  cases r1
  rcases q with ⟨⟨xs, hq⟩, q⟩ | ⟨⟨xs, hq⟩, q⟩
  · obtain ⟨its, rv, p, hz⟩ := I1.list hq
    refine wpAny_pyIter_list p.isList ?_
    refine ⟨s1.heap.objs.size, [s1.heap.objs.size], _, _, H1, rfl, I1.kept (t' := s1.toks) fun b o e => Heap.get?_push_of_some _ e, turn_list a _, ⟨_, Heap.get?_push_size _ rfl, rfl, rfl⟩, fun b hb => ?_, q⟩
    rw [List.mem_singleton.mp hb]
    exact I1.fpOk (Nat.le_refl _) (I1.hok.fresh (Nat.le_refl _))
  · obtain ⟨its, rv, p, hz⟩ := I1.tuple hq
    refine wpAny_pyIter_tuple (show s1.heap.IsTuple a its.toArray from p) ?_
    refine ⟨s1.heap.objs.size, [s1.heap.objs.size], _, _, H1, rfl, I1.kept (t' := s1.toks) fun b o e => Heap.get?_push_of_some _ e, turn_tuple a _, ⟨_, Heap.get?_push_size _ rfl, rfl, rfl⟩, fun b hb => ?_, q⟩
    rw [List.mem_singleton.mp hb]
    exact I1.fpOk (Nat.le_refl _) (I1.hok.fresh (Nat.le_refl _))
section
variable {X : Cx} {W : WX} {tg it : Expr} {ma : ME}
theorem pmi_seq (ha : PM X W it ma) : PMI X W tg it (iSeq ma) := PI_imp (pi_sq ha) fun σ H R ⟨A, env, st, s, q, h⟩ => by
  unfold iSeq at h
  rw [Res.post_bind] at h
  refine inE s q (Ext.refl A H) (h.mono (fun mx st1 h1 A1 H1 x e1 s1 r1 => ?_) fun _ _ z => z)
  cases r1 with
  | @tup a vs ms f r => exact ⟨a, rfl, .inr ⟨⟨vs, f.sq⟩, h1 A1 H1 _ e1 s1 (itm_tup f r)⟩⟩
  | @lst a vs ms f n r => exact ⟨a, rfl, .inl ⟨⟨vs, SqL.of f⟩, h1 A1 H1 _ e1 s1 (itm_list f n r)⟩⟩
  | _ => exact h1.elim
/-- a text, sign by sign -/
def iTxt (a : ME) : MA := fun env st => (a env st).bind fun m st' => match m with
  | .str z => .ok (z.cps.toList.map fun c => .str ⟨#[c]⟩) st'
  | _ => .bad
theorem pmi_txt (ha : PM X W it ma) : PMI X W tg it (iTxt ma) := PI_imp (pi_str ha) fun σ H R ⟨A, env, st, s, q, h⟩ => by
  unfold iTxt at h
  rw [Res.post_bind] at h
  refine inE s q (Ext.refl A H) (h.mono (fun mx st1 h1 A1 H1 x e1 s1 r1 => ?_) fun _ _ z => z)
  cases r1 with
  | str z =>
    refine ⟨z, rfl, h1 A1 H1 _ e1 s1 fun B I st e s => ?_⟩
    have w := walk_str (z := z)
    have hl : (z.cps.toList.map fun c => MV.str ⟨#[c]⟩).length = z.cps.size := by simp
    rw [hl]
    refine ⟨fun i hi => w.goes i I hi trivial, w.stops I trivial, fun i x H' hi y => ?_⟩
    obtain ⟨rfl, c, ec, ex⟩ := w.yields i I x H' hi trivial y
    subst ex
    refine ⟨Ext.refl _ _, s, .str ⟨#[c]⟩, ?_, .str _⟩
    rw [List.getElem?_map]
    have : z.cps.toList[i]? = some c := by simpa using ec
    rw [this]
    rfl
  | _ => exact h1.elim
/-- range(n), range(a, b) -/
def rngL (lo : Int) (n : Nat) : List MV := (List.range n).map fun (i : Nat) => .int (lo + (i : Int))
def iRng (r : MA) : MA := fun env st => (r env st).bind fun xs st' => match xs with
  | [.int n] => if -1000000000 ≤ n ∧ n ≤ 1000000000 then .ok (rngL 0 n.toNat) st' else .bad
  | _ => .bad
def iRng2 (r : MA) : MA := fun env st => (r env st).bind fun xs st' => match xs with
  | [.int a, .int b] => if (-1000000000 ≤ a ∧ a ≤ 1000000000) ∧ (-1000000000 ≤ b ∧ b ≤ 1000000000) then .ok (rngL a (b - a).toNat) st' else .bad
  | _ => .bad
theorem itm_rng {G : Gm} {A : Ad} {H : Hp} {lo : Int} {n : Nat} : ItM G A H (Itr lo n) (rngL lo n) := fun B I st e s => by
  have w := walk_range (lo := lo) (n := n)
  have hl : (rngL lo n).length = n := by simp [rngL]
  rw [hl]
  refine ⟨fun i hi => w.goes i I hi trivial, w.stops I trivial, fun i x H' hi y => ?_⟩
  obtain ⟨rfl, ex⟩ := w.yields i I x H' hi trivial y
  subst ex
  refine ⟨Ext.refl _ _, s, .int (lo + i), ?_, .int _⟩
  simp [rngL, List.getElem?_range hi]
variable {mr : MA} {a b : Expr} {p pos : Pos}
theorem pmi_rng (hm : X.mg "range" = none) (ha : PMA X W [a] mr) (hg : Gl X "range" := by rfl) (hs : starEach [a] X.env = [(false, eval a X.env)] := by rfl) : PMI X W tg (.Call (.Name "range" p) [a] [] pos) (iRng mr) :=
  PI_imp (pi_range1 hg hm ha hs) fun σ H R ⟨A, env, st, s, q, h⟩ => by
    unfold iRng at h
    rw [Res.post_bind] at h
    refine inA s q (Ext.refl A H) (h.mono (fun mx st1 h1 A1 H1 x e1 s1 r1 => ?_) fun _ _ z => z)
    split at h1
    · obtain ⟨hl, k⟩ := post_ite h1
      cases r1 with
      | cons r rs =>
        cases rs
        cases r
        exact ⟨_, rfl, by omega, by omega, k A1 H1 _ e1 s1 itm_rng⟩
    · exact h1.elim
end

/-! ### for -/
def forM (g : MTg) (body : MS) : List MV → MEnv → Sto → Flw
  | [], env, st => .nx env st
  | y :: ys, env, st => match g y env st with
    | none => .bad
    | some (env1, st1) => match body env1 st1 with
      | .nx env2 st2 => forM g body ys env2 st2
      | .ct env2 st2 => forM g body ys env2 st2
      | .bk env2 st2 => .nx env2 st2
      | .rt m st2 => .rt m st2
      | .exc c env2 st2 => .exc c env2 st2
      | .bad => .bad
def sFor (mi : MA) (g : MTg) (body : MS) : MS := fun env st => bindE (mi env st) env fun ys st1 => forM g body ys env st1
theorem pms_for {X : Cx} {W : WX} {tg it : Expr} {mi : MA} {g : MTg} {body : List Stmt} {mb : MS} {pos : Pos} (hp : PassesOwn (model X.prog X.w) X.A X.env X.xe) (hi : PMI X W tg it mi) (hg : PMG X tg g) (hb : PMSs X W body mb) (hc : X.calm = true := by rfl)
    (hs : ∀ x, foldedSetIterable it X.env x = pure x := by intro _; rfl) : PMS X W (.For tg it body [] pos) (sFor mi g mb) :=
  PS_imp (ps_for hp hc hi hg hb hs) fun D σ H ⟨A, env, st, s, q, h⟩ => by
    refine ⟨A, env, st, s, q, (post_bindE h).mono (fun ys st1 h1 A1 H1 J e1 s1 it => ?_) fun _ _ z => exP_of q z⟩
    refine for_it it.walk (fun i σ' H' => ∃ A' env' st', Ext A1 H1 A' H' ∧ SR (gmOf X) A' H' st' ∧ EnvR (gmOf X) A' H' σ' env' ∧ (forM g mb (ys.drop i) env' st').post (gmOf X) A' H' W D)
      ⟨A1, env, st1, Ext.refl _ _, s1, q.ext e1, Flw.post.ext e1 h1⟩ (fun i σ' H' _ ⟨A', env', st', x', s', _, _⟩ => ⟨A', st', x'.w, s'⟩) (fun i x σ' H' H2 hlt ⟨A', env', st', x', s', q', h'⟩ y => ?_) (fun σ' H' ⟨A', env', st', x', s', q', h'⟩ => ?_)
    · obtain ⟨x2, s2, m, em, r2⟩ := y A' st' x'.w s'
      have ed : ys.drop i = m :: ys.drop (i + 1) := by
        rw [List.drop_eq_getElem_cons hlt]
        rw [List.getElem?_eq_getElem hlt] at em
        rw [Option.some.inj em]
      rw [ed] at h'
      unfold forM at h'
      cases eg : g m env' st' with
      | none => rw [eg] at h'; exact h'.elim
      | some p =>
        obtain ⟨env1, st2⟩ := p
        rw [eg] at h'
        refine ⟨A', env', st', m, s2, q'.ext x2, r2, env1, st2, eg, fun A3 H3 σ3 x3 s3 q3 => ?_⟩
        refine ⟨A3, env1, st2, s3, q3, ?_⟩
        have x13 := (x'.trans x2).trans x3
        have go : ∀ {env2 : MEnv} {st4 : Sto}, (forM g mb (ys.drop (i + 1)) env2 st4).post (gmOf X) A' H' W D → stP (gmOf X) A3 H3 (fun σ' H' => ∃ A' env' st', Ext A1 H1 A' H' ∧ SR (gmOf X) A' H' st' ∧ EnvR (gmOf X) A' H' σ' env' ∧ (forM g mb (ys.drop (i + 1)) env' st').post (gmOf X) A' H' W D) env2 st4 :=
          fun {env2 st4} hh A4 H4 σ4 x4 s4 q4 => ⟨A4, env2, st4, x13.trans x4, s4, q4, hh.ext ((x2.trans x3).trans x4)⟩
        have h' : Flw.post (match mb env1 st2 with
          | .nx env2 st2 => forM g mb (ys.drop (i + 1)) env2 st2
          | .ct env2 st2 => forM g mb (ys.drop (i + 1)) env2 st2
          | .bk env2 st2 => .nx env2 st2
          | .rt m st2 => .rt m st2
          | .exc c env2 st2 => .exc c env2 st2
          | .bad => .bad) (gmOf X) A' H' W D := h'
        cases eb : mb env1 st2 with
        | nx env2 st4 => rw [eb] at h'; exact go h'
        | ct env2 st4 => rw [eb] at h'; exact go h'
        | bk env2 st4 => rw [eb] at h'; exact stP.ext (x2.trans x3) h'
        | rt m st4 => rw [eb] at h'; exact okP.ext (x2.trans x3) h'
        | exc c env2 st4 => rw [eb] at h'; exact exS.ext (x2.trans x3) h'
        | bad => rw [eb] at h'; exact h'
    · rw [List.drop_length] at h'
      exact h' A' H' σ' (Ext.refl _ _) s' q'
end MR

/-! mirrors of comprehensions and of whole defs -/
namespace MR
open PySem L2
variable [Tb]

/-! ### comprehensions -/
def wipeM (env : MEnv) : List Nat → MEnv
  | [] => env
  | v :: vs => (wipeM env vs).set v none
theorem EnvR.drop1 {G : Gm} {A : Ad} {H : Hp} {σ : St} {env : MEnv} (h : EnvR G A H σ env) (nx : A.xs = none) (nc : G.cs = none) (i : Nat) : EnvR G A H (σ.set i none) (env.set i none) := by
  refine ⟨by simpa using h.len, fun j a z => by (rw [nx] at z; cases z), fun j a z => by (rw [nc] at z; cases z), fun j m' hj => ?_⟩
  by_cases e : i = j
  · subst e
    by_cases hl : i < env.length
    · rw [List.getElem?_set_self hl] at hj; cases hj
    · rw [List.getElem?_eq_none (by simpa using hl)] at hj; cases hj
  · rw [List.getElem?_set_ne e] at hj
    obtain ⟨w, a, q⟩ := h.get j m' hj
    exact ⟨w, by rw [List.getElem?_set_ne e]; exact a, q⟩
theorem EnvR.wipe {G : Gm} {A : Ad} {H : Hp} {σ : St} {env : MEnv} (h : EnvR G A H σ env) (nx : A.xs = none) (nc : G.cs = none) : ∀ vs : List Nat, EnvR G A H (L2.wipe σ vs) (wipeM env vs)
  | [] => h
  | v :: vs => (EnvR.wipe h nx nc vs).drop1 nx nc v
theorem wipe_set {σ : St} {i : Nat} {x : Option V} : ∀ {vs : List Nat}, i ∈ vs → wipe (σ.set i x) vs = wipe σ vs
  | [], h => by cases h
  | v :: vs, h => by
    unfold wipe
    by_cases e : i ∈ vs
    · rw [wipe_set e]
    · have e2 : i = v := by
        rcases List.mem_cons.mp h with h | h
        · exact h
        · exact absurd h e
      subst e2
      have z : ∀ {us : List Nat} {τ : St}, i ∉ us → wipe (τ.set i x) us = (wipe τ us).set i x := by
        intro us
        induction us with
        | nil => intro τ _; rfl
        | cons u us ih =>
          intro τ hn
          have h1 : i ≠ u := fun q => hn (by rw [q]; exact List.mem_cons_self)
          have h2 : i ∉ us := fun q => hn (List.mem_cons_of_mem _ q)
          show (wipe (τ.set i x) us).set u Option.none = ((wipe τ us).set u Option.none).set i x
          rw [ih h2]
          exact List.set_comm _ _ h1
      rw [z e, List.set_set]
theorem wipe_wipe {σ : St} : ∀ {us vs : List Nat}, (∀ i ∈ us, i ∈ vs) → wipe (wipe σ us) vs = wipe σ vs
  | [], vs, _ => rfl
  | u :: us, vs, h => by
    show wipe ((wipe σ us).set u Option.none) vs = wipe σ vs
    rw [wipe_set (h u List.mem_cons_self)]
    exact wipe_wipe fun i m => h i (List.mem_cons_of_mem _ m)
/-- the targets of a comprehension: a name, or names in a tuple -/
inductive Tgt where
  | nm (i : Nat)
  | tp (is : List Nat)
def Tgt.slots : Tgt → List Nat
  | .nm i => [i]
  | .tp is => is
def gNames : List Nat → TGs
  | [] => gNil
  | i :: is => gCons (gName i) (gNames is)
def Tgt.tg (K : PySem.W.Frag) : Tgt → TG
  | .nm i => gName i
  | .tp is => gTup K is.length (gNames is)
def setAll : List Nat → List MV → MEnv → MEnv
  | i :: is, m :: ms, env => setAll is ms (env.set i (some m))
  | _, _, env => env
def Tgt.bind : Tgt → MV → MEnv → Option MEnv
  | .nm i, m, env => some (env.set i (some m))
  | .tp is, .tup ms, env => if ms.length = is.length then some (setAll is ms env) else none
  | _, _, _ => none
theorem names_ok {G : Gm} {A : Ad} {H : Hp} : ∀ {is : List Nat} {vs : List V} {ms : List MV} {σ : St} {env : MEnv} {Q : St → Hp → Prop} {own : List Nat}, RepAll G A H vs ms → ms.length = is.length → EnvR G A H σ env → (∀ i ∈ is, i ∈ own) →
    (∀ σ', EnvR G A H σ' (setAll is ms env) → wipe σ' own = wipe σ own → Q σ' H) → gNames is vs σ H Q
  | [], _, _, σ, env, Q, own, r, hl, q, _, k => by
    cases r with
    | nil => exact ⟨rfl, k σ q rfl⟩
    | cons _ _ => cases hl
  | i :: is, _, _, σ, env, Q, own, r, hl, q, hs, k => by
    cases r with
    | nil => cases hl
    | @cons v vs m ms r rs =>
      refine ⟨v, vs, rfl, names_ok (own := own) rs (by simpa using hl) (q.set i r) (fun j m => hs j (List.mem_cons_of_mem _ m)) fun σ' q' w => k σ' q' (w.trans (wipe_set (hs i List.mem_cons_self)))⟩
theorem Tgt.ok {G : Gm} {A : Ad} {H : Hp} {t : Tgt} {v : V} {m : MV} {σ : St} {env env' : MEnv} {Q : St → Hp → Prop} {own : List Nat} (r : Rep G A H v m) (q : EnvR G A H σ env) (e : t.bind m env = some env') (hs : ∀ i ∈ t.slots, i ∈ own)
    (k : ∀ σ', EnvR G A H σ' env' → wipe σ' own = wipe σ own → Q σ' H) : t.tg G.K v σ H Q := by
  cases t with
  | nm i => cases e; exact k _ (q.set i r) (wipe_set (hs i List.mem_cons_self))
  | tp is =>
    cases r with
    | @tup a vs ms f r =>
      have e : (if ms.length = is.length then some (setAll is ms env) else none) = some env' := e
      by_cases hl : ms.length = is.length
      · rw [if_pos hl] at e
        cases e
        exact ⟨a, vs, rfl, f.sq, by rw [r.length]; exact hl, names_ok r hl q hs k⟩
      · rw [if_neg hl] at e; cases e
    | _ => cases e
def compM (t : Tgt) (tst : MT) (elt : ME) : List MV → MEnv → List MV → Sto → Res (List MV)
  | [], _, acc, st => .ok acc st
  | y :: ys, env, acc, st => match t.bind y env with
    | none => .bad
    | some env1 => match tst env1 st with
      | .ok true st1 => match elt env1 st1 with
        | .ok v st2 => if acc.length < 16777216 then compM t tst elt ys env (acc ++ [v]) st2 else .bad
        | _ => .bad
      | .ok false st1 => compM t tst elt ys env acc st1
      | _ => .bad
def tYesM : MT := fun _ st => .ok true st
def mLc (mi : MA) (own : List Nat) (t : Tgt) (tst : MT) (elt : ME) : ME := fun env st => (mi env st).bind fun ys st1 => (compM t tst elt ys (wipeM env own) [] st1).bind fun zs st2 => .ok (.lst zs) st2
theorem compM_noexc {t : Tgt} {tst : MT} {elt : ME} : ∀ {ys : List MV} {env : MEnv} {acc : List MV} {st : Sto} {c : Ex} {st' : Sto}, compM t tst elt ys env acc st ≠ .exc c st'
  | [], env, acc, st, c, st', h => by cases h
  | y :: ys, env, acc, st, c, st', h => by
    unfold compM at h
    split at h
    · cases h
    · split at h
      · split at h
        · split at h
          · exact compM_noexc h
          · cases h
        · cases h
      · exact compM_noexc h
      · cases h
theorem post_ok {α : Type} {r : Res α} {a : α} {st : Sto} {P : α → Sto → Prop} {E : Ex → Sto → Prop} (e : r = .ok a st) (h : P a st) : r.post P E := by rw [e]; exact h
section
variable {X : Cx} {W : WX} {tg it elt : Expr} {ifs : List Expr} {scope : Scope} {pos : Pos} {mi : MA} {mt : MT} {me : ME}
theorem pmts_nil : PTs X [] (tT (gmOf X) W tYesM) := ⟨fun pins s σ H Q I ⟨A, env, st, sr, q, h⟩ => pts_nil.run pins s σ H Q I (h A H (Ext.refl A H) sr)⟩
theorem pmts_one {c : Expr} (h : PMT X W c mt) : PTs X [c] (tT (gmOf X) W mt) := pts_one h
theorem lcE (nc : Tb.cs = none) {vs : List Nat} {t : Tgt} (hsub : ∀ i ∈ t.slots, i ∈ vs) {σ : St} {H : Hp} {Q : VK} (h : tE (gmOf X) W (mLc mi vs t mt me) σ H Q) : tLc (tI (gmOf X) W mi) (t.tg X.K) (tT (gmOf X) W0 mt) (tE (gmOf X) W0 me) vs σ H Q := by
    obtain ⟨A, env, st, nx, s, q, h⟩ := h.nox
    unfold mLc at h
    rw [Res.post_bind] at h
    refine ⟨A, env, st, s, q, h.mono (fun ys st1 h1 A1 H1 J e1 s1 itm D hD => ?_) fun _ _ z => z⟩
    rw [Res.post_bind] at h1
    refine lc_it itm.walk (fun i H' => ∃ A' st' acc accV, Ext A1 H1 A' H' ∧ SR (gmOf X) (A'.fence D) H' st' ∧ H' D = some (.lst accV) ∧ RepAll (gmOf X) (A'.fence D) H' accV acc ∧
        ∃ zs st2, compM t mt me (ys.drop i) (wipeM env vs) acc st' = .ok zs st2 ∧ okP (gmOf X) A1 H1 Q (.lst zs) st2) ?_ (fun i H' _ ⟨A', st', acc, accV, x', s', _⟩ => ⟨A', st', x'.w, s'.unfence⟩) (fun i x H' H2 hlt ⟨A', st', acc, accV, x', s', hDv, ra, zs, st2, ec, k⟩ y => ?_) (fun H' ⟨A', st', acc, accV, x', s', hDv, ra, zs, st2, ec, k⟩ => ?_)
    · refine ⟨A1, st1, [], [], Ext.grown _ s1 hD (Ext.refl A1 H1), s1.fence hD _ nc_lst, upd_same, .nil, ?_⟩
      cases hr : compM t mt me ys (wipeM env vs) [] st1 with
      | ok zs st2 =>
        rw [hr] at h1
        exact ⟨zs, st2, by rw [List.drop_zero]; exact hr, okP.ext e1 h1⟩
      | exc c st2 => exact (compM_noexc hr).elim
      | bad => rw [hr] at h1; exact h1.elim
    · obtain ⟨x2, s2, m, em, r2⟩ := y (A'.fence D) st' (x'.w.fence hD) s'
      have ed : ys.drop i = m :: ys.drop (i + 1) := by
        rw [List.drop_eq_getElem_cons hlt]
        rw [List.getElem?_eq_getElem hlt] at em
        rw [Option.some.inj em]
      rw [ed] at ec
      unfold compM at ec
      cases eb : t.bind m (wipeM env vs) with
      | none => rw [eb] at ec; cases ec
      | some env1 =>
        rw [eb] at ec
        have q2 : EnvR (gmOf X) (A'.fence D) H2 (wipe σ vs) (wipeM env vs) := by
          have q1 := (q.ext e1)
          have nx2 : (A'.fence D).xs = none := (x'.xsk.trans e1.xsk).trans nx
          refine EnvR.wipe ⟨q1.len, fun j a z => by (rw [nx2] at z; cases z), fun j a z => by (rw [show (gmOf X).cs = none from nc] at z; cases z), fun j mj hj => ?_⟩ nx2 nc vs
          obtain ⟨v, a, r⟩ := q1.get j mj hj
          exact ⟨v, a, (r.extW (x'.w.fence hD)).ext x2⟩
        refine Tgt.ok (own := vs) r2 q2 eb hsub fun σ2 q3 hw => ⟨by rw [hw]; exact wipe_wipe fun _ m => m, ?_⟩
        have hD2 : H2 D = some (.lst accV) := (x2.fk D List.mem_cons_self).trans hDv
        have ec : (match mt env1 st' with
          | .ok true st1 => (match me env1 st1 with
            | .ok v st2 => if acc.length < 16777216 then compM t mt me (ys.drop (i + 1)) (wipeM env vs) (acc ++ [v]) st2 else .bad
            | _ => .bad)
          | .ok false st1 => compM t mt me (ys.drop (i + 1)) (wipeM env vs) acc st1
          | _ => .bad) = Res.ok zs st2 := ec
        cases et : mt env1 st' with
        | exc c st3 => rw [et] at ec; cases ec
        | bad => rw [et] at ec; cases ec
        | ok b st3 =>
          rw [et] at ec
          refine ⟨A'.fence D, env1, st', s2, q3, post_ok et fun A3 H3 x3 s3 => ?_⟩
          have fA3 : A3 = ({ A3 with fn := A'.fn } : Ad).fence D := by
            obtain ⟨ix, fn, _⟩ := A3
            have : fn = D :: A'.fn := x3.fen
            subst this
            rfl
          have hD3 : H3 D = some (.lst accV) := (x3.fk D List.mem_cons_self).trans hD2
          have ra3 : RepAll (gmOf X) A3 H3 accV acc := (ra.ext x2).ext x3
          cases b with
          | false =>
            rw [fA3] at x3 s3 ra3
            exact ⟨_, st3, acc, accV, x'.trans (Ext.unfence s3 (x2.trans x3)), s3, hD3, ra3, zs, st2, ec, k⟩
          | true =>
            have ec : (match me env1 st3 with
              | .ok v st2 => if acc.length < 16777216 then compM t mt me (ys.drop (i + 1)) (wipeM env vs) (acc ++ [v]) st2 else .bad
              | _ => .bad) = Res.ok zs st2 := ec
            cases ee : me env1 st3 with
            | exc c st4 => rw [ee] at ec; cases ec
            | bad => rw [ee] at ec; cases ec
            | ok v st4 =>
              rw [ee] at ec
              have ec : (if acc.length < 16777216 then compM t mt me (ys.drop (i + 1)) (wipeM env vs) (acc ++ [v]) st4 else .bad) = Res.ok zs st2 := ec
              by_cases hl : acc.length < 16777216
              · rw [if_pos hl] at ec
                show tE (gmOf X) W0 me σ2 H3 _
                refine ⟨A3, env1, st3, s3, q3.ext x3, post_ok ee fun A4 H4 vv x4 s4 r4 => ?_⟩
                have fA4 : A4 = ({ A4 with fn := A'.fn } : Ad).fence D := by
                  obtain ⟨ix, fn, _⟩ := A4
                  have : fn = D :: A'.fn := x4.fen.trans x3.fen
                  subst this
                  rfl
                have hD4 : H4 D = some (.lst accV) := (x4.fk D (by rw [x3.fen]; exact List.mem_cons_self)).trans hD3
                have ra4 := ra3.ext x4
                have x24 := (x2.trans x3).trans x4
                rw [fA4] at x24 s4 ra4 r4
                refine ⟨accV, hD4, by rw [ra4.length, sizeLine_eq]; exact hl, _, st4, acc ++ [v], accV ++ [vv], Ext.grown _ s1 hD (x'.trans (Ext.unfence s4 x24)), s4.grow _ nc_lst, upd_same, (ra4.append (.cons r4 .nil)).grow _, zs, st2, ec, k⟩
              · rw [if_neg hl] at ec; cases ec
    · rw [List.drop_length] at ec
      cases ec
      exact k A' H' _ x' s'.unfence (.lst hDv s'.fence_out ra.unfence)
theorem pm_lc (nc : Tb.cs = none) {own : List (Str × Nat)} {t : Tgt} (hN : X.N.Nodup) (hi : PMI X W tg it mi) (ok : BlkOk X.N X.env.scope scope own)
    (hg : ∀ (s : Shared) (H : Hp) (C : Addr) (cl : List (Str × Addr)) (fp : List Addr), PG (X.blk s H scope (compEnvC scope cl C X.env) fp) tg (t.tg X.K))
    (ht : ∀ (s : Shared) (H : Hp) (C : Addr) (cl : List (Str × Addr)) (fp : List Addr), PTs (X.blk s H scope (compEnvC scope cl C X.env) fp) ifs (tT (gmOf X) W0 mt))
    (he : ∀ (s : Shared) (H : Hp) (C : Addr) (cl : List (Str × Addr)) (fp : List Addr), PM (X.blk s H scope (compEnvC scope cl C X.env) fp) W0 elt me)
    (hsub : ∀ i ∈ t.slots, i ∈ own.map (·.2) := by decide) (hc : X.calm = true := by rfl) (hs : ∀ x, foldedSetIterable it X.env x = pure x := by intro _; rfl) :
    PM X W (.ListComp elt [⟨tg, it, ifs, 0⟩] scope pos) (mLc mi (own.map (·.2)) t mt me) :=
  PE_imp (pe_lc hc hN hi ok hg ht he hs) fun σ H Q h => lcE nc hsub h
end

/-! ### defs -/
def defM (n : Nat) (body : MS) : FM := fun args st => match body (args.map some ++ List.replicate (n - args.length) none) st with
  | .nx _ st' => .ok .non st'
  | .rt m st' => .ok m st'
  | .exc c _ st' => .exc c st'
  | _ => .bad
theorem EnvR.start {G : Gm} {A : Ad} {H : Hp} {vs : List V} {ms : List MV} (r : RepAll G A H vs ms) (nx : A.xs = none) (nc : G.cs = none) (n : Nat) : EnvR G A H (vs.map some ++ List.replicate (n - vs.length) none) (ms.map some ++ List.replicate (n - ms.length) none) := by
  have hl := r.length
  refine ⟨by simp [hl], fun j a z => by (rw [nx] at z; cases z), fun j a z => by (rw [nc] at z; cases z), fun i m hm => ?_⟩
  by_cases hi : i < ms.length
  · rw [List.getElem?_append_left (by simpa using hi)] at hm
    rw [List.getElem?_map] at hm
    cases e : ms[i]? with
    | none => rw [e] at hm; cases hm
    | some m' =>
      rw [e] at hm
      cases hm
      obtain ⟨v, ev, rv⟩ := r.at e
      refine ⟨v, ?_, rv⟩
      rw [List.getElem?_append_left (by rw [List.length_map, hl]; exact hi), List.getElem?_map, ev]
      rfl
  · rw [List.getElem?_append_right (by simpa using Nat.le_of_not_lt hi)] at hm
    obtain ⟨h1, e⟩ := List.getElem?_eq_some_iff.mp hm
    rw [List.getElem_replicate] at e
    cases e
section
variable {P : Program} {w : World} {K : PySem.W.Frag} {mg : Str → Option Value} {base : Heap}
/-- a def of the text, by its body -/
theorem fn_mirrorG (nc : Tb.cs = none) {x qual : Str} {st : Stmt} {f : Addr} {fd : FuncData} {N ps : List Str} {k : Nat} {body : MS} (F : Fun K x qual st f fd) (S : FnScope N ps (defScope st))
    (h : ∀ (cdv : Value) (A : Around) (outer : List Env) (s : Shared) (H : Hp) (E : XK), NoG A → Room k (A.deeper (PyProof.Rows.envOfC qual (defScope st) s.heap.objs.size f cdv)) →
      Takes (cxOf (L2.CX P w) P w K mg base N qual (defScope st) f cdv A outer s H E) (fun c d _ H => E c d H) → PMSs (cxOf (L2.CX P w) P w K mg base N qual (defScope st) f cdv A outer s H E) (fun c d _ H => E c d H) (defBody st) body) :
    FnG P w K mg base (k + 1) f fd ps (spM ⟨K, mg, P, w, Tb.T, Tb.j, Tb.cs⟩ ps.length (defM N.length body)) :=
  fn_ofG F S (fun vs H Q E ⟨A, s, ms, sr, r, hl, _⟩ => r.length.trans hl) fun cdv A outer s H vs Q E gd hr hsp => by
    obtain ⟨A1, st1, ms, sr, r, hl, hp⟩ := hsp
    have tk : Takes (cxOf (L2.CX P w) P w K mg base N qual (defScope st) f cdv A outer s H E) (fun c d _ H => E c d H) := takes_of rfl rfl rfl rfl
    refine ⟨_, h cdv A outer s H E gd hr tk, A1.sx none, _, st1, sr.sx none, EnvR.start (r.sx none) rfl nc N.length, ?_⟩
    unfold defM at hp
    cases eb : body (ms.map some ++ List.replicate (N.length - ms.length) none) st1 with
    | nx env st' =>
      rw [eb] at hp
      exact fun A' H' σ' e s' q' => hp (A'.sx A1.xs) H' .non e.sx (s'.sx _) .non
    | rt m st' =>
      rw [eb] at hp
      exact okP.sx none hp
    | bk env st' => rw [eb] at hp; exact hp.elim
    | ct env st' => rw [eb] at hp; exact hp.elim
    | exc c env st' =>
      rw [eb] at hp
      exact fun A' H' σ' C d e s' q' hC => hp (A'.sx A1.xs) H' C d e.sx (s'.sx _) (hC.sx _)
    | bad => rw [eb] at hp; exact hp.elim
theorem fn_mirror (nc : Tb.cs = none) {x qual : Str} {st : Stmt} {f : Addr} {fd : FuncData} {N ps : List Str} {k : Nat} {body : MS} (F : Fun K x qual st f fd) (S : FnScope N ps (defScope st)) (hx : mg x = some (.ref f)) (hb : Binds K fd ps [])
    (h : ∀ (cdv : Value) (A : Around) (outer : List Env) (s : Shared) (H : Hp) (E : XK), NoG A → Room k (A.deeper (PyProof.Rows.envOfC qual (defScope st) s.heap.objs.size f cdv)) →
      Takes (cxOf (L2.CX P w) P w K mg base N qual (defScope st) f cdv A outer s H E) (fun c d _ H => E c d H) → PMSs (cxOf (L2.CX P w) P w K mg base N qual (defScope st) f cdv A outer s H E) (fun c d _ H => E c d H) (defBody st) body) :
    FnM P w K mg base (k + 1) x ps.length (defM N.length body) := ⟨f, fd, ps, hx, F.kp, hb, fn_mirrorG nc F S h⟩
end
end MR

/-! built-in operations by values -/
namespace MR
open PySem L2
variable [Tb]

abbrev sizeL : Nat := 16777216
theorem line_ok {n : Nat} (h : n ≤ sizeL) : n ≤ sizeLine := line_of h
section
variable {G : Gm} {A : Ad} {H : Hp} {st : Sto}
theorem fin0 {Q : VK} {v : V} {m : MV} (s : SR G A H st) (r : Rep G A H v m) (k : okP G A H Q m st) : Q v H := k A H v (Ext.refl A H) s r
theorem Rep.int_inv {x : V} {i : Int} (h : Rep G A H x (.int i)) : x = .int i := by cases h; rfl
theorem Rep.str_inv {x : V} {i : Str} (h : Rep G A H x (.str i)) : x = .str i := by cases h; rfl
theorem Rep.bl_inv {x : V} {i : Bool} (h : Rep G A H x (.bl i)) : x = .bl i := by cases h; rfl
theorem Rep.non_inv {x : V} (h : Rep G A H x .non) : x = .non := by cases h; rfl

/-- a list's items, in the store or not -/
def listOf (m : MV) (st : Sto) : Option (List MV) := match m with
  | .lst xs => some xs
  | .obj k => match st[k]? with
    | some (.lst xs) => some xs
    | _ => none
  | _ => none
theorem listOf_rep {v : V} {m : MV} {xs : List MV} (s : SR G A H st) (r : Rep G A H v m) (h : listOf m st = some xs) : ∃ a vs, v = .ref a ∧ H a = some (.lst vs) ∧ RepAll G A H vs xs := by
  cases r with
  | lst h1 h2 h3 => cases h; exact ⟨_, _, rfl, h1, h3⟩
  | @obj a k h1 =>
    simp only [listOf] at h
    split at h
    · rename_i ys e
      cases h
      cases s.ob k a _ h1 e with
      | lst h2 h3 => exact ⟨_, _, rfl, h2, h3⟩
    · cases h
  | _ => cases h
def strsOf : List MV → Option (List Str)
  | [] => some []
  | .str x :: r => (strsOf r).map (x :: ·)
  | _ :: _ => none
theorem strsOf_rep : ∀ {ms : List MV} {vs : List V} {ys : List Str}, RepAll G A H vs ms → strsOf ms = some ys → vs = ys.map V.str
  | [], _, _, h, e => by cases h; cases e; rfl
  | m :: ms, _, ys, h, e => by
    cases h with
    | @cons v vs m ms r rs =>
      cases m with
      | str x =>
        have e : (strsOf ms).map (x :: ·) = some ys := e
        cases e1 : strsOf ms with
        | none => rw [e1] at e; cases e
        | some zs =>
          rw [e1] at e
          cases e
          rw [strsOf_rep rs e1, r.str_inv]
          rfl
      | _ => cases e
def boolsOf : List MV → Option (List Bool)
  | [] => some []
  | .bl x :: r => (boolsOf r).map (x :: ·)
  | _ :: _ => none
theorem boolsOf_rep : ∀ {ms : List MV} {vs : List V} {ys : List Bool}, RepAll G A H vs ms → boolsOf ms = some ys → vs = ys.map V.bl
  | [], _, _, h, e => by cases h; cases e; rfl
  | m :: ms, _, ys, h, e => by
    cases h with
    | @cons v vs m ms r rs =>
      cases m with
      | bl x =>
        have e : (boolsOf ms).map (x :: ·) = some ys := e
        cases e1 : boolsOf ms with
        | none => rw [e1] at e; cases e
        | some zs =>
          rw [e1] at e
          cases e
          rw [boolsOf_rep rs e1, r.bl_inv]
          rfl
      | _ => cases e

/-! data at any depth -/
mutual
def toD : MV → Option PyData
  | .non => some .none
  | .bl b => some (.bool b)
  | .int i => some (.int i)
  | .str x => some (.str x)
  | .tup xs => (toDs xs).map .tuple
  | .lst xs => (toDs xs).map .list
  | .ty _ => none
  | .gl _ => none
  | .obj _ => none
  | .scr _ => none
  | .ins _ _ _ => none
  | .dct _ _ => none
def toDs : List MV → Option (List PyData)
  | [] => some []
  | x :: xs => (toD x).bind fun d => (toDs xs).map (d :: ·)
end
mutual
theorem Rep.dp : ∀ (m : MV) {v : V} {d : PyData}, Rep G A H v m → toD m = some d → Dp G.K H v d
  | .non, _, _, h, e => by cases h; cases e; exact .non
  | .bl b, _, _, h, e => by cases h; cases e; exact .bl b
  | .int i, _, _, h, e => by cases h; cases e; exact .int i
  | .str x, _, _, h, e => by cases h; cases e; exact .str x
  | .tup xs, _, d, h, e => by
    cases h with
    | tup f r =>
      simp only [toD] at e
      cases e1 : toDs xs with
      | none => rw [e1] at e; cases e
      | some ds => rw [e1] at e; cases e; exact .tup f.sq (RepAll.dp xs r e1)
  | .lst xs, _, d, h, e => by
    cases h with
    | lst f n r =>
      simp only [toD] at e
      cases e1 : toDs xs with
      | none => rw [e1] at e; cases e
      | some ds => rw [e1] at e; cases e; exact .lst (SqL.of f) (RepAll.dp xs r e1)
  | .ty _, _, _, _, e => by cases e
  | .gl _, _, _, _, e => by cases e
  | .obj _, _, _, _, e => by cases e
  | .scr _, _, _, _, e => by cases e
  | .ins _ _ _, _, _, _, e => by cases e
  | .dct _ _, _, _, _, e => by cases e
theorem RepAll.dp : ∀ (ms : List MV) {vs : List V} {ds : List PyData}, RepAll G A H vs ms → toDs ms = some ds → DpAll G.K H vs ds
  | [], _, _, h, e => by cases h; cases e; exact .nil
  | m :: ms, _, ds, h, e => by
    cases h with
    | cons r rs =>
      simp only [toDs] at e
      cases e1 : toD m with
      | none => rw [e1] at e; cases e
      | some d =>
        rw [e1] at e
        cases e2 : toDs ms with
        | none => rw [e2] at e; cases e
        | some es => rw [e2] at e; cases e; exact .cons (Rep.dp m r e1) (RepAll.dp ms rs e2)
end
def topD (m : MV) (st : Sto) : Option PyData := match m with
  | .obj k => match st[k]? with
    | some (.lst xs) => (toDs xs).map .list
    | _ => none
  | m => toD m
theorem Rep.top {m : MV} {v : V} {d : PyData} (s : SR G A H st) (r : Rep G A H v m) (h : topD m st = some d) : Dp G.K H v d := by
  cases m with
  | obj k =>
    cases r with
    | @obj a k h1 =>
      simp only [topD] at h
      split at h
      · rename_i ys e
        cases e1 : toDs ys with
        | none => rw [e1] at h; cases h
        | some ds =>
          rw [e1] at h
          cases h
          cases s.ob k a _ h1 e with
          | lst h2 h3 => exact .lst (SqL.of h2) (RepAll.dp ys h3 e1)
      · cases h
  | _ => exact Rep.dp _ r h
end

/-! ### operators -/
def gAdd : G2 := fun a b st => match a, b with
  | .int i, .int j => .ok (.int (i + j)) st
  | .str x, .str y => if x.length + y.length ≤ 16777216 then .ok (.str (x ++ y)) st else .bad
  | .tup xs, .tup ys => if xs.length + ys.length ≤ 16777216 then .ok (.tup (xs ++ ys)) st else .bad
  | a, b => match listOf a st, listOf b st with
    | some xs, some ys => if xs.length + ys.length ≤ 16777216 then .ok (.lst (xs ++ ys)) st else .bad
    | _, _ => .bad
abbrev rAddM (K : PySem.W.Frag) : R2 := fun x y H Q => (rI0 fun i j => .int (i + j)) x y H Q ∨ ((∃ i j, x = .str i ∧ y = .str j ∧ i.length + j.length ≤ sizeLine ∧ Q (.str (i ++ j)) H) ∨ (rCatA K x y H Q ∨ rCat x y H Q))
theorem opAdd {X : Cx} : OpR X (binaryOp .Add) (rAddM X.K) := op_add.or (op_add_str.or (op_catA.or op_cat))
theorem ite_ok {α : Type} {c : Prop} [Decidable c] {a : Res α} {m : α} {st : Sto} (h : (if c then a else .bad) = .ok m st) : c ∧ a = .ok m st := by
  by_cases hc : c
  · rw [if_pos hc] at h; exact ⟨hc, h⟩
  · rw [if_neg hc] at h; cases h
theorem o2Add {G : Gm} : Op2 G (rAddM G.K) gAdd := by
  intro A H st x y mx my Q m st' s rx ry h k
  unfold gAdd at h
  split at h
  · cases h
    exact .inl ⟨_, _, rx.int_inv, ry.int_inv, fin0 s (.int _) k⟩
  · obtain ⟨hl, h⟩ := ite_ok h
    cases h
    exact .inr (.inl ⟨_, _, rx.str_inv, ry.str_inv, line_of hl, fin0 s (.str _) k⟩)
  · obtain ⟨hl, h⟩ := ite_ok h
    cases h
    cases rx with
    | @tup a vs ms f r =>
      cases ry with
      | @tup b ws ns f' r' =>
        have hl' : vs.length + ws.length ≤ sizeLine := by rw [r.length, r'.length]; exact line_of hl
        refine .inr (.inr (.inl ⟨a, b, vs, ws, rfl, rfl, f.sq, f'.sq, hl', fun e => ?_, fun e e' => ?_, fun e e' => ?_⟩))
        · subst e
          cases r
          exact fin0 s (.tup f' r') k
        · subst e'
          cases r'
          rw [List.append_nil] at k
          exact fin0 s (.tup f r) k
        · exact fin_tup s (r.append r') k
  · split at h
    · rename_i xs ys e1 e2
      obtain ⟨hl, h⟩ := ite_ok h
      cases h
      obtain ⟨a, vs, rfl, h1, r1⟩ := listOf_rep s rx e1
      obtain ⟨b, ws, rfl, h2, r2⟩ := listOf_rep s ry e2
      exact .inr (.inr (.inr ⟨a, b, vs, ws, rfl, rfl, h1, h2, by rw [r1.length, r2.length]; exact line_of hl, fin_lst s (r1.append r2) k⟩))
    · cases h
/-- an operator of two ints -/
def gI (C : Int → Int → Bool) (g : Int → Int → MV) : G2 := fun a b st => match a, b with
  | .int i, .int j => if C i j = true then .ok (g i j) st else .bad
  | _, _ => .bad
theorem o2I {G : Gm} {C : Int → Int → Prop} {c : Int → Int → Bool} {f : Int → Int → V} {g : Int → Int → MV} (hc : ∀ i j, c i j = true → C i j) (hr : ∀ A H i j, Rep G A H (f i j) (g i j)) : Op2 G (rI C f) (gI c g) := by
  intro A H st x y mx my Q m st' s rx ry h k
  unfold gI at h
  split at h
  · obtain ⟨hl, h⟩ := ite_ok h
    cases h
    exact ⟨_, _, rx.int_inv, ry.int_inv, hc _ _ hl, fin0 s (hr A H _ _) k⟩
  · cases h
theorem o2I0 {G : Gm} {f : Int → Int → V} {g : Int → Int → MV} (hr : ∀ A H i j, Rep G A H (f i j) (g i j)) : Op2 G (rI0 f) (gI (fun _ _ => true) g) := by
  intro A H st x y mx my Q m st' s rx ry h k
  unfold gI at h
  split at h
  · obtain ⟨hl, h⟩ := ite_ok h
    cases h
    exact ⟨_, _, rx.int_inv, ry.int_inv, fin0 s (hr A H _ _) k⟩
  · cases h
def gSub : G2 := gI (fun _ _ => true) fun i j => .int (i - j)
def gMod : G2 := gI (fun _ j => decide (0 < j)) fun i j => .int (i % j)
def gDiv : G2 := gI (fun _ j => decide (0 < j ∧ j.natAbs.log2 < 9000)) fun i j => .int (i / j)
def gPow : G2 := gI (fun i j => decide (0 ≤ j ∧ j ≤ 1000 ∧ i.natAbs.log2 < 1000)) fun i j => .int (i ^ j.toNat)
theorem o2Sub {G : Gm} : Op2 G (rI0 fun i j => .int (i - j)) gSub := o2I0 fun _ _ _ _ => .int _
theorem o2Mod {G : Gm} : Op2 G (rI (fun _ j => 0 < j) fun i j => .int (i % j)) gMod := o2I (fun _ _ h => of_decide_eq_true h) fun _ _ _ _ => .int _
theorem o2Div {G : Gm} : Op2 G (rI CDivW fun i j => .int (i / j)) gDiv := o2I (fun _ _ h => of_decide_eq_true h) fun _ _ _ _ => .int _
def CPowM (i j : Int) : Prop := 0 ≤ j ∧ j ≤ 1000 ∧ i.natAbs.log2 < 1000
theorem opPow {X : Cx} : OpR X (binaryOp .Pow) (rI CPowM fun i j => .int (i ^ j.toNat)) := opI fun i j _ _ _ _ _ hc q => by
  obtain ⟨h1, h2, h3⟩ := hc
  refine PyProof.Rows.pow_int h1 ?_ q
  have b : Builtin.Int.intBits i ≤ i.natAbs.log2 + 1 := by
    unfold Builtin.Int.intBits
    split <;> omega
  have b1 : (Builtin.Int.intBits i : Int) ≤ 1001 := by omega
  have b2 : (0 : Int) ≤ Builtin.Int.intBits i := by omega
  calc (Builtin.Int.intBits i : Int) * j ≤ 1001 * 1000 := Int.mul_le_mul b1 h2 h1 (by decide)
    _ ≤ 2 ^ 27 := by decide
theorem o2Pow {G : Gm} : Op2 G (rI CPowM fun i j => .int (i ^ j.toNat)) gPow := o2I (fun _ _ h => of_decide_eq_true h) fun _ _ _ _ => .int _
/-- *: ints, and what is repeated -/
def mulOk (i j : Int) : Bool := decide (((-(2 ^ 64) < i ∧ i < 2 ^ 64) ∨ (-(2 ^ 64) < j ∧ j < 2 ^ 64)) ∨ i.natAbs.log2 + j.natAbs.log2 < 1000000)
def gMul : G2 := fun a b st => match a, b with
  | .int i, .int j => if mulOk i j = true then .ok (.int (i * j)) st else .bad
  | a, .int k => match listOf a st with
    | some xs => if (-(2 ^ 63) ≤ k ∧ k < 2 ^ 63) ∧ xs.length * k.toNat ≤ 16777216 then .ok (.lst (List.replicate k.toNat xs).flatten) st else .bad
    | none => .bad
  | _, _ => .bad
abbrev rMulM : R2 := fun x y H Q => (rI CMul fun i j => .int (i * j)) x y H Q ∨ ((rI CMulW fun i j => .int (i * j)) x y H Q ∨ rRep x y H Q)
theorem opMul {X : Cx} : OpR X (binaryOp .Mult) rMulM := op_mul.or (op_mulW.or op_rep)
theorem RepAll.flat {G : Gm} {A : Ad} {H : Hp} {vs : List V} {ms : List MV} (r : RepAll G A H vs ms) : ∀ n : Nat, RepAll G A H (List.replicate n vs).flatten (List.replicate n ms).flatten
  | 0 => .nil
  | n + 1 => by
    rw [List.replicate_succ, List.replicate_succ, List.flatten_cons, List.flatten_cons]
    exact r.append (RepAll.flat r n)
theorem o2Mul {G : Gm} : Op2 G rMulM gMul := by
  intro A H st x y mx my Q m st' s rx ry h k
  unfold gMul at h
  split at h
  · obtain ⟨hl, h⟩ := ite_ok h
    cases h
    rcases of_decide_eq_true hl with q | q
    · exact .inl ⟨_, _, rx.int_inv, ry.int_inv, q, fin0 s (.int _) k⟩
    · exact .inr (.inl ⟨_, _, rx.int_inv, ry.int_inv, q, fin0 s (.int _) k⟩)
  · split at h
    · rename_i xs e1
      obtain ⟨hl, h⟩ := ite_ok h
      cases h
      obtain ⟨a, vs, rfl, h1, r1⟩ := listOf_rep s rx e1
      exact .inr (.inr ⟨a, _, vs, rfl, ry.int_inv, h1, hl.1.1, hl.1.2, by rw [r1.length]; exact line_of hl.2, fin_lst s (r1.flat _) k⟩)
    · cases h
  · cases h
def gNeg : MV → Sto → Res MV := fun a st => match a with
  | .int i => .ok (.int (-i)) st
  | _ => .bad
theorem o1Neg {G : Gm} : Op1 G (rU fun i => .int (-i)) gNeg := by
  intro A H st x mx Q m st' s rx h k
  unfold gNeg at h
  split at h
  · cases h
    exact ⟨_, rx.int_inv, fin0 s (.int _) k⟩
  · cases h
/-! ### comparisons -/
def gEq : G2 := fun a b st => match topD a st, topD b st with
  | some d, some e => if (SeqAt.shaped d && SeqAt.shaped e) = true then .ok (.bl (PyData.eqv d e)) st else .bad
  | _, _ => .bad
def gNe : G2 := fun a b st => match topD a st, topD b st with
  | some d, some e => if (SeqAt.shaped d && SeqAt.shaped e) = true then .ok (.bl (!PyData.eqv d e)) st else .bad
  | _, _ => .bad
theorem o2Eq {G : Gm} : Op2 G (rEqD G.K) gEq := by
  intro A H st x y mx my Q m st' s rx ry h k
  unfold gEq at h
  split at h
  · rename_i d e h1 h2
    obtain ⟨hl, h⟩ := ite_ok h
    cases h
    rw [Bool.and_eq_true] at hl
    exact ⟨d, e, rx.top s h1, ry.top s h2, hl.1, hl.2, fin0 s (.bl _) k⟩
  · cases h
theorem o2Ne {G : Gm} : Op2 G (rNeD G.K) gNe := by
  intro A H st x y mx my Q m st' s rx ry h k
  unfold gNe at h
  split at h
  · rename_i d e h1 h2
    obtain ⟨hl, h⟩ := ite_ok h
    cases h
    rw [Bool.and_eq_true] at hl
    exact ⟨d, e, rx.top s h1, ry.top s h2, hl.1, hl.2, fin0 s (.bl _) k⟩
  · cases h
/-- an order: ints, texts -/
def gOrd (f : Int → Int → Bool) (g : Str → Str → Bool) : G2 := fun a b st => match a, b with
  | .int i, .int j => .ok (.bl (f i j)) st
  | .str i, .str j => .ok (.bl (g i j)) st
  | _, _ => .bad
abbrev rOrd (f : Int → Int → Bool) (g : Str → Str → Bool) : R2 := fun x y H Q => (rI0 fun i j => .bl (f i j)) x y H Q ∨ ∃ i j, x = .str i ∧ y = .str j ∧ Q (.bl (g i j)) H
theorem o2Ord {G : Gm} {f : Int → Int → Bool} {g : Str → Str → Bool} : Op2 G (rOrd f g) (gOrd f g) := by
  intro A H st x y mx my Q m st' s rx ry h k
  unfold gOrd at h
  split at h
  · cases h
    exact .inl ⟨_, _, rx.int_inv, ry.int_inv, fin0 s (.bl _) k⟩
  · cases h
    exact .inr ⟨_, _, rx.str_inv, ry.str_inv, fin0 s (.bl _) k⟩
  · cases h
abbrev sLt (i j : Str) : Bool := decide (i.cps.toList < j.cps.toList)
def gLt : G2 := gOrd (fun i j => decide (i < j)) fun i j => sLt i j
def gLe : G2 := gOrd (fun i j => decide (i ≤ j)) fun i j => !sLt j i
def gGt : G2 := gOrd (fun i j => decide (j < i)) fun i j => sLt j i
def gGe : G2 := gOrd (fun i j => decide (j ≤ i)) fun i j => !sLt i j
section
variable {X : Cx}
theorem opLt : OpR X (compareOp .Lt) (rOrd (fun i j => decide (i < j)) fun i j => sLt i j) := op_lt.or op_lt_str
theorem opLe : OpR X (compareOp .LtE) (rOrd (fun i j => decide (i ≤ j)) fun i j => !sLt j i) := op_le.or op_le_str
theorem opGt : OpR X (compareOp .Gt) (rOrd (fun i j => decide (j < i)) fun i j => sLt j i) := op_gt.or op_gt_str
theorem opGe : OpR X (compareOp .GtE) (rOrd (fun i j => decide (j ≤ i)) fun i j => !sLt i j) := op_ge.or op_ge_str
end
theorem o2Lt {G : Gm} : Op2 G (rOrd (fun i j => decide (i < j)) fun i j => sLt i j) gLt := o2Ord
theorem o2Le {G : Gm} : Op2 G (rOrd (fun i j => decide (i ≤ j)) fun i j => !sLt j i) gLe := o2Ord
theorem o2Gt {G : Gm} : Op2 G (rOrd (fun i j => decide (j < i)) fun i j => sLt j i) gGt := o2Ord
theorem o2Ge {G : Gm} : Op2 G (rOrd (fun i j => decide (j ≤ i)) fun i j => !sLt i j) gGe := o2Ord
/-- in: a sign in a text, a flat value in a list or a tuple -/
def flatM : MV → Bool
  | .non => true
  | .bl _ => true
  | .int _ => true
  | .str _ => true
  | _ => false
def toFlat : MV → V
  | .non => .non
  | .bl b => .bl b
  | .int i => .int i
  | .str x => .str x
  | _ => .non
def memM (x : MV) (xs : List MV) : Bool := xs.any fun y => eqV (toFlat y) (toFlat x)
def isInM (a b : MV) (st : Sto) : Option Bool := match a, b with
  | .str x, .str z => if x.cps.size = 1 then some (decide (x.cps.getD 0 0 ∈ z.cps.toList)) else none
  | x, m => match itemsOf m st with
    | some xs => if flatM x && xs.all flatM then some (memM x xs) else none
    | none => none
def gIn : G2 := fun a b st => match isInM a b st with
  | some b => .ok (.bl b) st
  | none => .bad
def gNotIn : G2 := fun a b st => match isInM a b st with
  | some b => .ok (.bl (!b)) st
  | none => .bad
section
variable {G : Gm} {A : Ad} {H : Hp} {st : Sto}
theorem Rep.flat {v : V} {m : MV} (r : Rep G A H v m) (h : flatM m = true) : v = toFlat m ∧ flatV v = true := by
  cases r <;> first | exact ⟨rfl, rfl⟩ | cases h
theorem RepAll.flats {vs : List V} {ms : List MV} (r : RepAll G A H vs ms) (h : ms.all flatM = true) : vs = ms.map toFlat ∧ vs.all flatV = true := by
  induction vs generalizing ms with
  | nil => cases r; exact ⟨rfl, rfl⟩
  | cons v vs ih =>
    cases r with
    | cons r rs =>
      rw [List.all_cons, Bool.and_eq_true] at h
      obtain ⟨e1, f1⟩ := r.flat h.1
      obtain ⟨e2, f2⟩ := ih rs h.2
      exact ⟨by rw [List.map_cons, ← e1, ← e2], by rw [List.all_cons, f1, f2]; rfl⟩
end
abbrev rInM (K : PySem.W.Frag) : R2 := fun x y H Q => (∃ (c : Nat) (z : Str), x = .str ⟨#[c]⟩ ∧ y = .str z ∧ Q (.bl (decide (c ∈ z.cps.toList))) H) ∨ rIn K false x y H Q
abbrev rNotInM (K : PySem.W.Frag) : R2 := fun x y H Q => (∃ (c : Nat) (z : Str), x = .str ⟨#[c]⟩ ∧ y = .str z ∧ Q (.bl (!decide (c ∈ z.cps.toList))) H) ∨ rIn K true x y H Q
theorem opIn {X : Cx} : OpR X (compareOp .In) (rInM X.K) := op_in_sign.or op_in_seq
theorem opNotIn {X : Cx} : OpR X (compareOp .NotIn) (rNotInM X.K) := op_notIn_sign.or op_notIn_seq
theorem one_sign {x : Str} (h : x.cps.size = 1) : x = ⟨#[x.cps.getD 0 0]⟩ := by
  obtain ⟨⟨l⟩⟩ := x
  simp at h
  obtain ⟨c, rfl⟩ := List.length_eq_one_iff.mp h
  rfl
theorem isIn_two {G : Gm} {A : Ad} {H : Hp} {st : Sto} {x y : V} {mx my : MV} {b : Bool} (s : SR G A H st) (rx : Rep G A H x mx) (ry : Rep G A H y my) (h : isInM mx my st = some b) :
    (∃ (c : Nat) (z : Str), x = .str ⟨#[c]⟩ ∧ y = .str z ∧ b = decide (c ∈ z.cps.toList)) ∨ ∃ p xs, y = .ref p ∧ (SqL G.K H p xs ∨ SqT G.K H p xs) ∧ flatV x = true ∧ xs.all flatV = true ∧ b = inV x xs := by
  unfold isInM at h
  split at h
  · rename_i x z
    by_cases hc : x.cps.size = 1
    · rw [if_pos hc] at h
      cases h
      exact .inl ⟨_, z, by rw [rx.str_inv]; exact congrArg V.str (one_sign hc), ry.str_inv, rfl⟩
    · rw [if_neg hc] at h; cases h
  · split at h
    · rename_i xs e
      by_cases hc : (flatM mx && xs.all flatM) = true
      · rw [if_pos hc] at h
        cases h
        rw [Bool.and_eq_true] at hc
        obtain ⟨p, vs, rfl, sq, rv⟩ := items_rep s ry e
        obtain ⟨e1, f1⟩ := rx.flat hc.1
        obtain ⟨e2, f2⟩ := rv.flats hc.2
        refine .inr ⟨p, vs, rfl, sq.symm, f1, f2, ?_⟩
        rw [e2, e1]
        simp [memM, inV, List.any_map, Function.comp_def]
      · rw [if_neg hc] at h; cases h
    · cases h
theorem o2In {G : Gm} : Op2 G (rInM G.K) gIn := by
  intro A H st x y mx my Q m st' s rx ry h k
  unfold gIn at h
  split at h
  · rename_i b e
    cases h
    rcases isIn_two s rx ry e with ⟨c, z, h1, h2, h3⟩ | ⟨p, xs, h1, h2, h3, h4, h5⟩
    · exact .inl ⟨c, z, h1, h2, by rw [← h3]; exact fin0 s (.bl _) k⟩
    · exact .inr ⟨p, xs, h1, h2, h3, h4, by rw [if_neg (by simp), ← h5]; exact fin0 s (.bl _) k⟩
  · cases h
theorem o2NotIn {G : Gm} : Op2 G (rNotInM G.K) gNotIn := by
  intro A H st x y mx my Q m st' s rx ry h k
  unfold gNotIn at h
  split at h
  · rename_i b e
    cases h
    rcases isIn_two s rx ry e with ⟨c, z, h1, h2, h3⟩ | ⟨p, xs, h1, h2, h3, h4, h5⟩
    · exact .inl ⟨c, z, h1, h2, by rw [← h3]; exact fin0 s (.bl _) k⟩
    · exact .inr ⟨p, xs, h1, h2, h3, h4, by rw [if_pos (by simp), ← h5]; exact fin0 s (.bl _) k⟩
  · cases h
/-- is None, is not None -/
def isNonM : MV → Bool
  | .non => true
  | _ => false
def gIs : G2 := fun a b st => match b with
  | .non => .ok (.bl (isNonM a)) st
  | _ => .bad
def gIsNot : G2 := fun a b st => match b with
  | .non => .ok (.bl (!isNonM a)) st
  | _ => .bad
theorem rep_non {G : Gm} {A : Ad} {H : Hp} {v : V} {m : MV} (r : Rep G A H v m) : decide (v = .non) = isNonM m := by
  cases r <;> first | rfl | exact decide_eq_false (by intro z; cases z)
theorem o2Is {G : Gm} : Op2 G (fun x y H Q => y = .non ∧ Q (.bl (decide (x = .non))) H) gIs := by
  intro A H st x y mx my Q m st' s rx ry h k
  unfold gIs at h
  split at h
  · cases h
    exact ⟨ry.non_inv, by rw [rep_non rx]; exact fin0 s (.bl _) k⟩
  · cases h
theorem o2IsNot {G : Gm} : Op2 G (fun x y H Q => y = .non ∧ Q (.bl (!decide (x = .non))) H) gIsNot := by
  intro A H st x y mx my Q m st' s rx ry h k
  unfold gIsNot at h
  split at h
  · cases h
    exact ⟨ry.non_inv, by rw [rep_non rx]; exact fin0 s (.bl _) k⟩
  · cases h
end MR

/-! subscripts, slices, calls and methods of built-ins by values -/
namespace MR
open PySem L2
variable [Tb]

section
variable {G : Gm} {A : Ad} {H : Hp} {st : Sto}
theorem RepAll.atI {vs : List V} {ms : List MV} (r : RepAll G A H vs ms) {i : Int} {m : MV} (h : atI ms i = some m) : ∃ v, L2.atI vs i = some v ∧ Rep G A H v m := by
  unfold L2.atI at h ⊢
  rw [r.length]
  cases e : ixN ms.length i with
  | none => rw [e] at h; cases h
  | some j =>
    rw [e] at h
    exact r.at h
end
/-! ### subscripts -/
def scrAt (ns : List Int) (i : Int) : Option MV := (atI ns i).map .int
def gIx : G2 := fun a b st => match a, b with
  | .str z, .int i => if z.length ≤ 16777216 then (match atI z.cps.toList i with
    | some c => .ok (.str ⟨#[c]⟩) st
    | none => .bad) else .bad
  | .scr ns, .int i => match atI ns i with
    | some n => .ok (.int n) st
    | none => .bad
  | m, .int i => match itemsOf m st with
    | some xs => (match atI xs i with
      | some x => .ok x st
      | none => .bad)
    | none => .bad
  | _, _ => .bad
theorem atI_map {α β : Type} (f : α → β) (xs : List α) (i : Int) : atI (xs.map f) i = (atI xs i).map f := by
  unfold atI
  rw [List.length_map]
  cases ixN xs.length i <;> simp
theorem o2Ix {G : Gm} : Op2 G (rIx G.K) gIx := by
  intro A H st x y mx my Q m st' s rx ry h k
  unfold gIx at h
  split at h
  · obtain ⟨hl, h⟩ := ite_ok h
    split at h
    · rename_i c e
      cases h
      exact .inr (.inr ⟨_, _, c, rx.str_inv, ry.int_inv, line_of hl, e, fin0 s (.str _) k⟩)
    · cases h
  · split at h
    · rename_i n e
      cases h
      cases rx with
      | @scr a ns f =>
        refine .inl ⟨a, _, _, .int n, rfl, ry.int_inv, f.sq, ?_, fin0 s (.int _) k⟩
        rw [atI_map, e]
        rfl
    · cases h
  · split at h
    · rename_i xs e
      split at h
      · rename_i z ez
        cases h
        obtain ⟨p, vs, rfl, sq, rv⟩ := items_rep s rx e
        obtain ⟨v, ev, rz⟩ := rv.atI ez
        rcases sq with sq | sq
        · exact .inr (.inl ⟨p, vs, _, v, rfl, ry.int_inv, sq, ev, fin0 s rz k⟩)
        · exact .inl ⟨p, vs, _, v, rfl, ry.int_inv, sq, ev, fin0 s rz k⟩
      · cases h
    · cases h
  · cases h
/-! ### slices -/
def cutM (xs : List MV) (lo hi : Option Int) : List MV := (xs.drop (HT.sIx xs.length 0 lo)).take (HT.sIx xs.length xs.length hi - HT.sIx xs.length 0 lo)
theorem cut_rep {G : Gm} {A : Ad} {H : Hp} {vs : List V} {ms : List MV} (r : RepAll G A H vs ms) (lo hi : Option Int) : RepAll G A H (cutV vs lo hi) (cutM ms lo hi) := by
  unfold cutV cutM
  rw [r.length]
  exact (r.drop _).take _
theorem cut_all {G : Gm} {A : Ad} {H : Hp} {vs : List V} {ms : List MV} (r : RepAll G A H vs ms) {lo hi : Option Int} (e : HT.sIx vs.length 0 lo = 0 ∧ HT.sIx vs.length vs.length hi = vs.length) : cutM ms lo hi = ms := by
  unfold cutM
  rw [← r.length, e.1, e.2, r.length]
  simp
def gSlice : GSl := fun a lo hi st => match a with
  | .str z => if z.length ≤ 16777216 then .ok (.str (cutS z lo hi)) st else .bad
  | .tup xs => .ok (.tup (cutM xs lo hi)) st
  | m => match listOf m st with
    | some xs => .ok (.lst (cutM xs lo hi)) st
    | none => .bad
theorem SlR.or {X : Cx} {r r' : V → Option Int → Option Int → Hp → VK → Prop} (h : SlR X r) (h' : SlR X r') : SlR X (fun x lo hi H Q => r x lo hi H Q ∨ r' x lo hi H Q) := by
  intro pins s σ H x v vl vu lo hi sl Q I rx hs pl pu q
  rcases q with q | q
  · exact h pins s σ H x v vl vu lo hi sl Q I rx hs pl pu q
  · exact h' pins s σ H x v vl vu lo hi sl Q I rx hs pl pu q
abbrev rSlM (K : PySem.W.Frag) : V → Option Int → Option Int → Hp → VK → Prop := fun x lo hi H Q => rSlS x lo hi H Q ∨ (rSlA K x lo hi H Q ∨ rSlL K x lo hi H Q)
theorem opSlice {X : Cx} : SlR X (rSlM X.K) := SlR.or sl_str (SlR.or sl_tupA sl_list)
theorem oSlice {G : Gm} : OpSl G (rSlM G.K) gSlice := by
  intro A H st x mx lo hi Q m st' s rx h k
  unfold gSlice at h
  split at h
  · obtain ⟨hl, h⟩ := ite_ok h
    cases h
    exact .inl ⟨_, rx.str_inv, line_of hl, fin0 s (.str _) k⟩
  · cases h
    cases rx with
    | @tup a vs ms f r =>
      refine .inr (.inl ⟨a, vs, rfl, f.sq, fun e => ?_, fun _ => fin_tup s (cut_rep r lo hi) k⟩)
      rw [cut_all r e] at k
      exact fin0 s (.tup f r) k
  · split at h
    · rename_i xs e
      cases h
      obtain ⟨a, vs, rfl, h1, r1⟩ := listOf_rep s rx e
      exact .inr (.inr ⟨a, vs, rfl, SqL.of h1, fin_lst s (cut_rep r1 lo hi) k⟩)
    · cases h
/-! ### calls -/
def gLen : List MV → Sto → Res MV := fun ms st => match ms with
  | [.str z] => if z.length ≤ 16777216 then .ok (.int z.length) st else .bad
  | [.scr ns] => .ok (.int ns.length) st
  | [m] => match itemsOf m st with
    | some xs => .ok (.int xs.length) st
    | none => .bad
  | _ => .bad
theorem oLen {G : Gm} : OpN G (fun xs H Q => ∃ x n, xs = [x] ∧ LenV G.K x H n ∧ Q (.int n) H) gLen := by
  intro A H st xs ms Q m st' s r h k
  unfold gLen at h
  split at h
  · obtain ⟨hl, h⟩ := ite_ok h
    cases h
    cases r with
    | cons r rs =>
      cases rs
      exact ⟨_, _, rfl, by rw [r.str_inv]; exact ⟨line_of hl, rfl⟩, fin0 s (.int _) k⟩
  · cases h
    cases r with
    | cons r rs =>
      cases rs
      cases r with
      | scr f => exact ⟨_, _, rfl, .inl ⟨_, f.sq, rfl⟩, by rw [List.length_map]; exact fin0 s (.int _) k⟩
  · split at h
    · rename_i xs e
      cases h
      cases r with
      | cons r rs =>
        cases rs
        obtain ⟨p, vs, rfl, sq, rv⟩ := items_rep s r e
        refine ⟨_, vs.length, rfl, ?_, by rw [rv.length]; exact fin0 s (.int _) k⟩
        rcases sq with sq | sq
        · exact .inr ⟨vs, sq, rfl⟩
        · exact .inl ⟨vs, sq, rfl⟩
    · cases h
  · cases h
def gAll : List MV → Sto → Res MV := fun ms st => match ms with
  | [m] => match (listOf m st).bind boolsOf with
    | some bs => .ok (.bl (bs.all id)) st
    | none => .bad
  | _ => .bad
def gAny : List MV → Sto → Res MV := fun ms st => match ms with
  | [m] => match (listOf m st).bind boolsOf with
    | some bs => .ok (.bl (bs.any id)) st
    | none => .bad
  | _ => .bad
theorem bools_rep {G : Gm} {A : Ad} {H : Hp} {st : Sto} {m : MV} {v : V} {bs : List Bool} (s : SR G A H st) (r : Rep G A H v m) (h : (listOf m st).bind boolsOf = some bs) : ∃ a, v = .ref a ∧ SqL G.K H a (bs.map V.bl) := by
  cases e : listOf m st with
  | none => rw [e] at h; cases h
  | some xs =>
    rw [e] at h
    obtain ⟨a, vs, rfl, h1, r1⟩ := listOf_rep s r e
    exact ⟨a, rfl, by rw [← boolsOf_rep r1 h]; exact SqL.of h1⟩
theorem oAll {G : Gm} : OpN G (rAll G.K) gAll := by
  intro A H st xs ms Q m st' s r h k
  unfold gAll at h
  split at h
  · split at h
    · rename_i bs e
      cases h
      cases r with
      | cons r rs =>
        cases rs
        obtain ⟨a, rfl, h1⟩ := bools_rep s r e
        exact ⟨a, bs, rfl, h1, fin0 s (.bl _) k⟩
    · cases h
  · cases h
theorem oAny {G : Gm} : OpN G (rAny G.K) gAny := by
  intro A H st xs ms Q m st' s r h k
  unfold gAny at h
  split at h
  · split at h
    · rename_i bs e
      cases h
      cases r with
      | cons r rs =>
        cases rs
        obtain ⟨a, rfl, h1⟩ := bools_rep s r e
        exact ⟨a, bs, rfl, h1, fin0 s (.bl _) k⟩
    · cases h
  · cases h
/-- tuple(xs), list(xs) -/
def gTuple : List MV → Sto → Res MV := fun ms st => match ms with
  | [m] => match itemsOf m st with
    | some xs => .ok (.tup xs) st
    | none => .bad
  | _ => .bad
theorem items_cases {G : Gm} {A : Ad} {H : Hp} {st : Sto} {v : V} {m : MV} {xs : List MV} (s : SR G A H st) (r : Rep G A H v m) (h : itemsOf m st = some xs) :
    ∃ a vs, v = .ref a ∧ RepAll G A H vs xs ∧ (FzT G A H a vs ∨ SqL G.K H a vs) := by
  cases r with
  | tup h1 h2 => cases h; exact ⟨_, _, rfl, h2, .inl h1⟩
  | lst h1 h2 h3 => cases h; exact ⟨_, _, rfl, h3, .inr (SqL.of h1)⟩
  | @obj a k h1 =>
    simp only [itemsOf] at h
    split at h
    · rename_i ys e
      cases h
      cases s.ob k a _ h1 e with
      | lst h2 h3 => exact ⟨_, _, rfl, h3, .inr (SqL.of h2)⟩
    · cases h
  | _ => cases h
theorem oTuple {G : Gm} : OpN G (fun xs H Q => ∃ p ys, xs = [.ref p] ∧ ((SqL G.K H p ys ∧ ∀ l, H l = none → Q (.ref l) (upd H l (.tup ys))) ∨ (SqT G.K H p ys ∧ Q (.ref p) H))) gTuple := by
  intro A H st xs ms Q m st' s r h k
  unfold gTuple at h
  split at h
  · split at h
    · rename_i xs e
      cases h
      cases r with
      | cons r rs =>
        cases rs
        obtain ⟨a, vs, rfl, rv, q⟩ := items_cases s r e
        rcases q with q | q
        · exact ⟨a, vs, rfl, .inr ⟨q.sq, fin0 s (.tup q rv) k⟩⟩
        · exact ⟨a, vs, rfl, .inl ⟨q, fin_tup s rv k⟩⟩
    · cases h
  · cases h
def gList : List MV → Sto → Res MV := fun ms st => match ms with
  | [m] => match itemsOf m st with
    | some xs => .ok (.lst xs) st
    | none => .bad
  | _ => .bad
def gListN : List MV → Sto → Res MV := fun ms st => match ms with
  | [m] => match itemsOf m st with
    | some xs => .ok (.obj st.length) (st ++ [.lst xs])
    | none => .bad
  | _ => .bad
theorem oList {G : Gm} : OpN G (fun xs H Q => ∃ p ys, xs = [.ref p] ∧ (SqL G.K H p ys ∨ SqT G.K H p ys) ∧ ∀ l, H l = none → Q (.ref l) (upd H l (.lst ys))) gList := by
  intro A H st xs ms Q m st' s r h k
  unfold gList at h
  split at h
  · split at h
    · rename_i xs e
      cases h
      cases r with
      | cons r rs =>
        cases rs
        obtain ⟨a, vs, rfl, sq, rv⟩ := items_rep s r e
        exact ⟨a, vs, rfl, sq.symm, fin_lst s rv k⟩
    · cases h
  · cases h
theorem oListN {G : Gm} : OpN G (fun xs H Q => ∃ p ys, xs = [.ref p] ∧ (SqL G.K H p ys ∨ SqT G.K H p ys) ∧ ∀ l, H l = none → Q (.ref l) (upd H l (.lst ys))) gListN := by
  intro A H st xs ms Q m st' s r h k
  unfold gListN at h
  split at h
  · split at h
    · rename_i xs e
      cases h
      cases r with
      | cons r rs =>
        cases rs
        obtain ⟨a, vs, rfl, sq, rv⟩ := items_rep s r e
        exact ⟨a, vs, rfl, sq.symm, fin_lstN s rv k⟩
    · cases h
  · cases h
def gAbs : List MV → Sto → Res MV := fun ms st => match ms with
  | [.int i] => .ok (.int (if i < 0 then -i else i)) st
  | _ => .bad
theorem oAbs {G : Gm} : OpN G (fun xs H Q => ∃ i, xs = [.int i] ∧ Q (.int (if i < 0 then -i else i)) H) gAbs := by
  intro A H st xs ms Q m st' s r h k
  unfold gAbs at h
  split at h
  · cases h
    cases r with
    | cons r rs => cases rs; exact ⟨_, by rw [r.int_inv], fin0 s (.int _) k⟩
  · cases h
def gMax : List MV → Sto → Res MV := fun ms st => match ms with
  | [.int i, .int j] => .ok (.int (if j > i then j else i)) st
  | _ => .bad
def gMin : List MV → Sto → Res MV := fun ms st => match ms with
  | [.int i, .int j] => .ok (.int (if j < i then j else i)) st
  | _ => .bad
theorem oMax {G : Gm} : OpN G (fun xs H Q => ∃ i j, xs = [.int i, .int j] ∧ Q (.int (if j > i then j else i)) H) gMax := by
  intro A H st xs ms Q m st' s r h k
  unfold gMax at h
  split at h
  · cases h
    cases r with
    | cons r rs =>
      cases rs with
      | cons r2 rs => cases rs; exact ⟨_, _, by rw [r.int_inv, r2.int_inv], fin0 s (.int _) k⟩
  · cases h
theorem oMin {G : Gm} : OpN G (fun xs H Q => ∃ i j, xs = [.int i, .int j] ∧ Q (.int (if j < i then j else i)) H) gMin := by
  intro A H st xs ms Q m st' s r h k
  unfold gMin at h
  split at h
  · cases h
    cases r with
    | cons r rs =>
      cases rs with
      | cons r2 rs => cases rs; exact ⟨_, _, by rw [r.int_inv, r2.int_inv], fin0 s (.int _) k⟩
  · cases h
/-- int(x), str(x) -/
def gInt : List MV → Sto → Res MV := fun ms st => match ms with
  | [.int i] => .ok (.int i) st
  | [.bl k] => .ok (.int (if k then 1 else 0)) st
  | [.str a] => if a.length ≤ 640 then (match PySem.intText? a with
    | some n => .ok (.int n) st
    | none => .bad) else .bad
  | _ => .bad
abbrev rIntM : List V → Hp → VK → Prop := fun xs H Q => ((∃ i, xs = [.int i] ∧ Q (.int i) H) ∨ ∃ k, xs = [.bl k] ∧ Q (.int (if k then 1 else 0)) H) ∨ ∃ a n, xs = [.str a] ∧ PySem.intText? a = some n ∧ a.length ≤ 640 ∧ Q (.int n) H
theorem opInt {X : Cx} : CallR X (.type "int") rIntM := CallR.or call_int1 call_int_str
theorem oInt {G : Gm} : OpN G rIntM gInt := by
  intro A H st xs ms Q m st' s r h k
  unfold gInt at h
  split at h
  · cases h
    cases r with
    | cons r rs => cases rs; exact .inl (.inl ⟨_, by rw [r.int_inv], fin0 s (.int _) k⟩)
  · cases h
    cases r with
    | cons r rs => cases rs; exact .inl (.inr ⟨_, by rw [r.bl_inv], fin0 s (.int _) k⟩)
  · obtain ⟨hl, h⟩ := ite_ok h
    split at h
    · rename_i n e
      cases h
      cases r with
      | cons r rs => cases rs; exact .inr ⟨_, n, by rw [r.str_inv], e, hl, fin0 s (.int _) k⟩
    · cases h
  · cases h
def gStr : List MV → Sto → Res MV := fun ms st => match ms with
  | [.int i] => if i.natAbs.log2 < 1920 then .ok (.str (toString i)) st else .bad
  | [.str a] => .ok (.str a) st
  | _ => .bad
abbrev rStrM : List V → Hp → VK → Prop := fun xs H Q => (∃ i, xs = [.int i] ∧ i.natAbs.log2 < 1920 ∧ Q (.str (toString i)) H) ∨ ∃ a, xs = [.str a] ∧ Q (.str a) H
theorem opStr {X : Cx} : CallR X (.type "str") rStrM := CallR.or call_str_int SkE.call_str_str
theorem oStr {G : Gm} : OpN G rStrM gStr := by
  intro A H st xs ms Q m st' s r h k
  unfold gStr at h
  split at h
  · obtain ⟨hl, h⟩ := ite_ok h
    cases h
    cases r with
    | cons r rs => cases rs; exact .inl ⟨_, by rw [r.int_inv], hl, fin0 s (.str _) k⟩
  · cases h
    cases r with
    | cons r rs => cases rs; exact .inr ⟨_, by rw [r.str_inv], fin0 s (.str _) k⟩
  · cases h
/-- isinstance(x, T) -/
def tyName (m : MV) (st : Sto) : Option String := match m with
  | .non => some "NoneType"
  | .bl _ => some "bool"
  | .int _ => some "int"
  | .str _ => some "str"
  | .tup _ => some "tuple"
  | .lst _ => some "list"
  | .scr _ => some "list"
  | .obj k => match st[k]? with
    | some (.lst _) => some "list"
    | _ => none
  | _ => none
def gIsi : List MV → Sto → Res MV := fun ms st => match ms with
  | [x, .ty c] => match (tyName x st).bind fun t => kitB t c with
    | some b => .ok (.bl b) st
    | none => .bad
  | _ => .bad
theorem tyx_sqL {K : PySem.W.Frag} {H : Hp} {a : Addr} {xs : List V} (h : SqL K H a xs) : TyX K H (.ref a) (.type "list") := by
  rcases h with (h | ⟨o, h⟩) | ⟨o, its, n, h1, h2, _⟩
  · exact .base (.lst h)
  · exact .base (.frz h)
  · exact .kList h1 h2
theorem tyx_sqT {K : PySem.W.Frag} {H : Hp} {a : Addr} {xs : List V} (h : SqT K H a xs) : TyX K H (.ref a) (.type "tuple") := by
  rcases h with (h | ⟨o, h⟩) | ⟨o, its, n, h1, h2, _⟩
  · exact .base (.tup h)
  · exact .fTuple h
  · exact .kTuple h1 h2
theorem tyName_rep {G : Gm} {A : Ad} {H : Hp} {st : Sto} {v : V} {m : MV} {t : String} (s : SR G A H st) (r : Rep G A H v m) (h : tyName m st = some t) : TyX G.K H v (.type t) := by
  cases r with
  | non => cases h; exact .base .non
  | bl b => cases h; exact .base (.bl b)
  | int i => cases h; exact .base (.int i)
  | str x => cases h; exact .base (.str x)
  | tup f r => cases h; exact tyx_sqT f.sq
  | lst f n r => cases h; exact tyx_sqL (SqL.of f)
  | scr f => cases h; exact tyx_sqL f.sq
  | ins => cases h
  | dctL => cases h
  | dctN => cases h
  | @obj a k h1 =>
    simp only [tyName] at h
    split at h
    · rename_i ys e
      cases h
      cases s.ob k a _ h1 e with
      | lst h2 h3 => exact tyx_sqL (SqL.of h2)
    · cases h
  | ty n => cases h
  | gl h1 => cases h
theorem oIsi {G : Gm} : OpN G (rIsi G.K) gIsi := by
  intro A H st xs ms Q m st' s r h k
  unfold gIsi at h
  split at h
  · rename_i x c
    split at h
    · rename_i b e
      cases h
      cases e1 : tyName x st with
      | none => rw [e1] at e; cases e
      | some t =>
        rw [e1] at e
        cases r with
        | cons r rs =>
          cases rs with
          | cons r2 rs =>
            cases rs
            cases r2
            exact ⟨_, .ty c, _, .type c, b, rfl, .ty c, tyName_rep s r e1, kit_ty e, fin0 s (.bl _) k⟩
    · cases h
  · cases h
/-! ### methods -/
def isStr (m : MV) (_ : Sto) : Bool := match m with
  | .str _ => true
  | _ => false
def isLst (m : MV) (st : Sto) : Bool := (listOf m st).isSome
theorem oIsStr {G : Gm} : OpTy G "str" isStr := by
  intro A H st v m s r h
  cases r with
  | str x => exact rfl
  | _ => cases h
theorem oIsLst {G : Gm} : OpTy G "list" isLst := by
  intro A H st v m s r h
  unfold isLst at h
  obtain ⟨xs, e⟩ := Option.isSome_iff_exists.mp h
  obtain ⟨a, vs, rfl, h1, r1⟩ := listOf_rep s r e
  exact .inl ⟨rfl, vs, SqL.of h1⟩
def gSplit : MV → List MV → Sto → Res MV := fun x ms st => match x, ms with
  | .str a, [.str b] => if b.length ≠ 0 ∧ a.length + 2 ≤ 16777216 then .ok (.lst ((Txt.split a b).map .str)) st else .bad
  | _, _ => .bad
theorem RepAll.strs {G : Gm} {A : Ad} {H : Hp} (ys : List Str) : RepAll G A H (ys.map V.str) (ys.map MV.str) := RepAll.map_of (fun a => .str a) ys
theorem oSplit {G : Gm} : OpMt G (fun x xs H Q => ∃ a b, x = .str a ∧ xs = [.str b] ∧ (b.length == 0) = false ∧ a.length + 2 ≤ sizeLine ∧ rNewStrs (Txt.split a b) H Q) gSplit := by
  intro A H st x mx xs ms Q m st' s rx r h k
  unfold gSplit at h
  split at h
  · obtain ⟨hl, h⟩ := ite_ok h
    cases h
    cases r with
    | cons r rs =>
      cases rs
      refine ⟨_, _, rx.str_inv, by rw [r.str_inv], beq_false_of_ne hl.1, line_of hl.2, fin_lst s (RepAll.strs _) k⟩
  · cases h
def gJoin : MV → List MV → Sto → Res MV := fun x ms st => match x, ms with
  | .str a, [m] => match (itemsOf m st).bind strsOf with
    | some ys => if (ys.map (·.length)).sum + ys.length * a.length ≤ 16777216 then .ok (.str (Txt.join a ys)) st else .bad
    | none => .bad
  | _, _ => .bad
theorem oJoin {G : Gm} : OpMt G (fun x xs H Q => ∃ a p, ∃ ys : List Str, x = .str a ∧ xs = [.ref p] ∧ (SqL G.K H p (ys.map V.str) ∨ SqT G.K H p (ys.map V.str)) ∧
    (ys.map (·.length)).sum + ys.length * a.length ≤ 16777216 ∧ Q (.str (Txt.join a ys)) H) gJoin := by
  intro A H st x mx xs ms Q m st' s rx r h k
  unfold gJoin at h
  split at h
  · rename_i a m0
    split at h
    · rename_i ys e
      obtain ⟨hl, h⟩ := ite_ok h
      cases h
      cases e1 : itemsOf m0 st with
      | none => rw [e1] at e; cases e
      | some zs =>
        rw [e1] at e
        cases r with
        | cons r rs =>
          cases rs
          obtain ⟨p, vs, rfl, sq, rv⟩ := items_rep s r e1
          refine ⟨_, p, ys, rx.str_inv, rfl, ?_, hl, fin0 s (.str _) k⟩
          rw [← strsOf_rep rv e]
          exact sq.symm
    · cases h
  · cases h
def gAppend : MV → List MV → Sto → Res MV := fun x ms st => match x, ms with
  | .obj k, [m] => match st[k]? with
    | some (.lst xs) => if xs.length < 16777216 then .ok .non (st.set k (.lst (xs ++ [m]))) else .bad
    | _ => .bad
  | _, _ => .bad
theorem oAppend {G : Gm} : OpMt G rAppend gAppend := by
  intro A H st x mx xs ms Q m st' s rx r h k
  unfold gAppend at h
  split at h
  · rename_i j m0
    split at h
    · rename_i ys e
      obtain ⟨hl, h⟩ := ite_ok h
      cases h
      cases rx with
      | @obj a j h1 =>
        cases r with
        | @cons v vs0 _ _ r rs =>
          cases rs
          cases s.ob j a _ h1 e with
          | @lst vs _ h2 h3 =>
            have hl' : vs.length < sizeLine := by rw [h3.length]; exact (by rw [sizeLine_eq]; exact hl)
            exact ⟨a, vs, v, rfl, rfl, h2, hl', k A _ .non (Ext.set s (List.mem_of_getElem? h1)) (s.set h1 (h3.append (.cons r .nil))) .non⟩
    · cases h
  · cases h
/-! ### o[i] = v -/
def setAt (m : MV) (i : Int) (x : MV) (st : Sto) : Option Sto := match m with
  | .obj k => match st[k]? with
    | some (.lst xs) => (ixN xs.length i).map fun j => st.set k (.lst (xs.set j x))
    | _ => none
  | _ => none
def sSetIx (o i e : ME) : MS := fun env st => bindE (e env st) env fun v st1 => bindE (noExc (o env st1)) env fun m st2 => bindE (noExc (i env st2)) env fun n st3 => match n with
  | .int j => match setAt m j v st3 with
    | some st4 => .nx env st4
    | none => .bad
  | _ => .bad
theorem post_noExcE {r : Res MV} {env : MEnv} {f : MV → Sto → Flw} {G : Gm} {A : Ad} {H : Hp} {W : WX} {D : Ends} (h : (bindE (noExc r) env f).post G A H W D) : ∃ m st, r = .ok m st ∧ (f m st).post G A H W D := by
  cases r with
  | ok m st => exact ⟨m, st, rfl, h⟩
  | exc c st => exact h.elim
  | bad => exact h.elim
section
variable {X : Cx} {W : WX} {pos pos2 : Pos}
theorem pms_setix {o i e : Expr} {mo mi me : ME} (he : PM X W e me) (ho : PM X W o mo) (hi : PM X W i mi)
    (hs : swapsWithSole [.Subscript o i pos] e pos2.line X.env = pure false := by rfl) (hw : swappedStores [.Subscript o i pos] e X.env = pure none := by rfl)
    (h1 : (assignEach [.Subscript o i pos] X.env).map (·.2) = [assign (.Subscript o i pos) X.env] := by rfl)
    (ha : ∀ v, assign (.Subscript o i pos) X.env v = (do
      let ov ← holding [v] (eval o X.env)
      let iv ← holding [v, ov] (eval i X.env)
      standAt pos
      holding [v, ov, iv] (setItem ov iv v)
      release [v, ov, iv] []) := by intro _; rfl) : PMS X W (.Assign [.Subscript o i pos] e pos2) (sSetIx mo mi me) :=
  PS_imp (ps_asg he (pg_sub ho hi set_list ha) hs hw h1) fun D σ H ⟨A, env, st, s, q, h⟩ => by
    refine inE s q (Ext.refl A H) ((post_bindE h).mono (fun mx st1 h1 A1 H1 x e1 s1 r1 => ?_) fun _ _ z => exP_of q z)
    obtain ⟨m, st2, eo, h2⟩ := post_noExcE h1
    refine inE s1 (q.ext e1) (Ext.refl A1 H1) (post_ok eo fun A2 H2 y e2 s2 r2 => ?_)
    obtain ⟨n, st3, ei, h3⟩ := post_noExcE h2
    refine inE s2 ((q.ext e1).ext e2) (Ext.refl A2 H2) (post_ok ei fun A3 H3 z e3 s3 r3 => ?_)
    split at h3
    · rename_i j
      split at h3
      · rename_i st4 es
        unfold setAt at es
        split at es
        · rename_i kk
          split at es
          · rename_i xs ek
            have r23 := r2.ext e3
            cases r23 with
            | @obj a _ hk =>
              cases s3.ob kk a _ hk ek with
              | @lst vs _ hH hr =>
                cases ej : ixN xs.length j with
                | none => rw [ej] at es; cases es
                | some jj =>
                  rw [ej] at es
                  cases es
                  refine ⟨a, vs, j, jj, rfl, r3.int_inv, hH, by rw [hr.length]; exact ej, ?_⟩
                  have e4 : Ext A3 H3 A3 (upd H3 a (.lst (vs.set jj x))) := Ext.set s3 (List.mem_of_getElem? hk)
                  exact h3 A3 _ σ (((e1.trans e2).trans e3).trans e4) (s3.set hk (hr.set jj ((r1.ext e2).ext e3))) ((((q.ext e1).ext e2).ext e3).ext e4)
          · cases es
        · cases es
      · exact h3.elim
    · exact h3.elim
end
end MR

/-! zip and enumerate over what can be walked (tuples, lists, texts): by the kit's iterators of any kind (Draws) -/
namespace MR
open PySem L2
variable [Tb]
open PyProof.Rows (Call_)

/-- what an iterator at it over one source gives: n items, as long as Ok stands -/
structure SrcOk (P : Program) (w : World) (K : PySem.W.Frag) (it : Addr) (far : List Addr) (tn : Nat → Heap → Prop) (n : Nat) (Ok : Hp → Prop) (yv : Nat → V → Prop) : Prop where
  obj : ∀ i h, tn i h → ∃ o, h.get? it = some o ∧ ∀ v, o.data ≠ .cell v
  keep : ∀ i h h', tn i h → (∀ o, h.get? it = some o → h'.get? it = some o) → tn i h'
  draw : ∀ (X : Cx), X.prog = P → X.w = w → X.K = K → X.calm = true → ∀ (pins : List (Addr × Obj)) (s : Shared) (σ : L2.St) (H : Hp), Inv X pins σ H s → Ok H →
    ∃ (Pu : Nat → Value → Prop) (St : Nat → Heap → Prop), Draws P w X.A.in1 it (it :: far) n Pu St ∧ (∀ i, tn i s.heap → St i s.heap) ∧ (∀ i h', St i h' → tn i h') ∧ ∀ i u, Pu i u → ∃ x, RelV x u ∧ yv i x
/-- the value x can be walked -/
structure Starts (X : Cx) (x : V) (n : Nat) (Ok : Hp → Prop) (yv : Nat → V → Prop) : Prop where
  run : ∀ (pins : List (Addr × Obj)) (s : Shared) (σ : L2.St) (H : Hp) (u : Value), Inv X pins σ H s → RelV x u → Ok H → ∃ (o : Obj) (Hh : Heap → Prop) (far : List Addr), Begins u o Hh ∧ Hh s.heap ∧ (∀ b ∈ far, b < s.heap.objs.size) ∧
    ∀ it, it ∉ far → ∃ tn : Nat → Heap → Prop, (∀ h, h.get? it = some o → tn 0 h) ∧ SrcOk X.prog X.w X.K it far tn n Ok yv

theorem starts_tup {X : Cx} {a : Addr} {xs : List V} : Starts X (.ref a) xs.length (fun H => SqT X.K H a xs) (fun i v => xs[i]? = some v) where
  run := fun pins s σ H u I r hq => by
    cases r
    obtain ⟨its, rv, p, hz⟩ := I.tuple hq
    have pt : s.heap.IsTuple a its.toArray := p
    have la : a < s.heap.objs.size := by obtain ⟨o, e, _⟩ := id pt; exact Heap.lt_size e
    refine ⟨_, _, [a], begins_tuple a its.toArray, pt, fun b hb => by rw [List.mem_singleton.mp hb]; exact la, fun it hit => ⟨fun i h => h.IsTupleIter it a i, fun h e => ⟨_, e, rfl, rfl⟩, ?_⟩⟩
    refine ⟨fun i h st => ?_, fun i h h' st k => st.at fun o e => k o e, ?_⟩
    · obtain ⟨o, e, c, d⟩ := st
      exact ⟨o, e, fun v z => by rw [d] at z; cases z⟩
    · intro X' hP hw hK hc pins' s' σ' H' I' hq'
      rw [← hP, ← hw]
      rw [← hK] at hq'
      obtain ⟨its', rv', p', _⟩ := I'.tuple hq'
      have pt' : s'.heap.IsTuple a its'.toArray := p'
      have hsz : its'.toArray.size = xs.length := by rw [List.size_toArray]; exact rv'.length.symm
      rw [← hsz]
      refine ⟨_, _, Draws.tuple (show X'.A.in1.handled = none from I'.ok.hd hc) it a (fun z => hit (by rw [z]; exact List.mem_cons_self)) its'.toArray, fun i st => ⟨st, pt'⟩, fun i h' st => st.1, fun i u hu => ?_⟩
      have hu' : its'[i]? = some u := by simpa using hu
      have hi : i < xs.length := by rw [rv'.length]; exact (List.getElem?_eq_some_iff.mp hu').1
      obtain ⟨u2, e2, r2⟩ := rv'.get (List.getElem?_eq_getElem hi)
      rw [hu'] at e2
      cases e2
      exact ⟨_, r2, List.getElem?_eq_getElem hi⟩
theorem starts_list {X : Cx} {a : Addr} {xs : List V} : Starts X (.ref a) xs.length (fun H => SqL X.K H a xs) (fun i v => xs[i]? = some v) where
  run := fun pins s σ H u I r hq => by
    cases r
    obtain ⟨its, rv, p, hz⟩ := I.list hq
    have pt : s.heap.IsList a its.toArray := p.isList
    have la : a < s.heap.objs.size := p.lt
    refine ⟨_, _, [a], begins_list a its.toArray, pt, fun b hb => by rw [List.mem_singleton.mp hb]; exact la, fun it hit => ⟨fun i h => h.IsListIter it a i, fun h e => ⟨_, e, rfl, rfl⟩, ?_⟩⟩
    refine ⟨fun i h st => ?_, fun i h h' st k => st.at fun o e => k o e, ?_⟩
    · obtain ⟨o, e, c, d⟩ := st
      exact ⟨o, e, fun v z => by rw [d] at z; cases z⟩
    · intro X' hP hw hK hc pins' s' σ' H' I' hq'
      rw [← hP, ← hw]
      rw [← hK] at hq'
      obtain ⟨its', rv', p', _⟩ := I'.list hq'
      have hsz : its'.toArray.size = xs.length := by rw [List.size_toArray]; exact rv'.length.symm
      rw [← hsz]
      refine ⟨_, _, Draws.list (show X'.A.in1.handled = none from I'.ok.hd hc) it a (fun z => hit (by rw [z]; exact List.mem_cons_self)) its'.toArray, fun i st => ⟨st, p'.isList⟩, fun i h' st => st.1, fun i u hu => ?_⟩
      have hu' : its'[i]? = some u := by simpa using hu
      have hi : i < xs.length := by rw [rv'.length]; exact (List.getElem?_eq_some_iff.mp hu').1
      obtain ⟨u2, e2, r2⟩ := rv'.get (List.getElem?_eq_getElem hi)
      rw [hu'] at e2
      cases e2
      exact ⟨_, r2, List.getElem?_eq_getElem hi⟩
theorem starts_text {X : Cx} {z : Str} : Starts X (.str z) z.cps.size (fun _ => True) (fun i v => ∃ c, z.cps[i]? = some c ∧ v = .str ⟨#[c]⟩) where
  run := fun pins s σ H u I r _ => by
    obtain ⟨t, rfl⟩ := r
    refine ⟨_, _, [], begins_text z t, trivial, (fun b hb => by cases hb), fun it _ => ⟨fun i h => h.IsStrIter it (strIterType z) z t i, fun h e => ⟨_, e, rfl, rfl⟩, ?_⟩⟩
    refine ⟨fun i h st => ?_, fun i h h' st k => let ⟨o, ho, r⟩ := st; ⟨o, k o ho, r⟩, ?_⟩
    · obtain ⟨o, e, c, d⟩ := st
      exact ⟨o, e, fun v z => by rw [d] at z; cases z⟩
    · intro X' hP hw hK hc pins' s' σ' H' I' _
      rw [← hP, ← hw]
      exact ⟨_, _, Draws.text (show X'.A.in1.handled = none from I'.ok.hd hc) it z t, fun i st => st, fun i h' st => st, fun i u ⟨c, t', e, eu⟩ => ⟨.str ⟨#[c]⟩, by rw [eu]; exact ⟨t', rfl⟩, c, e, rfl⟩⟩

/-! ### zip(a, b) -/
def ItP2 (n1 n2 : Nat) (Ok1 Ok2 : Hp → Prop) (yv1 yv2 : Nat → V → Prop) : It :=
  ⟨fun i H => Ok1 H ∧ Ok2 H ∧ i < n1 ∧ i < n2, fun i H v H' => ∃ T x y, v = .ref T ∧ H T = none ∧ H' = upd H T (.tup [x, y]) ∧ yv1 i x ∧ yv2 i y, fun i H => Ok1 H ∧ Ok2 H ∧ i ≤ n1 ∧ i ≤ n2 ∧ (i = n1 ∨ i = n2)⟩
theorem turn_zip2 {P : Program} {w : World} {K : PySem.W.Frag} {elts : List Expr} {kk : Nat} {tpos : Pos} {z TI TO i1 i2 : Addr} {far1 far2 : List Addr} {tn1 tn2 : Nat → Heap → Prop} {n1 n2 : Nat} {Ok1 Ok2 : Hp → Prop} {yv1 yv2 : Nat → V → Prop}
    (D : ZipSep2 z TI TO i1 i2 (i1 :: far1) (i2 :: far2)) (S1 : SrcOk P w K i1 far1 tn1 n1 Ok1 yv1) (S2 : SrcOk P w K i2 far2 tn2 n2 Ok2 yv2) :
    Turn P w K (.Tuple elts kk tpos) (ItP2 n1 n2 Ok1 Ok2 yv1 yv2) [z, TI, TO, i1, i2] z (fun i h => IsZip h z TI TO .none ∧ IsPair h TI (.ref i1) (.ref i2) ∧ (∃ x y, IsPair h TO x y) ∧ tn1 i h ∧ tn2 i h) where
  mem := by simp
  obj := fun i h st c hc => by
    obtain ⟨hz, hTI, ⟨x, y, hTO⟩, h1, h2⟩ := st
    have e' : c = z ∨ c = TI ∨ c = TO ∨ c = i1 ∨ c = i2 := by simpa using hc
    rcases e' with q | q | q | q | q
    · rw [q]; exact ⟨_, hz, fun v q => nomatch q⟩
    · rw [q]; exact ⟨_, hTI, fun v q => nomatch q⟩
    · rw [q]; exact ⟨_, hTO, fun v q => nomatch q⟩
    · rw [q]; exact S1.obj i h h1
    · rw [q]; exact S2.obj i h h2
  keep := fun i h h' st k => by
    obtain ⟨hz, hTI, ⟨x, y, hTO⟩, h1, h2⟩ := st
    exact ⟨k z (by simp) _ hz, k TI (by simp) _ hTI, ⟨x, y, k TO (by simp) _ hTO⟩, S1.keep i h h' h1 fun o q => k i1 (by simp) o q, S2.keep i h h' h2 fun o q => k i2 (by simp) o q⟩
  item := by
    intro X hP hw hK hc i pins s σ H E I hf st hg
    subst hP hw hK
    obtain ⟨hz, hTI, ⟨x0, y0, hTO⟩, h1, h2⟩ := st
    obtain ⟨ok1, ok2, l1, l2⟩ := hg
    obtain ⟨P1, St1, D1, a1, b1, v1⟩ := S1.draw X rfl rfl rfl hc pins s σ H I ok1
    obtain ⟨P2, St2, D2, a2, b2, v2⟩ := S2.draw X rfl rfl rfl hc pins s σ H I ok2
    have hzl : z < s.heap.objs.size := Heap.lt_size hz
    refine wpAny_pyNext_zipD2_item D D1 D2 hz hTI hTO (a1 i h1) (a2 i h2) l1 l2 fun u u2 h' tk p1 p2 z' TO' h1' h2' hT hsz hk => ?_
    obtain ⟨x, ru, y1⟩ := v1 i u p1
    obtain ⟨y, ru2, y2⟩ := v2 i u2 p2
    refine ⟨_, rfl, wpAny_letOwnedTupleGo_zip (s := { s with heap := h', toks := tk }) z' fun h'' z'' sb => ?_⟩
    have hT2 : h''.get? s.heap.objs.size = some { cls := .type "tuple", data := .seq #[u, u2] } := (sb.2 _ (Nat.ne_of_gt hzl)).trans hT
    have new : ObjOk X.prog X.w (upd H s.heap.objs.size (.tup [x, y])) h'' s.heap.objs.size (.tup [x, y]) :=
      ⟨by show 2 ≤ sizeLine; decide, [u, u2], .cons ru (.cons ru2 .nil), ⟨_, hT2, rfl, _, rfl⟩⟩
    have I1 : Inv X pins σ (upd H s.heap.objs.size (.tup [x, y])) { s with heap := h'', toks := tk } :=
      I.turnedNew (t' := tk) (ch := [z, TI, TO, i1, i2]) (fun c o hb q => (sb.2 c (fun q' => hb (by simp [q']))).trans (hk c o (fun q' => hb (by simp [q'])) (fun q' => hb (by simp [q'])) (fun q' => hb (by simp [q'])) (fun q' => hb (by simp [q'])) q)) hf (Nat.le_refl _) new
    refine ⟨.ref s.heap.objs.size, _, I1, rfl, ⟨_, x, y, rfl, I.hok.fresh (Nat.le_refl _), rfl, y1, y2⟩, ⟨z'', ?_, ⟨u, u2, ?_⟩, ?_, ?_⟩, fun c hcm => ?_⟩
    · exact (sb.2 _ D.TIz).trans (hk _ _ D.TIz D.TITO D.TIi1 D.TIi2 hTI)
    · exact (sb.2 _ D.TOz).trans TO'
    · exact b1 _ _ (D1.over h1' sb D.zf1)
    · exact b2 _ _ (D2.over h2' sb D.zf2)
    · have hlt : c < s.heap.objs.size := by
        have e' : c = z ∨ c = TI ∨ c = TO ∨ c = i1 ∨ c = i2 := by simpa using hcm
        rcases e' with q | q | q | q | q
        · rw [q]; exact hzl
        · rw [q]; exact Heap.lt_size hTI
        · rw [q]; exact Heap.lt_size hTO
        · rw [q]; obtain ⟨_, e1, _⟩ := S1.obj i _ h1; exact Heap.lt_size e1
        · rw [q]; obtain ⟨_, e2, _⟩ := S2.obj i _ h2; exact Heap.lt_size e2
      rw [upd_ne (Nat.ne_of_lt hlt)]
      exact (hf c hcm).1
  done := by
    intro X hP hw hK hc i pins s σ H E I hf st hg
    subst hP hw hK
    obtain ⟨hz, hTI, ⟨x0, y0, hTO⟩, h1, h2⟩ := st
    obtain ⟨ok1, ok2, l1, l2, he⟩ := hg
    obtain ⟨P1, St1, D1, a1, b1, v1⟩ := S1.draw X rfl rfl rfl hc pins s σ H I ok1
    obtain ⟨P2, St2, D2, a2, b2, v2⟩ := S2.draw X rfl rfl rfl hc pins s σ H I ok2
    exact wpAny_pyNext_zipD2_end D D1 D2 hz hTI hTO (a1 i h1) (a2 i h2) l1 l2 he fun h' tk hk => ⟨rfl, I.turnedL (t' := tk) (ch := [z, TI, TO, i1, i2]) (fun c o hb q =>
      hk c o (fun q' => hb (by simp [q'])) (fun q' => hb (by simp [q'])) (fun q' => hb (by simp [q'])) (fun q' => hb (by simp [q'])) q) hf⟩
  self := fun A i s Q E st h => wpAny_pyIter_zip st.1 h
def iZip2 (X : Cx) (ta : TA) : TI := fun σ H R => ta σ H fun vs H1 => ∃ x y n1 n2 Ok1 Ok2 yv1 yv2, vs = [x, y] ∧ Starts X x n1 Ok1 yv1 ∧ Starts X y n2 Ok2 yv2 ∧ Ok1 H1 ∧ Ok2 H1 ∧ R (ItP2 n1 n2 Ok1 Ok2 yv1 yv2) H1
theorem pi_zip2 {X : Cx} {e e2 : Expr} {ta : TA} {p pos tpos : Pos} {elts : List Expr} {kk : Nat} (hg : Gl X "zip") (hm : X.mg "zip" = none) (ha : PA X [e, e2] ta)
    (hs : starEach [e, e2] X.env = (false, eval e X.env) :: starEach [e2] X.env := by rfl) (hpl : (backTo pos (starEach [e2] X.env)).any (·.1) = false := by rfl) :
    PI X (.Tuple elts kk tpos) (.Call (.Name "zip" p) [e, e2] [] pos) (iZip2 X ta) := by
  refine ⟨fun pins s σ H R I h => ?_⟩
  refine Call_ (ld_blt I hg hm PyProof.Rows.boot_zip (PyProof.Rows.callWith_type1 (thn (ha.run pos pins s σ H _ I h) fun us s1 ⟨vs, H1, I1, r1, q1⟩ => ?_) hs hpl))
  obtain ⟨x, y, n1, n2, Ok1, Ok2, yv1, yv2, ex, S1, S2, ok1, ok2, q⟩ := q1
  subst ex
  cases r1 with
  | cons r rr =>
    cases rr with
    | cons r' rr =>
      cases rr
      obtain ⟨o1, Hh1, far1, B1, hh1, lt1, mk1⟩ := S1.run pins s1 σ H1 _ I1 r ok1
      obtain ⟨o2, Hh2, far2, B2, hh2, lt2, mk2⟩ := S2.run pins s1 σ H1 _ I1 r' ok2
      refine zip_begins2 B1 B2 hh1 hh2 fun h' hz hTI hTO h1 h2 hsz hk => wpAny_pyIter_zip hz ?_
      obtain ⟨tn1, s01, T1⟩ := mk1 s1.heap.objs.size fun m => Nat.lt_irrefl _ (lt1 _ m)
      obtain ⟨tn2, s02, T2⟩ := mk2 (s1.heap.objs.size + 1) fun m => Nat.not_succ_lt_self (lt2 _ m)
      have I2 : Inv X pins σ H1 { s1 with heap := h' } := I1.kept (t' := s1.toks) hk
      refine ⟨s1.heap.objs.size + 4, [s1.heap.objs.size + 4, s1.heap.objs.size + 2, s1.heap.objs.size + 3, s1.heap.objs.size, s1.heap.objs.size + 1], _, _, H1, rfl, I2, turn_zip2 (zip_sep2 lt1 lt2) T1 T2, ⟨hz, hTI, ⟨_, _, hTO⟩, s01 _ h1, s02 _ h2⟩, fun c hcm => ?_, q⟩
      have e' : c = s1.heap.objs.size + 4 ∨ c = s1.heap.objs.size + 2 ∨ c = s1.heap.objs.size + 3 ∨ c = s1.heap.objs.size ∨ c = s1.heap.objs.size + 1 := by simpa using hcm
      have hle : s1.heap.objs.size ≤ c := by
        rcases e' with z | z | z | z | z
        · rw [z]; exact Nat.le_add_right _ _
        · rw [z]; exact Nat.le_add_right _ _
        · rw [z]; exact Nat.le_add_right _ _
        · rw [z]; exact Nat.le_refl _
        · rw [z]; exact Nat.le_add_right _ _
      exact I1.fpOk hle (I1.hok.fresh hle)

/-! ### enumerate(a) -/
def ItE1 (n : Nat) (Ok : Hp → Prop) (yv : Nat → V → Prop) : It :=
  ⟨fun i H => Ok H ∧ i < n, fun i H v H' => ∃ T x, v = .ref T ∧ H T = none ∧ H' = upd H T (.tup [.int (i : Nat), x]) ∧ yv i x, fun i H => Ok H ∧ i = n⟩
theorem turn_enum1 {P : Program} {w : World} {K : PySem.W.Frag} {elts : List Expr} {kk : Nat} {tpos : Pos} {e it : Addr} {far : List Addr} {tn : Nat → Heap → Prop} {n : Nat} {Ok : Hp → Prop} {yv : Nat → V → Prop}
    (hei : e ≠ it) (hef : e ∉ far) (S1 : SrcOk P w K it far tn n Ok yv) :
    Turn P w K (.Tuple elts kk tpos) (ItE1 n Ok yv) [e, it] e (fun i h => (∃ old, IsEnum h e it ((i : Nat) : Int) old) ∧ tn i h) where
  mem := by simp
  obj := fun i h st b hb => by
    obtain ⟨⟨old, he⟩, h1⟩ := st
    have e' : b = e ∨ b = it := by simpa using hb
    rcases e' with z | z
    · rw [z]; exact ⟨_, he, fun v q => nomatch q⟩
    · rw [z]; exact S1.obj i h h1
  keep := fun i h h' st k => let ⟨⟨old, he⟩, hi⟩ := st; ⟨⟨old, k e (by simp) _ he⟩, S1.keep i h h' hi fun o q => k it (by simp) o q⟩
  item := by
    intro X hP hw hK hc i pins s σ H E I hf st hg
    subst hP hw hK
    obtain ⟨⟨old, he⟩, h1⟩ := st
    obtain ⟨ok, hlt⟩ := hg
    obtain ⟨P1, St1, D1, a1, b1, v1⟩ := S1.draw X rfl rfl rfl hc pins s σ H I ok
    have hel : e < s.heap.objs.size := Heap.lt_size he
    have hil : it < s.heap.objs.size := by obtain ⟨_, q, _⟩ := S1.obj i _ h1; exact Heap.lt_size q
    have hefp : e ∉ it :: far := fun m => by
      rcases List.mem_cons.mp m with q | q
      · exact hei q
      · exact hef q
    refine wpAny_pyNext_enum_itemD D1 he (a1 i h1) hlt hei hefp fun u h' tk p ho st' hT hsz hk => ?_
    obtain ⟨x, ru, y1⟩ := v1 i u p
    refine ⟨_, rfl, wpAny_letOwnedTupleGo_enum (s := { s with heap := h', toks := tk + 1 }) ho fun h'' he' sb => ?_⟩
    have hT2 : h''.get? s.heap.objs.size = some { cls := .type "tuple", data := .seq #[.int i tk, u] } := (sb.2 _ (Nat.ne_of_gt hel)).trans hT
    have new : ObjOk X.prog X.w (upd H s.heap.objs.size (.tup [.int (i : Nat), x])) h'' s.heap.objs.size (.tup [.int (i : Nat), x]) :=
      ⟨by show 2 ≤ sizeLine; decide, [.int i tk, u], .cons ⟨_, rfl⟩ (.cons ru .nil), ⟨_, hT2, rfl, _, rfl⟩⟩
    have I1 : Inv X pins σ (upd H s.heap.objs.size (.tup [.int (i : Nat), x])) { s with heap := h'', toks := tk + 1 } :=
      I.turnedNew (ch := [e, it]) (fun b ob hb q => (sb.2 b (fun z => hb (by simp [z]))).trans (hk b ob (fun z => hb (by simp [z])) (fun z => hb (by simp [z])) q)) hf (Nat.le_refl _) new
    refine ⟨.ref s.heap.objs.size, _, I1, rfl, ⟨_, x, rfl, I.hok.fresh (Nat.le_refl _), rfl, y1⟩, ⟨⟨u, ?_⟩, b1 _ _ (D1.over st' sb hefp)⟩, fun b hb => ?_⟩
    · have e1 : ((i + 1 : Nat) : Int) = (i : Int) + 1 := by omega
      rw [e1]; exact he'
    · have hb' : b < s.heap.objs.size := by
        have e' : b = e ∨ b = it := by simpa using hb
        rcases e' with z | z
        · rw [z]; exact hel
        · rw [z]; exact hil
      rw [upd_ne (Nat.ne_of_lt hb')]
      exact (hf b hb).1
  done := by
    intro X hP hw hK hc i pins s σ H E I hf st hg
    subst hP hw hK
    obtain ⟨⟨old, he⟩, h1⟩ := st
    obtain ⟨ok, rfl⟩ := hg
    obtain ⟨P1, St1, D1, a1, b1, v1⟩ := S1.draw X rfl rfl rfl hc pins s σ H I ok
    obtain ⟨f0, f1, f2, f3, f4, f5⟩ := hf it (by simp)
    exact wpAny_pyNext_enum_endD D1 he (a1 _ h1) fun h' eb => ⟨rfl, I.turned (t' := s.toks) (fun b o hb q => eb b o hb q) f0 f1 f3 f4 f5⟩
  self := fun A i s Q E st h => let ⟨⟨_, he⟩, _⟩ := st; wpAny_pyIter_enum he h
set_option maxHeartbeats 1000000 in
theorem meets_enumerate_new1 {v : Value} {o : Obj} {H : Heap → Prop} (B : Begins v o H) :
    Meets (Builtin.«enumerate.__new__» ⟨[.type "enumerate", v], []⟩) (fun _ R s => H s.heap ∧
      R (.ok (.ret (.ref (s.heap.push o).objs.size))) { s with heap := (s.heap.push o).push { cls := .type "enumerate", data := .fields #[.none, .bool false, .ref s.heap.objs.size, rawInt 0, .none, .none] } }) :=
  .of_wp fun prog w A R s h => by
    obtain ⟨hp, g, d, tk, os⟩ := s; obtain ⟨h1, h⟩ := h
    have hsub := sub_enumerate
    have q1 : ∀ {A' : Around} {E : Value → Shared → Prop} {Q : Value → Shared → Prop}, Q (.ref hp.objs.size) ⟨hp.push o, g, d, tk, os⟩ → wpAny (model prog w) A' (pyIter v) Q E ⟨hp, g, d, tk, os⟩ :=
      fun q => B.iter prog w _ _ ⟨hp, g, d, tk, os⟩ _ h1 q
    wp_walk using q1
    refine wpAny_stack_any fun st => wpAny_pure ?_
    split
    · rename_i c _ _ _ _ _
      cases (c == Value.type "enumerate")
      · wp_walk using q1
        exact ⟨_, rfl, h⟩
      · wp_walk using q1
        exact ⟨_, rfl, h⟩
    · wp_walk using q1
      exact ⟨_, rfl, h⟩
theorem enum_begins1 {prog : Program} {w : World} {A : Around} {E : Value → Shared → Prop} {s : Shared} {v : Value} {o : Obj} {H : Heap → Prop} {Q : Value → Shared → Prop} (B : Begins v o H) (h1 : H s.heap)
    (h : ∀ h', IsEnum h' (s.heap.objs.size + 1) s.heap.objs.size 0 .none → h'.get? s.heap.objs.size = some o → h'.objs.size = s.heap.objs.size + 2 →
      (∀ b o, s.heap.get? b = some o → h'.get? b = some o) → Q (.ref (s.heap.objs.size + 1)) { s with heap := h' }) :
    wpAny (model prog w) A (call (.type "enumerate") [v]) Q E s := by
  refine callType_new F.called_enumerate (by decide) (F.typeCall_enumerate_1 _) (F.newCall_enumerate_1 _) (fun obj => F.args_object_init_2 obj _) F.entry_enumerate_new
    (meets_enumerate_new1 B) ⟨h1, ?_⟩
  have hz : (s.heap.push o).objs.size = s.heap.objs.size + 1 := Heap.size_push ..
  show _ ∧ _
  rw [hz]
  have he : IsEnum ((s.heap.push o).push { cls := .type "enumerate", data := .fields #[.none, .bool false, .ref s.heap.objs.size, rawInt 0, .none, .none] }) (s.heap.objs.size + 1) s.heap.objs.size 0 .none := by
    have := Heap.get?_push_size (s.heap.push o) (o := { cls := .type "enumerate", data := .fields #[.none, .bool false, .ref s.heap.objs.size, rawInt 0, .none, .none] }) rfl
    rw [hz] at this; exact this
  refine ⟨⟨_, he, rfl⟩, h _ he (Heap.get?_push_of_some _ (Heap.get?_push_size _ B.free)) (by rw [Heap.size_push, hz]) fun b o x => Heap.get?_push_of_some _ (Heap.get?_push_of_some _ x)⟩
def iEnum1 (X : Cx) (ta : TA) : TI := fun σ H R => ta σ H fun vs H1 => ∃ x n Ok yv, vs = [x] ∧ Starts X x n Ok yv ∧ Ok H1 ∧ R (ItE1 n Ok yv) H1
theorem pi_enum1 {X : Cx} {e : Expr} {ta : TA} {p pos tpos : Pos} {elts : List Expr} {kk : Nat} (hg : Gl X "enumerate") (hm : X.mg "enumerate" = none) (ha : PA X [e] ta) (hs : starEach [e] X.env = [(false, eval e X.env)] := by rfl) :
    PI X (.Tuple elts kk tpos) (.Call (.Name "enumerate" p) [e] [] pos) (iEnum1 X ta) := by
  refine ⟨fun pins s σ H R I h => ?_⟩
  refine Call_ (ld_blt I hg hm PyProof.Rows.boot_enumerate (PyProof.Rows.callWith_type1 (thn (ha.run pos pins s σ H _ I h) fun us s1 ⟨vs, H1, I1, r1, q1⟩ => ?_) hs rfl))
  obtain ⟨x, n, Ok, yv, ex, S1, ok, q⟩ := q1
  subst ex
  cases r1 with
  | cons r rr =>
    cases rr
    obtain ⟨o1, Hh1, far1, B1, hh1, lt1, mk1⟩ := S1.run pins s1 σ H1 _ I1 r ok
    refine enum_begins1 B1 hh1 fun h' he h1 hsz hk => wpAny_pyIter_enum he ?_
    obtain ⟨tn1, s01, T1⟩ := mk1 s1.heap.objs.size fun m => Nat.lt_irrefl _ (lt1 _ m)
    have I2 : Inv X pins σ H1 { s1 with heap := h' } := I1.kept (t' := s1.toks) hk
    refine ⟨s1.heap.objs.size + 1, [s1.heap.objs.size + 1, s1.heap.objs.size], _, _, H1, rfl, I2, turn_enum1 (Nat.succ_ne_self _) (fun m => Nat.not_succ_lt_self (lt1 _ m)) T1, ⟨⟨.none, he⟩, s01 _ h1⟩, fun b hb => ?_, q⟩
    have e' : b = s1.heap.objs.size + 1 ∨ b = s1.heap.objs.size := by simpa using hb
    have hle : s1.heap.objs.size ≤ b := by
      rcases e' with z | z
      · rw [z]; exact Nat.le_add_right _ _
      · rw [z]; exact Nat.le_refl _
    exact I1.fpOk hle (I1.hok.fresh hle)

/-! ### mirrors -/
/-- what walks over m give -/
def srcOf (m : MV) : Option (List MV) := match m with
  | .tup xs => some xs
  | .lst xs => some xs
  | .str z => some (z.cps.toList.map fun c => .str ⟨#[c]⟩)
  | .scr ns => some (ns.map .int)
  | _ => none
theorem src_rep {X : Cx} {A : Ad} {H : Hp} {v : V} {m : MV} {xs : List MV} (r : Rep (gmOf X) A H v m) (h : srcOf m = some xs) :
    ∃ n Ok yv, Starts X v n Ok yv ∧ n = xs.length ∧ (∀ A' H', ExtW A H A' H' → Ok H' ∧ ∀ i x, yv i x → ∃ y, xs[i]? = some y ∧ Rep (gmOf X) A' H' x y) := by
  cases r with
  | @tup a vs ms f r =>
    cases h
    refine ⟨_, _, _, starts_tup, r.length, fun A' H' e => ⟨(f.extW e).sq, fun i x hx => ?_⟩⟩
    exact (r.extW e).at' hx
  | @lst a vs ms f n r =>
    cases h
    refine ⟨_, _, _, starts_list, r.length, fun A' H' e => ⟨SqL.of (e.keep _ _ n f nt_lst), fun i x hx => ?_⟩⟩
    exact (r.extW e).at' hx
  | str z =>
    cases h
    refine ⟨_, _, _, starts_text, by simp, fun A' H' e => ⟨trivial, fun i x ⟨c, ec, ex⟩ => ⟨.str ⟨#[c]⟩, ?_, by rw [ex]; exact .str _⟩⟩⟩
    have : z.cps.toList[i]? = some c := by simpa using ec
    rw [List.getElem?_map, this]
    rfl
  | @scr a ns f =>
    cases h
    refine ⟨_, _, _, starts_list, by simp, fun A' H' e => ⟨(f.extW e).sq, fun i x hx => ?_⟩⟩
    rw [List.getElem?_map] at hx
    cases e1 : ns[i]? with
    | none => rw [e1] at hx; cases hx
    | some k => rw [e1] at hx; cases hx; exact ⟨.int k, by rw [List.getElem?_map, e1]; rfl, .int k⟩
  | _ => cases h
def zipM (xs ys : List MV) : List MV := List.zipWith (fun a b => .tup [a, b]) xs ys
def iZipM (r : MA) : MA := fun env st => (r env st).bind fun ms st' => match ms with
  | [a, b] => match srcOf a, srcOf b with
    | some xs, some ys => .ok (zipM xs ys) st'
    | _, _ => .bad
  | _ => .bad
def enumFrom (k : Nat) : List MV → List MV
  | [] => []
  | x :: xs => .tup [.int k, x] :: enumFrom (k + 1) xs
def iEnumM (r : MA) : MA := fun env st => (r env st).bind fun ms st' => match ms with
  | [a] => match srcOf a with
    | some xs => .ok (enumFrom 0 xs) st'
    | none => .bad
  | _ => .bad
theorem enumFrom_length (k : Nat) : ∀ xs : List MV, (enumFrom k xs).length = xs.length
  | [] => rfl
  | x :: xs => by rw [enumFrom, List.length_cons, List.length_cons, enumFrom_length (k + 1) xs]
theorem enumFrom_get : ∀ (xs : List MV) (k i : Nat) (y : MV), xs[i]? = some y → (enumFrom k xs)[i]? = some (.tup [.int ((k + i : Nat) : Int), y])
  | [], k, i, y, h => by simp at h
  | x :: xs, k, 0, y, h => by simp at h; subst h; rfl
  | x :: xs, k, i + 1, y, h => by
    have := enumFrom_get xs (k + 1) i y (by simpa using h)
    rw [enumFrom, List.getElem?_cons_succ, this]
    congr 4
    omega
theorem pair_new {G : Gm} {A : Ad} {H : Hp} {st : Sto} {T : Addr} {x y : V} {mx my : MV} (s : SR G A H st) (hT : H T = none) (rx : Rep G A H x mx) (ry : Rep G A H y my) :
    Ext A H A (upd H T (.tup [x, y])) ∧ SR G A (upd H T (.tup [x, y])) st ∧ Rep G A (upd H T (.tup [x, y])) (.ref T) (.tup [mx, my]) :=
  ⟨Ext.laid s hT, s.laid hT, .tup (.inl ⟨.inl upd_same, s.new_out hT⟩) ((RepAll.cons rx (.cons ry .nil)).ext (Ext.laid s hT))⟩
section
variable {X : Cx} {W : WX} {e e2 : Expr} {mr : MA} {p pos tpos : Pos} {elts : List Expr} {kk : Nat}
theorem pmi_zip (hm : X.mg "zip" = none) (ha : PMA X W [e, e2] mr) (hg : Gl X "zip" := by rfl)
    (hs : starEach [e, e2] X.env = (false, eval e X.env) :: starEach [e2] X.env := by rfl) (hpl : (backTo pos (starEach [e2] X.env)).any (·.1) = false := by rfl) :
    PMI X W (.Tuple elts kk tpos) (.Call (.Name "zip" p) [e, e2] [] pos) (iZipM mr) := PI_imp (pi_zip2 hg hm ha hs hpl) fun σ H R ⟨A, env, st, s, q, h⟩ => by
  unfold iZipM at h
  rw [Res.post_bind] at h
  refine inA s q (Ext.refl A H) (h.mono (fun ms st1 h1 A1 H1 vs e1 s1 r1 => ?_) fun _ _ z => z)
  split at h1
  · rename_i a b
    split at h1
    · rename_i xs ys ex ey
      cases r1 with
      | cons ra rr =>
        cases rr with
        | cons rb rr =>
          cases rr
          obtain ⟨n1, Ok1, yv1, S1, l1, k1⟩ := src_rep ra ex
          obtain ⟨n2, Ok2, yv2, S2, l2, k2⟩ := src_rep rb ey
          refine ⟨_, _, n1, n2, Ok1, Ok2, yv1, yv2, rfl, S1, S2, (k1 A1 H1 (Ext.refl _ _).w).1, (k2 A1 H1 (Ext.refl _ _).w).1, h1 A1 H1 _ e1 s1 fun A' H' st' x' s' => ?_⟩
          obtain ⟨o1, c1⟩ := k1 A' H' x'
          obtain ⟨o2, c2⟩ := k2 A' H' x'
          have hl : (zipM xs ys).length = min n1 n2 := by rw [zipM, List.length_zipWith, l1, l2]
          rw [hl]
          refine ⟨fun i hi => ⟨o1, o2, by omega, by omega⟩, ⟨o1, o2, by omega, by omega, by omega⟩, fun i x H2 hi y => ?_⟩
          obtain ⟨T, u, v, ex2, hT, e2, y1, y2⟩ := y
          subst ex2 e2
          obtain ⟨m1, em1, r1⟩ := c1 i u y1
          obtain ⟨m2, em2, r2⟩ := c2 i v y2
          obtain ⟨z1, z2, z3⟩ := pair_new s' hT r1 r2
          exact ⟨z1, z2, _, by rw [zipM, List.getElem?_zipWith, em1, em2], z3⟩
    · exact h1.elim
  · exact h1.elim
theorem pmi_enum (hm : X.mg "enumerate" = none) (ha : PMA X W [e] mr) (hg : Gl X "enumerate" := by rfl) (hs : starEach [e] X.env = [(false, eval e X.env)] := by rfl) :
    PMI X W (.Tuple elts kk tpos) (.Call (.Name "enumerate" p) [e] [] pos) (iEnumM mr) := PI_imp (pi_enum1 hg hm ha hs) fun σ H R ⟨A, env, st, s, q, h⟩ => by
  unfold iEnumM at h
  rw [Res.post_bind] at h
  refine inA s q (Ext.refl A H) (h.mono (fun ms st1 h1 A1 H1 vs e1 s1 r1 => ?_) fun _ _ z => z)
  split at h1
  · rename_i a
    split at h1
    · rename_i xs ex
      cases r1 with
      | cons ra rr =>
        cases rr
        obtain ⟨n1, Ok1, yv1, S1, l1, k1⟩ := src_rep ra ex
        refine ⟨_, n1, Ok1, yv1, rfl, S1, (k1 A1 H1 (Ext.refl _ _).w).1, h1 A1 H1 _ e1 s1 fun A' H' st' x' s' => ?_⟩
        obtain ⟨o1, c1⟩ := k1 A' H' x'
        have hl : (enumFrom 0 xs).length = n1 := by rw [enumFrom_length, l1]
        rw [hl]
        refine ⟨fun i hi => ⟨o1, hi⟩, ⟨o1, rfl⟩, fun i x H2 hi y => ?_⟩
        obtain ⟨T, u, ex2, hT, e2, y1⟩ := y
        subst ex2 e2
        obtain ⟨m1, em1, r1⟩ := c1 i u y1
        obtain ⟨z1, z2, z3⟩ := pair_new s' hT (.int (i : Nat)) r1
        have e3 := enumFrom_get xs 0 i m1 em1
        rw [Nat.zero_add] at e3
        exact ⟨z1, z2, _, e3, z3⟩
    · exact h1.elim
  · exact h1.elim
/-- range(a, b) -/
theorem pmi_rng2 {a b : Expr} {mr : MA} {tg : Expr} (hm : X.mg "range" = none) (ha : PMA X W [a, b] mr) (hg : Gl X "range" := by rfl) (hs : starEach [a, b] X.env = [(false, eval a X.env), (false, eval b X.env)] := by rfl) (hs2 : starEach [b] X.env = [(false, eval b X.env)] := by rfl) :
    PMI X W tg (.Call (.Name "range" p) [a, b] [] pos) (MR.iRng2 mr) :=
  PI_imp (pi_range2 hg hm ha hs hs2) fun σ H R ⟨A, env, st, s, q, h⟩ => by
    unfold MR.iRng2 at h
    rw [Res.post_bind] at h
    refine inA s q (Ext.refl A H) (h.mono (fun mx st1 h1 A1 H1 x e1 s1 r1 => ?_) fun _ _ z => z)
    split at h1
    · obtain ⟨hl, k⟩ := post_ite h1
      cases r1 with
      | cons r rs =>
        cases rs with
        | cons r2 rs =>
          cases rs
          cases r
          cases r2
          exact ⟨_, _, rfl, ⟨by omega, by omega, by omega, by omega⟩, k A1 H1 _ e1 s1 itm_rng⟩
    · exact h1.elim
/-- what is walked: a text, a tuple, a frozen list, the script -/
def iAny (a : ME) : MA := fun env st => (a env st).bind fun m st' => match srcOf m with
  | some xs => .ok xs st'
  | none => .bad
end
end MR

/-! sorted(set(xs)), xs a list of texts -/
namespace MR
open PySem L2 PyProof.Rows
variable [Tb]
abbrev tkind (P : Program) (w : World) : KeyKind P w Str := PySem.strKind P w
abbrev newSet (w : World) : Obj := { cls := .type "set", dict := none, data := .set #[] 0 (.fresh 0 0 (!w.params.followText "set-order")) }

def txtOf (e : Int × Value) : Str := match e.2 with | .str k _ => k | _ => Str.empty
def GoodT (P : Program) (w : World) (e : Int × Value) : Prop := ∃ k tk, e.2 = Value.str k tk ∧ e.1 = (tkind P w).hash k
/-- the set of texts at a: S its members, n their number -/
def SetT (P : Program) (w : World) (h : Heap) (a : Addr) (S : Str → Bool) (n : Nat) : Prop :=
  ∃ o es ep t, h.get? a = some o ∧ o.ExactSet ∧ o.data = .set es ep t ∧ (∀ e ∈ es.toList, GoodT P w e) ∧ (es.toList.map txtOf).Nodup ∧ (∀ k, S k = true ↔ k ∈ es.toList.map txtOf) ∧
    es.size < scanBound ∧ t.fits es.size = true ∧ es.size = n ∧ Ris t.place.toList ∧ (w.params.followText "set-order" = true ∨ t.led = true)
section
variable {P : Program} {w : World} {h h' : Heap} {a : Addr} {S : Str → Bool} {n : Nat}
theorem SetT.at (R : SetT P w h a S n) (k : ∀ o, h.get? a = some o → h'.get? a = some o) : SetT P w h' a S n := by
  obtain ⟨o, es, ep, t, ho, r⟩ := R
  exact ⟨o, es, ep, t, k o ho, r⟩
theorem SetT.congr {S' : Str → Bool} (R : SetT P w h a S n) (e : ∀ k, S' k = S k) : SetT P w h a S' n := by
  have q : S' = S := funext e
  rw [q]; exact R
theorem goodT_elems {l : List (Int × Value)} (g : ∀ e ∈ l, GoodT P w e) : ElemsOf (tkind P w) l := fun e he => by
  obtain ⟨k, tk, h1, h2⟩ := g e he
  exact ⟨⟨k, by rw [h1]; exact strKind_is P w k tk, h2⟩, by rw [h1] <;> rfl⟩
theorem goodT_is {e : Int × Value} (g : GoodT P w e) (k : Str) : (tkind P w).is k e.2 = true ↔ txtOf e = k := by
  obtain ⟨k0, tk, h1, _⟩ := g
  unfold txtOf
  rw [h1]
  constructor
  · intro q; exact ((tkind P w).inj _ _ _ q (strKind_is P w k0 tk)).symm
  · intro q; subst q; exact strKind_is P w k0 tk
theorem goodT_mem {l : List (Int × Value)} (g : ∀ e ∈ l, GoodT P w e) (k : Str) : k ∈ l.map txtOf ↔ ∃ e ∈ l, (tkind P w).is k e.2 = true := by
  rw [List.mem_map]
  constructor
  · rintro ⟨e, he, q⟩
    exact ⟨e, he, (goodT_is (g e he) k).2 q⟩
  · rintro ⟨e, he, q⟩
    exact ⟨e, he, (goodT_is (g e he) k).1 q⟩
end
section
variable {P : Program} {w : World} {A : Around} {E : Value → Shared → Prop} {s : Shared} {a : Addr} {S : Str → Bool} {n : Nat}
theorem setT_add_tail {g : Bool → Sem Unit} (hg : ∀ (b : Bool) (s₁ : Shared) (Q' : Unit → Shared → Prop), Q' () s₁ → wpAny (model P w) A (g b) Q' E s₁)
    {o : Obj} {es : Array (Int × Value)} {ep : Nat} {t : SetTable} (ho : s.heap.get? a = some o) (hex : o.ExactSet) (hd : o.data = .set es ep t)
    {es1 : Array (Int × Value)} {t2 : SetTable} {S' : Str → Bool} (g1 : ∀ e ∈ es1.toList, GoodT P w e) (nd1 : (es1.toList.map txtOf).Nodup) (m1 : ∀ k, S' k = true ↔ k ∈ es1.toList.map txtOf)
    (hb1 : es1.size < scanBound) (hf2 : t2.fits es1.size = true) (hr : Ris t2.place.toList) (hl : w.params.followText "set-order" = true ∨ t2.led = true) {wasDummy : Bool} {R : Option Bool → Shared → Prop}
    (hR : ∀ h', Heap.SameBut a s.heap h' → SetT P w h' a S' es1.size → R (some true) { s with heap := h' }) :
    wpAny (model P w) A (do
        storeSet a es1 t2
        if (!wasDummy && t2.tooFull) = true then do
            g (relayAll t2 es1 (SetTable.grown es1.size)).2.2
            storeSet a (relayAll t2 es1 (SetTable.grown es1.size)).1 (relayAll t2 es1 (SetTable.grown es1.size)).2.1
            pure (some true)
          else pure (some true)) R E s := by
  refine wpAny_bind (wpAny_storeSet_of ho hd ?_ (fits_of_scanBound hb1))
  have ho1 := store_at (es' := es1) (t' := t2) ho hd
  have sb1 := Heap.SameBut.update s.heap a (Obj.putSet es1 t2)
  split
  · have pm := relayAll_perm t2 es1 (SetTable.grown es1.size)
    have hf3 := relayAll_fits t2 es1 (SetTable.grown es1.size)
    have hr3 := relayAll_ris t2 es1 (SetTable.grown es1.size)
    have hl3 := relayAll_led t2 es1 (SetTable.grown es1.size)
    generalize relayAll t2 es1 (SetTable.grown es1.size) = Z at pm hf3 hr3 hl3 ⊢
    obtain ⟨es2, t3, gave⟩ := Z
    dsimp only at pm hf3 hr3 hl3 ⊢
    have hsz : es2.size = es1.size := by rw [← Array.length_toList, pm.length_eq, Array.length_toList]
    have hb2 : es2.size < scanBound := by rw [hsz]; exact hb1
    refine wpAny_bind (hg _ _ _ ?_)
    refine wpAny_bind (wpAny_storeSet_of ho1 rfl ?_ (fits_of_scanBound hb2))
    have ho2 := store_at (es' := es2) (t' := t3) ho1 rfl
    refine wpAny_pure (hR _ (sb1.trans (Heap.SameBut.update _ a _)) ?_)
    exact ⟨_, es2, _, t3, ho2, hex, rfl, fun e he => g1 e (pm.mem_iff.mp he), (pm.map txtOf).nodup_iff.mpr nd1, fun k => (m1 k).trans (pm.map txtOf).mem_iff.symm, hb2, hf3, hsz, hr3,
      hl.imp id fun z => by rw [hl3]; exact z⟩
  · exact wpAny_pure (hR _ sb1 ⟨_, es1, _, t2, ho1, hex, rfl, g1, nd1, m1, hb1, hf2, rfl, hr, hl⟩)
theorem setT_add_hashed {k : Str} {tk : Tok} {Q : Bool → Shared → Prop} (R : SetT P w s.heap a S n) (room : n + 1 < scanBound)
    (hQ : ∀ h', Heap.SameBut a s.heap h' → SetT P w h' a (fun j => S j || decide (j = k)) (if S k = true then n else n + 1) → Q (!S k) { s with heap := h' }) :
    wpAny (model P w) A (setAddHashed a (.str k tk) ((tkind P w).hash k)) Q E s := by
  obtain ⟨o, es, ep, t, ho, hex, hd, g, nd, hm, hb, hf, hn, hr, hl⟩ := R
  have hkey : (tkind P w).is k (.str k tk) = true := strKind_is P w k tk
  have hsc : (Value.str k tk).scannable = true := rfl
  have hel : ElemsOf (tkind P w) es.toList := goodT_elems g
  unfold setAddHashed setAddHashedIn
  refine wpAny_holding (wpAny_bind (wpAny_setState_of ho hd hf ?_))
  dsimp only
  rw [byScan_of hsc hb hel]
  simp only [↓reduceIte]
  unfold setAddByScan
  refine wpAny_bind ?_
  refine wpAny_bind (wpAny_rule ?_)
  refine wpAny_bind (wpAny_setScan_of hkey ho hd hf hel ?_)
  cases hfi : List.findIdx? (fun e => (tkind P w).is k e.2) es.toList with
  | some j =>
    dsimp only
    obtain ⟨hj, pj, _⟩ := List.findIdx?_eq_some_iff_getElem.mp hfi
    have hSk : S k = true := (hm k).2 ((goodT_mem g k).2 ⟨es.toList[j], List.getElem_mem hj, pj⟩)
    refine wpAny_pure (wpAny_pure ?_)
    have q := hQ s.heap (Heap.SameBut.refl a s.heap) ⟨o, es, ep, t, ho, hex, hd, g, nd, fun i => by
      rw [Bool.or_eq_true, decide_eq_true_eq, ← hm i]
      exact ⟨fun z => z.elim id (fun e => e ▸ hSk), .inl⟩, hb, hf, by rw [if_pos hSk]; exact hn, hr, hl⟩
    rw [hSk] at q
    exact q
  | none =>
    dsimp only
    have hnk : k ∉ es.toList.map txtOf := fun z => by
      obtain ⟨e, he, q⟩ := (goodT_mem g k).1 z
      have c := List.findIdx?_eq_none_iff.mp hfi e he
      rw [q] at c
      cases c
    have hSk : S k = false := by
      cases q : S k with
      | false => rfl
      | true => exact absurd ((hm k).1 q) hnk
    have hgw : ∀ (b : Bool) {s₁ : Shared} {Q' : Unit → Shared → Prop}, Q' () s₁ → wpAny (model P w) A (match b with | true => rule "set.scan.the-table-gave-way" | false => pure ()) Q' E s₁ :=
      fun b s₁ Q' q => by cases b <;> first | exact wpAny_pure q | exact wpAny_rule q
    have pm := layNew_perm t es ((tkind P w).hash k) (.str k tk)
    have hf1 := layNew_fits t es ((tkind P w).hash k) (.str k tk)
    have hr1 := layNew_ris t es ((tkind P w).hash k) (.str k tk) hr
    have hl1 := layNew_led t es ((tkind P w).hash k) (.str k tk)
    generalize layNew t es ((tkind P w).hash k) (.str k tk) = Z at pm hf1 hr1 hl1 ⊢
    obtain ⟨es1, t1, wasDummy, gave⟩ := Z
    dsimp only at pm hf1 hr1 hl1 ⊢
    rw [Array.toList_push] at pm
    have pc : es1.toList.Perm (((tkind P w).hash k, Value.str k tk) :: es.toList) := pm.trans (List.perm_append_singleton _ _)
    have pk : (es1.toList.map txtOf).Perm (k :: es.toList.map txtOf) := pc.map txtOf
    have g1 : ∀ e ∈ es1.toList, GoodT P w e := fun e he => by
      rcases List.mem_cons.mp (pc.mem_iff.mp he) with z | z
      · rw [z]; exact ⟨k, tk, rfl, rfl⟩
      · exact g e z
    have nd1 : (es1.toList.map txtOf).Nodup := pk.nodup_iff.mpr (List.nodup_cons.mpr ⟨hnk, nd⟩)
    have m1 : ∀ i, (S i || decide (i = k)) = true ↔ i ∈ es1.toList.map txtOf := fun i => by
      rw [Bool.or_eq_true, decide_eq_true_eq, hm i, pk.mem_iff, List.mem_cons]
      exact Or.comm
    have hsz : es1.size = n + 1 := by rw [← Array.length_toList, pc.length_eq, List.length_cons, Array.length_toList, hn]
    have hb1 : es1.size < scanBound := by rw [hsz]; exact room
    have hled : w.params.followText "set-order" = true ∨ t1.led = true := hl.imp id fun z => by rw [hl1]; exact z
    have fin : ∀ h', Heap.SameBut a s.heap h' → SetT P w h' a (fun j => S j || decide (j = k)) es1.size → Q true { s with heap := h' } := fun h' sb r => by
      have q := hQ h' sb
      rw [hSk] at q
      rw [hsz] at r
      exact q r
    refine wpAny_bind (hgw _ ?_)
    split
    · refine wpAny_bind ?_
      rw [hashByValue_scannable 8 hsc]
      refine wpAny_pure ?_
      refine setT_add_tail ?_ ho hex hd g1 nd1 m1 hb1 ?_ ?_ ?_ ?_
      · intro b s₁ Q' q; cases b <;> first | exact wpAny_pure q | exact wpAny_rule q
      · first | (split <;> first | exact hf1 | exact SetTable.fits_plain_off hf1) | exact hf1
      · first | (split <;> exact hr1) | exact hr1
      · first | (split <;> exact hled) | exact hled
      · intro h' sb r; dsimp only; exact wpAny_pure (fin h' sb r)
    · refine wpAny_bind (wpAny_pure ?_)
      simp only [↓reduceIte]
      refine setT_add_tail ?_ ho hex hd g1 nd1 m1 hb1 hf1 hr1 hled ?_
      · intro b s₁ Q' q; cases b <;> first | exact wpAny_pure q | exact wpAny_rule q
      · intro h' sb r; dsimp only; exact wpAny_pure (fin h' sb r)
/-- the set's loop over an iterator of texts -/
theorem setT_loop {I : Addr} {fp wr : List Addr} {G : Array GenState → Array GenState → Prop} {n : Nat} {Pv : Nat → Value → Prop} {St : Nat → Shared → Prop} {R : Result → Shared → Prop}
    (W : WalksS P w A.in1 I fp wr G n Pv St) (S : Addr) (hSf : S ∉ fp) (xs : List Str) (hn : n = xs.length) (hb : xs.length + 1 < scanBound) (hval : ∀ i v, Pv i v → ∃ k t, xs[i]? = some k ∧ v = .str k t) :
    ∀ (k i : Nat) (s : Shared), n - i = k → i ≤ n → St i s → (∃ c, c ≤ i ∧ SetT P w s.heap S (fun j => decide (j ∈ xs.take i)) c) →
      (∀ s' c, Moved (S :: wr) G s s' → c ≤ n → SetT P w s'.heap S (fun j => decide (j ∈ xs)) c → R (.ok (.ret .none)) s') →
      codeAny (model P w) A (.builtin "set.update.loop" ⟨[.ref S, .ref I], []⟩) R s := by
  have hSw : S ∉ wr := fun h => hSf (W.sub _ h)
  have hsub : ∀ b ∈ wr, b ∈ S :: wr := fun b hb => List.mem_cons_of_mem _ hb
  intro k
  induction k with
  | zero =>
    intro i s hk' hi hst ⟨c, hc, hS⟩ hR
    have hin : i = n := by omega
    subst hin
    refine codeAny_builtin F.entry_set_update_loop ?_
    rw [Around.under_plainId F.plain_set_update_loop _]
    show wpAny _ A.in1 (pyNext (.ref I) >>= _) _ _ s
    refine wpAny_bind (W.done s _ _ hst fun s' hm => ?_)
    show wpAny _ A.in1 (ret Value.none) _ _ s'
    have e : xs.take i = xs := List.take_of_length_le (by omega)
    rw [e] at hS
    exact wpAny_pure (hR s' c (hm.mono hsub) hc (hS.at fun o e => hm.heap S o hSw e))
  | succ k ih =>
    intro i s hk' hi hst ⟨c, hc, hS⟩ hR
    have hlt : i < n := by omega
    refine codeAny_builtin F.entry_set_update_loop ?_
    rw [Around.under_plainId F.plain_set_update_loop _]
    show wpAny _ A.in1 (pyNext (.ref I) >>= _) _ _ s
    refine wpAny_bind (W.item i s _ _ hlt hst fun v s' hP hst' hm => ?_)
    obtain ⟨z, t, hz, rfl⟩ := hval i v hP
    have hS' : SetT P w s'.heap S (fun j => decide (j ∈ xs.take i)) c := hS.at fun o e => hm.heap S o hSw e
    show wpAny _ A.in1 (holding [Value.str z t] (setAdd S (.str z t)) >>= _) _ _ s'
    refine wpAny_bind (wpAny_holding ?_)
    unfold setAdd
    refine wpAny_holding ?_
    refine wpAny_bind ((tkind P w).pyHash (k := z) (strKind_is _ _ _ _) ?_)
    refine setT_add_hashed (s := { s' with toks := s'.toks + 1 }) hS' (by omega) fun h' hsb hS2 => ?_
    have hS3 : SetT P w h' S (fun j => decide (j ∈ xs.take (i + 1))) (if decide (z ∈ xs.take i) = true then c else c + 1) := hS2.congr fun j => by
      rw [List.take_add_one, hz]
      simp [List.mem_append]
    have hc3 : (if decide (z ∈ xs.take i) = true then c else c + 1) ≤ i + 1 := by
      split <;> omega
    refine wpAny_pure ⟨plainId_quiet F.plain_set_update_loop _, ih (i + 1) _ (by omega) hlt (W.frame _ s' _ _ hst' (Nat.le_succ _) fun b hb o e => ?_) ⟨_, hc3, hS3⟩ fun s'' c2 hm'' hc'' hS'' => ?_⟩
    · rw [hsb.2 b (fun h : b = S => hSf (by rw [← h]; exact hb))]; exact e
    · refine hR s'' c2 (Moved.trans W.gtrans ((hm.mono hsub).then_heap (Nat.le_succ _) fun b o hb e => ?_) hm'') hc'' hS''
      rw [hsb.2 b (fun h : b = S => hb (by rw [h]; exact List.mem_cons_self))]; exact e
theorem strsT_at : ∀ {us : List Value} {xs : List Str}, StrsAre us xs → ∀ (i : Nat) (v : Value), us[i]? = some v → ∃ t, v = .str (xs.getD i Str.empty) t
  | _, _, .nil, i, v, h => by simp at h
  | _, _, .cons n t hr, 0, v, h => by simp at h; exact ⟨t, h.symm⟩
  | _, _, .cons n t hr, i + 1, v, h => by
    simpa using strsT_at hr i v (by simpa using h)
theorem setT_new_at {h : Heap} {a : Addr} {xs : List Str} (ho : h.get? a = some (newSet w)) : SetT P w h a (fun j => decide (j ∈ xs.take 0)) 0 :=
  ⟨_, #[], 0, _, ho, ⟨rfl, rfl, rfl⟩, rfl, (fun e he => by simp at he), (by simp), (fun k => by simp), (by decide), (by rfl), rfl, List.Pairwise.nil, by
    show _ ∨ (!w.params.followText "set-order") = true
    cases w.params.followText "set-order"
    · exact .inr rfl
    · exact .inl rfl⟩
set_option maxRecDepth 100000 in
set_option maxHeartbeats 3200000 in
theorem call_setT {l : Addr} {items : Array Value} (xs : List Str) {Q : Value → Shared → Prop} (hh : A.handled = none) (hl : s.heap.IsList l items) (hit : StrsAre items.toList xs) (hb : xs.length + 1 < scanBound)
    (h : ∀ (h' : Heap) (tk c : Nat), SetT P w h' s.heap.objs.size (fun j => decide (j ∈ xs)) c → c ≤ xs.length → (∀ b o, s.heap.get? b = some o → h'.get? b = some o) → Q (.ref s.heap.objs.size) { s with heap := h', toks := tk }) :
    wpAny (model P w) A (call (.type "set") [.ref l]) Q E s := by
  have hisz : items.size = xs.length := by rw [← StrsAre.len_eq hit, Array.length_toList]
  obtain ⟨c, tl, hmro⟩ := F.called_set.mro
  have hmade := F.called_set.made
  have hsub := F.called_set.sub
  refine wpAny_call (codeAny_of_tree ?_)
  show wpAny _ _ (callAny (.type "set") _) _ _ _
  refine wpAny_pure ⟨Code.quiet_builtin _ (by decide +kernel), codeAny_builtin F.entry_type_call ?_⟩
  rw [Around.under_plain (weight_type_call_type "set" [.ref l] []) rfl]
  have h1 := F.called_set.notType
  have h2 := F.called_set.canCreate
  have hct := F.typeCall_set_1 (.ref l)
  repeat (any_goals (first | assumption | wp_step))
  refine codeAny_mono (code_set_led1 (.ref l) (E := E) (Q₁ := fun obj s₁ => obj = .ref s.heap.objs.size ∧ s₁ = { s with heap := s.heap.push (newSet w) }) ⟨rfl, rfl⟩) fun r s₁ hr => ?_
  cases r with
  | error e => exact hr
  | ok fl =>
    cases fl with
    | ret obj =>
      obtain ⟨rfl, rfl⟩ := hr
      have hS : (s.heap.push (newSet w)).get? s.heap.objs.size = some (newSet w) := Heap.get?_push_size _ rfl
      have hT : Shared.TypeIs { s with heap := s.heap.push (newSet w) } (.ref s.heap.objs.size) "set" := ⟨_, hS, rfl⟩
      have hli := F.called_set.init.lookup
      have hbi := F.called_set.init.bind (.ref s.heap.objs.size)
      repeat (any_goals (first | assumption | wp_step))
      refine codeAny_mono (codeAny_call_builtin (R := wants (fun r s₂ => r = .none ∧ ∃ h' tk c, s₂ = { s with heap := h', toks := tk } ∧ SetT P w h' s.heap.objs.size (fun j => decide (j ∈ xs)) c ∧ c ≤ xs.length ∧
          (∀ b o, s.heap.get? b = some o → h'.get? b = some o)) E) F.called_set.init.plain F.entry_set_init (check_set_init_1 hT ?_)) fun r₂ s₂ hr₂ => ?_
      · obtain ⟨ol, hol, hcl, nl, hdl⟩ := hl
        obtain ⟨ocls, odict, odata, oslots⟩ := ol
        simp only at hcl hdl
        subst hcl; subst hdl
        have hol' : (s.heap.push (newSet w)).get? l = some { cls := .type "list", dict := odict, data := .seq items nl, slots := oslots } := Heap.get?_push_of_some _ hol
        have hsls := PySem.F.sub_list_set
        have hslf := PySem.F.sub_list_frozenset
        have hne : (Value.type "list" == Value.type "dict") = false := by decide
        have hl1 : (s.heap.push (newSet w)).IsList l items := ⟨_, hol', rfl, nl, rfl⟩
        unfold Builtin.«set.__init__» noKeywords Builtin.Frozenset.updateFrom
        generalize hPI : pyIter = PI
        wp_walk
        subst hPI
        refine wpAny_pyIter_list hl1 ?_
        refine wpAny_bind (wpAny_runValue ?_)
        have hlS : l < s.heap.objs.size := Heap.lt_size hol
        have hh3 : A.in1.in1.in1.handled = none := by simp [hh]
        have hneI : l ≠ (s.heap.push (newSet w)).objs.size := by
          rw [Heap.size_push]; exact Nat.ne_of_lt (Nat.lt_succ_of_lt hlS)
        have hSf : s.heap.objs.size ∉ [(s.heap.push (newSet w)).objs.size, l] := by
          rw [Heap.size_push]; simp only [List.mem_cons, List.mem_singleton, List.not_mem_nil, or_false, not_or]
          exact ⟨Nat.ne_of_lt (Nat.lt_succ_self _), Nat.ne_of_gt hlS⟩
        have hval : ∀ (i : Nat) (v : Value), items[i]? = some v → ∃ k t, xs[i]? = some k ∧ v = .str k t := fun i v hv => by
          have hi : i < xs.length := by rw [← hisz]; exact (Array.getElem?_eq_some_iff.mp hv).1
          obtain ⟨t, e⟩ := strsT_at hit i v (by rw [Array.getElem?_toList]; exact hv)
          refine ⟨xs[i], t, List.getElem?_eq_getElem hi, ?_⟩
          rw [e, List.getD_eq_getElem?_getD, List.getElem?_eq_getElem hi] <;> rfl
        refine setT_loop ((Walks.list hh3 _ l hneI items).toS) s.heap.objs.size
          hSf xs hisz hb hval (items.size - 0) 0 _ (by omega) (Nat.zero_le _)
          ⟨⟨_, Heap.get?_push_size _ rfl, rfl, rfl⟩, (hl1.push _)⟩ ?hS0 ?hR
        case hS0 =>
          have hget : ((s.heap.push (newSet w)).push { cls := .type "list_iterator", data := .fields #[.ref l, .int 0 0] }).get? s.heap.objs.size = some (newSet w) := Heap.get?_push_of_some _ hS
          exact ⟨0, Nat.le_refl 0, setT_new_at hget⟩
        case hR =>
          intro s' c' hm hc' hS'
          obtain ⟨h', g2, d', tk', os'⟩ := s'
          have eg : g2 = s.gens := hm.gens
          have ed : d' = s.drawn := hm.drawn
          have eo : os' = s.os := hm.os
          subst eg; subst ed; subst eo
          show wpAny _ _ _ _ _ _
          refine wpAny_pure ?_
          show wpAny _ _ (ret Value.none) _ _ _
          rw [hisz] at hc'
          refine wpAny_pure ⟨rfl, h', tk', c', rfl, hS', hc', fun b o e => ?_⟩
          have hb0 : b < s.heap.objs.size := Heap.lt_size e
          have hb1 : b ≠ s.heap.objs.size := Nat.ne_of_lt hb0
          have hb2 : b ≠ (s.heap.push (newSet w)).objs.size := by
            rw [Heap.size_push]; exact Nat.ne_of_lt (Nat.lt_succ_of_lt hb0)
          exact hm.heap b o (by simp only [List.mem_cons, List.mem_singleton, List.not_mem_nil, or_false, not_or]; exact ⟨hb1, hb2⟩) (Heap.get?_push_of_some _ (Heap.get?_push_of_some _ e))
      · cases r₂ with
        | error e => exact hr₂
        | ok fl₂ =>
          cases fl₂ with
          | ret r =>
            obtain ⟨rfl, h', tk, c', rfl, hS', hc', hk'⟩ := hr₂
            repeat (any_goals (first | assumption | wp_step))
            exact h _ _ _ hS' hc' hk'
          | _ => exact hr₂.elim
    | _ => exact hr.elim
theorem strsT_of : ∀ (l : List Value), (∀ v ∈ l, ∃ k tk, v = Value.str k tk) → StrsAre l (l.map fun v => match v with | .str k _ => k | _ => Str.empty)
  | [], _ => .nil
  | v :: l, h => by
    obtain ⟨k, tk, rfl⟩ := h _ List.mem_cons_self
    exact .cons _ _ (strsT_of l fun u hu => h u (List.mem_cons_of_mem _ hu))
theorem sorted_setT {Q : Value → Shared → Prop} (R : SetT P w s.heap a S n) (hh : A.handled = none) (h64 : n < 64)
    (hQ : ∀ s' p (out : Array Value) (c : Nat) (ys : List Str), (∀ b o, s.heap.get? b = some o → s'.heap.get? b = some o) → s'.gens = s.gens → s'.os = s.os → s.heap.objs.size ≤ p →
      s'.heap.get? p = some (seqObj "list" out c) → StrsAre out.toList ys → sortedS ys = true → ys.Nodup → (∀ k, k ∈ ys ↔ S k = true) → ys.length = n → Q (.ref p) s') :
    wpAny (model P w) A (call (.builtin "sorted") [.ref a]) Q E s := by
  obtain ⟨o, es, ep, t, ho, hex, hd, g, nd, hm, hb, hf, hn, hr, hl⟩ := R
  refine Calls.call_function_entry kind_sorted plain_sorted entry_sorted (args_sorted1 _) ?_
  unfold Builtin.«sorted»
  refine wpAny_bind (m := checkCount "sorted" 1 1 _) (wpAny_pure ?_)
  refine wpAny_bind (collect_set (A := A.in1) hh ⟨o, ho, hex.1, hd⟩ hf hb hr hl fun s1 vs k1 hz g1 o1 pm => ?_)
  have hvl : vs.length = n := by rw [pm.length_eq, List.length_map, Array.length_toList]; exact hn
  have hI := strsT_of vs fun v hv => by
    obtain ⟨e, he, q⟩ := List.mem_map.mp (pm.mem_iff.mp hv)
    obtain ⟨k, tk, h1, _⟩ := g e he
    exact ⟨k, tk, by rw [← q]; exact h1⟩
  have pk : (vs.map fun v => match v with | .str k _ => k | _ => Str.empty).Perm (es.toList.map txtOf) := by
    have q := pm.map fun v => match v with | .str k _ => k | _ => Str.empty
    rw [List.map_map] at q
    exact q
  refine wpAny_bind (wpAny_newList ?_ (by rw [hvl, sizeLine_eq]; omega))
  have hoL : (s1.heap.push (seqObj "list" vs.toArray 0)).get? s1.heap.objs.size = some (seqObj "list" vs.toArray 0) := Heap.get?_push_size _ rfl
  refine wpAny_bind (wpAny_holding (wpAny_call_entry slot_list_sort ⟨_, hoL, rfl⟩ entry_list_sort (list_sort_treeK strKind_oneLt hoL hI.keysOf (fun v₁ v₂ rest e => keyKind_strs (by rw [← e]; exact hI)) (by rw [hvl]; exact h64) fun st' hp hs => ⟨_, rfl, ?_⟩) (args_list_sort _)))
  obtain ⟨ys, a1, a2, a3⟩ := sorted_out_str hI hp hs
  obtain ⟨c, hc⟩ := sortedHeap_at (vs := vs) (out := (arrOf st').map (·.2)) hoL
  have pn : ys.Perm (es.toList.map txtOf) := a2.trans pk
  refine wpAny_pure ⟨_, rfl, hQ _ s1.heap.objs.size _ c ys (fun b u e => ?_) g1 o1 hz hc a1 a3 (pn.nodup_iff.mpr nd) (fun k => by rw [pn.mem_iff, ← hm k]) ?_⟩
  · have q := k1 b u e
    have hlt := Heap.lt_size q
    show (sortedHeap (s1.heap.push (seqObj "list" vs.toArray 0)) s1.heap.objs.size vs _).get? b = some u
    rw [sortedHeap_old (Nat.ne_of_lt hlt) (by rw [size_push']; exact Nat.lt_succ_of_lt hlt)]
    exact Heap.get?_push_of_some _ q
  · rw [pn.length_eq, List.length_map, Array.length_toList]; exact hn
end
end MR

/-! sorted(set(xs)) as a mirror -/
namespace MR
open PySem L2 PyProof.Rows
variable [Tb]
open PySem.Spec (ltCps)
abbrev ltS (a b : Str) : Bool := ltCps a.cps.toList b.cps.toList
theorem ltCps_irrefl : ∀ a : List Nat, ltCps a a = false
  | [] => rfl
  | x :: r => by simp [ltCps, ltCps_irrefl r]
theorem ltCps_trans : ∀ {a b c : List Nat}, ltCps a b = true → ltCps b c = true → ltCps a c = true
  | [], [], _, h, _ => by simp [ltCps] at h
  | [], _ :: _, [], _, h => by simp [ltCps] at h
  | [], _ :: _, _ :: _, _, _ => rfl
  | _ :: _, [], _, h, _ => by simp [ltCps] at h
  | _ :: _, _ :: _, [], _, h => by simp [ltCps] at h
  | x :: a, y :: b, z :: c, h, k => by
    simp only [ltCps, Bool.or_eq_true, Bool.and_eq_true, decide_eq_true_eq, beq_iff_eq] at h k ⊢
    rcases h with h | ⟨h, h'⟩
    · rcases k with k | ⟨k, k'⟩
      · exact .inl (by omega)
      · exact .inl (by omega)
    · rcases k with k | ⟨k, k'⟩
      · exact .inl (by omega)
      · exact .inr ⟨h.trans k, ltCps_trans h' k'⟩
theorem ltCps_tri : ∀ (a b : List Nat), ltCps a b = true ∨ a = b ∨ ltCps b a = true
  | [], [] => .inr (.inl rfl)
  | [], _ :: _ => .inl rfl
  | _ :: _, [] => .inr (.inr rfl)
  | x :: a, y :: b => by
    simp only [ltCps, Bool.or_eq_true, Bool.and_eq_true, decide_eq_true_eq, beq_iff_eq, List.cons.injEq]
    rcases Nat.lt_trichotomy x y with h | h | h
    · exact .inl (.inl h)
    · rcases ltCps_tri a b with k | k | k
      · exact .inl (.inr ⟨h, k⟩)
      · exact .inr (.inl ⟨h, k⟩)
      · exact .inr (.inr (.inr ⟨h.symm, k⟩))
    · exact .inr (.inr (.inl h))
theorem str_eq {a b : Str} (h : a.cps.toList = b.cps.toList) : a = b := by
  obtain ⟨⟨a⟩⟩ := a
  obtain ⟨⟨b⟩⟩ := b
  simp at h
  rw [h]
theorem ltS_tri (a b : Str) : ltS a b = true ∨ a = b ∨ ltS b a = true := (ltCps_tri _ _).imp_right (.imp_left str_eq)
/-- rising, no text twice -/
abbrev Rising (l : List Str) : Prop := l.Pairwise fun a b => ltS a b = true
theorem rising_of : ∀ {l : List Str}, sortedS l = true → l.Nodup → Rising l := by
  have step : ∀ (l : List Str) (p : Str), risingS p l = true → (p :: l).Nodup → Rising (p :: l) := by
    intro l
    induction l with
    | nil => intro p _ _; exact List.pairwise_singleton _ _
    | cons x r ih =>
      intro p h nd
      simp only [risingS, Bool.and_eq_true, Bool.not_eq_true'] at h
      obtain ⟨n1, n2⟩ := List.nodup_cons.mp nd
      have R := ih x h.2 n2
      have px : ltS p x = true := by
        rcases ltS_tri p x with q | q | q
        · exact q
        · exact absurd (by rw [q]; exact List.mem_cons_self) n1
        · exact absurd (q.symm.trans h.1) (by decide)
      refine List.pairwise_cons.mpr ⟨fun y hy => ?_, R⟩
      rcases List.mem_cons.mp hy with e | hy
      · rw [e]; exact px
      · exact ltCps_trans px ((List.pairwise_cons.mp R).1 y hy)
  intro l h nd
  cases l with
  | nil => exact List.Pairwise.nil
  | cons x r => exact step r x h nd
theorem rising_uniq : ∀ {a b : List Str}, Rising a → Rising b → (∀ k, k ∈ a ↔ k ∈ b) → a = b
  | [], [], _, _, _ => rfl
  | [], y :: b, _, _, h => absurd ((h y).2 List.mem_cons_self) (by simp)
  | x :: a, [], _, _, h => absurd ((h x).1 List.mem_cons_self) (by simp)
  | x :: a, y :: b, ha, hb, h => by
    obtain ⟨a1, a2⟩ := List.pairwise_cons.mp ha
    obtain ⟨b1, b2⟩ := List.pairwise_cons.mp hb
    have no : ∀ {p q : Str}, ltS p q = true → ltS q p = true → False := fun u v => by
      have := ltCps_trans u v
      rw [ltCps_irrefl] at this
      cases this
    have e : x = y := by
      rcases List.mem_cons.mp ((h x).1 List.mem_cons_self) with e | m
      · exact e
      · rcases List.mem_cons.mp ((h y).2 List.mem_cons_self) with e | m'
        · exact e.symm
        · exact (no (b1 x m) (a1 y m')).elim
    subst e
    have nx : ∀ {l : List Str}, (∀ y ∈ l, ltS x y = true) → x ∉ l := fun q m => by
      have := q x m
      rw [show ltS x x = false from ltCps_irrefl _] at this
      cases this
    have e2 : a = b := rising_uniq a2 b2 fun k => by
      constructor
      · intro m
        rcases List.mem_cons.mp ((h k).1 (List.mem_cons_of_mem _ m)) with q | q
        · rw [q] at m; exact (nx a1 m).elim
        · exact q
      · intro m
        rcases List.mem_cons.mp ((h k).2 (List.mem_cons_of_mem _ m)) with q | q
        · rw [q] at m; exact (nx b1 m).elim
        · exact q
    rw [e2]
def insT (x : Str) : List Str → List Str
  | [] => [x]
  | y :: r => if ltS x y = true then x :: y :: r else if ltS y x = true then y :: insT x r else y :: r
def sortT : List Str → List Str
  | [] => []
  | x :: r => insT x (sortT r)
theorem insT_mem (x : Str) : ∀ (l : List Str) (k : Str), k ∈ insT x l ↔ k = x ∨ k ∈ l
  | [], k => by simp [insT]
  | y :: r, k => by
    unfold insT
    split
    · simp
    · split
      · rw [List.mem_cons, insT_mem x r k, List.mem_cons]
        constructor
        · rintro (q | q | q)
          · exact .inr (.inl q)
          · exact .inl q
          · exact .inr (.inr q)
        · rintro (q | q | q)
          · exact .inr (.inl q)
          · exact .inl q
          · exact .inr (.inr q)
      · rename_i h1 h2
        have e : x = y := by
          rcases ltS_tri x y with q | q | q
          · exact absurd q h1
          · exact q
          · exact absurd q h2
        subst e
        constructor
        · exact .inr
        · rintro (q | q)
          · rw [q]; exact List.mem_cons_self
          · exact q
theorem insT_rising (x : Str) : ∀ {l : List Str}, Rising l → Rising (insT x l)
  | [], _ => List.pairwise_singleton _ _
  | y :: r, h => by
    obtain ⟨h1, h2⟩ := List.pairwise_cons.mp h
    unfold insT
    split
    · rename_i q
      refine List.pairwise_cons.mpr ⟨fun z hz => ?_, h⟩
      rcases List.mem_cons.mp hz with e | hz
      · rw [e]; exact q
      · exact ltCps_trans q (h1 z hz)
    · split
      · rename_i q
        refine List.pairwise_cons.mpr ⟨fun z hz => ?_, insT_rising x h2⟩
        rcases (insT_mem x r z).mp hz with e | hz
        · rw [e]; exact q
        · exact h1 z hz
      · exact h
theorem sortT_rising : ∀ l : List Str, Rising (sortT l)
  | [] => List.Pairwise.nil
  | x :: r => insT_rising x (sortT_rising r)
theorem sortT_mem : ∀ (l : List Str) (k : Str), k ∈ sortT l ↔ k ∈ l
  | [], k => Iff.rfl
  | x :: r, k => by rw [sortT, insT_mem, sortT_mem r, List.mem_cons]
theorem sortT_of {ys xs : List Str} (h : sortedS ys = true) (nd : ys.Nodup) (m : ∀ k, k ∈ ys ↔ k ∈ xs) : ys = sortT xs :=
  rising_uniq (rising_of h nd) (sortT_rising xs) fun k => (m k).trans (sortT_mem xs k).symm

/-! ### set(xs), sorted(s) by values -/
def SetTO (P : Program) (w : World) (a : Addr) (S : Str → Bool) (n : Nat) : HO := .ext fun h => SetT P w h a S n
theorem setTO_new {w : World} {P : Program} {H : Hp} {h : Heap} {a : Addr} {S : Str → Bool} {n : Nat} (R : SetT P w h a S n) : ObjOk P w H h a (SetTO P w a S n) := by
  have ⟨o, _, _, _, ho, _⟩ := R
  exact ⟨R, ⟨o, ho⟩, fun h1 h2 p k => SetT.at p k⟩
theorem setTO_get {X : Cx} {pins : List (Addr × Obj)} {σ : L2.St} {H : Hp} {s : Shared} {a : Addr} {S : Str → Bool} {n : Nat} (I : Inv X pins σ H s) (ha : H a = some (SetTO X.prog X.w a S n)) : SetT X.prog X.w s.heap a S n := (I.hok a _ ha).1
theorem nodup_le : ∀ {a b : List Str}, a.Nodup → (∀ k ∈ a, k ∈ b) → a.length ≤ b.length
  | [], _, _, _ => Nat.zero_le _
  | x :: a, b, nd, h => by
    obtain ⟨n1, n2⟩ := List.nodup_cons.mp nd
    have hx : x ∈ b := h x List.mem_cons_self
    have ih := nodup_le (b := b.erase x) n2 fun k hk => (List.mem_erase_of_ne (fun z : k = x => n1 (by rw [← z]; exact hk))).mpr (h k (List.mem_cons_of_mem _ hk))
    rw [List.length_erase_of_mem hx] at ih
    have : 0 < b.length := List.length_pos_of_mem hx
    rw [List.length_cons]
    omega
theorem setT_card {P : Program} {w : World} {h : Heap} {a : Addr} {ys : List Str} {c : Nat} (R : SetT P w h a (fun j => decide (j ∈ ys)) c) : c ≤ (sortT ys).length := by
  obtain ⟨o, es, ep, t, _, _, _, _, nd, m, _, _, hn, _⟩ := R
  have q := nodup_le (b := sortT ys) nd fun k hk => (sortT_mem ys k).mpr (of_decide_eq_true ((m k).mpr hk))
  rw [List.length_map, Array.length_toList, hn] at q
  exact q
def rSetT (X : Cx) : List V → Hp → VK → Prop := fun xs H Q => ∃ (a : Addr) (ys : List Str), xs = [V.ref a] ∧ SqL X.K H a (ys.map V.str) ∧ ys.length < 4000 ∧
  ∀ p c, H p = none → c ≤ (sortT ys).length → Q (.ref p) (upd H p (SetTO X.prog X.w p (fun j => decide (j ∈ ys)) c))
theorem cr_setT {X : Cx} (hc : X.calm = true) : CallR X (.type "set") (rSetT X) := by
  intro pins s σ H xs us Q I r h
  obtain ⟨a, ys, rfl, hs, h64, q⟩ := h
  obtain ⟨its, rv, hl, _⟩ := I.list hs
  rw [Vals.ref1 r]
  refine call_setT ys (I.ok.hd hc) hl.isList rv.strs (by unfold scanBound; omega) fun h' tk c R hc' k => ?_
  exact ⟨.ref _, upd H s.heap.objs.size (SetTO X.prog X.w s.heap.objs.size (fun j => decide (j ∈ ys)) c), I.laid (t' := tk) k (Nat.le_refl _) (setTO_new R), rfl, q _ c (I.hok.fresh (Nat.le_refl _)) (setT_card R)⟩
def rSortedT (X : Cx) : List V → Hp → VK → Prop := fun vs H Q => ∃ (a : Addr) (S : Str → Bool) (n : Nat), vs = [V.ref a] ∧ H a = some (SetTO X.prog X.w a S n) ∧ n < 64 ∧
  ∀ (ys : List Str) (p : Addr), sortedS ys = true → ys.Nodup → (∀ k, k ∈ ys ↔ S k = true) → H p = none → Q (.ref p) (upd H p (.lst (ys.map V.str)))
theorem cr_sortedT {X : Cx} (hc : X.calm = true) : CallR X (.builtin "sorted") (rSortedT X) := by
  intro pins s σ H vs us Q I r h
  obtain ⟨a, S, n, rfl, ha, h64, q⟩ := h
  have R := setTO_get I ha
  rw [Vals.ref1 r]
  refine sorted_setT R (I.ok.hd hc) h64 fun s' p out c ys k g o hp hg hi hs nd hm hl => ?_
  have hlen : (ys.map V.str).length ≤ sizeLine := by rw [List.length_map, hl, sizeLine_eq]; omega
  have hn : H p = none := I.hok.fresh hp
  have J : Inv X pins σ (upd H p (.lst (ys.map V.str))) { s with heap := s'.heap, gens := s'.gens, drawn := s'.drawn, toks := s'.toks } :=
    I.call (ch := []) (Un.laid k hp hn) (I.hok.laid k hp ⟨hlen, out.toList, c, vals_of_strs hi, hg⟩) (by rw [g]; exact I.bare) (fun _ z => nomatch z)
  have e : s' = { s with heap := s'.heap, gens := s'.gens, drawn := s'.drawn, toks := s'.toks } := by
    cases s'
    cases s
    cases o
    rfl
  rw [e]
  exact ⟨.ref p, _, J, rfl, q ys p hs nd hm hn⟩
/-! ### sorted(set(e)) -/
def gSortSet : List MV → Sto → Res MV := fun ms st => match ms with
  | [m] => match (listOf m st).bind strsOf with
    | some ys => if ys.length < 4000 ∧ (sortT ys).length < 63 then .ok (.lst ((sortT ys).map .str)) st else .bad
    | none => .bad
  | _ => .bad
section
variable {X : Cx} {W : WX} {e : Expr} {p p2 pos pos2 : Pos} {mr : MA}
theorem pm_sortset (hc : X.calm = true) (hm1 : X.mg "sorted" = none) (hm2 : X.mg "set" = none) (ha : PMA X W [e] mr) (hg1 : Gl X "sorted" := by rfl) (hg2 : Gl X "set" := by rfl)
    (he : starEach [e] X.env = (false, eval e X.env) :: starEach [] X.env := by rfl) (hpl : (backTo pos2 (starEach [] X.env)).any (·.1) = false := by rfl)
    (he' : starEach [.Call (.Name "set" p2) [e] [] pos2] X.env = (false, eval (.Call (.Name "set" p2) [e] [] pos2) X.env) :: starEach [] X.env := by rfl) (hpl' : (backTo pos (starEach [] X.env)).any (·.1) = false := by rfl) :
    PM X W (.Call (.Name "sorted" p) [.Call (.Name "set" p2) [e] [] pos2] [] pos) (mCall gSortSet mr) :=
  PE_imp (pe_callB (cr_sortedT hc) hg1 hm1 (by decide +kernel) (pa_cons (pe_callTy (cr_setT hc) hg2 hm2 (by decide +kernel) ha (by decide) (by decide) he hpl) pa_nil he') (by decide) (by decide) he' hpl') fun σ H Q ⟨A, env, st, s, q, h⟩ => by
    unfold mCall at h
    rw [Res.post_bind] at h
    refine inA s q (Ext.refl A H) (h.mono (fun ms st1 h1 A1 H1 x e1 s1 r1 => ?_) fun _ _ z => z)
    obtain ⟨m, st', e2, k⟩ := post_noExc h1
    unfold gSortSet at e2
    split at e2
    · rename_i m0
      split at e2
      · rename_i ys ey
        obtain ⟨hl, e2⟩ := ite_ok e2
        cases e2
        cases r1 with
        | cons r rs =>
          cases rs
          cases el : listOf m0 st1 with
          | none => rw [el] at ey; cases ey
          | some zs =>
            rw [el] at ey
            obtain ⟨a, vs, rfl, hH, rv⟩ := listOf_rep s1 r el
            have ev := strsOf_rep rv ey
            refine ⟨a, ys, rfl, by rw [← ev]; exact SqL.of hH, hl.1, fun b c hb hcl => ?_⟩
            refine ⟨b, _, c, rfl, upd_same, by have := hl.2; omega, fun zs p2 z1 z2 z3 hp2 => ?_⟩
            have ez : zs = sortT ys := sortT_of z1 z2 fun k => by rw [z3]; exact decide_eq_true_iff
            subst ez
            have k1 := okP.ext e1 k
            have sb := s1.laid (o := SetTO X.prog X.w b (fun j => decide (j ∈ ys)) c) hb
            have xb := Ext.laid (o := SetTO X.prog X.w b (fun j => decide (j ∈ ys)) c) s1 hb
            exact fin_lst sb (RepAll.strs (sortT ys)) (okP.ext xb k1) p2 hp2
      · cases e2
    · cases e2
end
end MR

/-! comprehensions whose element lets an exception of a called def out -/
namespace MR
open PySem L2
variable [Tb]
open PyProof.Rows (AllBare)
/-- a block's context whose exceptions go the way of a comprehension's -/
abbrev blkR (X : Cx) (s : Shared) (H : Hp) (scope : Scope) (cenv : Env) (fp : List Addr) : Cx :=
  { X.blk s H scope cenv fp with xe := notedBy (model X.prog X.w) X.A cenv (CompFails (model X.prog X.w) X.A X.xe cenv) }
theorem Inv.xe {X : Cx} {pins : List (Addr × Obj)} {σ : L2.St} {H : Hp} {s : Shared} (I : Inv X pins σ H s) (E : Value → Shared → Prop) : Inv { X with xe := E } pins σ H s :=
  ⟨⟨I.ok.mod, I.ok.kind, I.ok.glob, I.ok.blt, I.ok.above, I.ok.inj, I.ok.has, I.ok.cab, I.ok.hd, I.ok.frames, I.ok.stk, I.ok.exf, I.ok.bs, I.ok.bsz, I.ok.noex, I.ok.exfs, I.ok.funs, I.ok.frf⟩, I.os, I.bare, I.base, I.loc, I.cell, I.free, I.freeC, I.pin, I.hok, I.len⟩

theorem TracedZ.sameBut {h h' base : Heap} {e C : Addr} {Z : Obj → Prop} {fl : Value} {m : Str → Option Value} (hn : h.Ns C m) (hs : Heap.SameBut C h h') (t : HandSPX.TracedZ h base e Z fl) : HandSPX.TracedZ h' base e Z fl := by
  obtain ⟨oe, vs, T, oT, ts, he, hz, hd, h1, hnT, hTe, hT, hdT, h3⟩ := t
  obtain ⟨oC, es, ep, hoC, hdC, _⟩ := hn
  have ne : ∀ {b : Addr} {o : Obj} {us : Array Value}, h.get? b = some o → o.data = .fields us → b ≠ C := fun {b o us} e d z => by
    rw [z, hoC] at e
    cases e
    rw [hdC] at d
    cases d
  exact ⟨oe, vs, T, oT, ts, (hs.2 e (ne he hd)).trans he, hz, hd, h1, hnT, hTe, (hs.2 T (ne hT hdT)).trans hT, hdT, h3⟩

/-- an exception over the ground B is in our air (as XE.of_call, at any stage of its flight, records of ours having changed) -/
theorem xe_of_sky {X : Cx} {W : WX} {pins : List (Addr × Obj)} {σ : L2.St} {H H' : Hp} {s s' : Shared} {B : Heap} {a : Addr} {cls : Value} {d : Option Addr} {ch : List Addr} (I : Inv X pins σ H s)
    (hch : ∀ b ∈ ch, (b ∈ X.ex ∨ X.s_0.heap.objs.size ≤ b) ∧ b ≠ X.env.locals ∧ (∀ x c, X.env.cells.lookup x = some c → c ≠ b) ∧ ∀ p ∈ X.pn ++ pins, p.1 ≠ b)
    (st : B.StaysIn s'.heap) (sky : Sky B X.stack a (Zc cls d) X.env.locals s'.heap) (hok : HOk X.prog X.w H' B)
    (keep : ∀ b o, s.heap.get? b = some o → H b = none → b ∉ frs X.stack → b ∉ ch → B.get? b = some o) (slot : ∀ b o, s.heap.get? b = some o → b ∈ frs X.stack → ∃ sl, s'.heap.get? b = some { o with slots := sl })
    (free : ∀ b o, s.heap.get? b = some o → H b = none → b ∉ ch → H' b = none) (there : ∀ b o, s.heap.get? b = some o → b ∉ frs X.stack → b ∉ ch → ∃ o', B.get? b = some o')
    (tups : ∀ b xs, H b = some (.tup xs) → H' b = some (.tup xs)) (frzs : ∀ b o xs, H b = some (.frz o xs) → H' b = some (.frz o xs)) (tbls : ∀ b ps, H b = some (.tbl ps) → ∃ more, H' b = some (.tbl (ps ++ more)))
    (na : H' a = none) (os : s'.os = s.os) (ag : AllBare s'.gens) (w : W cls d σ H') : XE X W (.ref a) s' := by
  obtain ⟨G, g1, g2⟩ := restrict s'.heap fun b => (B.get? b).isSome || decide (b ∈ frs X.stack)
  have gB : ∀ b o, B.get? b = some o → G.get? b = some o := fun b o e => by
    rw [g1 b (by simp [e])]
    exact st b o e
  have gF : ∀ b, b ∈ frs X.stack → G.get? b = s'.heap.get? b := fun b hb => g1 b (by simp [hb])
  have og : ∀ b o, G.get? b = some o → s'.heap.get? b = some o ∧ ((B.get? b).isSome = true ∨ b ∈ frs X.stack) := fun b o e => by
    cases q : ((B.get? b).isSome || decide (b ∈ frs X.stack)) with
    | false => rw [g2 b q] at e; cases e
    | true =>
      rw [g1 b q] at e
      exact ⟨e, by simpa [Bool.or_eq_true] using q⟩
  refine ⟨a, B, { s with heap := G, gens := s'.gens, drawn := s'.drawn, toks := s'.toks }, pins, σ, H', cls, d, rfl, ?_, fun b o e hb => ?_, Heap.UpToSlots.of_keeps fun b o e => (og b o e).1, sky, na, os, ag, w⟩
  · refine I.call (ch := ch) ⟨fun b o e n hb hc => gB b o (keep b o e n hb hc), fun b o e n hb hc => ?_, fun b o e n hc => free b o e n hc, fun b o e hc => ?_, tups, frzs, tbls⟩ (hok.kept gB) ag hch
    · obtain ⟨sl, q⟩ := slot b o e hb
      exact ⟨sl, by rw [gF b hb]; exact q⟩
    · by_cases hb : b ∈ frs X.stack
      · obtain ⟨sl, q⟩ := slot b o e hb
        exact ⟨_, by rw [gF b hb]; exact q⟩
      · obtain ⟨o', q⟩ := there b o e hb hc
        exact ⟨o', gB b o' q⟩
  · obtain ⟨e', h⟩ := og b o e
    rcases h with h | h
    · obtain ⟨o', q⟩ := Option.isSome_iff_exists.mp h
      have z := st b o' q
      rw [e'] at z; cases z
      exact q
    · exact absurd h hb

theorem lets_blk {X : Cx} {W : WX} {pins : List (Addr × Obj)} {σ : L2.St} {H3 : Hp} {s3 : Shared} {scope : Scope} {ce : Env} {fp : List Addr} (tk : Takes X W) (hs : X.stack = X.env :: X.outer) (hf : X.env.frame = some X.env.locals)
    (I3 : Inv X pins σ H3 s3) (f3 : ∀ b ∈ fp, FpOk X pins H3 b ∧ b < s3.heap.objs.size) (cL : ce.locals = s3.heap.objs.size) (cF : ce.frame = X.env.frame) :
    Lets (blkR X s3 H3 scope ce fp) (fun c d _ H' => W c d σ H') := by
  intro σ2 pins2 H2 s e s' J c
  obtain ⟨a, B0, H', cls, d, rfl, fl, hok, ub, na, os, ag, hE⟩ := c
  have hfr : X.A.frames = some (X.env :: X.outer) := by rw [I3.ok.frames, hs]
  have base : Un (frs X.stack) fp H3 H2 s3.heap s.heap := J.base
  obtain ⟨B, b1, b2⟩ := restrict B0 fun b => decide (b ≠ ce.locals)
  have BB : ∀ b o, B.get? b = some o → B0.get? b = some o ∧ b ≠ ce.locals := fun b o e => by
    by_cases z : b = ce.locals
    · rw [b2 b (by simp [z])] at e; cases e
    · rw [b1 b (by simp [z])] at e; exact ⟨e, z⟩
  have BC : B.get? ce.locals = none := b2 _ (by simp)
  have Bof : ∀ b o, B0.get? b = some o → b ≠ ce.locals → B.get? b = some o := fun b o e n => by rw [b1 b (by simp [n])]; exact e
  have nC : H2 ce.locals = none := J.free
  -- the block's names stand
  obtain ⟨m, hnC, _⟩ := J.loc
  have hnC : s.heap.Ns ce.locals m := hnC
  have nst : ce.locals ∉ frs X.stack := fun hm => by
    obtain ⟨_, o, ho, _⟩ := I3.stack.mem hm
    rw [cL] at ho
    exact Nat.lt_irrefl _ (Heap.lt_size ho)
  have hn0 : s'.heap.Ns ce.locals m := by
    obtain ⟨o, es, ep, ho, hd, r⟩ := hnC
    exact ⟨o, es, ep, fl.1 _ _ (ub.keep _ o ho nC nst), hd, r⟩
  -- the flight over the smaller ground
  have fl2 : HandSPX.FlyingZ B (X.env :: X.outer) a (Zc cls d) s'.heap := by
    obtain ⟨k1, k2, k3, k4⟩ := fl
    have k3 : s'.heap.FunFrames B0 X.stack := k3
    rw [hs] at k3
    refine ⟨fun b o e => k1 b o (BB b o e).1, ?_, funFrames_none k3 fun L hL => ?_, ?_⟩
    · cases q : B.get? a with
      | none => rfl
      | some o => exact absurd (k2.symm.trans (BB a o q).1) (fun z => nomatch z)
    · cases q : B.get? L with
      | none => rfl
      | some o =>
        have z := k3.mem hL
        exact absurd (z.1.symm.trans (BB L o q).1) (fun z => nomatch z)
    · obtain ⟨oe, vs, T, oT, ts, he, hz, hd, h1, hnT, hTe, hT, hdT, h3⟩ := k4
      refine ⟨oe, vs, T, oT, ts, he, hz, hd, h1, ?_, hTe, hT, hdT, h3⟩
      cases q : B.get? T with
      | none => rfl
      | some o => exact absurd (hnT.symm.trans (BB T o q).1) (fun z => nomatch z)
  show notedBy (model X.prog X.w) X.A ce (CompFails (model X.prog X.w) X.A X.xe ce) (.ref a) s'
  show wpAny (model X.prog X.w) X.A (noteFrame (.ref a) ce) _ _ s'
  rw [noteFrame_env _ cF]
  refine HandSPX.looks_onZ Zc.steady hfr hf fl2 fun h1 hh1 up1 => ?_
  have hn1 : h1.Ns ce.locals m := up1.ns hn0
  refine ⟨m, hn1, fun h2 m2 hn2 sb => ?_⟩
  have hh2 : HandSPX.HeldZ B (X.env :: X.outer) a (Zc cls d) X.env.locals h2 := by
    obtain ⟨k1, k2, k3, k4⟩ := hh1
    exact ⟨fun b o e => (sb.2 b (BB b o e).2).trans (k1 b o e), k2, Heap.FunFrames.sameBut sb hn2 k3, TracedZ.sameBut hn1 sb k4⟩
  obtain ⟨oe, vs, T, oT, ts, he, hz, hd, h1', hnT, hTe, hT, hdT, h3'⟩ := id hh2.2.2.2
  unfold passOn
  refine wpAny_bind (wpAny_field he hd h1' ?_)
  rw [if_neg (show ¬ ((Value.ref T == Value.none) = true) from by simp)]
  rw [cF, hf]
  refine wpAny_bind (HandSPX.setFlight_onZ (s := { s' with heap := h2 }) hh2 fun h3 hh3 up3 => wpAny_throw (tk _ _ ?_))
  refine xe_of_sky (ch := fp) (B := B) (H' := H') I3 (fun b hb => ⟨(f3 b hb).1.2.2.2.1, (f3 b hb).1.2.1, (f3 b hb).1.2.2.2.2.1, (f3 b hb).1.2.2.2.2.2⟩) hh3.1 (.inr (.inr (by rw [hs]; exact hh3))) ?_ (fun b o e n hb hc => ?_) (fun b o e hb => ?_)
    (fun b o e n hc => ?_) (fun b o e hb hc => ?_) (fun b xs e => ub.tups b xs (base.tups b xs e)) (fun b o xs e => ub.frzs b o xs (base.frzs b o xs e)) (fun b ps e => ?_) na (os.trans J.os) ag hE
  · -- what is tracked stands in the smaller ground
    intro b o q
    refine (hok b o q).stay (fun c u hc r => Bof c u r fun z => ?_) (fun _ r => r) fun _ _ r => r
    have nCs : H' ce.locals = none := by
      obtain ⟨oC, _, _, hoC, _⟩ := hnC
      exact ub.free _ _ hoC nC
    rcases hc with hc | hc
    · rw [← hc, z, nCs] at q; cases q
    · rw [z, nCs] at hc; cases hc
  · have ne : b ≠ ce.locals := by rw [cL]; exact Nat.ne_of_lt (Heap.lt_size e)
    exact Bof b o (ub.keep b o (base.keep b o e n hb hc) (base.free b o e n hc) hb) ne
  · have n3 : H3 b = none := I3.stkFree b hb
    have hx : b ∉ fp := fun hm => by
      rcases List.mem_cons.mp (I3.stkSub b hb) with z | z
      · exact (f3 b hm).1.2.1 z
      · exact (f3 b hm).1.2.2.1 z
    obtain ⟨_, o0, e0, hnf⟩ := I3.stack.mem hb
    rw [e] at e0; cases e0
    obtain ⟨sl1, q1⟩ := base.slot b o e n3 hb hx
    obtain ⟨sl2, q2⟩ := ub.slot b _ q1 hb
    obtain ⟨sl3, q3⟩ := up1 b _ q2 hnf
    have ne : b ≠ ce.locals := by rw [cL]; exact Nat.ne_of_lt (Heap.lt_size e)
    have q4 := (sb.2 b ne).trans q3
    obtain ⟨sl5, q5⟩ := up3 b _ q4 hnf
    exact ⟨sl5, q5⟩
  · obtain ⟨o', q⟩ := base.there b o e hc
    exact ub.free b o' q (base.free b o e n hc)
  · obtain ⟨o', q⟩ := base.there b o e hc
    obtain ⟨o2, q2⟩ := ub.there b o' q hb
    have ne : b ≠ ce.locals := by rw [cL]; exact Nat.ne_of_lt (Heap.lt_size e)
    exact ⟨o2, Bof b o2 q2 ne⟩
  · obtain ⟨more, q⟩ := base.tbls b ps e
    obtain ⟨more2, q2⟩ := ub.tbls b _ q
    exact ⟨more ++ more2, by rw [q2, Array.append_assoc]⟩

/-! ### the comprehension -/
section
variable {X : Cx}
theorem lc_coreX {W : WX} {pins : List (Addr × Obj)} {s : Shared} {σ : L2.St} {H : Hp} {Q : VK} {elt tg iter : Expr} {ifs : List Expr} {scope : Scope} {own : List (Str × Nat)} {pos pos' : Pos} {wi : TI} {g : TG} {tt : TT} {te : TE} {use : Option (Value → Sem Unit)} {Qf : Value → Shared → Prop}
    (tk : Takes X W) (hs0 : X.stack = X.env :: X.outer) (hf : X.env.frame = some X.env.locals)
    (hc : X.calm = true) (hN : X.N.Nodup) (I : Inv X pins σ H s) (hi : PI X tg iter wi) (ok : BlkOk X.N X.env.scope scope own)
    (hg : ∀ (s : Shared) (H : Hp) (C : Addr) (cl : List (Str × Addr)) (fp : List Addr), PG (blkR X s H scope (compEnvC scope cl C X.env) fp) tg g) (ht : ∀ (s : Shared) (H : Hp) (C : Addr) (cl : List (Str × Addr)) (fp : List Addr), PTs (blkR X s H scope (compEnvC scope cl C X.env) fp) ifs tt)
    (he : ∀ (s : Shared) (H : Hp) (C : Addr) (cl : List (Str × Addr)) (fp : List Addr), Lets (blkR X s H scope (compEnvC scope cl C X.env) fp) (fun c d _ H' => W c d σ H') → PE (blkR X s H scope (compEnvC scope cl C X.env) fp) elt te) (hs : ∀ x, foldedSetIterable iter X.env x = pure x)
    (h : tLc wi g tt te (own.map (·.2)) σ H Q)
    (hRR : ∀ D (ce : Env) s' m H', Inv X pins σ H' s' → Q (.ref D) H' → s'.heap.Ns ce.locals m → FpOk X pins H' ce.locals → compEnds (model X.prog X.w) X.A X.xe use Qf (.ref D) ce (.ok .next) s') :
    wpAny (model X.prog X.w) X.A (comprehension (.ListComp elt [⟨tg, iter, ifs, 0⟩] scope pos) scope X.env pos' (newList []) false (eval iter X.env) use) Qf X.xe s := by
  have hfree : ∀ y ∈ scope.names, y.2 = .free → ∃ c, X.env.cells.lookup y.1 = some c := fun y hy e => by
    rcases ok.free y hy e with k | k
    · exact I.ok.has _ (.inl k)
    · exact I.ok.has _ (.inr k)
  refine comprehension_at (use := use) rfl hs (closure_ok hfree) ok.kind (fun y hy e => by rw [ok.uniq y hy, e])
    (thn (hi.run pins s σ H _ I h) fun xv s1 hx => thn hx fun itv s2 h2 => ?_)
  obtain ⟨it, fp, tn, J, H2, e, I2, T, st2, f2, q⟩ := h2
  subst e
  refine wpAny_newObj_type (newEnv_comp ?_) (by show 0 ≤ sizeLine; decide)
  generalize hD : s2.heap.objs.size = D
  have hDn : H2 D = none := I2.hok.fresh (Nat.le_of_eq hD)
  obtain ⟨W1, ⟨m0, w0⟩, turn⟩ := q D hDn
  generalize hs3 : ({ s2 with heap := s2.heap.push { cls := .type "list", data := .seq ([] : List Value).toArray } } : Shared) = s3
  have I3 : Inv X pins σ (upd H2 D (.lst [])) s3 := by
    rw [← hs3]
    refine I2.laid (t' := s2.toks) (fun b o e => Heap.get?_push_of_some _ e) (Nat.le_of_eq hD) ⟨Nat.zero_le _, [], 0, .nil, ?_⟩
    rw [← hD]
    exact Heap.get?_push_size _ rfl
  have h3 : s3.heap = s2.heap.push { cls := .type "list", data := .seq ([] : List Value).toArray } := by rw [← hs3]
  have sz : ∀ b ∈ fp, b < s2.heap.objs.size := fun b hb => by
    obtain ⟨o, e, _⟩ := T.obj _ _ st2 b hb
    exact Heap.lt_size e
  have f3 : ∀ b ∈ fp, FpOk X pins (upd H2 D (.lst [])) b ∧ b < s3.heap.objs.size := fun b hb => by
    have hlt := sz b hb
    refine ⟨⟨?_, (f2 b hb).2⟩, by rw [h3, Heap.size_push]; exact Nat.lt_succ_of_lt hlt⟩
    rw [upd_ne (by rw [← hD]; exact Nat.ne_of_lt hlt)]
    exact (f2 b hb).1
  have st3 : tn 0 s3.heap := T.keep _ _ _ st2 fun b _ o e => by rw [h3]; exact Heap.get?_push_of_some _ e
  have I4 := block_start I3 ok hN f3
  have pg := hg s3 (upd H2 D (.lst [])) s3.heap.objs.size (cellsFrom (s3.heap.objs.size + 1) scope.names (cloFrom X.env.cells scope.names [])) fp
  have pt := ht s3 (upd H2 D (.lst [])) s3.heap.objs.size (cellsFrom (s3.heap.objs.size + 1) scope.names (cloFrom X.env.cells scope.names [])) fp
  have pe := he s3 (upd H2 D (.lst [])) s3.heap.objs.size (cellsFrom (s3.heap.objs.size + 1) scope.names (cloFrom X.env.cells scope.names [])) fp
  show codeAny _ _ (.compStart (.ListComp elt [⟨tg, iter, ifs, 0⟩] scope pos) 0 (.ref it) (.ref D) (compEnvC scope (cellsFrom (s3.heap.objs.size + 1) scope.names (cloFrom X.env.cells scope.names [])) s3.heap.objs.size X.env))
    (compEnds (model X.prog X.w) X.A X.xe use Qf (.ref D) (compEnvC scope (cellsFrom (s3.heap.objs.size + 1) scope.names (cloFrom X.env.cells scope.names [])) s3.heap.objs.size X.env)) { s3 with heap := pushCells (s3.heap.push { cls := .type "dict", data := .dict #[] }) scope.names }
  have nfp : ∀ b ∈ fp, (upd H2 D (.lst [])) b = none := fun b hb => (f3 b hb).1.1
  generalize hce : compEnvC scope (cellsFrom (s3.heap.objs.size + 1) scope.names (cloFrom X.env.cells scope.names [])) s3.heap.objs.size X.env = ce at I4 pg pt pe ⊢
  have cL : ce.locals = s3.heap.objs.size := by subst hce; rfl
  have cF : ce.frame = X.env.frame := by subst hce; rfl
  generalize hH3 : upd H2 D (.lst []) = H3 at I3 I4 pg pt pe w0 nfp f3
  have pe := pe (lets_blk tk hs0 hf I3 f3 cL cF)
  have I4 := MR.Inv.xe I4 (notedBy (model X.prog X.w) X.A ce (CompFails (model X.prog X.w) X.A X.xe ce))
  generalize hs4 : ({ s3 with heap := pushCells (s3.heap.push { cls := .type "dict", data := .dict #[] }) scope.names } : Shared) = s4 at I4 ⊢
  have I4 : Inv (blkR X s3 H3 scope ce fp) [] (wipe σ (own.map (·.2))) H3 s4 := I4
  have st4 : tn 0 s4.heap := T.keep _ _ _ st3 fun b _ o e => by rw [← hs4]; exact pushCells_keeps _ _ _ _ (Heap.get?_push_of_some _ e)
  have stat : ∀ {σ' : L2.St} {H' : Hp} {s' : Shared}, Inv (blkR X s3 H3 scope ce fp) [] σ' H' s' → (∀ b ∈ fp, H' b = none) → ∀ b ∈ fp, FpOk (blkR X s3 H3 scope ce fp) [] H' b := fun {σ' H' s'} I' hn b hb =>
    ⟨hn b hb, (I'.ok.exf b hb).1, I'.ok.exfs b hb, .inl hb, fun x c e => (I'.ok.exf b hb).2 x c e, fun p hp => absurd (show p ∈ ([] : List (Addr × Obj)) ++ [] from hp) (by simp)⟩
  have loop : codeAny (model X.prog X.w) X.A (.compLoop (.ListComp elt [⟨tg, iter, ifs, 0⟩] scope pos) 0 (.ref it) (.ref D) ce) (compEnds (model X.prog X.w) X.A X.xe use Qf (.ref D) ce) s4 := by
    have hER : (fun (e : Value) (s' : Shared) => compEnds (model X.prog X.w) X.A X.xe use Qf (.ref D) ce (.error e) s') = CompFails (model X.prog X.w) X.A X.xe ce := by
      funext e s'
      cases use <;> rfl
    refine compLoop_any (fun n s' => ∃ i H', Inv (blkR X s3 H3 scope ce fp) [] (wipe σ (own.map (·.2))) H' s' ∧ tn i s'.heap ∧ (∀ b ∈ fp, H' b = none) ∧ W1 i n H') ?_ m0 ⟨0, H3, I4, st4, nfp, w0⟩
    rw [hER]
    rintro n s5 ⟨i, H5, I5, st5, n5, w5⟩
    rcases turn i n H5 w5 with ⟨stop, qq⟩ | ⟨go, Nx, hNx, step⟩
    · have td := T.done (blkR X s3 H3 scope ce fp) rfl rfl rfl hc i [] s5 _ H5 (fun _ _ => False) I5 (stat I5 n5) st5 stop
      refine thnF td fun r s6 ⟨hr, I6⟩ => ?_
      subst hr
      have I7 : Inv X pins σ H5 s6 := I3.call' (ch := fp) I6.os I6.base I6.hok I6.bare fun b hb => ⟨(f3 b hb).1.2.2.2.1, (f3 b hb).1.2.1, (f3 b hb).1.2.2.2.2.1, (f3 b hb).1.2.2.2.2.2⟩
      have nC : H5 ce.locals = none := I6.free
      obtain ⟨m, hn, _⟩ := I6.loc
      have hn : s6.heap.Ns ce.locals m := hn
      exact hRR D ce s6 m H5 I7 qq hn (I3.fpOk (Nat.le_of_eq cL.symm) nC)
    · have ti := T.item (blkR X s3 H3 scope ce fp) rfl rfl rfl hc i [] s5 _ H5 (fun _ _ => False) I5 (stat I5 n5) st5 go
      refine thnF ti fun r s6 ⟨u, hr, h6⟩ => ?_
      subst hr
      refine thnF h6 fun _ s7 ⟨x, H7, I7, r7, y7, st7, n7⟩ => ?_
      have I7' := I7.pinned (stat I7 n7) (T.obj _ _ st7)
      refine thn (pg.run _ s7 _ H7 x u _ I7' r7 (step x H7 y7)) fun _ s8 ⟨σ8, H8, I8, hw8, q8⟩ => ?_
      refine thn (pt.run _ s8 σ8 H8 _ I8 q8) fun b s9 ⟨H9, I9, q9⟩ => ?_
      have fin : ∀ {s' : Shared} {H' : Hp}, Inv (blkR X s3 H3 scope ce fp) ([] ++ pinsAt fp s7.heap) σ8 H' s' → Nx H' → ∃ m, m < n ∧ ∃ i H', Inv (blkR X s3 H3 scope ce fp) [] (wipe σ (own.map (·.2))) H' s' ∧ tn i s'.heap ∧ (∀ b ∈ fp, H' b = none) ∧ W1 i m H' := fun {s' H'} I' nx => by
        obtain ⟨m', hm, w'⟩ := hNx H' nx
        have pin' : ∀ b ∈ fp, ∀ o, s7.heap.get? b = some o → s'.heap.get? b = some o ∧ H' b = none := fun b hb o e =>
          let z := I'.pin (b, o) (List.mem_append_right _ (List.mem_append_right _ (mem_pinsAt hb e)))
          ⟨z.1, z.2.1⟩
        have hl : (wipe σ (own.map (·.2))).length = σ8.length := by rw [← hw8, wipe_length]
        refine ⟨m', hm, i + 1, H', (I'.unpinned (pins := [])).weak hl (fun j v e => ?_), T.keep _ _ _ st7 fun b hb o e => (pin' b hb o e).1, fun b hb => ?_, w'⟩
        · rw [← hw8] at e
          exact (wipe_some e).1
        · obtain ⟨o, e, _⟩ := T.obj _ _ st7 b hb
          exact (pin' b hb o e).2
      cases b with
      | false =>
        simp only [Bool.false_eq_true, if_false] at q9 ⊢
        exact fin I9 q9
      | true =>
        simp only [if_true] at q9 ⊢
        refine thn (pe.run _ s9 σ8 H9 _ I9 q9) fun z s10 ⟨yv, H10, I10, r10, acc, hD10, hz10, nx⟩ => ?_
        exact app_ok (X := blkR X s3 H3 scope ce fp) I10 hD10 hz10 r10 fun s11 I11 => fin I11 nx
  exact codeAny_compStart_list loop (T.self X.A 0 _ _ _ st4 loop)
/-- [elt for ..], as a value, what elt lets out wished for at the frame's slots -/
theorem pe_lcX {W : WX} {elt tg iter : Expr} {ifs : List Expr} {scope : Scope} {own : List (Str × Nat)} {pos : Pos} {wi : TI} {g : TG} {tt : TT} {te : L2.St → TE} (tk : Takes X W) (hs0 : X.stack = X.env :: X.outer) (hf : X.env.frame = some X.env.locals)
    (hc : X.calm = true) (hN : X.N.Nodup) (hi : PI X tg iter wi) (ok : BlkOk X.N X.env.scope scope own)
    (hg : ∀ (s : Shared) (H : Hp) (C : Addr) (cl : List (Str × Addr)) (fp : List Addr), PG (blkR X s H scope (compEnvC scope cl C X.env) fp) tg g) (ht : ∀ (s : Shared) (H : Hp) (C : Addr) (cl : List (Str × Addr)) (fp : List Addr), PTs (blkR X s H scope (compEnvC scope cl C X.env) fp) ifs tt)
    (he : ∀ (s : Shared) (H : Hp) (C : Addr) (cl : List (Str × Addr)) (fp : List Addr) (σ : L2.St), Lets (blkR X s H scope (compEnvC scope cl C X.env) fp) (fun c d _ H' => W c d σ H') → PE (blkR X s H scope (compEnvC scope cl C X.env) fp) elt (te σ)) (hs : ∀ x, foldedSetIterable iter X.env x = pure x := by intro _; rfl) :
    PE X (.ListComp elt [⟨tg, iter, ifs, 0⟩] scope pos) (fun σ H Q => tLc wi g tt (te σ) (own.map (·.2)) σ H Q) := by
  refine ⟨fun pins s σ H Q I h => ?_⟩
  rw [eval_ListComp]
  refine lc_coreX (te := te σ) tk hs0 hf hc hN I hi ok hg ht (fun s H C cl fp l => he s H C cl fp σ l) hs h fun D ce s' m H' I' q hn f => ⟨m, hn, fun h'' sb => ?_⟩
  obtain ⟨f0, f1, f2, f3, f4, f5⟩ := f
  exact ⟨.ref D, H', I'.turned (t' := s'.toks) (fun b o hb e => (sb.2 b hb).trans e) f0 f1 f3 f4 f5, rfl, q⟩
theorem ps_setLcX {W : WX} {i : Nat} {y : Str} {py : Pos} {elt tg iter : Expr} {ifs : List Expr} {scope : Scope} {own : List (Str × Nat)} {pos spos : Pos} {wi : TI} {g : TG} {tt : L2.St → TT} {te : L2.St → TE} (tk : Takes X W) (hs0 : X.stack = X.env :: X.outer) (hf : X.env.frame = some X.env.locals)
    (hc : X.calm = true) (hN : X.N.Nodup) (hy : X.N[i]? = some y) (hyl : X.env.scope.names.lookup y = some .local)
    (hsw : swapsWith (.ListComp elt [⟨tg, iter, ifs, 0⟩] scope pos) (some (.Name y py)) spos.line X.env = pure true) (hi : PI X tg iter wi) (ok : BlkOk X.N X.env.scope scope own)
    (hg : ∀ (s : Shared) (H : Hp) (C : Addr) (cl : List (Str × Addr)) (fp : List Addr), PG (blkR X s H scope (compEnvC scope cl C X.env) fp) tg g) (ht : ∀ (s : Shared) (H : Hp) (C : Addr) (cl : List (Str × Addr)) (fp : List Addr) (σ : L2.St), PTs (blkR X s H scope (compEnvC scope cl C X.env) fp) ifs (tt σ))
    (he : ∀ (s : Shared) (H : Hp) (C : Addr) (cl : List (Str × Addr)) (fp : List Addr) (σ : L2.St), Lets (blkR X s H scope (compEnvC scope cl C X.env) fp) (fun c d _ H' => W c d σ H') → PE (blkR X s H scope (compEnvC scope cl C X.env) fp) elt (te σ)) (hs : ∀ x, foldedSetIterable iter X.env x = pure x := by intro _; rfl) :
    PS X (.Assign [.Name y py] (.ListComp elt [⟨tg, iter, ifs, 0⟩] scope pos) spos) (tAsg (fun σ H Q => tLc wi g (tt σ) (te σ) (own.map (·.2)) σ H Q) (gName i)) := by
  refine ⟨fun pins s σ H D I h => ?_⟩
  rw [exec_Assign_Name_used _ _ _ _ hsw]
  refine wpAny_bind (wpAny_standAt (wpAny_bind ?_))
  show wpAny _ X.A (do let _ ← comprehension (.ListComp elt [⟨tg, iter, ifs, 0⟩] scope pos) scope X.env (firstIterPos [⟨tg, iter, ifs, 0⟩] pos) (newList []) false (eval iter X.env) (some (assign (.Name y py) X.env))) _ _ s
  have h : tLc wi g (tt σ) (te σ) (own.map (·.2)) σ H (fun x H1 => gName i x σ H1 D.nx) := h
  refine wpAny_bind (thn (lc_coreX (te := te σ) (Qf := fun _ s' => SP X pins D .next s') tk hs0 hf hc hN I hi ok hg (fun s H C cl fp => ht s H C cl fp σ) (fun s H C cl fp l => he s H C cl fp σ l) hs h fun L ce s' m H' I' q hn f => ?_) fun _ s' hq => wpAny_pure (wpAny_pure hq))
  show wpAny _ _ (assign (.Name y py) X.env (.ref L)) _ _ _
  refine wpAny_assign_Name (store_ok2 (v := V.ref L) I' hN hy (.inl hyl) rfl (fun s2 I2 ⟨a, sb, ha⟩ => ?_) (.inr hyl))
  obtain ⟨f0, f1, f2, f3, f4, f5⟩ := f
  have haC : ce.locals ≠ a := by
    rcases ha with z | z
    · rw [z]; exact f1
    · exact fun e => f4 y a z e.symm
  refine ⟨m, hn.sameBut sb haC, fun h3 sb3 => ?_⟩
  exact ⟨_, H', I2.turned (t' := s2.toks) (fun b o hb e => (sb3.2 b hb).trans e) f0 f1 f3 f4 f5, q⟩
end
end MR

/-! raising comprehensions as mirrors; a, *b = v; repr; try .. except as -/
namespace MR
open PySem L2
variable [Tb]
open PyProof.Rows (IsTup iter_tuple draw_tuple slot_tuple_iter)

/-! ### comprehensions whose element raises -/
def compX (t : Tgt) (tst : MT) (elt : ME) : List MV → MEnv → List MV → Sto → Res (List MV)
  | [], _, acc, st => .ok acc st
  | y :: ys, env, acc, st => match t.bind y env with
    | none => .bad
    | some env1 => match tst env1 st with
      | .ok true st1 => match elt env1 st1 with
        | .ok v st2 => if acc.length < 16777216 then compX t tst elt ys env (acc ++ [v]) st2 else .bad
        | .exc c st2 => .exc c st2
        | .bad => .bad
      | .ok false st1 => compX t tst elt ys env acc st1
      | _ => .bad
def mLcX (mi : MA) (own : List Nat) (t : Tgt) (tst : MT) (elt : ME) : ME := fun env st => (mi env st).bind fun ys st1 => (compX t tst elt ys (wipeM env own) [] st1).bind fun zs st2 => .ok (.lst zs) st2
section
variable {X : Cx} {W : WX} {tg it elt : Expr} {ifs : List Expr} {scope : Scope} {pos : Pos} {mi : MA} {mt : MT} {me : ME}
theorem pmts_nil' {W : WX} : PTs X [] (tT (gmOf X) W tYesM) := ⟨fun pins s σ H Q I ⟨A, env, st, sr, q, h⟩ => pts_nil.run pins s σ H Q I (h A H (Ext.refl A H) sr)⟩
theorem lcEX (nc : Tb.cs = none) {vs : List Nat} {t : Tgt} (hsub : ∀ i ∈ t.slots, i ∈ vs) {σ : L2.St} {H : Hp} {Q : VK} (h : tE (gmOf X) W (mLcX mi vs t mt me) σ H Q) :
    tLc (tI (gmOf X) W mi) (t.tg X.K) (tT (gmOf X) (fun c d _ H' => W c d σ H') mt) (tE (gmOf X) (fun c d _ H' => W c d σ H') me) vs σ H Q := by
    obtain ⟨A, env, st, nx, s, q, h⟩ := h.nox
    unfold mLcX at h
    rw [Res.post_bind] at h
    refine ⟨A, env, st, s, q, h.mono (fun ys st1 h1 A1 H1 J e1 s1 itm D hD => ?_) fun _ _ z => z⟩
    rw [Res.post_bind] at h1
    refine lc_it itm.walk (fun i H' => ∃ A' st' acc accV, Ext A1 H1 A' H' ∧ SR (gmOf X) (A'.fence D) H' st' ∧ H' D = some (.lst accV) ∧ RepAll (gmOf X) (A'.fence D) H' accV acc ∧
        (compX t mt me (ys.drop i) (wipeM env vs) acc st').post (fun zs st2 => okP (gmOf X) A1 H1 Q (.lst zs) st2) (exP (gmOf X) A1 H1 (WE W σ))) ?_ (fun i H' _ ⟨A', st', acc, accV, x', s', _⟩ => ⟨A', st', x'.w, s'.unfence⟩) (fun i x H' H2 hlt ⟨A', st', acc, accV, x', s', hDv, ra, ec⟩ y => ?_) (fun H' ⟨A', st', acc, accV, x', s', hDv, ra, ec⟩ => ?_)
    · exact ⟨A1, st1, [], [], Ext.grown _ s1 hD (Ext.refl A1 H1), s1.fence hD _ nc_lst, upd_same, .nil, by rw [List.drop_zero]; exact h1.mono (fun zs st2 z => okP.ext e1 z) fun c st2 z => z.ext e1⟩
    · obtain ⟨x2, s2, m, em, r2⟩ := y (A'.fence D) st' (x'.w.fence hD) s'
      have ed : ys.drop i = m :: ys.drop (i + 1) := by
        rw [List.drop_eq_getElem_cons hlt]
        rw [List.getElem?_eq_getElem hlt] at em
        rw [Option.some.inj em]
      rw [ed] at ec
      unfold compX at ec
      cases eb : t.bind m (wipeM env vs) with
      | none => rw [eb] at ec; exact ec.elim
      | some env1 =>
        rw [eb] at ec
        have q2 : EnvR (gmOf X) (A'.fence D) H2 (wipe σ vs) (wipeM env vs) := by
          have q1 := (q.ext e1)
          have nx2 : (A'.fence D).xs = none := (x'.xsk.trans e1.xsk).trans nx
          refine EnvR.wipe ⟨q1.len, fun j a z => by (rw [nx2] at z; cases z), fun j a z => by (rw [show (gmOf X).cs = none from nc] at z; cases z), fun j mj hj => ?_⟩ nx2 nc vs
          obtain ⟨v, a, r⟩ := q1.get j mj hj
          exact ⟨v, a, (r.extW (x'.w.fence hD)).ext x2⟩
        refine Tgt.ok (own := vs) r2 q2 eb hsub fun σ2 q3 hw => ⟨by rw [hw]; exact wipe_wipe fun _ m => m, ?_⟩
        have hD2 : H2 D = some (.lst accV) := (x2.fk D List.mem_cons_self).trans hDv
        have ec : Res.post (match mt env1 st' with
          | .ok true st1 => (match me env1 st1 with
            | .ok v st2 => if acc.length < 16777216 then compX t mt me (ys.drop (i + 1)) (wipeM env vs) (acc ++ [v]) st2 else .bad
            | .exc c st2 => .exc c st2
            | .bad => .bad)
          | .ok false st1 => compX t mt me (ys.drop (i + 1)) (wipeM env vs) acc st1
          | _ => .bad) _ _ := ec
        cases et : mt env1 st' with
        | exc c st3 => rw [et] at ec; exact ec.elim
        | bad => rw [et] at ec; exact ec.elim
        | ok b st3 =>
          rw [et] at ec
          refine ⟨A'.fence D, env1, st', s2, q3, post_ok et fun A3 H3 x3 s3 => ?_⟩
          have fA3 : A3 = ({ A3 with fn := A'.fn } : Ad).fence D := by
            obtain ⟨ix, fn, _⟩ := A3
            have : fn = D :: A'.fn := x3.fen
            subst this
            rfl
          have hD3 : H3 D = some (.lst accV) := (x3.fk D List.mem_cons_self).trans hD2
          have ra3 : RepAll (gmOf X) A3 H3 accV acc := (ra.ext x2).ext x3
          cases b with
          | false =>
            rw [fA3] at x3 s3 ra3
            exact ⟨_, st3, acc, accV, x'.trans (Ext.unfence s3 (x2.trans x3)), s3, hD3, ra3, ec⟩
          | true =>
            have ec : Res.post (match me env1 st3 with
              | .ok v st2 => if acc.length < 16777216 then compX t mt me (ys.drop (i + 1)) (wipeM env vs) (acc ++ [v]) st2 else .bad
              | .exc c st2 => .exc c st2
              | .bad => .bad) _ _ := ec
            have fA : ∀ {A4 : Ad} {H4 : Hp}, Ext A3 H3 A4 H4 → A4 = ({ A4 with fn := A'.fn } : Ad).fence D := fun {A4 H4} x4 => by
              obtain ⟨ix, fn, _⟩ := A4
              have : fn = D :: A'.fn := x4.fen.trans x3.fen
              subst this
              rfl
            show tE (gmOf X) (fun c d _ H' => W c d σ H') me σ2 H3 _
            refine ⟨A3, env1, st3, s3, q3.ext x3, ?_⟩
            cases ee : me env1 st3 with
            | exc c st4 =>
              rw [ee] at ec
              have ec : exP (gmOf X) A1 H1 (WE W σ) c st4 := ec
              intro A4 H4 C dE x4 s4 hC
              have fA4 := fA x4
              have x24 := (x2.trans x3).trans x4
              rw [fA4] at x24 s4 hC
              exact ec _ H4 C dE (x'.trans (Ext.unfence s4 x24)) s4.unfence hC.unfence
            | bad => rw [ee] at ec; exact ec.elim
            | ok v st4 =>
              rw [ee] at ec
              have ec : Res.post (if acc.length < 16777216 then compX t mt me (ys.drop (i + 1)) (wipeM env vs) (acc ++ [v]) st4 else .bad) _ _ := ec
              by_cases hl : acc.length < 16777216
              · rw [if_pos hl] at ec
                intro A4 H4 vv x4 s4 r4
                have fA4 := fA x4
                have hD4 : H4 D = some (.lst accV) := (x4.fk D (by rw [x3.fen]; exact List.mem_cons_self)).trans hD3
                have ra4 := ra3.ext x4
                have x24 := (x2.trans x3).trans x4
                rw [fA4] at x24 s4 ra4 r4
                refine ⟨accV, hD4, by rw [ra4.length, sizeLine_eq]; exact hl, _, st4, acc ++ [v], accV ++ [vv], Ext.grown _ s1 hD (x'.trans (Ext.unfence s4 x24)), s4.grow _ nc_lst, upd_same, (ra4.append (.cons r4 .nil)).grow _, ec⟩
              · rw [if_neg hl] at ec; exact ec.elim
    · rw [List.drop_length] at ec
      exact ec A' H' _ x' s'.unfence (.lst hDv s'.fence_out ra.unfence)
theorem pm_lcX (nc : Tb.cs = none) {own : List (Str × Nat)} {t : Tgt} (tk : Takes X W) (hs0 : X.stack = X.env :: X.outer) (hf : X.env.frame = some X.env.locals) (hN : X.N.Nodup) (hi : PMI X W tg it mi) (ok : BlkOk X.N X.env.scope scope own)
    (hg : ∀ (s : Shared) (H : Hp) (C : Addr) (cl : List (Str × Addr)) (fp : List Addr), PG (blkR X s H scope (compEnvC scope cl C X.env) fp) tg (t.tg X.K))
    (ht : ∀ (s : Shared) (H : Hp) (C : Addr) (cl : List (Str × Addr)) (fp : List Addr) (W : WX), PTs (blkR X s H scope (compEnvC scope cl C X.env) fp) ifs (tT (gmOf X) W mt))
    (he : ∀ (s : Shared) (H : Hp) (C : Addr) (cl : List (Str × Addr)) (fp : List Addr) (W : WX), Lets (blkR X s H scope (compEnvC scope cl C X.env) fp) W → PM (blkR X s H scope (compEnvC scope cl C X.env) fp) W elt me)
    (hsub : ∀ i ∈ t.slots, i ∈ own.map (·.2) := by decide) (hc : X.calm = true := by rfl) (hs : ∀ x, foldedSetIterable it X.env x = pure x := by intro _; rfl) :
    PM X W (.ListComp elt [⟨tg, it, ifs, 0⟩] scope pos) (mLcX mi (own.map (·.2)) t mt me) := by
  refine ⟨fun pins s σ H Q I h => ?_⟩
  have hl := lcEX nc hsub h
  rw [eval_ListComp]
  refine lc_coreX (te := tE (gmOf X) (fun c d _ H' => W c d σ H') me) tk hs0 hf hc hN I hi ok hg (fun s H C cl fp => ht s H C cl fp _) (fun s H C cl fp l => he s H C cl fp _ l) hs hl fun D ce s' m H' I' q hn f => ⟨m, hn, fun h'' sb => ?_⟩
  obtain ⟨f0, f1, f2, f3, f4, f5⟩ := f
  exact ⟨.ref D, H', I'.turned (t' := s'.toks) (fun b o hb e => (sb.2 b hb).trans e) f0 f1 f3 f4 f5, rfl, q⟩
theorem inSetE {i : Nat} {me : ME} {D : Ends} {σ : L2.St} {H : Hp} (h : tS (gmOf X) W (sSet i me) D σ H) : tE (gmOf X) W me σ H (fun x H1 => D.nx (σ.set i (some x)) H1) := by
  obtain ⟨A, env, st, s, q, h⟩ := h
  exact inE s q (Ext.refl A H) ((post_bindE h).mono (fun mx st1 h1 A1 H1 x e1 s1 r1 => h1 A1 H1 _ e1 s1 ((q.ext e1).set i r1)) fun _ _ z => exP_of q z)
/-- name = [elt for ..], on one line -/
theorem pms_setLcX (nc : Tb.cs = none) {y : Str} {py spos : Pos} {own : List (Str × Nat)} {t : Tgt} (i : Nat) (tk : Takes X W) (hs0 : X.stack = X.env :: X.outer) (hf : X.env.frame = some X.env.locals) (hN : X.N.Nodup) (hi : PMI X W tg it mi) (ok : BlkOk X.N X.env.scope scope own)
    (hg : ∀ (s : Shared) (H : Hp) (C : Addr) (cl : List (Str × Addr)) (fp : List Addr), PG (blkR X s H scope (compEnvC scope cl C X.env) fp) tg (t.tg X.K))
    (ht : ∀ (s : Shared) (H : Hp) (C : Addr) (cl : List (Str × Addr)) (fp : List Addr) (W : WX), PTs (blkR X s H scope (compEnvC scope cl C X.env) fp) ifs (tT (gmOf X) W mt))
    (he : ∀ (s : Shared) (H : Hp) (C : Addr) (cl : List (Str × Addr)) (fp : List Addr) (W : WX), Lets (blkR X s H scope (compEnvC scope cl C X.env) fp) W → PM (blkR X s H scope (compEnvC scope cl C X.env) fp) W elt me)
    (hy : X.N[i]? = some y := by rfl) (hyl : X.env.scope.names.lookup y = some .local := by rfl) (hsw : swapsWith (.ListComp elt [⟨tg, it, ifs, 0⟩] scope pos) (some (.Name y py)) spos.line X.env = pure true := by exact sw_true rfl rfl rfl rfl)
    (hsub : ∀ i ∈ t.slots, i ∈ own.map (·.2) := by decide) (hc : X.calm = true := by rfl) (hs : ∀ x, foldedSetIterable it X.env x = pure x := by intro _; rfl) :
    PMS X W (.Assign [.Name y py] (.ListComp elt [⟨tg, it, ifs, 0⟩] scope pos) spos) (sSet i (mLcX mi (own.map (·.2)) t mt me)) :=
  PS_imp (ps_setLcX (te := fun σ => tE (gmOf X) (fun c d _ H' => W c d σ H') me) (tt := fun σ => tT (gmOf X) (fun c d _ H' => W c d σ H') mt) tk hs0 hf hc hN hy hyl hsw hi ok hg (fun s H C cl fp σ => ht s H C cl fp _) (fun s H C cl fp σ l => he s H C cl fp _ l) hs) fun D σ H h =>
    lcEX nc hsub (inSetE h)
theorem pms_setLc (nc : Tb.cs = none) {y : Str} {py spos : Pos} {own : List (Str × Nat)} {t : Tgt} (i : Nat) (hN : X.N.Nodup) (hi : PMI X W tg it mi) (ok : BlkOk X.N X.env.scope scope own)
    (hg : ∀ (s : Shared) (H : Hp) (C : Addr) (cl : List (Str × Addr)) (fp : List Addr), PG (X.blk s H scope (compEnvC scope cl C X.env) fp) tg (t.tg X.K))
    (ht : ∀ (s : Shared) (H : Hp) (C : Addr) (cl : List (Str × Addr)) (fp : List Addr), PTs (X.blk s H scope (compEnvC scope cl C X.env) fp) ifs (tT (gmOf X) W0 mt))
    (he : ∀ (s : Shared) (H : Hp) (C : Addr) (cl : List (Str × Addr)) (fp : List Addr), PM (X.blk s H scope (compEnvC scope cl C X.env) fp) W0 elt me)
    (hy : X.N[i]? = some y := by rfl) (hyl : X.env.scope.names.lookup y = some .local := by rfl) (hsw : swapsWith (.ListComp elt [⟨tg, it, ifs, 0⟩] scope pos) (some (.Name y py)) spos.line X.env = pure true := by exact sw_true rfl rfl rfl rfl)
    (hsub : ∀ i ∈ t.slots, i ∈ own.map (·.2) := by decide) (hc : X.calm = true := by rfl) (hs : ∀ x, foldedSetIterable it X.env x = pure x := by intro _; rfl) :
    PMS X W (.Assign [.Name y py] (.ListComp elt [⟨tg, it, ifs, 0⟩] scope pos) spos) (sSet i (mLc mi (own.map (·.2)) t mt me)) :=
  PS_imp (ps_setLc hc hN hy hyl hsw hi ok hg ht he hs) fun D σ H h => lcE nc hsub (inSetE h)
end

/-! ### a, *b = v -/
section
variable {prog : Program} {w : World} {A : Around} {E : Value → Shared → Prop} {s : Shared}
theorem star_list {l : Addr} {items : Array Value} {Q : List Value → Shared → Prop} {x : Value} {r : List Value} (hl : s.heap.IsList l items) (hh : A.handled = none) (hx : items.toList = x :: r) (hz : items.size ≤ 16384)
    (h : ∀ (h' : Heap) (tk : Nat), (∀ b o, s.heap.get? b = some o → h'.get? b = some o) → Q [x, .ref h'.objs.size] { s with heap := h'.push { cls := .type "list", data := .seq r.toArray }, toks := tk }) : wpAny (model prog w) A (unpackItems (.ref l) 2 (some 1)) Q E s := by
  have hsz : items.size = r.length + 1 := by rw [← Array.length_toList, hx, List.length_cons]
  have hlt : l ≠ s.heap.objs.size := by obtain ⟨o, ho, _⟩ := hl; exact Nat.ne_of_lt (Heap.lt_size ho)
  have hll : l < s.heap.objs.size := by obtain ⟨o, ho, _⟩ := hl; exact Heap.lt_size ho
  unfold unpackItems
  refine wpAny_bind ?_
  unfold notIterableAtAll
  refine wpAny_bind (wpAny_specialOf hl.typeIs slot_list_iter.lookup ?_)
  refine wpAny_pure ?_
  simp only [Bool.false_eq_true, if_false]
  refine wpAny_bind (wpAny_holding (wpAny_pyIter_list hl ?_))
  refine wpAny_bind (wpAny_holding (PySem.W.kun_draw hlt 1 0 _ _ ⟨_, Heap.get?_push_size _ rfl, rfl, rfl⟩ (hl.push _) (by omega) fun h₁ hit₁ hs₁ => ?_))
  have hl₁ : h₁.IsList l items := (hl.push _).extBut hs₁.extBut hlt
  rw [Nat.zero_add] at hit₁
  obtain ⟨oi, hoi, _⟩ := id hit₁
  obtain ⟨ol, hol, _⟩ := id hl₁
  rw [List.drop_zero, hx]
  show wpAny _ _ (if [x].length < 1 then _ else _) _ _ _
  rw [if_neg (by simp)]
  refine wpAny_bind (wpAny_holding (PySem.W.kun_collect (s := { s with heap := h₁ }) (T := "list_iterator") (.inr (.inr (.inl rfl))) (Walks.list (A := A.in1) hh s.heap.objs.size l hlt items) (fun j u st => st.1.typeIs) (k := 1) (by omega) ⟨hit₁, hl₁⟩ (Heap.lt_size hoi) (Heap.lt_size hol) (fun h₂ tk hk => ?_) (by rw [sizeLine_eq]; omega)))
  rw [hx]
  show wpAny _ _ (if r.length < 2 - 1 - 1 then _ else _) _ _ _
  rw [if_neg (by omega)]
  show wpAny _ _ (newList (r.take (r.length - 0)) >>= fun d => pure ([x] ++ [d] ++ r.drop (r.length - 0))) _ _ _
  rw [Nat.sub_zero, List.take_length, List.drop_length]
  exact wpAny_bind (wpAny_newList (s := { s with heap := h₂, toks := tk }) (wpAny_pure (h h₂ tk fun b o e => hk b o (Nat.ne_of_lt (Heap.lt_size e)) (hs₁.extBut b o (Nat.ne_of_lt (Heap.lt_size e)) (Heap.get?_push_of_some _ e)))) (by rw [sizeLine_eq]; omega))
theorem star_tuple {l : Addr} {items : Array Value} {Q : List Value → Shared → Prop} {x : Value} {r : List Value} (hl : IsTup s.heap l items) (hh : A.handled = none) (hx : items.toList = x :: r) (hz : items.size ≤ 16384)
    (h : ∀ (h' : Heap) (tk : Nat), (∀ b o, s.heap.get? b = some o → h'.get? b = some o) → Q [x, .ref h'.objs.size] { s with heap := h'.push { cls := .type "list", data := .seq r.toArray }, toks := tk }) : wpAny (model prog w) A (unpackItems (.ref l) 2 (some 1)) Q E s := by
  have hsz : items.size = r.length + 1 := by rw [← Array.length_toList, hx, List.length_cons]
  have hlt : l ≠ s.heap.objs.size := by obtain ⟨o, ho, _⟩ := hl; exact Nat.ne_of_lt (Heap.lt_size ho)
  have hll : l < s.heap.objs.size := by obtain ⟨o, ho, _⟩ := hl; exact Heap.lt_size ho
  unfold unpackItems
  refine wpAny_bind ?_
  unfold notIterableAtAll
  refine wpAny_bind (wpAny_specialOf hl.typeIs slot_tuple_iter.lookup ?_)
  refine wpAny_pure ?_
  simp only [Bool.false_eq_true, if_false]
  refine wpAny_bind (wpAny_holding (iter_tuple hl ?_))
  refine wpAny_bind (wpAny_holding (draw_tuple hlt 1 0 _ _ ⟨_, Heap.get?_push_size _ rfl, rfl, rfl⟩ (hl.push _) (by omega) fun h₁ hit₁ hs₁ => ?_))
  have hl₁ : IsTup h₁ l items := (hl.push _).extBut hs₁.extBut hlt
  rw [Nat.zero_add] at hit₁
  obtain ⟨oi, hoi, _⟩ := id hit₁
  obtain ⟨ol, hol, _⟩ := id hl₁
  rw [List.drop_zero, hx]
  show wpAny _ _ (if [x].length < 1 then _ else _) _ _ _
  rw [if_neg (by simp)]
  refine wpAny_bind (wpAny_holding (PySem.W.kun_collect (s := { s with heap := h₁ }) (T := "tuple_iterator") (.inr (.inr (.inr rfl))) (Walks.tuple (A := A.in1) hh s.heap.objs.size l hlt items) (fun j u st => st.1.typeIs) (k := 1) (by omega) ⟨hit₁, hl₁⟩ (Heap.lt_size hoi) (Heap.lt_size hol) (fun h₂ tk hk => ?_) (by rw [sizeLine_eq]; omega)))
  rw [hx]
  show wpAny _ _ (if r.length < 2 - 1 - 1 then _ else _) _ _ _
  rw [if_neg (by omega)]
  show wpAny _ _ (newList (r.take (r.length - 0)) >>= fun d => pure ([x] ++ [d] ++ r.drop (r.length - 0))) _ _ _
  rw [Nat.sub_zero, List.take_length, List.drop_length]
  exact wpAny_bind (wpAny_newList (s := { s with heap := h₂, toks := tk }) (wpAny_pure (h h₂ tk fun b o e => hk b o (Nat.ne_of_lt (Heap.lt_size e)) (hs₁.extBut b o (Nat.ne_of_lt (Heap.lt_size e)) (Heap.get?_push_of_some _ e)))) (by rw [sizeLine_eq]; omega))
end
/-- x, *ys = v: by the items of v -/
def gStarV (K : PySem.W.Frag) (t1 t2 : TG) : TG := fun v σ H Q => ∃ a x xs, v = .ref a ∧ (SqT K H a (x :: xs) ∨ SqL K H a (x :: xs)) ∧ xs.length < 16384 ∧ ∀ D, H D = none → t1 x σ (upd H D (.lst xs)) fun σ1 H1 => t2 (.ref D) σ1 H1 Q
section
variable {X : Cx} {e1 e2 : Expr} {t1 t2 : TG} {p pos : Pos} {k : Nat}
theorem pg_star (hc : X.calm = true) (h1 : PG X e1 t1) (h2 : PG X e2 t2) (hst : (assignEach [e1, .Starred e2 p] X.env).findIdx? (·.1) = some 1 := by rfl) (hln : (assignEach [e1, .Starred e2 p] X.env).length = 2 := by rfl)
    (hm : (assignEach [e1, .Starred e2 p] X.env).map (·.2) = [assign e1 X.env, assign e2 X.env] := by rfl) : PG X (.Tuple [e1, .Starred e2 p] k pos) (gStarV X.K t1 t2) := by
  refine ⟨fun pins s σ H v u Q I r hw => ?_⟩
  obtain ⟨a, x, xs, ev, sq, hz, hw⟩ := hw
  subst ev
  cases r
  rw [PyProof.Rows.assign_Tuple]
  refine wpAny_bind (PySem.wpAny_standAt ?_)
  unfold unpack
  rw [hln, hst]
  have main : ∀ (ux : Value) (us : List Value), RelV x ux → Vals xs us → ∀ (h' : Heap) (tk : Nat), (∀ b o, s.heap.get? b = some o → h'.get? b = some o) →
      wpAny (model X.prog X.w) X.A (assignInOrder ((assignEach [e1, .Starred e2 p] X.env).map (·.2)) [ux, .ref h'.objs.size]) (fun _ s' => ∃ σ' H', Inv X pins σ' H' s' ∧ Q σ' H') X.xe { s with heap := h'.push { cls := .type "list", data := .seq us.toArray }, toks := tk } := fun ux us rx rs h' tk kp => by
    have J : Inv X pins σ H { s with heap := h', toks := tk } := I.kept kp
    have hn : H h'.objs.size = none := J.hok.fresh (Nat.le_refl _)
    have J2 : Inv X pins σ (upd H h'.objs.size (.lst xs)) { s with heap := h'.push { cls := .type "list", data := .seq us.toArray }, toks := tk } :=
      J.laid (t' := tk) (fun b o e => Heap.get?_push_of_some _ e) (Nat.le_refl _) ⟨by rw [sizeLine_eq]; omega, us, 0, rs, Heap.get?_push_size _ rfl⟩
    rw [hm]
    refine PyProof.Rows.assignInOrder_cons (thn (h1.run pins _ σ _ x ux _ J2 rx (hw _ hn)) fun _ s1 ⟨σ1, H1, I1, q1⟩ => ?_)
    refine PyProof.Rows.assignInOrder_cons (thn (h2.run pins s1 σ1 H1 (.ref h'.objs.size) _ _ I1 rfl q1) fun _ s2 q2 => ?_)
    exact PyProof.Rows.assignInOrder_nil q2
  rcases sq with sq | sq
  · obtain ⟨its, rv, pt, hz'⟩ := I.tuple sq
    cases rv with
    | @cons _ ux _ us rx rs =>
      have hl := rs.length
      exact wpAny_bind (wpAny_holding (star_tuple pt (I.ok.hd hc) (x := ux) (r := us) rfl (by simp; omega) fun h' tk kp => main ux us rx rs h' tk kp))
  · obtain ⟨its, rv, pt, hz'⟩ := I.list sq
    cases rv with
    | @cons _ ux _ us rx rs =>
      have hl := rs.length
      exact wpAny_bind (wpAny_holding (star_list pt.isList (I.ok.hd hc) (x := ux) (r := us) rfl (by simp; omega) fun h' tk kp => main ux us rx rs h' tk kp))
/-- as a mirror: the rest is a list that does not change -/
def gStar (g1 g2 : MTg) : MTg := fun m env st => match itemsOf m st with
  | some (x :: xs) => if xs.length < 16384 then (g1 x env st).bind fun p => g2 (.lst xs) p.1 p.2 else none
  | _ => none
theorem pmg_star {g1 g2 : MTg} (h1 : PMG X e1 g1) (h2 : PMG X e2 g2) (hc : X.calm = true := by rfl) (hst : (assignEach [e1, .Starred e2 p] X.env).findIdx? (·.1) = some 1 := by rfl) (hln : (assignEach [e1, .Starred e2 p] X.env).length = 2 := by rfl)
    (hm : (assignEach [e1, .Starred e2 p] X.env).map (·.2) = [assign e1 X.env, assign e2 X.env] := by rfl) : PMG X (.Tuple [e1, .Starred e2 p] k pos) (gStar g1 g2) :=
  PG_imp (pg_star hc h1 h2 hst hln hm) fun v σ H Q ⟨A, env, st, m, s, q, r, env', st', e0, k⟩ => by
    unfold gStar at e0
    split at e0
    · rename_i x xs hi
      by_cases hl : xs.length < 16384
      · rw [if_pos hl] at e0
        cases eg : g1 x env st with
        | none => rw [eg] at e0; cases e0
        | some p1 =>
          obtain ⟨env1, st1⟩ := p1
          rw [eg] at e0
          have e0 : g2 (.lst xs) env1 st1 = some (env', st') := e0
          obtain ⟨a, vs, ev, sq, rv⟩ := items_rep s r hi
          cases rv with
          | @cons v0 vs m0 ms r0 rs =>
            refine ⟨a, v0, vs, ev, sq, by rw [rs.length]; exact hl, fun D hD => ?_⟩
            have xD : Ext A H A (upd H D (.lst vs)) := Ext.laid s hD
            have sD := s.laid (o := .lst vs) hD
            refine ⟨A, env, st, x, sD, q.ext xD, r0.ext xD, env1, st1, eg, fun A1 H1 σ1 x1 s1 q1 => ?_⟩
            have rD : Rep (gmOf X) A1 H1 (.ref D) (.lst xs) := (Rep.lst upd_same (s.new_out hD) (rs.ext xD)).ext x1
            exact ⟨A1, env1, st1, .lst xs, s1, q1, rD, env', st', e0, k.ext (xD.trans x1)⟩
      · rw [if_neg hl] at e0; cases e0
    · cases e0
end
end MR

/-! repr; raise X('..'); try: .. except X as e: return A if isinstance(e, Y) else B -/
namespace MR
open PySem L2
variable [Tb]

/-! ### repr -/
mutual
theorem dp_nodict {K : PySem.W.Frag} {H : Hp} : ∀ (d : PyData) {v : V}, Dp K H v d → d.hasDict = false
  | .none, _, _ => by simp only [PyData.hasDict]
  | .bool _, _, _ => by simp only [PyData.hasDict]
  | .int _, _, _ => by simp only [PyData.hasDict]
  | .str _, _, _ => by simp only [PyData.hasDict]
  | .list ds, _, h => by
    cases h with
    | lst _ ha => simp only [PyData.hasDict]; exact dp_nodicts ds ha
  | .tuple ds, _, h => by
    cases h with
    | tup _ ha => simp only [PyData.hasDict]; exact dp_nodicts ds ha
  | .dict _, _, h => by cases h
theorem dp_nodicts {K : PySem.W.Frag} {H : Hp} : ∀ (ds : List PyData) {vs : List V}, DpAll K H vs ds → PyData.hasDictAll ds = false
  | [], _, _ => by simp only [PyData.hasDictAll]
  | d :: ds, _, h => by
    cases h with
    | cons h1 h2 => simp only [PyData.hasDictAll, dp_nodict d h1, dp_nodicts ds h2, Bool.or_self]
end
def rReprD (K : PySem.W.Frag) : List V → Hp → VK → Prop := fun xs H Q => ∃ x d, xs = [x] ∧ Dp K H x d ∧ d.showable = true ∧ d.depth ≤ 60 ∧ d.shown.length ≤ sizeLine ∧ Q (.str d.shown) H
theorem call_reprD {X : Cx} (hg : NoG X.A) (hu : X.A.units + 64 < cLine) : CallR X (.builtin "repr") (rReprD X.K) := by
  intro pins s σ H xs us Q I r h
  obtain ⟨x, d, rfl, hd, hs, hdep, hsz, q⟩ := h
  obtain ⟨u, rfl, rx⟩ : ∃ u, us = [u] ∧ RelV x u := by
    cases r with
    | cons r rr => cases rr; exact ⟨_, rfl, r⟩
  have fin : ∀ tk, EP X pins σ Q (.str d.shown s.toks) { s with toks := tk } := fun tk => ⟨.str _, H, I.tok _, ⟨_, rfl⟩, q⟩
  cases hd with
  | non => cases rx; exact PySem.P.repr_of_none (fin _)
  | bl b => cases rx; exact PySem.P.repr_of_bool (by cases b <;> exact fin _)
  | int i =>
    obtain ⟨t, rfl⟩ := rx
    exact PySem.P.repr_of_int (of_decide_eq_true hs) (fin _)
  | str y =>
    obtain ⟨t, rfl⟩ := rx
    exact PySem.P.repr_of_str (fin _) hsz
  | @lst a ys ds hq ha =>
    cases rx
    obtain ⟨as, hr⟩ := Dp.reads I (.list ds) (.ref a) (.ref a) (.lst hq ha) rfl
    exact repr_of_reads' hr hs (PyData.noDict_hsm (dp_nodict _ (Dp.lst hq ha))) hg (by omega) (fun _ _ e => e) (fun h' u tk hk => ⟨.str _, H, I.kept hk, ⟨_, rfl⟩, q⟩) hsz
  | @tup a ys ds hq ha =>
    cases rx
    obtain ⟨as, hr⟩ := Dp.reads I (.tuple ds) (.ref a) (.ref a) (.tup hq ha) rfl
    exact repr_of_reads' hr hs (PyData.noDict_hsm (dp_nodict _ (Dp.tup hq ha))) hg (by omega) (fun _ _ e => e) (fun h' u tk hk => ⟨.str _, H, I.kept hk, ⟨_, rfl⟩, q⟩) hsz
def gRepr : List MV → Sto → Res MV := fun ms st => match ms with
  | [m] => match topD m st with
    | some d => if (d.showable = true ∧ d.depth ≤ 60) ∧ d.shown.length ≤ 16777216 then .ok (.str d.shown) st else .bad
    | none => .bad
  | _ => .bad
theorem oRepr {G : Gm} : OpN G (rReprD G.K) gRepr := by
  intro A H st xs ms Q m st' s r h k
  unfold gRepr at h
  split at h
  · split at h
    · rename_i d e
      obtain ⟨hl, h⟩ := ite_ok h
      cases h
      cases r with
      | cons r rs => cases rs; exact ⟨_, d, rfl, r.top s e, hl.1.1, hl.1.2, line_of hl.2, fin0 s (.str _) k⟩
    · cases h
  · cases h

/-! ### raise X('..') -/
/-- x is an exception class of the module's own, without an own __init__ -/
structure ExF (K : PySem.W.Frag) (mg : Str → Option Value) (x : Str) (C : Addr) (bmB : List Value) (newId : String) : Prop where
  gC : mg x = some (.ref C)
  ex : PySem.W.excIn K C bmB newId = true
  kC : PySem.W.keepIn K (.ref C) = true
  sub : PySem.W.subIn K (.ref C) (.type "BaseException") = some true
  ty : PySem.W.typeIn K (.ref C) = some (.type "type")
section
variable {X : Cx} {W : WX}
theorem pms_raiseT {x m : Str} {j : Nat} {p p2 pos pos2 : Pos} {C : Addr} {bmB : List Value} {B newId initId : String} (tk : Takes X W) (F : ExcBaseFacts B newId initId bmB) (E : ExF X.K X.mg x C bmB newId) (hc : X.calm = true := by rfl) (hg : Gl X x := by rfl) (hdb : (x == ("__debug__" : Str)) = false := by decide) :
    PMS X W (.Raise (some (.Call (.Name x p) [.Constant (.str m) j p2] [] pos)) none pos2) (sRaise x) :=
  pms_raise (t := fun _ H Q => Q (.ref C) none H) hc tk E.gC (pmk_own F E.ex E.gC E.kC (raises_own E.sub E.ty) hg hdb)

/-! ### try: .. except x as n: return A if isinstance(n, y) else B -/
def sTryIs (mb : MS) (i : Nat) (sub isY : Str → Option Bool) (va vb : MV) : MS := fun env st => match mb env st with
  | .exc c env' st' => if i < env'.length then (match sub c.c with
    | some true => if c.ns = [] ∧ c.xs.isEmpty = true then (match isY c.c with
      | some true => .rt va st'
      | some false => .rt vb st'
      | none => .bad) else .bad
    | some false => .exc c env' st'
    | none => .bad) else .bad
  | r => r
def tSu (K : PySem.W.Frag) (i : Nat) (Y : Addr) (xa xb : V) : Addr → Value → Option Addr → TS := fun a cls d D σ H =>
  ∃ E : Addr, cls = .ref E ∧ d = none ∧ ExcC K E ∧ tRet (tIf (tB (tCB (rIsE K E a) (tCons (tVar i) (tCons (tC (.ref Y)) tNil)))) (tC xa) (tC xb)) D σ H
theorem rel_ref {Y : Addr} : ∀ u, RelV (.ref Y) u → u = .ref Y := fun u r => r
theorem pms_tryIs {i : Nat} {n x y : Str} {cx : Value} {Y : Addr} {xa xb : V} {va vb : MV} {body : List Stmt} {mb : MS} {ea eb : Expr} {sub isY : Str → Option Bool} {np pos pos' p1 p2 p3 p4 p5 p6 : Pos}
    (hs : X.stack = X.env :: X.outer) (hf : X.env.frame = some X.env.locals) (hN : X.N.Nodup) (hi : X.N[i]? = some n) (hln : X.env.kindOf n = some .local) (hc : Names X x cx) (tk : Takes X W)
    (hb : ∀ (W' : WX) (pn : List (Addr × Obj)) (xe : Value → Shared → Prop), Takes (X.tr pn xe) W' → PMSs (X.tr pn xe) W' body mb)
    (hsub : ∀ c b C, sub c = some b → X.mg c = some (.ref C) → PySem.W.exmOne X.K (.ref C) cx = some b)
    (hisY : ∀ c b C, isY c = some b → X.mg c = some (.ref C) → ExcC X.K C ∧ PySem.W.kitOne X.K (.ref C) (.ref Y) = some b)
    (gY : X.mg y = some (.ref Y)) (mi : X.mg "isinstance" = none) (ra : ∀ A H, Rep (gmOf X) A H xa va) (rb : ∀ A H, Rep (gmOf X) A H xb vb)
    (ha : ∀ X' : Cx, PE X' ea (tC xa)) (hb' : ∀ X' : Cx, PE X' eb (tC xb))
    (hv : Vis X.env.scope n := by first | exact Or.inl rfl | exact Or.inr (Or.inl rfl) | exact Or.inr (Or.inr rfl)) (hg1 : Gl X "isinstance" := by rfl) (hg2 : Gl X y := by rfl) (hd1 : (n == ("__debug__" : Str)) = false := by decide) (hd2 : (n == ("__classdict__" : Str)) = false := by decide) (hd3 : (y == ("__debug__" : Str)) = false := by decide) :
    PMS X W (.Try body [.ExceptHandler (some (.Name x np)) (some n) [.Return (some (.IfExp (.Call (.Name "isinstance" p1) [.Name n p2, .Name y p3] [] p4) ea eb p5)) p6] pos'] [] [] pos) (sTryIs mb i sub isY va vb) := by
  refine PS_imp (ps_try_as (i := i) (c := cx) (tb := fun W' => tS (gmOf X) W' mb) (ts := tSu X.K i Y xa xb) (Wout := W) hs hf hN hi hln hc tk (fun W' pn xe tk' _ => hb W' pn xe tk') fun a oe cls d pn hz hfl => ?_) fun D σ H ⟨A, env, st, s, q, h⟩ => ?_
  · refine ⟨fun pins s σ H D I ⟨E, e1, e2, hE, q⟩ => ?_⟩
    subst e1 e2
    have hisi := call_isE (X := X) (a := a) (pn := pn) hE hz hfl
    have hcall : PE (X.suite a ((a, oe) :: pn)) (.Call (.Name "isinstance" p1) [.Name n p2, .Name y p3] [] p4) (tCB (rIsE X.K E a) (tCons (tVar i) (tCons (tC (.ref Y)) tNil))) :=
      pe_callB hisi hg1 mi (by decide +kernel) (pa_cons (pe_var (X := X.suite a ((a, oe) :: pn)) hi hv hd1 hd2) (pa_cons (pe_glob (X := X.suite a ((a, oe) :: pn)) (v := .ref Y) hg2 gY rfl hd3) pa_nil))
    exact (pss_one (ps_ret (pe_ifExp (pt_val hcall) (ha _) (hb' _)))).run pins s σ H D I q
  · refine ⟨A, env, st, s, q, ?_⟩
    unfold sTryIs at h
    cases eb0 : mb env st with
    | nx e s => rw [eb0] at h; exact h
    | rt m s => rw [eb0] at h; exact h
    | bk e s => rw [eb0] at h; exact h
    | ct e s => rw [eb0] at h; exact h
    | bad => rw [eb0] at h; exact h
    | exc c env' st' =>
      rw [eb0] at h
      have h : Flw.post (if i < env'.length then (match sub c.c with
        | some true => if c.ns = [] ∧ c.xs.isEmpty = true then (match isY c.c with
          | some true => .rt va st'
          | some false => .rt vb st'
          | none => .bad) else .bad
        | some false => .exc c env' st'
        | none => .bad) else .bad) (gmOf X) A H W D := h
      have hlen : i < env'.length := by
        apply Classical.byContradiction
        intro hlen
        rw [if_neg hlen] at h
        exact h
      rw [if_pos hlen] at h
      intro A' H' σ' C dE e' s' q' hC0
      have hC := hC0.1
      cases es : sub c.c with
      | none => rw [es] at h; exact h.elim
      | some b =>
        have hx := hsub c.c b C es hC
        refine ⟨b, hx, fun hb a ha => ?_, fun hb => ?_⟩
        · subst hb
          rw [es] at h
          have h : Flw.post (if c.ns = [] ∧ c.xs.isEmpty = true then (match isY c.c with
          | some true => .rt va st'
          | some false => .rt vb st'
          | none => .bad) else .bad) (gmOf X) A H W D := h
          have hem : c.ns = [] ∧ c.xs.isEmpty = true := by
            apply Classical.byContradiction
            intro hem
            rw [if_neg hem] at h
            exact h
          rw [if_pos hem] at h
          have hd : dE = none := by
            obtain ⟨_, hz | ⟨p, vs, z1, _⟩⟩ := hC0
            · exact hz.2.2
            · exact absurd hem.1 z1
          subst hd
          cases ey : isY c.c with
          | none => rw [ey] at h; exact h.elim
          | some k =>
            rw [ey] at h
            obtain ⟨hE, hk⟩ := hisY c.c k C ey hC
            have hget : (σ'.set i (some (.ref a)))[i]? = some (some (V.ref a)) := List.getElem?_set_self (Nat.lt_of_lt_of_le hlen q'.len)
            refine ⟨C, rfl, rfl, hE, ?_⟩
            refine ⟨.ref a, hget, ⟨.ref Y, .ref Y, k, rfl, rel_ref, hk, k, rfl, ?_⟩⟩
            cases k with
            | true => exact h A' H' xa e' s' (ra A' H')
            | false => exact h A' H' xb e' s' (rb A' H')
        · subst hb
          rw [es] at h
          exact h A' H' σ' C dE e' s' q' hC0
end
end MR

/-! a, b = x, y; text * int; short names of rules for printed derivations -/
namespace MR
open PySem L2
variable [Tb]
def sPar (i j : Nat) (r : MA) : MS := fun env st => bindE (r env st) env fun xs st1 => match xs with
  | [x, y] => .nx ((env.set i (some x)).set j (some y)) st1
  | _ => .bad
section
variable {X : Cx} {W : WX}
theorem pms_par {x y : Str} {a b : Expr} {mr : MA} {px py pt pos : Pos} {kt k2 pt2} (i j : Nat) (hN : X.N.Nodup) (ha : PMA X W [a, b] mr) (hi : X.N[i]? = some x := by rfl) (hj : X.N[j]? = some y := by rfl) (hij : i ≠ j := by decide)
    (hx : X.env.scope.names.lookup x = some .local := by rfl) (hy : X.env.scope.names.lookup y = some .local := by rfl) (hc : X.calm = true := by rfl)
    (hw : swappedStores [.Tuple [.Name x px, .Name y py] kt pt] (.Tuple [a, b] k2 pt2) X.env = pure (some [x, y]) := by rfl)
    (hs : swapsWithSole [.Tuple [.Name x px, .Name y py] kt pt] (.Tuple [a, b] k2 pt2) pos.line X.env = pure false := by rfl) :
    PMS X W (.Assign [.Tuple [.Name x px, .Name y py] kt pt] (.Tuple [a, b] k2 pt2) pos) (sPar i j mr) :=
  PS_imp (ps_par hc hN hi hj hij hx hy ha hw hs) fun D σ H ⟨A, env, st, s, q, h⟩ => by
    refine inA s q (Ext.refl A H) ((post_bindE h).mono (fun ms st1 h1 A1 H1 vs e1 s1 r1 => ?_) fun _ _ z => exP_of q z)
    split at h1
    · cases r1 with
      | @cons v _ _ _ r1 rr =>
        cases rr with
        | @cons w _ _ _ r2 rr =>
          cases rr
          exact ⟨v, w, rfl, h1 A1 H1 _ e1 s1 (((q.ext e1).set i r1).set j r2)⟩
    · exact h1.elim
end
/-! ### text * int -/
def repS (x : Str) (n : Nat) : Str := ⟨(List.replicate n x.cps).foldl (· ++ ·) #[]⟩
def rMulStr : R2 := fun x y H Q => ∃ (a : Str) (k : Int), x = .str a ∧ y = .int k ∧ 2 ≤ k ∧ k ≤ 1000000 ∧ 1 ≤ a.length ∧ a.length * k.toNat ≤ 16777216 ∧ Q (.str (repS a k.toNat)) H
theorem op_mulStr {X : Cx} : OpR X (binaryOp .Mult) rMulStr := by
  intro pins s σ H x y v u Q I rx ry h
  obtain ⟨a, k, rfl, rfl, h1, h2, h3, h4, q⟩ := h
  obtain ⟨t, rfl⟩ := rx
  obtain ⟨t', rfl⟩ := ry
  have e1 : decide (k < -(2 ^ 63 : Int)) = false := decide_eq_false (by omega)
  have e2 : decide (k ≥ 2 ^ 63) = false := decide_eq_false (by omega)
  have hk : ((k.toNat : Nat) : Int) = k := by omega
  have ha : a.length ≤ 16777216 := Nat.le_trans (Nat.le_mul_of_pos_right _ (by omega)) h4
  refine PySem.P.mul_str (by rw [e1, e2]; rfl) (fun _ _ => ?_) (fun _ _ => ?_) ?_
  · have : (2 ^ 63 - 1) / k ≥ (2 ^ 63 - 1) / 1000000 := by
      apply Int.le_ediv_of_mul_le (by omega)
      calc (2 ^ 63 - 1 : Int) / 1000000 * k ≤ (2 ^ 63 - 1) / 1000000 * 1000000 := Int.mul_le_mul_of_nonneg_left h2 (by decide)
        _ ≤ 2 ^ 63 - 1 := by decide
    have z : (16777216 : Int) ≤ (2 ^ 63 - 1) / 1000000 := by decide
    omega
  · have : a.length * k.toNat ≤ sizeLine := line_of h4
    exact decide_eq_false (by omega)
  · rw [if_neg (by omega)]
    have hn1 : (k == 1) = false := beq_false_of_ne (by omega)
    have hn2 : (a.length == 0) = false := beq_false_of_ne (by omega)
    rw [hn1, hn2]
    have hsz : (repS a k.toNat).length ≤ sizeLine := by
      have e : ∀ (n : Nat) (acc : Array Nat), ((List.replicate n a.cps).foldl (· ++ ·) acc).size = acc.size + n * a.cps.size := by
        intro n
        induction n with
        | zero => intro acc; simp
        | succ n ih => intro acc; rw [List.replicate_succ, List.foldl_cons, ih, Array.size_append]; rw [Nat.succ_mul]; omega
      show ((List.replicate k.toNat a.cps).foldl (· ++ ·) #[]).size ≤ sizeLine
      rw [e]
      have : a.length * k.toNat ≤ sizeLine := line_of h4
      have e3 : a.length = a.cps.size := rfl
      rw [e3, Nat.mul_comm] at this
      simpa using this
    exact ⟨hsz, ⟨.str _, H, I.tok _, ⟨_, rfl⟩, q⟩⟩
def gMulS : G2 := fun a b st => match a, b with
  | .str x, .int k => if (2 ≤ k ∧ k ≤ 1000000) ∧ 1 ≤ x.length ∧ x.length * k.toNat ≤ 16777216 then .ok (.str (repS x k.toNat)) st else .bad
  | a, b => gMul a b st
abbrev rMulA : R2 := fun x y H Q => rMulStr x y H Q ∨ rMulM x y H Q
theorem opMulA {X : Cx} : OpR X (binaryOp .Mult) rMulA := op_mulStr.or opMul
theorem o2MulA {G : Gm} : Op2 G rMulA gMulS := by
  intro A H st x y mx my Q m st' s rx ry h k
  unfold gMulS at h
  split at h
  · obtain ⟨hl, h⟩ := ite_ok h
    cases h
    exact .inl ⟨_, _, rx.str_inv, ry.int_inv, hl.1.1, hl.1.2, hl.2.1, hl.2.2, fin0 s (.str _) k⟩
  · exact .inr (o2Mul s rx ry h k)
end MR

/-! walks over what comes; names of types; the law's end -/
namespace MR
open PySem L2
variable [Tb]
section
variable {X : Cx} {W : WX} {tg it : Expr} {ma : ME}
/-- a tuple, a list that does not change, a text -/
def iAll (a : ME) : MA := fun env st => (a env st).bind fun m st' => match m with
  | .str z => .ok (z.cps.toList.map fun c => .str ⟨#[c]⟩) st'
  | m => match frozen m with
    | some xs => .ok xs st'
    | none => .bad
theorem pmi_all (ha : PM X W it ma) : PMI X W tg it (iAll ma) := PI_or (pmi_seq ha) (pmi_txt ha) fun σ H R ⟨A, env, st, s, q, h⟩ => by
  unfold iAll at h
  cases e : ma env st with
  | exc c st' =>
    rw [e] at h
    exact .inl ⟨A, env, st, s, q, by unfold iSeq; rw [e]; exact h⟩
  | bad => rw [e] at h; exact h.elim
  | ok m st' =>
    rw [e] at h
    cases m with
    | str z => exact .inr ⟨A, env, st, s, q, by unfold iTxt; rw [e]; exact h⟩
    | _ => exact .inl ⟨A, env, st, s, q, by unfold iSeq; rw [e]; exact h⟩
end
/-! ### the end -/
theorem FnG.imp {P : Program} {w : World} {K : PySem.W.Frag} {mg : Str → Option Value} {base : Heap} {k : Nat} {f : Addr} {fd : FuncData} {ps : List Str} {sp sp' : Sp} (F : FnG P w K mg base k f fd ps sp) (h : ∀ vs H Q E, sp' vs H Q E → sp vs H Q E) : FnG P w K mg base k f fd ps sp' :=
  { len := fun vs H Q E z => F.len vs H Q E (h _ _ _ _ z), run := fun A outer s H args us vs Q E hr gd e0 hb rv z => F.run A outer s H args us vs Q E hr gd e0 hb rv (h _ _ _ _ z) }
/-- what is asked of the law -/
def spLaw (K : PySem.W.Frag) : Sp := fun vs H Q _ => ∃ (a : Addr) (ns : List Int), LamX.Tabs Tb.T H ∧ vs = [.ref a] ∧ SqL K H a (ns.map V.int) ∧ ns.length ≤ 63 ∧ ∀ H', Q (.bl true) H'
theorem law_end (nj : Tb.j = JP.no) {P : Program} {w : World} {K : PySem.W.Frag} {mg : Str → Option Value} {base : Heap} {k : Nat} {f : Addr} {fd : FuncData} {fl : FM} (F : FnG P w K mg base k f fd ["script"] (spM ⟨K, mg, P, w, Tb.T, Tb.j, Tb.cs⟩ 1 fl))
    (h : ∀ ns : List Int, ns.length ≤ 63 → ∃ st, fl [.scr ns] [] = .ok (.bl true) st) : FnG P w K mg base k f fd ["script"] (spLaw K) :=
  F.imp fun vs H Q E ⟨a, ns, tb, ev, sq, hl, hq⟩ => by
    subst ev
    obtain ⟨st, e⟩ := h ns hl
    have no : ¬ (⟨[], [], none⟩ : Ad).has a := fun m => by rcases m with m | m <;> cases m
    refine ⟨⟨[], [], none⟩, [], [.scr ns], ⟨rfl, List.nodup_nil, fun k a o h => by simp at h, fun b m => (by cases m), tb, by show Tb.j.J _ _; rw [nj]; trivial⟩, .cons (.scr ?_) .nil, rfl, ?_⟩
    · rcases sq with sq | sq
      · exact .inl ⟨sq, no⟩
      · exact .inr (.inr sq)
    · rw [e]
      intro A' H' v _ _ r
      rw [r.bl_inv]
      exact hq H'
/-! ### own exception classes, told by the written part -/
/-- what is asked of such a class C -/
structure ExK (K : PySem.W.Frag) (x : Str) (C : Addr) (bmB : List Value) (newId : String) : Prop where
  gC : PySem.W.nsIn K mainGlobals x = some (some (.ref C))
  ex : PySem.W.excIn K C bmB newId = true
  kC : PySem.W.keepIn K (.ref C) = true
  sub : PySem.W.subIn K (.ref C) (.type "BaseException") = some true
  ty : PySem.W.typeIn K (.ref C) = some (.type "type")
  dict : PySem.W.hasDictIn K C = true
  cls : PySem.W.isClsIn K C = true
  ga : PySem.W.findIn K (.ref C) "__getattribute__" = some (some (.builtin "BaseException.__getattribute__"))
  gg : PySem.W.findIn K (.ref C) "__getattr__" = some none
  gc : PySem.W.findIn K (.ref C) "__class__" = some (some (.builtin "object.__class__"))
  gs : PySem.W.specialIn K (.builtin "object.__class__") "__get__" = some (some (.builtin "getset_descriptor.__get__"))
  gt : PySem.W.takesIn K (.builtin "object.__class__") = some true
  mo : PySem.W.mroIn K C (.type "object") = some true
section
variable {K : PySem.W.Frag} {h : Heap} {mg : Str → Option Value} {x : Str} {C Y : Addr} {bmB : List Value} {newId : String}
theorem ExK.f (E : ExK K x C bmB newId) (X : K.In h) (G : h.Ns mainGlobals mg) : ExF K mg x C bmB newId := ⟨PySem.W.mg_of X G E.gC, E.ex, E.kC, E.sub, E.ty⟩
theorem ExK.c (E : ExK K x C bmB newId) : ExcC K C := ⟨E.ga, E.gg, E.sub, E.dict, E.gc, E.gs, E.gt, E.mo⟩
theorem ExK.exm (E : ExK K x Y bmB newId) {cls : Value} {b : Bool} (h4 : PySem.W.subIn K cls (.ref Y) = some b) : PySem.W.exmOne K cls (.ref Y) = some b := PySem.W.exm_ref E.sub E.dict E.ty h4
theorem ExK.kit (E : ExK K x Y bmB newId) {b : Bool} (h4 : PySem.W.subIn K (.ref C) (.ref Y) = some b) (hne : C = Y → b = true) : PySem.W.kitOne K (.ref C) (.ref Y) = some b := by
  have e2 : ((PySem.W.clsIn K Y).isSome && PySem.W.typeIn K (.ref Y) == some (.type "type")) = true := by
    have h2' : (PySem.W.clsIn K Y).isSome = true := E.cls
    rw [h2', E.ty] <;> rfl
  unfold PySem.W.kitOne
  by_cases e : (Value.ref C == Value.ref Y) = true
  · rw [if_pos e]
    have : C = Y := by
      have := beq_iff_eq.mp e
      exact Value.ref.inj this
    rw [hne this]
  · rw [if_neg e]
    show (if ((PySem.W.clsIn K Y).isSome && PySem.W.typeIn K (.ref Y) == some (.type "type")) = true then PySem.W.subIn K (.ref C) (.ref Y) else none) = some b
    rw [if_pos e2]
    exact h4
theorem rel_txt {z : Str} {t : Tok} {v : Str} (e : z = v) : RelV (.str v) (.str z t) := ⟨t, by rw [e]⟩
theorem rel_num {z : Int} {t : Tok} : RelV (.int z) (.int z t) := ⟨t, rfl⟩
end
end MR

/-! order of data; sorted of data -/
namespace MR
open PySem L2
variable [Tb]
open PySem.W (alike dataLt dataLe AllAlike Sortable EachIs)
/-! ### a < b of data -/
def ordOk (d e : PyData) : Bool := alike d e && decide (d.depth ≤ 60) && (match d with | .none => false | _ => true)
theorem ordOk_ne {d e : PyData} (h : ordOk d e = true) : alike d e = true ∧ d.depth ≤ 60 ∧ d ≠ .none := by
  unfold ordOk at h
  rw [Bool.and_eq_true, Bool.and_eq_true] at h
  refine ⟨h.1.1, of_decide_eq_true h.1.2, fun z => ?_⟩
  subst z
  cases h.2
def rOrdD (K : PySem.W.Frag) (g : PyData → PyData → Bool) : R2 := fun x y H Q => ∃ d e, Dp K H x d ∧ Dp K H y e ∧ ordOk d e = true ∧ Q (.bl (g d e)) H
section
variable {X : Cx}
theorem op_ltD (hu : X.A.units + 64 < cLine) : OpR X (compareOp .Lt) (rOrdD X.K dataLt) := by
  intro pins s σ H x y v u Q I rx ry h
  obtain ⟨d, e, hd, he, ho, q⟩ := h
  obtain ⟨as, r1⟩ := Dp.reads I d x v hd rx
  obtain ⟨bs, r2⟩ := Dp.reads I e y u he ry
  obtain ⟨h1, h2, h3⟩ := ordOk_ne ho
  exact PySem.W.lt_data r1 r2 h1 h3 (by have := Nat.min_le_left d.depth e.depth; omega) ⟨.bl _, H, I, rfl, q⟩
theorem opLtD (hu : X.A.units + 64 < cLine) : OpR X (compareOp .Lt) (fun x y H Q => rOrd (fun i j => decide (i < j)) (fun i j => sLt i j) x y H Q ∨ rOrdD X.K dataLt x y H Q) := opLt.or (op_ltD hu)
end
def gLtD : G2 := fun a b st => match a, b with
  | .int i, .int j => .ok (.bl (decide (i < j))) st
  | .str i, .str j => .ok (.bl (sLt i j)) st
  | a, b => match topD a st, topD b st with
    | some d, some e => if ordOk d e = true then .ok (.bl (dataLt d e)) st else .bad
    | _, _ => .bad
theorem o2LtD {G : Gm} : Op2 G (fun x y H Q => rOrd (fun i j => decide (i < j)) (fun i j => sLt i j) x y H Q ∨ rOrdD G.K dataLt x y H Q) gLtD := by
  intro A H st x y mx my Q m st' s rx ry h k
  unfold gLtD at h
  split at h
  · exact .inl (o2Lt s rx ry h k)
  · exact .inl (o2Lt s rx ry h k)
  · split at h
    · rename_i d e h1 h2
      obtain ⟨hl, h⟩ := ite_ok h
      cases h
      exact .inr ⟨d, e, rx.top s h1, ry.top s h2, hl, fin0 s (.bl _) k⟩
    · cases h
/-! ### sorted(list of data) -/
def rSortD (K : PySem.W.Frag) : List V → Hp → VK → Prop := fun xs H Q => ∃ (a : Addr) (bs : List (V × PyData)), xs = [.ref a] ∧ SqL K H a (bs.map (·.1)) ∧ (∀ b ∈ bs, Dp K H b.1 b.2) ∧
  AllAlike (bs.map (·.2)) ∧ Sortable (bs.map (·.2)) ∧ (∀ b ∈ bs, b.2.depth ≤ 60) ∧ bs.length ≤ sizeLine ∧ ∀ p, H p = none → Q (.ref p) (upd H p (.lst ((bs.mergeSort (dataLe false (·.2))).map (·.1))))
theorem each_of {bs : List (V × PyData)} : ∀ {us : List Value}, Vals (bs.map (·.1)) us → EachIs (fun u (b : V × PyData) => RelV b.1 u) us bs := by
  induction bs with
  | nil => intro us h; cases h; exact .nil
  | cons b bs ih =>
    intro us h
    cases h with
    | cons r t => exact .cons r (ih t)
theorem each_vals {bs : List (V × PyData)} : ∀ {us : List Value}, EachIs (fun u (b : V × PyData) => RelV b.1 u) us bs → Vals (bs.map (·.1)) us := by
  induction bs with
  | nil => intro us h; cases h; exact .nil
  | cons b bs ih =>
    intro us h
    cases h with
    | cons r t => exact .cons r (ih t)
theorem each_mem {α β : Type} {R : α → β → Prop} {as : List α} {bs : List β} (h : EachIs R as bs) : EachIs (fun a b => R a b ∧ b ∈ bs) as bs := by
  induction h with
  | nil => exact .nil
  | cons r t ih => exact .cons ⟨r, List.mem_cons_self⟩ (ih.mono fun _ _ z => ⟨z.1, List.mem_cons_of_mem _ z.2⟩)
theorem cr_sortD {X : Cx} (hu : X.A.units + 64 < cLine) : CallR X (.builtin "sorted") (rSortD X.K) := by
  intro pins s σ H xs us Q I r h
  obtain ⟨a, bs, rfl, hl, hd, hal, hk, hdep, hz, q⟩ := h
  rw [Vals.ref1 r]
  obtain ⟨its, rv, hI, _⟩ := I.list hl
  have e := each_of rv
  have er : EachIs (fun u (b : V × PyData) => ∃ as, Reads s.heap u b.2 as) its bs := (each_mem e).mono fun u b ⟨rb, hb⟩ => Dp.reads I b.2 b.1 u (hd b hb) rb
  refine PySem.W.sorted_data (R := fun u (b : V × PyData) => RelV b.1 u) (enc := fun b : V × PyData => b.2) (bs := bs) (vs := its) hI.isList e er hal hk hz (fun b hb => by have := hdep b hb; omega) fun out hlen ho => ?_
  have hp : H (s.heap.objs.size + 1) = none := I.hok.fresh (Nat.le_succ _)
  obtain ⟨c, hc⟩ := PyProof.Rows.sortedAll_at s.heap its (List.toArray out)
  refine ⟨.ref (s.heap.objs.size + 1), _, I.laid (t' := s.toks) (o := .lst ((bs.mergeSort (dataLe false (·.2))).map (·.1))) (fun _ _ => PyProof.Rows.sortedAll_old) (Nat.le_succ _) ⟨?_, out, c, each_vals ho, hc⟩, rfl, q _ hp⟩
  rw [List.length_map, List.length_mergeSort]; exact hz
/-! mirrors -/
def isTupC : PyData → Bool
  | .tuple (_ :: _) => true
  | _ => false
def notTupN : PyData → Bool
  | .none => false
  | .tuple _ => false
  | _ => true
def sortOk (ds : List PyData) : Bool := ds.all (fun d => ds.all fun e => alike d e) && (ds.all isTupC || ds.all notTupN) && ds.all (fun d => decide (d.depth ≤ 60)) && decide (ds.length ≤ 16777216)
theorem sortOk_is {ds : List PyData} (h : sortOk ds = true) : AllAlike ds ∧ Sortable ds ∧ (∀ d ∈ ds, d.depth ≤ 60) ∧ ds.length ≤ sizeLine := by
  unfold sortOk at h
  rw [Bool.and_eq_true, Bool.and_eq_true, Bool.and_eq_true] at h
  obtain ⟨⟨⟨h1, h2⟩, h3⟩, h4⟩ := h
  refine ⟨fun d hd e he => ?_, ?_, fun d hd => ?_, line_of (of_decide_eq_true h4)⟩
  · exact List.all_eq_true.mp (List.all_eq_true.mp h1 d hd) e he
  · rw [Bool.or_eq_true] at h2
    rcases h2 with h2 | h2
    · refine .inl fun d hd => ?_
      have := List.all_eq_true.mp h2 d hd
      unfold isTupC at this
      split at this
      · exact ⟨_, _, rfl⟩
      · cases this
    · refine .inr fun d hd => ?_
      have := List.all_eq_true.mp h2 d hd
      refine ⟨fun z => ?_, fun xs z => ?_⟩
      · subst z; cases this
      · subst z; cases this
  · exact of_decide_eq_true (List.all_eq_true.mp h3 d hd)
def sortD (ms : List MV) (ds : List PyData) : List MV := ((ms.zip ds).mergeSort (dataLe false (·.2))).map (·.1)
section
variable {G : Gm} {A : Ad} {H : Hp}
theorem zip3 : ∀ {vs : List V} {ms : List MV} {ds : List PyData}, RepAll G A H vs ms → ms.length = ds.length →
    (vs.zip (ms.zip ds)).map (fun t => (t.1, t.2.2)) = vs.zip ds ∧ (vs.zip (ms.zip ds)).map (·.2) = ms.zip ds ∧ ∀ t ∈ vs.zip (ms.zip ds), Rep G A H t.1 t.2.1
  | _, _, ds, .nil, h => by
    cases ds with
    | nil => exact ⟨rfl, rfl, fun t ht => by cases ht⟩
    | cons _ _ => cases h
  | _, _, [], .cons r rs, h => by cases h
  | _, _, d :: ds, .cons r rs, h => by
    obtain ⟨h1, h2, h3⟩ := zip3 rs (by simpa using h)
    refine ⟨by simp only [List.zip_cons_cons, List.map_cons, h1], by simp only [List.zip_cons_cons, List.map_cons, h2], fun t ht => ?_⟩
    rw [List.zip_cons_cons, List.zip_cons_cons] at ht
    rcases List.mem_cons.mp ht with e | ht
    · subst e; exact r
    · exact h3 t ht
theorem repAll_of {τ : Type} {f : τ → V} {g : τ → MV} : ∀ (l : List τ), (∀ t ∈ l, Rep G A H (f t) (g t)) → RepAll G A H (l.map f) (l.map g)
  | [], _ => .nil
  | t :: l, h => .cons (h t List.mem_cons_self) (repAll_of l fun u hu => h u (List.mem_cons_of_mem _ hu))
theorem toDs_len : ∀ {ms : List MV} {ds : List PyData}, toDs ms = some ds → ms.length = ds.length
  | [], ds, h => by cases h; rfl
  | m :: ms, ds, h => by
    simp only [toDs] at h
    cases e1 : toD m with
    | none => rw [e1] at h; cases h
    | some d =>
      rw [e1] at h
      cases e2 : toDs ms with
      | none => rw [e2] at h; cases h
      | some es => rw [e2] at h; cases h; simp [toDs_len e2]
theorem sort_rep {vs : List V} {ms : List MV} {ds : List PyData} (r : RepAll G A H vs ms) (hl : ms.length = ds.length) :
    RepAll G A H (((vs.zip ds).mergeSort (dataLe false (·.2))).map (·.1)) (sortD ms ds) := by
  obtain ⟨h1, h2, h3⟩ := zip3 r hl
  have e1 : ((vs.zip (ms.zip ds)).mergeSort (dataLe false (fun t => t.2.2))).map (fun t => (t.1, t.2.2)) = (vs.zip ds).mergeSort (dataLe false (·.2)) := by
    exact (List.map_mergeSort (s := dataLe false fun t : V × PyData => t.2) (fun _ _ _ _ => rfl)).trans (by rw [h1])
  have e2 : ((vs.zip (ms.zip ds)).mergeSort (dataLe false (fun t => t.2.2))).map (·.2) = (ms.zip ds).mergeSort (dataLe false (·.2)) := by
    exact (List.map_mergeSort (s := dataLe false fun t : MV × PyData => t.2) (fun _ _ _ _ => rfl)).trans (by rw [h2])
  unfold sortD
  rw [← e1, ← e2, List.map_map, List.map_map]
  exact repAll_of _ fun t ht => h3 t (List.mem_mergeSort.mp ht)
theorem dp_zip : ∀ {vs : List V} {ds : List PyData}, DpAll G.K H vs ds → (vs.zip ds).map (·.1) = vs ∧ (vs.zip ds).map (·.2) = ds ∧ ∀ b ∈ vs.zip ds, Dp G.K H b.1 b.2
  | _, _, .nil => ⟨rfl, rfl, fun b h => by cases h⟩
  | _, _, .cons h hs => by
    obtain ⟨h1, h2, h3⟩ := dp_zip hs
    refine ⟨by simp only [List.zip_cons_cons, List.map_cons, h1], by simp only [List.zip_cons_cons, List.map_cons, h2], fun b hb => ?_⟩
    rw [List.zip_cons_cons] at hb
    rcases List.mem_cons.mp hb with e | hb
    · subst e; exact h
    · exact h3 b hb
end
/-- sorted(a list of data) -/
def gSorted : List MV → Sto → Res MV := fun ms st => match ms with
  | [m] => match listOf m st with
    | some xs => match toDs xs with
      | some ds => if sortOk ds = true then .ok (.lst (sortD xs ds)) st else .bad
      | none => .bad
    | none => .bad
  | _ => .bad
theorem oSorted {G : Gm} : OpN G (rSortD G.K) gSorted := by
  intro A H st xs ms Q m st' s r h k
  unfold gSorted at h
  split at h
  · split at h
    · rename_i ys e1
      split at h
      · rename_i ds e2
        obtain ⟨hl, h⟩ := ite_ok h
        cases h
        cases r with
        | cons r rs =>
          cases rs
          obtain ⟨a, vs, ev, sq, rv⟩ := listOf_rep s r e1
          subst ev
          have dp := RepAll.dp ys rv e2
          obtain ⟨z1, z2, z3⟩ := dp_zip (G := G) dp
          obtain ⟨k1, k2, k3, k4⟩ := sortOk_is hl
          have hll : (vs.zip ds).length = ds.length := by rw [← z2]; simp
          refine ⟨a, vs.zip ds, rfl, by rw [z1]; exact SqL.of sq, z3, by rw [z2]; exact k1, by rw [z2]; exact k2, fun b hb => k3 _ (by rw [← z2]; exact List.mem_map_of_mem hb), by rw [hll]; exact k4, ?_⟩
          exact fin_lst s (sort_rep rv (toDs_len e2)) k
      · cases h
    · cases h
  · cases h
end MR

/-! dicts of the store: {}, d[k] = v, sorted(d) -/
namespace MR
open PySem L2
variable [Tb]
open PySem.W (alike dataLt dataLe AllAlike Sortable EachIs)
/-! ### keys that are tuples -/
mutual
inductive Nk (K : PySem.W.Frag) (H : Hp) : V → NestedKey → Prop
  | non : Nk K H .non .none
  | bl (b : Bool) : Nk K H (.bl b) (.num (if b = true then 1 else 0))
  | int (i : Int) : Nk K H (.int i) (.num i)
  | str (x : Str) : Nk K H (.str x) (.text x)
  | tup {a : Addr} {xs : List V} {ks : List NestedKey} : SqT K H a xs → NkAll K H xs ks → Nk K H (.ref a) (.tup ks)
inductive NkAll (K : PySem.W.Frag) (H : Hp) : List V → List NestedKey → Prop
  | nil : NkAll K H [] []
  | cons {v : V} {vs : List V} {d : NestedKey} {ds : List NestedKey} : Nk K H v d → NkAll K H vs ds → NkAll K H (v :: vs) (d :: ds)
end
section
variable {X : Cx} {pins : List (Addr × Obj)} {σ : L2.St} {H : Hp} {s : Shared}
mutual
theorem Nk.is (I : Inv X pins σ H s) : ∀ (d : NestedKey) (v : V) (u : Value), Nk X.K H v d → RelV v u → NestedIs s.heap d u
  | .none, _, u, h, r => by
    cases h
    rw [show u = Value.none from r]
    exact .none
  | .num i, v, u, h, r => by
    cases h with
    | bl b => rw [show u = Value.bool b from r]; exact .bool rfl
    | int i => obtain ⟨t, e⟩ := (show ∃ t, u = Value.int i t from r); rw [e]; exact .int i t
  | .text x, _, u, h, r => by
    cases h
    obtain ⟨t, e⟩ := (show ∃ t, u = Value.str x t from r)
    rw [e]
    exact .text x t
  | .tup ks, v, u, h, r => by
    cases h with
    | @tup a xs _ sq ns =>
      rw [show u = Value.ref a from r]
      obtain ⟨its, rv, ⟨o, ho, hc, n, hd⟩, _⟩ := I.tuple sq
      exact .tup ho hc hd (by simpa using NkAll.is I ks xs its ns rv)
theorem NkAll.is (I : Inv X pins σ H s) : ∀ (ds : List NestedKey) (vs : List V) (us : List Value), NkAll X.K H vs ds → Vals vs us → NestedAll s.heap ds us
  | [], _, us, h, r => by cases h; cases r; exact .nil
  | d :: ds, vs, us, h, r => by
    cases h with
    | cons h1 h2 =>
      cases r with
      | cons r1 r2 => exact .cons (Nk.is I d _ _ h1 r1) (NkAll.is I ds _ _ h2 r2)
end
end
section
variable {G : Gm} {A : Ad} {H : Hp}
mutual
theorem Rep.nk : ∀ (m : MV) {v : V} {d : NestedKey}, Rep G A H v m → toN m = some d → Nk G.K H v d
  | .non, _, _, h, e => by cases h; cases e; exact .non
  | .bl b, _, _, h, e => by cases h; cases e; exact .bl b
  | .int i, _, _, h, e => by cases h; cases e; exact .int i
  | .str x, _, _, h, e => by cases h; cases e; exact .str x
  | .tup xs, _, d, h, e => by
    cases h with
    | tup f r =>
      simp only [toN] at e
      cases e1 : toNs xs with
      | none => rw [e1] at e; cases e
      | some ds => rw [e1] at e; cases e; exact .tup f.sq (RepAll.nk xs r e1)
  | .lst xs, _, d, h, e => by cases e
  | .ty _, _, _, _, e => by cases e
  | .gl _, _, _, _, e => by cases e
  | .obj _, _, _, _, e => by cases e
  | .scr _, _, _, _, e => by cases e
  | .ins _ _ _, _, _, _, e => by cases e
  | .dct _ _, _, _, _, e => by cases e
theorem RepAll.nk : ∀ (ms : List MV) {vs : List V} {ds : List NestedKey}, RepAll G A H vs ms → toNs ms = some ds → NkAll G.K H vs ds
  | [], _, _, h, e => by cases h; cases e; exact .nil
  | m :: ms, _, ds, h, e => by
    cases h with
    | cons r rs =>
      simp only [toNs] at e
      cases e1 : toN m with
      | none => rw [e1] at e; cases e
      | some d =>
        rw [e1] at e
        cases e2 : toNs ms with
        | none => rw [e2] at e; cases e
        | some es => rw [e2] at e; cases e; exact .cons (Rep.nk m r e1) (RepAll.nk ms rs e2)
end
end
/-! ### entries -/
def atE (es : List (NestedKey × Addr × V)) (k : NestedKey) : Bool := es.any fun e => decide (e.1 = k)
def putE (es : List (NestedKey × Addr × V)) (k : NestedKey) (b : Addr) (v : V) : List (NestedKey × Addr × V) :=
  if atE es k = true then es.map (fun e => if e.1 = k then (e.1, e.2.1, v) else e) else es ++ [(k, b, v)]
abbrev RE (p : NestedKey × Addr × V) (q : NestedKey × Addr × Value) : Prop := p.1 = q.1 ∧ p.2.1 = q.2.1 ∧ RelV p.2.2 q.2.2
theorem re_at {k : NestedKey} : ∀ {es : List (NestedKey × Addr × V)} {xs : List (NestedKey × Addr × Value)}, Paired RE es xs → atE es k = (atKey xs k).isSome
  | _, _, .nil => rfl
  | _, _, .cons (a := p) (b := q) r t => by
    have ih := re_at (k := k) t
    unfold atE at ih ⊢
    unfold atKey at ih ⊢
    rw [List.any_cons, List.find?_cons, ih]
    rw [show p.1 = q.1 from r.1]
    by_cases h : q.1 = k
    · simp [h]
    · simp [h]
theorem re_map {k : NestedKey} {v : V} {u : Value} (rv : RelV v u) : ∀ {es : List (NestedKey × Addr × V)} {xs : List (NestedKey × Addr × Value)}, Paired RE es xs →
    Paired RE (es.map (fun e => if e.1 = k then (e.1, e.2.1, v) else e)) (xs.map (putAt k u))
  | _, _, .nil => .nil
  | _, _, .cons (a := p) (b := q) r t => by
    refine .cons ?_ (re_map rv t)
    unfold putAt
    have e : p.1 = q.1 := r.1
    by_cases h : q.1 = k
    · show RE (if p.1 = k then (p.1, p.2.1, v) else p) (if q.1 = k then (q.1, q.2.1, u) else q)
      rw [if_pos (e.trans h), if_pos h]; exact ⟨r.1, r.2.1, rv⟩
    · show RE (if p.1 = k then (p.1, p.2.1, v) else p) (if q.1 = k then (q.1, q.2.1, u) else q)
      rw [if_neg (fun z => h (e.symm.trans z)), if_neg h]; exact r
theorem paired_app {α β : Type} {R : α → β → Prop} : ∀ {l : List α} {m : List β} {l' : List α} {m' : List β}, Paired R l m → Paired R l' m' → Paired R (l ++ l') (m ++ m')
  | _, _, _, _, .nil, h => h
  | _, _, _, _, .cons r t, h => .cons r (paired_app t h)
theorem re_put {k : NestedKey} {b : Addr} {v : V} {u : Value} {es : List (NestedKey × Addr × V)} {xs : List (NestedKey × Addr × Value)} (r : Paired RE es xs) (rv : RelV v u) : Paired RE (putE es k b v) (storedH xs k b u) := by
  unfold putE storedH
  rw [re_at r]
  by_cases h : (atKey xs k).isSome = true
  · rw [if_pos h, if_pos h]; exact re_map rv r
  · rw [if_neg h, if_neg h]
    exact paired_app r (.cons ⟨rfl, rfl, rv⟩ .nil)
theorem putE_len (es : List (NestedKey × Addr × V)) (k : NestedKey) (b : Addr) (v : V) : (putE es k b v).length ≤ es.length + 1 := by
  unfold putE
  split
  · simp
  · simp
theorem dn_stay {P : Program} {w : World} {a : Addr} {es : List (NestedKey × Addr × V)} : ∀ h1 h2 : Heap, DN P w a es h1 → (∀ o, h1.get? a = some o → h2.get? a = some o) → DN P w a es h2 := fun h1 h2 ⟨d, z, xs, r, o, es', ep, ho, q⟩ k => ⟨d, z, xs, r, o, es', ep, k _ ho, q⟩
/-- o[i] = v, o a dict whose keys are tuples -/
def rSetN (G : Gm) : TSet := fun o i v H Q => ∃ a b k es, o = .ref a ∧ i = .ref b ∧ (H a = some (DNO G a es) ∨ (es = [] ∧ H a = some (.dK []))) ∧ Nk G.K H (.ref b) k ∧ k.depth ≤ 8 ∧ (∀ e ∈ es, Nk G.K H (.ref e.2.1) e.1 ∧ e.1.depth ≤ 8) ∧ es.length < sizeLine ∧
  Q (upd H a (DNO G a (putE es k b v)))
theorem paired_mem {α β : Type} {R : α → β → Prop} : ∀ {l : List α} {m : List β}, Paired R l m → ∀ y ∈ m, ∃ x ∈ l, R x y
  | _, _, .nil, y, h => by cases h
  | _, _, .cons r t, y, h => by
    rcases List.mem_cons.mp h with e | h
    · subst e; exact ⟨_, List.mem_cons_self, r⟩
    · obtain ⟨x, hx, rx⟩ := paired_mem t y h
      exact ⟨x, List.mem_cons_of_mem _ hx, rx⟩
theorem set_nest {X : Cx} (hu : X.A.units + 64 < cLine) : PSet X (rSetN (gmOf X)) := by
  intro pins s σ H o i v ov iv u Q I ro ri rv h
  obtain ⟨a, b, k, es, rfl, rfl, ha, hk, hdep, hes, hl, q⟩ := h
  rw [show ov = Value.ref a from ro, show iv = Value.ref b from ri]
  have big : ∃ xs, (a == sysModules) = false ∧ Paired RE es xs ∧ ∃ o es' ep, s.heap.get? a = some o ∧ o.ExactDict ∧ o.data = .dict es' ep ∧ es'.toList = xs.map (entryOfKey (nestedKind X.prog X.w)) ∧ (xs.map (·.1)).Nodup := by
    rcases ha with ha | ⟨ee, ha⟩
    · obtain ⟨⟨d, z, xs, r, q⟩, _, _⟩ := I.hok a _ ha
      exact ⟨xs, d, r, q⟩
    · obtain ⟨z, d, vs, rel, o, es', ep, ho, hx, hd, _, hp, _⟩ := I.hok a _ ha
      subst ee
      cases rel
      cases hes' : es'.toList with
      | nil => exact ⟨[], d, .nil, o, es', ep, ho, hx, hd, by rw [hes']; rfl, List.nodup_nil⟩
      | cons x r => rw [hes'] at hp; cases hp
  obtain ⟨xs, d, r, o, es', ep, ho, hx, hd, he, hnd⟩ := big
  have hmut : Mut (H a) := by
    rcases ha with ha | ⟨_, ha⟩
    · rw [ha]; exact True.intro
    · rw [ha]; exact True.intro
  have hm : s.heap.DictOfH (nestedKind X.prog X.w) a xs := ⟨o, es', ep, ho, hx, hd, he, fun y hy => by
    obtain ⟨e, he, r1, r2, _⟩ := paired_mem r y hy
    obtain ⟨n1, n2⟩ := hes e he
    rw [← r1, ← r2]
    exact ⟨Nk.is I _ _ _ n1 rfl, n2⟩, hnd⟩
  have hz : xs.length = es.length := (Paired.length r).symm
  refine wpAny_setItem_heap (knd := nestedKind X.prog X.w) (hsz := by rw [hz]; omega) (by show X.A.in1.units + 8 < cLine; have : X.A.in1.units = X.A.units + 1 := rfl; omega) ⟨Nk.is I _ _ _ hk rfl, hdep⟩ hm fun h' dd' hs => ?_
  obtain ⟨o2, es2, ep2, h1, h2, h3, h4, _, h5⟩ := dd'
  refine ⟨upd H a (DNO (gmOf X) a (putE es k b v)), d_write (ob := DNO (gmOf X) a (putE es k b v)) I hmut hs ⟨o2, h1⟩ ⟨⟨d, by have := putE_len es k b v; omega, _, re_put r rv, o2, es2, ep2, h1, h2, h3, h4, h5⟩, ⟨o2, h1⟩, dn_stay⟩, q⟩
/-! ### mirrors -/
def keyOf : MV → Option L2.Key
  | .int i => some (.inl i)
  | .str x => some (.inr x)
  | _ => none
def isTupM : MV → Bool
  | .tup _ => true
  | _ => false
def hasK (ks : List MV) (n : MV) : Bool := ks.any fun k => decide (toN k = toN n)
def putX (ks xs : List MV) (n v : MV) : List MV := List.zipWith (fun k x => if toN k = toN n then v else x) ks xs
def dPut (ks xs : List MV) (n v : MV) : MO := if hasK ks n = true then .dict ks (putX ks xs n v) else .dict (ks ++ [n]) (xs ++ [v])
def nOk (n : MV) : Bool := match toN n with
  | some k => decide (k.depth ≤ 8)
  | none => false
theorem keyOf_is {m : MV} {k : L2.Key} (h : keyOf m = some k) : m = keyM k := by
  cases m <;> cases h <;> rfl
theorem toN_keyM {a b : L2.Key} : toN (keyM a) = toN (keyM b) ↔ a = b := by
  cases a <;> cases b <;> simp [keyM, toN]
section
variable {G : Gm} {A : Ad} {H : Hp}
theorem Rep.key {v : V} {k : L2.Key} (r : Rep G A H v (keyM k)) : v = kV k := by
  cases k with
  | inl i => exact r.int_inv
  | inr x => exact r.str_inv
theorem putK_rep {k : L2.Key} {v : V} {m : MV} (r : Rep G A H v m) : ∀ {kvs : List (L2.Key × V)} {xs : List MV}, RepAll G A H (kvs.map (·.2)) xs →
    RepAll G A H ((kvs.map fun kv => if kv.1 = k then (kv.1, v) else kv).map (·.2)) (putX (kvs.map fun p => keyM p.1) xs (keyM k) m)
  | [], _, .nil => .nil
  | p :: kvs, _, .cons h t => by
    unfold putX
    rw [List.map_cons, List.map_cons, List.map_cons, List.zipWith_cons_cons]
    refine .cons ?_ (putK_rep r t)
    by_cases e : p.1 = k
    · rw [if_pos e, if_pos (toN_keyM.mpr e)]; exact r
    · rw [if_neg e, if_neg (fun z => e (toN_keyM.mp z))]; exact h
theorem hasK_key {k : L2.Key} : ∀ {kvs : List (L2.Key × V)}, hasK (kvs.map fun p => keyM p.1) (keyM k) = kvs.any fun kv => decide (kv.1 = k)
  | [] => rfl
  | p :: kvs => by
    unfold hasK
    have ih := hasK_key (k := k) (kvs := kvs)
    unfold hasK at ih
    rw [List.map_cons, List.any_cons, List.any_cons, ih]
    congr 1
    exact decide_eq_decide.mpr toN_keyM
theorem toNs_cons {m : MV} {ms : List MV} {ks : List NestedKey} (h : toNs (m :: ms) = some ks) : ∃ d ds, ks = d :: ds ∧ toN m = some d ∧ toNs ms = some ds := by
  simp only [toNs] at h
  cases e1 : toN m with
  | none => rw [e1] at h; cases h
  | some d =>
    rw [e1] at h
    cases e2 : toNs ms with
    | none => rw [e2] at h; cases h
    | some es => rw [e2] at h; cases h; exact ⟨d, es, rfl, rfl, rfl⟩
theorem toNs_app : ∀ {ms ns : List MV} {ks js : List NestedKey}, toNs ms = some ks → toNs ns = some js → toNs (ms ++ ns) = some (ks ++ js)
  | [], _, _, _, h, h' => by cases h; exact h'
  | m :: ms, ns, ks, js, h, h' => by
    obtain ⟨d, ds, rfl, e1, e2⟩ := toNs_cons h
    show (toN m).bind (fun d => (toNs (ms ++ ns)).map (d :: ·)) = _
    rw [e1, toNs_app e2 h']
    rfl
theorem putE_rep {n : MV} {k : NestedKey} {v : V} {m : MV} (hn : toN n = some k) (r : Rep G A H v m) : ∀ {es : List (NestedKey × Addr × V)} {ks xs : List MV}, toNs ks = some (es.map (·.1)) → RepAll G A H (es.map (·.2.2)) xs →
    RepAll G A H ((es.map fun e => if e.1 = k then (e.1, e.2.1, v) else e).map (·.2.2)) (putX ks xs n m) ∧ hasK ks n = atE es k
  | [], ks, _, hk, .nil => by
    cases ks with
    | nil => exact ⟨.nil, rfl⟩
    | cons _ _ => obtain ⟨_, _, z, _⟩ := toNs_cons hk; cases z
  | e :: es, ks, _, hk, .cons h t => by
    cases ks with
    | nil => cases hk
    | cons q ks =>
      obtain ⟨d, ds, z, e1, e2⟩ := toNs_cons hk
      obtain ⟨z1, z2⟩ := List.cons.inj z
      obtain ⟨i1, i2⟩ := putE_rep hn r (es := es) (ks := ks) (by rw [e2, ← z2]) t
      have hd : toN q = toN n ↔ e.1 = k := by rw [e1, hn, ← z1]; exact ⟨fun z => Option.some.inj z, fun z => congrArg some z⟩
      refine ⟨?_, ?_⟩
      · unfold putX
        rw [List.map_cons, List.map_cons, List.zipWith_cons_cons]
        refine .cons ?_ i1
        by_cases c : e.1 = k
        · rw [if_pos c, if_pos (hd.mpr c)]; exact r
        · rw [if_neg c, if_neg (fun z => c (hd.mp z))]; exact h
      · unfold hasK atE at i2 ⊢
        rw [List.any_cons, List.any_cons, i2]
        congr 1
        exact decide_eq_decide.mpr hd
theorem putE_fst (es : List (NestedKey × Addr × V)) (k : NestedKey) (v : V) : (es.map fun e => if e.1 = k then (e.1, e.2.1, v) else e).map (·.1) = es.map (·.1) ∧ (es.map fun e => if e.1 = k then (e.1, e.2.1, v) else e).map (fun e => V.ref e.2.1) = es.map (fun e => V.ref e.2.1) := by
  refine ⟨?_, ?_⟩
  · rw [List.map_map]; exact List.map_congr_left fun e _ => by show (if e.1 = k then (e.1, e.2.1, v) else e).1 = e.1; split <;> rfl
  · rw [List.map_map]; exact List.map_congr_left fun e _ => by show V.ref (if e.1 = k then (e.1, e.2.1, v) else e).2.1 = V.ref e.2.1; split <;> rfl
theorem nks_mem : ∀ {es : List (NestedKey × Addr × V)} {ks : List MV}, toNs ks = some (es.map (·.1)) → RepAll G A H (es.map fun e => V.ref e.2.1) ks → ∀ e ∈ es, Nk G.K H (.ref e.2.1) e.1
  | [], _, _, _, e, he => by cases he
  | p :: es, ks, hk, r, e, he => by
    cases ks with
    | nil => cases hk
    | cons q ks =>
      obtain ⟨d, ds, z, e1, e2⟩ := toNs_cons hk
      obtain ⟨z1, z2⟩ := List.cons.inj z
      cases r with
      | cons r rs =>
        rcases List.mem_cons.mp he with c | he
        · subst c; exact Rep.nk q r (by rw [e1, ← z1])
        · exact nks_mem (by rw [e2, ← z2]) rs e he
end
/-! ### o[i] = v, o a list or a dict of the store -/
def setAtG (m n x : MV) (st : Sto) : Option Sto := match m with
  | .obj k => match st[k]? with
    | some (.lst xs) => (match n with
      | .int i => (ixN xs.length i).map fun j => st.set k (.lst (xs.set j x))
      | _ => none)
    | some (.dict ks xs) => if ks.length < 16777216 then
        (if isTupM n = true then (if ks.all isTupM = true ∧ nOk n = true ∧ ks.all nOk = true then some (st.set k (dPut ks xs n x)) else none)
        else if (keyOf n).isSome = true ∧ ks.all (fun q => (keyOf q).isSome) = true then some (st.set k (dPut ks xs n x)) else none) else none
    | _ => none
  | _ => none
def sSetIxG (o i e : ME) : MS := fun env st => bindE (e env st) env fun v st1 => bindE (noExc (o env st1)) env fun m st2 => bindE (noExc (i env st2)) env fun n st3 => match setAtG m n v st3 with
    | some st4 => .nx env st4
    | none => .bad
abbrev rSetG (X : Cx) : TSet := fun o i v H Q => rSetL o i v H Q ∨ (rSetD o i v H Q ∨ rSetN (gmOf X) o i v H Q)
theorem PSet.or {X : Cx} {t t' : TSet} (h : PSet X t) (h' : PSet X t') : PSet X (fun o i v H Q => t o i v H Q ∨ t' o i v H Q) := fun pins s σ H o i v ov iv u Q I ro ri rv q =>
  q.elim (h pins s σ H o i v ov iv u Q I ro ri rv) (h' pins s σ H o i v ov iv u Q I ro ri rv)
theorem set_any {X : Cx} (hu : X.A.units + 64 < cLine) : PSet X (rSetG X) := PSet.or set_list (PSet.or (set_dict (by omega)) (set_nest hu))
theorem obj_dict {G : Gm} {A : Ad} {H : Hp} {a : Addr} {ks xs : List MV} (h : ObjR G A H a (.dict ks xs)) :
    (∃ kvs : List (L2.Key × V), H a = some (.dK kvs) ∧ ks = kvs.map (fun p => keyM p.1) ∧ RepAll G A H (kvs.map (·.2)) xs) ∨
    (∃ es : List (NestedKey × Addr × V), H a = some (DNO G a es) ∧ es ≠ [] ∧ toNs ks = some (es.map (·.1)) ∧ RepAll G A H (es.map fun e => V.ref e.2.1) ks ∧ RepAll G A H (es.map (·.2.2)) xs) := by
  cases h with
  | dctL h k r => exact .inl ⟨_, h, k, r⟩
  | dctN h ne k r q => exact .inr ⟨_, h, ne, k, r, q⟩
theorem nOk_is {n : MV} (h : nOk n = true) : ∃ k, toN n = some k ∧ k.depth ≤ 8 := by
  unfold nOk at h
  split at h
  · rename_i k e; exact ⟨k, e, of_decide_eq_true h⟩
  · cases h
theorem set_rep {X : Cx} {A : Ad} {H : Hp} {st st' : Sto} {o i v : V} {m n x : MV} {Q : Hp → Prop} (s : SR (gmOf X) A H st) (ro : Rep (gmOf X) A H o m) (ri : Rep (gmOf X) A H i n) (rv : Rep (gmOf X) A H v x) (h : setAtG m n x st = some st')
    (q : ∀ H', Ext A H A H' → SR (gmOf X) A H' st' → Q H') : rSetG X o i v H Q := by
  unfold setAtG at h
  split at h
  · rename_i kk
    cases ro with
    | @obj a _ hk =>
      split at h
      · rename_i xs ek
        split at h
        · rename_i j
          cases ej : ixN xs.length j with
          | none => rw [ej] at h; cases h
          | some jj =>
            rw [ej] at h
            cases h
            cases s.ob kk a _ hk ek with
            | @lst vs _ hH hr =>
              exact .inl ⟨a, vs, j, jj, rfl, ri.int_inv, hH, by rw [hr.length]; exact ej, q _ (Ext.set s (List.mem_of_getElem? hk)) (s.set hk (hr.set jj rv))⟩
        · cases h
      · rename_i ks xs ek
        have od := obj_dict (s.ob kk a _ hk ek)
        have fin : ∀ {ho : HO} {mo : MO}, ObjR (gmOf X) A (upd H a ho) a mo → st' = st.set kk mo → Q (upd H a ho) := fun {ho mo} r e => by
          subst e; exact q _ (Ext.set s (List.mem_of_getElem? hk)) (s.setO hk r)
        have ex : ∀ ho : HO, Ext A H A (upd H a ho) := fun ho => Ext.set s (List.mem_of_getElem? hk)
        by_cases hlen : ks.length < 16777216
        · rw [if_pos hlen] at h
          by_cases ht : isTupM n = true
          · rw [if_pos ht] at h
            by_cases hc : ks.all isTupM = true ∧ nOk n = true ∧ ks.all nOk = true
            · rw [if_pos hc] at h
              obtain ⟨c1, c2, c3⟩ := hc
              obtain ⟨k, hn, hdep⟩ := nOk_is c2
              obtain ⟨b, ei⟩ : ∃ b, i = .ref b := by
                cases n <;> try (cases ht)
                cases ri with
                | tup f r => exact ⟨_, rfl⟩
              subst ei
              -- the entries
              have big : ∃ es : List (NestedKey × Addr × V), (H a = some (DNO (gmOf X) a es) ∨ (es = [] ∧ H a = some (.dK []))) ∧ toNs ks = some (es.map (·.1)) ∧ RepAll (gmOf X) A H (es.map fun e => V.ref e.2.1) ks ∧ RepAll (gmOf X) A H (es.map (·.2.2)) xs := by
                rcases od with ⟨kvs, h1, h2, h3⟩ | ⟨es, h1, hne, h2, h3, h4⟩
                · cases kvs with
                  | nil =>
                    subst h2
                    exact ⟨[], .inr ⟨rfl, h1⟩, rfl, .nil, h3⟩
                  | cons p kvs =>
                    subst h2
                    rw [List.map_cons, List.all_cons, Bool.and_eq_true] at c1
                    exfalso
                    have z := c1.1
                    obtain ⟨p1, p2⟩ := p
                    cases p1 <;> cases z
                · exact ⟨es, .inl h1, h2, h3, h4⟩
              obtain ⟨es, h1, h2, h3, h4⟩ := big
              have hlE : es.length = ks.length := by have := h3.length; simpa using this
              obtain ⟨r1, r2⟩ := putE_rep hn rv h2 h4
              obtain ⟨f1, f2⟩ := putE_fst es k v
              refine .inr (.inr ⟨a, b, k, es, rfl, rfl, h1, Rep.nk n ri hn, hdep, fun e he => ⟨nks_mem h2 h3 e he, ?_⟩, by rw [hlE, sizeLine_eq]; exact hlen, ?_⟩)
              · have dep : ∀ {es : List (NestedKey × Addr × V)} {ks : List MV}, toNs ks = some (es.map (·.1)) → ks.all nOk = true → ∀ e ∈ es, e.1.depth ≤ 8 := by
                  intro es
                  induction es with
                  | nil => intro ks _ _ e he; cases he
                  | cons p es ih =>
                    intro ks hk ha e he
                    cases ks with
                    | nil => cases he; all_goals cases hk
                    | cons q ks =>
                      obtain ⟨d, ds, z, e1, e2⟩ := toNs_cons hk
                      obtain ⟨z1, z2⟩ := List.cons.inj z
                      rw [List.all_cons, Bool.and_eq_true] at ha
                      rcases List.mem_cons.mp he with c | he
                      · subst c
                        obtain ⟨k', w1, w2⟩ := nOk_is ha.1
                        rw [e1] at w1
                        cases w1
                        rw [show e.1 = d from z1]; exact w2
                      · exact ih (by rw [e2, ← z2]) ha.2 e he
                exact dep h2 c3 e he
              · refine fin (mo := dPut ks xs n x) ?_ (by cases h; rfl)
                unfold dPut putE
                rw [r2]
                by_cases ca : atE es k = true
                · rw [if_pos ca, if_pos ca]
                  have hne : (es.map fun e => if e.1 = k then (e.1, e.2.1, v) else e) ≠ [] := fun z => by
                    have e0 : es = [] := List.map_eq_nil_iff.mp z
                    subst e0; cases ca
                  exact .dctN upd_same hne (by rw [f1]; exact h2) (by rw [f2]; exact h3.ext (ex _)) (r1.ext (ex _))
                · rw [if_neg ca, if_neg ca]
                  refine .dctN upd_same (by simp) ?_ ?_ ?_
                  · rw [List.map_append]; exact toNs_app h2 (by show (toN n).bind _ = _; rw [hn]; rfl)
                  · rw [List.map_append]; exact (h3.append (.cons ri .nil)).ext (ex _)
                  · rw [List.map_append]; exact (h4.append (.cons rv .nil)).ext (ex _)
            · rw [if_neg hc] at h; cases h
          · rw [if_neg ht] at h
            by_cases hc : (keyOf n).isSome = true ∧ ks.all (fun q => (keyOf q).isSome) = true
            · rw [if_pos hc] at h
              obtain ⟨k, hk'⟩ := Option.isSome_iff_exists.mp hc.1
              have en := keyOf_is hk'
              subst en
              have ei := ri.key
              subst ei
              have big : ∃ kvs : List (L2.Key × V), H a = some (.dK kvs) ∧ ks = kvs.map (fun p => keyM p.1) ∧ RepAll (gmOf X) A H (kvs.map (·.2)) xs := by
                rcases od with z | ⟨es, h1, hne, h2, h3, h4⟩
                · exact z
                · cases ks with
                  | nil =>
                    cases es with
                    | nil => exact absurd rfl hne
                    | cons _ _ => cases h3
                  | cons q ks =>
                    exfalso
                    have z := hc.2
                    rw [List.all_cons, Bool.and_eq_true] at z
                    have z1 := z.1
                    cases es with
                    | nil => cases h3
                    | cons e es =>
                      cases h3 with
                      | cons r rs =>
                        cases q <;> first | (cases z1; done) | cases r
              obtain ⟨kvs, h1, h2, h3⟩ := big
              subst h2
              refine .inr (.inl ⟨a, _, rfl, DPut.k h1 (by rw [sizeLine_eq]; simpa using hlen), ?_⟩)
              refine fin (mo := dPut (kvs.map fun p => keyM p.1) xs (keyM k) x) ?_ (by cases h; rfl)
              unfold dPut putK
              rw [hasK_key]
              by_cases ca : (kvs.any fun kv => decide (kv.1 = k)) = true
              · rw [if_pos ca, if_pos ca]
                refine .dctL upd_same ?_ ((putK_rep rv h3).ext (ex _))
                rw [List.map_map]
                exact List.map_congr_left fun e _ => by show keyM e.1 = keyM (if e.1 = k then (e.1, v) else e).1; split <;> rfl
              · rw [if_neg ca, if_neg ca]
                refine .dctL upd_same (by rw [List.map_append]; rfl) ?_
                rw [List.map_append]; exact (h3.append (.cons rv .nil)).ext (ex _)
            · rw [if_neg hc] at h; cases h
        · rw [if_neg hlen] at h; cases h
      · cases h
  · cases h
end MR

/-! {}, {k: v, ..}; f'..'; a, b = a list; sorted(d) -/
namespace MR
open PySem L2
variable [Tb]
open PySem.W (alike dataLt dataLe AllAlike Sortable EachIs)
/-! ### displays -/
def mDictN : ME := fun _ st => .ok (.obj st.length) (st ++ [.dict [] []])
def mDict0 : ME := fun _ st => .ok (.dct [] []) st
section
variable {X : Cx} {W : WX} {pos : Pos}
theorem pm_dictN : PM X W (.Dict [] [] pos) mDictN := PE_imp pe_dnewK fun σ H Q ⟨A, env, st, s, q, h⟩ => fun p hp =>
  h (A.more p) _ _ (Ext.made s hp) (s.madeO hp (.dctL upd_same rfl .nil)) (.obj (by rw [← s.len]; simp))
theorem pm_dict0 : PM X W (.Dict [] [] pos) mDict0 := PE_imp pe_dnewK fun σ H Q ⟨A, env, st, s, q, h⟩ => fun p hp =>
  h A _ _ (Ext.laid s hp) (s.laid hp) (.dctL ⟨.inl upd_same, nt_dK, s.new_out hp⟩ rfl .nil)
end
abbrev MP := MEnv → Sto → Res (List (MV × MV))
def pNil : MP := fun _ st => .ok [] st
def pCons (k v : ME) (r : MP) : MP := fun env st => (noExc (k env st)).bind fun x st1 => (noExc (v env st1)).bind fun y st2 => (r env st2).bind fun ps st3 => .ok ((x, y) :: ps) st3
def okPr (G : Gm) (A : Ad) (H : Hp) (Q : List (V × V) → Hp → Prop) : List (MV × MV) → Sto → Prop := fun ms st => ∀ A' H' vs, Ext A H A' H' → SR G A' H' st → RepAll G A' H' (vs.map (·.1)) (ms.map (·.1)) → RepAll G A' H' (vs.map (·.2)) (ms.map (·.2)) → Q vs H'
def tP (G : Gm) (m : MP) : St → Hp → (List (V × V) → Hp → Prop) → Prop := fun σ H Q => ∃ A env st, SR G A H st ∧ EnvR G A H σ env ∧ (m env st).post (okPr G A H Q) (fun _ _ => False)
structure PMP (X : Cx) (pos : Pos) (ks : List (Option Expr)) (vs : List Expr) (m : MP) : Prop where
  ex : ∃ trs, PPs X pos ks vs trs ∧ ∀ σ H Q, tP (gmOf X) m σ H Q → tPairs trs σ H Q
theorem Ext.okPr {G : Gm} {A A' : Ad} {H H' : Hp} {Q : List (V × V) → Hp → Prop} (e : Ext A H A' H') {ms : List (MV × MV)} {st : Sto} (h : okPr G A H Q ms st) : okPr G A' H' Q ms st := fun B I v f s r q => h B I v (e.trans f) s r q
section
variable {X : Cx} {W : WX} {pos : Pos} {k v : Expr} {mk mv : ME} {ks : List (Option Expr)} {vs : List Expr} {mr : MP}
theorem pmp_nil : PMP X pos [] [] pNil := ⟨[], pps_nil, fun σ H Q ⟨A, env, st, s, q, h⟩ => h A H [] (Ext.refl A H) s .nil .nil⟩
theorem pmp_cons (hk : PM X W k mk) (hv : PM X W v mv) (hr : PMP X pos ks vs mr) : PMP X pos (some k :: ks) (v :: vs) (pCons mk mv mr) := by
  obtain ⟨trs, h1, h2⟩ := hr.ex
  refine ⟨_, pps_cons hk hv h1, fun σ H Q ⟨A, env, st, s, q, h⟩ => ?_⟩
  unfold pCons at h
  rw [Res.post_bind] at h
  obtain ⟨x, st1, e1, h⟩ := post_noExc h
  show tE _ _ _ _ _ _
  refine ⟨A, env, st, s, q, post_ok e1 fun A1 H1 xv x1 s1 r1 => ?_⟩
  rw [Res.post_bind] at h
  obtain ⟨y, st2, e2, h⟩ := post_noExc h
  show tE _ _ _ _ _ _
  refine ⟨A1, env, st1, s1, q.ext x1, post_ok e2 fun A2 H2 yv x2 s2 r2 => ?_⟩
  rw [Res.post_bind] at h
  refine h2 σ H2 _ ⟨A2, env, st2, s2, (q.ext x1).ext x2, h.mono (fun ps st3 h3 => ?_) fun _ _ z => z⟩
  intro A3 H3 pv x3 s3 ra rb
  exact h3 A3 H3 ((xv, yv) :: pv) ((x1.trans x2).trans x3) s3 (.cons ((r1.ext x2).ext x3) ra) (.cons (r2.ext x3) rb)
end
def dPutL (ks xs : List MV) (n v : MV) : List MV × List MV := if hasK ks n = true then (ks, putX ks xs n v) else (ks ++ [n], xs ++ [v])
theorem dPut_eq (ks xs : List MV) (n v : MV) : dPut ks xs n v = .dict (dPutL ks xs n v).1 (dPutL ks xs n v).2 := by
  unfold dPut dPutL
  split <;> rfl
theorem putL_rep {G : Gm} {A : Ad} {H : Hp} {k : L2.Key} {v : V} {m : MV} (r : Rep G A H v m) {kvs : List (L2.Key × V)} {xs : List MV} (h : RepAll G A H (kvs.map (·.2)) xs) :
    (dPutL (kvs.map fun p => keyM p.1) xs (keyM k) m).1 = (putK kvs k v).map (fun p => keyM p.1) ∧ RepAll G A H ((putK kvs k v).map (·.2)) (dPutL (kvs.map fun p => keyM p.1) xs (keyM k) m).2 := by
  unfold dPutL putK
  rw [hasK_key]
  by_cases ca : (kvs.any fun kv => decide (kv.1 = k)) = true
  · rw [if_pos ca, if_pos ca]
    refine ⟨?_, putK_rep r h⟩
    show kvs.map (fun p => keyM p.1) = (kvs.map fun kv => if kv.1 = k then (kv.1, v) else kv).map (fun p => keyM p.1)
    rw [List.map_map]
    exact List.map_congr_left fun e _ => by show keyM e.1 = keyM (if e.1 = k then (e.1, v) else e).1; split <;> rfl
  · rw [if_neg ca, if_neg ca]
    refine ⟨by simp, ?_⟩
    show RepAll G A H ((kvs ++ [(k, v)]).map (·.2)) (xs ++ [m])
    rw [List.map_append]; exact h.append (.cons r .nil)
def dMake (ps : List (MV × MV)) : List MV × List MV := ps.foldl (fun a p => dPutL a.1 a.2 p.1 p.2) ([], [])
theorem make_rep {G : Gm} {A : Ad} {H : Hp} : ∀ {ms : List (MV × MV)} {kvs acc : List (L2.Key × V)} {xs : List MV}, ms.map (·.1) = kvs.map (fun p => keyM p.1) → RepAll G A H (kvs.map (·.2)) (ms.map (·.2)) → RepAll G A H (acc.map (·.2)) xs →
    (ms.foldl (fun a p => dPutL a.1 a.2 p.1 p.2) (acc.map (fun p => keyM p.1), xs)).1 = (mergeK acc kvs).map (fun p => keyM p.1) ∧ RepAll G A H ((mergeK acc kvs).map (·.2)) (ms.foldl (fun a p => dPutL a.1 a.2 p.1 p.2) (acc.map (fun p => keyM p.1), xs)).2
  | [], kvs, acc, xs, h1, h2, h3 => by
    cases kvs with
    | nil => exact ⟨rfl, h3⟩
    | cons _ _ => cases h1
  | (a, b) :: ms, kvs, acc, xs, h1, h2, h3 => by
    cases kvs with
    | nil => cases h1
    | cons p kvs =>
      obtain ⟨z1, z2⟩ := List.cons.inj h1
      cases h2 with
      | cons r rs =>
        have z1 : a = keyM p.1 := z1
        subst z1
        obtain ⟨w1, w2⟩ := putL_rep (k := p.1) r h3
        have := make_rep (acc := putK acc p.1 p.2) (xs := (dPutL (acc.map fun p => keyM p.1) xs (keyM p.1) b).2) z2 rs w2
        rw [← w1] at this
        exact this
def keysOf : List MV → Option (List L2.Key)
  | [] => some []
  | m :: ms => (keyOf m).bind fun k => (keysOf ms).map (k :: ·)
theorem keys_rep {G : Gm} {A : Ad} {H : Hp} : ∀ {ms : List (MV × MV)} {ps : List (V × V)} {ks : List L2.Key}, keysOf (ms.map (·.1)) = some ks → RepAll G A H (ps.map (·.1)) (ms.map (·.1)) → RepAll G A H (ps.map (·.2)) (ms.map (·.2)) →
    ∃ kvs : List (L2.Key × V), ps = kvs.map (fun kv => (kV kv.1, kv.2)) ∧ ms.map (·.1) = kvs.map (fun p => keyM p.1) ∧ RepAll G A H (kvs.map (·.2)) (ms.map (·.2)) ∧ kvs.length = ms.length
  | [], [], _, _, _, h => ⟨[], rfl, rfl, .nil, rfl⟩
  | [], _ :: _, _, _, h, _ => by cases h
  | _ :: _, [], _, _, h, _ => by cases h
  | (a, b) :: ms, (x, y) :: ps, ks, hk, .cons r rs, .cons q qs => by
    simp only [List.map_cons, keysOf] at hk
    cases e1 : keyOf a with
    | none => rw [e1] at hk; cases hk
    | some k =>
      rw [e1] at hk
      cases e2 : keysOf (ms.map (·.1)) with
      | none => rw [e2] at hk; cases hk
      | some js =>
        obtain ⟨kvs, z1, z2, z3, z4⟩ := keys_rep e2 rs qs
        have ea := keyOf_is e1
        subst ea
        refine ⟨(k, y) :: kvs, ?_, ?_, .cons q z3, by simp [z4]⟩
        · rw [z1, show x = kV k from r.key]; rfl
        · rw [List.map_cons, List.map_cons, z2]
def mDisp (r : MP) : ME := fun env st => match r env st with
  | .ok ps st1 => if (keysOf (ps.map (·.1))).isSome = true ∧ ps.length ≤ 15 then .ok (.dct (dMake ps).1 (dMake ps).2) st1 else .bad
  | _ => .bad
def mDispN (r : MP) : ME := fun env st => match r env st with
  | .ok ps st1 => if (keysOf (ps.map (·.1))).isSome = true ∧ ps.length ≤ 15 then .ok (.obj st1.length) (st1 ++ [.dict (dMake ps).1 (dMake ps).2]) else .bad
  | _ => .bad
/-! ### a fenced object becomes the store's -/
section
variable {G : Gm} {A : Ad} {H : Hp} {d : Addr}
theorem adopt_has {a : Addr} (h : ¬ (A.fence d).has a) : ¬ (A.more d).has a := fun m => h (by
  rcases m with m | m
  · rcases List.mem_append.mp m with m | m
    · exact .inl m
    · exact .inr (by rw [List.mem_singleton.mp m]; exact List.mem_cons_self)
  · exact .inr (List.mem_cons_of_mem _ m))
theorem FzL.adopt {a : Addr} {xs : List V} (h : FzL G (A.fence d) H a xs) : FzL G (A.more d) H a xs := h.imp (fun z => ⟨z.1, adopt_has z.2⟩) id
theorem FzT.adopt {a : Addr} {xs : List V} (h : FzT G (A.fence d) H a xs) : FzT G (A.more d) H a xs := h.imp (fun z => ⟨z.1, adopt_has z.2⟩) id
theorem FzO.adopt {a : Addr} {o : HO} (h : FzO (A.fence d) H a o) : FzO (A.more d) H a o := ⟨h.1, h.2.1, adopt_has h.2.2⟩
theorem FzI.adopt {a : Addr} {o : HO} (h : FzI (A.fence d) H a o) : FzI (A.more d) H a o := ⟨h.1, h.2.1, adopt_has h.2.2⟩
theorem ix_adopt {k : Nat} {a : Addr} (h : A.ix[k]? = some a) : (A.ix ++ [d])[k]? = some a := by
  rw [List.getElem?_append_left (List.getElem?_eq_some_iff.mp h).1]; exact h
mutual
theorem Rep.adopt : ∀ {v : V} {m : MV}, Rep G (A.fence d) H v m → Rep G (A.more d) H v m
  | _, _, .non => .non
  | _, _, .bl b => .bl b
  | _, _, .int i => .int i
  | _, _, .str s => .str s
  | _, _, .ty n => .ty n
  | _, _, .gl h => .gl h
  | _, _, .tup h r => .tup h.adopt (RepAll.adopt r)
  | _, _, .lst h n r => .lst h (adopt_has n) (RepAll.adopt r)
  | _, _, .obj h => .obj (ix_adopt h)
  | _, _, .scr h => .scr h.adopt
  | _, _, .ins c h l r => .ins c h.adopt l (RepAll.adopt r)
  | _, _, .dctL h z r => .dctL h.adopt z (RepAll.adopt r)
  | _, _, .dctN h ne z r q => .dctN h.adopt ne z (RepAll.adopt r) (RepAll.adopt q)
theorem RepAll.adopt : ∀ {vs : List V} {ms : List MV}, RepAll G (A.fence d) H vs ms → RepAll G (A.more d) H vs ms
  | _, _, .nil => .nil
  | _, _, .cons r rs => .cons (Rep.adopt r) (RepAll.adopt rs)
end
theorem SR.adopt {st : Sto} {mo : MO} (s : SR G (A.fence d) H st) (r : ObjR G (A.more d) H d mo) : SR G (A.more d) H (st ++ [mo]) where
  len := by have := s.len; simp at this ⊢; exact this
  nd := by
    have h1 := List.nodup_append.mp s.nd
    have h2 := List.nodup_cons.mp h1.2.1
    show ((A.ix ++ [d]) ++ A.fn).Nodup
    rw [List.nodup_append]
    refine ⟨?_, h2.2, fun a ha b hb e => ?_⟩
    · rw [List.nodup_append]
      refine ⟨h1.1, by simp, fun a ha b hb e => ?_⟩
      rw [List.mem_singleton.mp hb] at e
      exact h1.2.2 a ha d List.mem_cons_self e
    · subst e
      rcases List.mem_append.mp ha with ha | ha
      · exact h1.2.2 a ha a (List.mem_cons_of_mem _ hb) rfl
      · rw [List.mem_singleton.mp ha] at hb; exact h2.1 hb
  ob := fun k a o ha ho => by
    have ha : (A.ix ++ [d])[k]? = some a := ha
    by_cases hk : k < A.ix.length
    · rw [List.getElem?_append_left hk] at ha
      have hk' : k < st.length := by have := s.len; have e : A.ix.length = st.length := this; omega
      rw [List.getElem?_append_left hk'] at ho
      have q := s.ob k a o ha ho
      cases q with
      | lst h r => exact .lst h r.adopt
      | ins c h l r => exact .ins c h l r.adopt
      | dctL h z r => exact .dctL h z r.adopt
      | dctN h ne z r q => exact .dctN h ne z r.adopt q.adopt
    · have e : A.ix.length = st.length := s.len
      have hk' : k = A.ix.length := by
        have := (List.getElem?_eq_some_iff.mp ha).1
        simp at this
        omega
      subst hk'
      simp at ha
      rw [e] at ho
      simp at ho
      subst ha
      subst ho
      exact r
  ft := fun b m => s.ft b (List.mem_cons_of_mem _ m)
  tb := s.tb
  js := G.j.adopt s.js
theorem Ext.adopt {A1 : Ad} {H1 : Hp} (e : Ext A1 H1 A H) (hd : H1 d = none) : Ext A1 H1 (A.more d) H where
  pre := by
    obtain ⟨B, q⟩ := e.pre
    exact ⟨B ++ [d], by show A.ix ++ [d] = _; rw [q]; simp⟩
  fen := e.fen
  xsk := e.xsk
  keep := e.keep
  new := fun p m => by
    rcases m with m | m
    · rcases List.mem_append.mp m with m | m
      · exact e.new p (.inl m)
      · rw [List.mem_singleton.mp m]; exact .inr (none_no hd)
    · exact e.new p (.inr m)
  fk := e.fk
end
section
variable {X : Cx} {W : WX} {pos : Pos} {ks : List (Option Expr)} {vs : List Expr} {mr : MP}
theorem dispE {trs : List (TE × TE)} (h2 : ∀ σ H Q, tP (gmOf X) mr σ H Q → tPairs trs σ H Q) {A : Ad} {env : MEnv} {st st1 : Sto} {σ : St} {H : Hp} {Q : VK} {ps : List (MV × MV)} (s : SR (gmOf X) A H st) (q : EnvR (gmOf X) A H σ env)
    (e : mr env st = .ok ps st1) (hk : (keysOf (ps.map (·.1))).isSome = true) (hl : ps.length ≤ 15)
    (k : ∀ A1 H1 p (kvs : List (L2.Key × V)), H p = none → SR (gmOf X) (A1.fence p) (upd H1 p (.dK kvs)) st1 → Ext A H A1 (upd H1 p (.dK kvs)) → (dMake ps).1 = kvs.map (fun p => keyM p.1) → RepAll (gmOf X) (A1.fence p) (upd H1 p (.dK kvs)) (kvs.map (·.2)) (dMake ps).2 → Q (.ref p) (upd H1 p (.dK kvs))) :
    tDisp trs σ H Q := by
  intro p hp
  refine h2 σ _ _ ⟨A.fence p, env, st, s.fence hp _ nc_dK, q.fence _ hp, post_ok e fun A1 H1 pv x1 s1 ra rb => ?_⟩
  have efn : A1.fn = p :: A.fn := x1.fen
  obtain ⟨ix, fn, xs⟩ := A1
  subst efn
  have s1 : SR (gmOf X) ((⟨ix, A.fn, xs⟩ : Ad).fence p) H1 st1 := s1
  have x1 : Ext (A.fence p) (upd H p (.dK [])) ((⟨ix, A.fn, xs⟩ : Ad).fence p) H1 := x1
  have hp1 : H1 p = some (.dK []) := (x1.fk p List.mem_cons_self).trans upd_same
  obtain ⟨js, ej⟩ := Option.isSome_iff_exists.mp hk
  obtain ⟨kvs, z1, z2, z3, z4⟩ := keys_rep ej ra rb
  refine ⟨hp1, kvs, z1, by rw [z4]; exact hl, ?_⟩
  have mk := make_rep (acc := []) (xs := []) z2 z3 .nil
  have xx : Ext A H ⟨ix, A.fn, xs⟩ H1 := (Ext.laid s hp).trans (Ext.unfence s1 x1)
  exact k ⟨ix, A.fn, xs⟩ H1 p _ hp (s1.grow _ nc_dK) (Ext.grown _ s hp xx) mk.1 (mk.2.grow _)
theorem pm_disp (h : PMP X pos ks vs mr) (hall : ks.all (·.isSome) = true := by rfl) (hl : ks.length = vs.length := by rfl) (h0 : ks ≠ [] := by simp) (h15 : ks.length ≤ 15 := by decide) : PM X W (.Dict ks vs pos) (mDisp mr) := by
  obtain ⟨trs, h1, h2⟩ := h.ex
  refine PE_imp (pe_disp h1 hall hl h0 h15) fun σ H Q ⟨A, env, st, s, q, h⟩ => ?_
  unfold mDisp at h
  split at h
  · rename_i ps st1 e
    obtain ⟨hc, h⟩ := post_ite h
    refine dispE h2 s q e hc.1 hc.2 fun A1 H1 p kvs hp s1 x1 ek rk => ?_
    exact h A1 _ _ x1 s1.unfence (.dctL ⟨.inl upd_same, nt_dK, s1.fence_out⟩ ek rk.unfence)
  · exact h.elim
theorem pm_dispN (h : PMP X pos ks vs mr) (hall : ks.all (·.isSome) = true := by rfl) (hl : ks.length = vs.length := by rfl) (h0 : ks ≠ [] := by simp) (h15 : ks.length ≤ 15 := by decide) : PM X W (.Dict ks vs pos) (mDispN mr) := by
  obtain ⟨trs, h1, h2⟩ := h.ex
  refine PE_imp (pe_disp h1 hall hl h0 h15) fun σ H Q ⟨A, env, st, s, q, h⟩ => ?_
  unfold mDispN at h
  split at h
  · rename_i ps st1 e
    obtain ⟨hc, h⟩ := post_ite h
    refine dispE h2 s q e hc.1 hc.2 fun A1 H1 p kvs hp s1 x1 ek rk => ?_
    exact h (A1.more p) _ _ (x1.adopt hp) (s1.adopt (.dctL upd_same ek rk.adopt)) (.obj (by have := s1.len; have e : A1.ix.length = st1.length := this; show (A1.ix ++ [p])[st1.length]? = _; rw [← e]; simp))
  · exact h.elim
end
end MR

/-! o[i] = v; sorted(d); f'..'; a, b = a list; text.count; tuple(range(..)) -/
namespace MR
open PySem L2
variable [Tb]
open PySem.W (alike dataLt dataLe AllAlike Sortable EachIs)
section
variable {X : Cx} {W : WX} {pos pos2 : Pos}
theorem pms_setixG {o i e : Expr} {mo mi me : ME} (hu : X.A.units + 64 < cLine) (he : PM X W e me) (ho : PM X W o mo) (hi : PM X W i mi)
    (hs : swapsWithSole [.Subscript o i pos] e pos2.line X.env = pure false := by rfl) (hw : swappedStores [.Subscript o i pos] e X.env = pure none := by rfl)
    (h1 : (assignEach [.Subscript o i pos] X.env).map (·.2) = [assign (.Subscript o i pos) X.env] := by rfl)
    (ha : ∀ v, assign (.Subscript o i pos) X.env v = (do
      let ov ← holding [v] (eval o X.env)
      let iv ← holding [v, ov] (eval i X.env)
      standAt pos
      holding [v, ov, iv] (setItem ov iv v)
      release [v, ov, iv] []) := by intro _; rfl) : PMS X W (.Assign [.Subscript o i pos] e pos2) (sSetIxG mo mi me) :=
  PS_imp (ps_asg he (pg_sub ho hi (set_any hu) ha) hs hw h1) fun D σ H ⟨A, env, st, s, q, h⟩ => by
    refine inE s q (Ext.refl A H) ((post_bindE h).mono (fun mx st1 h1 A1 H1 x e1 s1 r1 => ?_) fun _ _ z => exP_of q z)
    obtain ⟨m, st2, eo, h2⟩ := post_noExcE h1
    refine inE s1 (q.ext e1) (Ext.refl A1 H1) (post_ok eo fun A2 H2 y e2 s2 r2 => ?_)
    obtain ⟨n, st3, ei, h3⟩ := post_noExcE h2
    refine inE s2 ((q.ext e1).ext e2) (Ext.refl A2 H2) (post_ok ei fun A3 H3 z e3 s3 r3 => ?_)
    split at h3
    · rename_i st4 es
      exact set_rep s3 (r2.ext e3) r3 ((r1.ext e2).ext e3) es fun H' e4 s4 => h3 A3 _ σ (((e1.trans e2).trans e3).trans e4) s4 ((((q.ext e1).ext e2).ext e3).ext e4)
    · exact h3.elim
end
/-! ### f'..' -/
def mFmt (a : ME) : ME := fun env st => (a env st).bind fun m st1 => match m with
  | .str y => if y.length ≤ 16777216 then .ok (.str y) st1 else .bad
  | .int i => if i.natAbs.log2 < 1920 then .ok (.str (Str.ofString (toString i))) st1 else .bad
  | _ => .bad
def joinE : List ME → Str → MEnv → Sto → Res Str
  | [], acc, _, st => .ok acc st
  | a :: r, acc, env, st => (a env st).bind fun m st1 => match m with
    | .str y => if (acc ++ y).length ≤ 16777216 then joinE r (acc ++ y) env st1 else .bad
    | _ => .bad
def mJs (l : List ME) : ME := fun env st => (joinE l Str.empty env st).bind fun y st1 => .ok (.str y) st1
inductive PMJ (X : Cx) (W : WX) : List Expr → List ME → Prop where
  | nil : PMJ X W [] []
  | cons {e : Expr} {m : ME} {es : List Expr} {ms : List ME} (h : PM X W e m) (r : PMJ X W es ms) : PMJ X W (e :: es) (m :: ms)
section
variable {X : Cx} {W : WX} {pos : Pos}
theorem pm_fmt {e : Expr} {m : ME} (he : PM X W e m) : PM X W (.FormattedValue e (-1) none pos) (mFmt m) := PE_imp (pe_fmt he) fun σ H Q ⟨A, env, st, s, q, h⟩ => by
  unfold mFmt at h
  rw [Res.post_bind] at h
  refine inE s q (Ext.refl A H) (h.mono (fun mx st1 h1 A1 H1 x e1 s1 r1 => ?_) fun _ _ z => z)
  split at h1
  · obtain ⟨hl, k⟩ := post_ite h1
    exact .inl ⟨_, r1.str_inv, line_of hl, k A1 H1 _ e1 s1 (.str _)⟩
  · obtain ⟨hl, k⟩ := post_ite h1
    exact .inr ⟨_, r1.int_inv, hl, k A1 H1 _ e1 s1 (.str _)⟩
  · exact h1.elim
theorem pmj_js {es : List Expr} {ms : List ME} (h : PMJ X W es ms) : PJ X es (ms.map (tE (gmOf X) W)) := by
  induction h with
  | nil => exact .nil
  | cons h r ih => exact .cons h ih
theorem join_run {ms : List ME} : ∀ (acc : Str) {A A0 : Ad} {H H0 : Hp} {σ : L2.St} {env : MEnv} {st : Sto} {Q : Str → Hp → Prop}, SR (gmOf X) A H st → EnvR (gmOf X) A H σ env → Ext A0 H0 A H →
    (joinE ms acc env st).post (fun y st' => ∀ A' H', Ext A H A' H' → SR (gmOf X) A' H' st' → Q y H') (exP (gmOf X) A0 H0 (WE W σ)) → tJs (ms.map (tE (gmOf X) W)) acc σ H Q := by
  induction ms with
  | nil => intro acc A A0 H H0 σ env st Q s q e0 h; exact h A H (Ext.refl A H) s
  | cons m ms ih =>
    intro acc A A0 H H0 σ env st Q s q e0 h
    simp only [joinE] at h
    rw [Res.post_bind] at h
    refine inE s q e0 (h.mono (fun mx st1 h1 A1 H1 x e1 s1 r1 => ?_) fun _ _ z => z)
    split at h1
    · obtain ⟨hl, k⟩ := post_ite h1
      refine ⟨_, r1.str_inv, line_of hl, ih _ s1 (q.ext e1) (e0.trans e1) (k.mono (fun y st' hy A' H' x' s' => hy A' H' (e1.trans x') s') fun _ _ z => z)⟩
    · exact h1.elim
theorem pm_joined {v1 v2 : Expr} {rest : List Expr} {ms : List ME} (h : PMJ X W (v1 :: v2 :: rest) ms) : PM X W (.JoinedStr (v1 :: v2 :: rest) pos) (mJs ms) := PE_imp (pe_joined (pmj_js h)) fun σ H Q ⟨A, env, st, s, q, h⟩ => by
  unfold mJs at h
  rw [Res.post_bind] at h
  exact join_run Str.empty s q (Ext.refl A H) (h.mono (fun y st' hy A' H' x s' => hy A' H' _ x s' (.str _)) fun _ _ z => z)
theorem pm_joined1 {e : Expr} {m : ME} (h : PM X W e m) : PM X W (.JoinedStr [e] pos) m := pe_joined1 h
end
/-! ### a, b, .. of a tuple or a list -/
def gTL (n : Nat) (gs : MTgs) : MTg := fun m env st => match itemsOf m st with
  | some xs => if xs.length = n then gs xs env st else none
  | none => none
theorem PG_or {X : Cx} {e : Expr} {t t' u : TG} (h : PG X e t) (h' : PG X e t') (i : ∀ v σ H Q, u v σ H Q → t v σ H Q ∨ t' v σ H Q) : PG X e u := ⟨fun pins s σ H v w Q I r q =>
  (i v σ H Q q).elim (h.run pins s σ H v w Q I r) (h'.run pins s σ H v w Q I r)⟩
theorem pmg_tupL {X : Cx} {pos : Pos} {es : List Expr} {gs : MTgs} {k n : Nat} (h : PMGs X es gs) (hc : X.calm = true := by rfl) (hn : (assignEach es X.env).length = n := by rfl) (hst : (assignEach es X.env).findIdx? (·.1) = none := by rfl) : PMG X (.Tuple es k pos) (gTL n gs) :=
  PG_or (pg_tup hc h hn hst) (pg_unl hc h hn hst) fun v σ H Q ⟨A, env, st, m, s, q, r, env', st', e1, k⟩ => by
    unfold gTL at e1
    split at e1
    · rename_i xs ei
      obtain ⟨a, vs, ev, sq, rv⟩ := items_rep s r ei
      by_cases hl : xs.length = n
      · rw [if_pos hl] at e1
        rcases sq with sq | sq
        · exact .inl ⟨a, vs, ev, sq, by rw [rv.length]; exact hl, A, env, st, xs, s, q, rv, env', st', e1, k⟩
        · exact .inr ⟨a, vs, ev, sq, by rw [rv.length]; exact hl, A, env, st, xs, s, q, rv, env', st', e1, k⟩
      · rw [if_neg hl] at e1; cases e1
    · cases e1
/-! ### text.count -/
def gCount : MV → List MV → Sto → Res MV := fun x ms st => match x, ms with
  | .str a, [.str b] => .ok (.int (PySem.Txt.count a b)) st
  | _, _ => .bad
theorem oCount {G : Gm} : OpMt G (fun x xs H Q => ∃ a b, x = .str a ∧ xs = [.str b] ∧ Q (.int (PySem.Txt.count a b)) H) gCount := by
  intro A H st x mx xs ms Q m st' s rx r h k
  unfold gCount at h
  split at h
  · cases h
    cases r with
    | cons r rs => cases rs; exact ⟨_, _, rx.str_inv, by rw [r.str_inv], fin0 s (.int _) k⟩
  · cases h
/-! ### sorted(d) -/
mutual
theorem reads_lt {h : Heap} : ∀ {v : Value} {d : PyData} {as : List Addr}, Reads h v d as → ∀ a ∈ as, a < h.objs.size
  | _, _, _, .none, a, m => by cases m
  | _, _, _, .bool _, a, m => by cases m
  | _, _, _, .int _ _, a, m => by cases m
  | _, _, _, .str _ _, a, m => by cases m
  | _, _, _, .list e _ _ r, a, m => by
    rcases List.mem_cons.mp m with z | m
    · rw [z]; exact Heap.lt_size e
    · exact readsAll_lt r a m
  | _, _, _, .tuple e _ _ r, a, m => readsAll_lt r a m
  | _, _, _, .dict e _ _ r q, a, m => by
    rcases List.mem_cons.mp m with z | m
    · rw [z]; exact Heap.lt_size e
    · rcases List.mem_append.mp m with m | m
      · exact readsAll_lt r a m
      · exact readsAll_lt q a m
theorem readsAll_lt {h : Heap} : ∀ {vs : List Value} {ds : List PyData} {as : List Addr}, ReadsAll h vs ds as → ∀ a ∈ as, a < h.objs.size
  | _, _, _, .nil, a, m => by cases m
  | _, _, _, .cons r rs, a, m => by
    rcases List.mem_append.mp m with m | m
    · exact reads_lt r a m
    · exact readsAll_lt rs a m
end
def DKeys (G : Gm) (H : Hp) (a : Addr) (ks : List V) : Prop := (∃ kvs : List (L2.Key × V), H a = some (.dK kvs) ∧ ks = kvs.map fun p => kV p.1) ∨ (∃ es, H a = some (DNO G a es) ∧ ks = es.map fun e => V.ref e.2.1)
def rSortK (G : Gm) : List V → Hp → VK → Prop := fun xs H Q => ∃ (a : Addr) (bs : List (V × PyData)), xs = [.ref a] ∧ DKeys G H a (bs.map (·.1)) ∧ (∀ b ∈ bs, Dp G.K H b.1 b.2) ∧
  AllAlike (bs.map (·.2)) ∧ Sortable (bs.map (·.2)) ∧ (∀ b ∈ bs, b.2.depth ≤ 60) ∧ bs.length ≤ sizeLine ∧ ∀ p, H p = none → Q (.ref p) (upd H p (.lst ((bs.mergeSort (dataLe false (·.2))).map (·.1))))
theorem vals_get {ks : List V} : ∀ {acc : List Value}, acc.length = ks.length → (∀ (j : Nat) (v : Value), acc[j]? = some v → ∃ k : V, ks[j]? = some k ∧ RelV k v) → Vals ks acc := by
  induction ks with
  | nil => intro acc h _; rw [List.length_eq_zero_iff.mp h]; exact .nil
  | cons k ks ih =>
    intro acc h hg
    cases acc with
    | nil => cases h
    | cons u acc =>
      obtain ⟨k', e, r⟩ := hg 0 u rfl
      cases e
      exact .cons r (ih (by simpa using h) fun j v hj => hg (j + 1) v (by simpa using hj))
theorem dkeys_raw {X : Cx} {pins : List (Addr × Obj)} {σ : L2.St} {H : Hp} {s : Shared} {a : Addr} {ks : List V} (I : L2.Inv X pins σ H s) (h : DKeys (gmOf X) H a ks) :
    (a == sysModules) = false ∧ ∃ es ep, s.heap.DictRaw a es ep ∧ es.size = ks.length ∧ ∀ i (hi : i < es.size), ∃ k, ks[i]? = some k ∧ RelV k es[i].key := by
  rcases h with ⟨kvs, h, rfl⟩ | ⟨es, h, rfl⟩
  · obtain ⟨z, d, vs, rel, dd⟩ := I.hok a _ h
    refine ⟨d, ?_⟩
    obtain ⟨es, ep, hr, hs, hk⟩ := dd.raw
    have hl : kvs.length = vs.length := rel.length
    refine ⟨es, ep, hr, by rw [hs]; simp [hl], fun i hi => ?_⟩
    have hi' : i < vs.length := by omega
    have hv : vs[i]? = some (vs[i].1, vs[i].2) := by rw [List.getElem?_eq_getElem hi']
    obtain ⟨k1, _⟩ := hk i hi _ _ hv
    have hkk : (kvs.map (·.1))[i]? = some vs[i].1 := by rw [rel.keys, List.getElem?_map, List.getElem?_eq_getElem hi']; rfl
    rw [List.getElem?_map] at hkk
    cases e : kvs[i]? with
    | none => rw [e] at hkk; cases hkk
    | some p =>
      rw [e] at hkk
      have hp : p.1 = vs[i].1 := Option.some.inj hkk
      refine ⟨kV p.1, by rw [List.getElem?_map, e]; rfl, ?_⟩
      rw [hp]
      rcases keyIs_shape (show keyIs vs[i].1 es[i].key = true from k1) with ⟨n, t, ek, ev⟩ | ⟨n, t, ek, ev⟩
      · rw [ek, ev]; exact ⟨t, rfl⟩
      · rw [ek, ev]; exact ⟨t, rfl⟩
  · obtain ⟨⟨d, z, xs, r, o, es', ep, ho, hx, hd, he, hnd⟩, _, _⟩ := I.hok a _ h
    refine ⟨d, es', ep, ⟨o, ho, hx, hd⟩, ?_, fun i hi => ?_⟩
    · have := congrArg List.length he
      simp at this
      rw [this, List.length_map]
      exact (Paired.length r).symm
    · have hl : es'.size = xs.length := by have := congrArg List.length he; simpa using this
      have hi' : i < xs.length := by omega
      have hi2 : i < es.length := by rw [Paired.length r]; exact hi'
      have e1 : es'.toList[i]? = (xs.map (entryOfKey (nestedKind X.prog X.w)))[i]? := by rw [he]
      rw [List.getElem?_map, List.getElem?_eq_getElem hi', Array.getElem?_toList, Array.getElem?_eq_getElem hi] at e1
      have e2 : es'[i] = entryOfKey (nestedKind X.prog X.w) xs[i] := Option.some.inj e1
      have pr : ∀ {es : List (NestedKey × Addr × V)} {xs : List (NestedKey × Addr × Value)}, Paired RE es xs → ∀ i (h1 : i < es.length) (h2 : i < xs.length), RE es[i] xs[i] := by
        intro es xs r
        induction r with
        | nil => intro i h1; cases h1
        | cons r t ih =>
          intro i h1 h2
          cases i with
          | zero => exact r
          | succ i => exact ih i (by simpa using h1) (by simpa using h2)
      have q := pr r i hi2 hi'
      refine ⟨.ref es[i].2.1, by rw [List.getElem?_map, List.getElem?_eq_getElem hi2]; rfl, ?_⟩
      rw [e2]
      show Value.ref xs[i].2.1 = Value.ref es[i].2.1
      rw [q.2.1]
theorem cr_sortK {X : Cx} (hu : X.A.units + 64 < cLine) (hcalm : X.calm = true) : CallR X (.builtin "sorted") (rSortK (gmOf X)) := by
  intro pins s σ H xs us Q I r h
  obtain ⟨a, bs, rfl, hd, hdp, hal, hk, hdep, hz, q⟩ := h
  rw [Vals.ref1 r]
  obtain ⟨lo, es, ep, hraw, hsz, hat⟩ := dkeys_raw I hd
  have hl : es.size = bs.length := by rw [hsz]; simp
  refine Calls.call_function_entry PyProof.Rows.kind_sorted PyProof.Rows.plain_sorted PyProof.Rows.entry_sorted (PyProof.Rows.args_sorted1 _) ?_
  unfold Builtin.«sorted»
  refine wpAny_bind (m := checkCount "sorted" 1 1 _) (wpAny_pure ?_)
  refine wpAny_bind (PySem.W.kdu_collect (A := X.A.in1) (PySem.KdlSrc.rawDict (es := es) (ep := ep) lo) (I.ok.hd hcalm) hraw (by rw [hl]; exact hz) fun h' tk acc hkp hacc => ?_)
  have I1 : L2.Inv X pins σ H { s with heap := h', toks := tk } := I.kept hkp
  have hv : Vals (bs.map (·.1)) acc.toList := vals_get (by rw [Array.length_toList, hacc.1, hsz]) fun j v hj => by
    obtain ⟨hi, e⟩ := hacc.2 j v (by rw [← Array.getElem?_toList]; exact hj)
    obtain ⟨k, h1, h2⟩ := hat j hi
    exact ⟨k, h1, by rw [e]; exact h2⟩
  have hal' : acc.toList.length = bs.length := by rw [Array.length_toList, hacc.1, hl]
  refine wpAny_bind (wpAny_newList ?_ (by rw [hal']; exact hz))
  have hoL : (h'.push (PyProof.Rows.seqObj "list" acc.toList.toArray 0)).get? h'.objs.size = some (PyProof.Rows.seqObj "list" acc.toList.toArray 0) := Heap.get?_push_size _ rfl
  show wpAny _ _ _ _ _ { s with heap := h'.push (PyProof.Rows.seqObj "list" acc.toList.toArray 0), toks := tk }
  have I2 : L2.Inv X pins σ H { s with heap := h'.push (PyProof.Rows.seqObj "list" acc.toList.toArray 0), toks := tk } := I1.kept (t' := tk) fun b o e => Heap.get?_push_of_some _ e
  have e := each_of hv
  have er : EachIs (fun u (b : V × PyData) => ∃ as, Reads (h'.push (PyProof.Rows.seqObj "list" acc.toList.toArray 0)) u b.2 as ∧ h'.objs.size ∉ as) acc.toList bs := (each_mem e).mono fun u b ⟨rb, hb⟩ => by
    obtain ⟨as, ra⟩ := Dp.reads I1 b.2 b.1 u (hdp b hb) rb
    refine ⟨as, PyProof.Rows.Reads.keeps (fun _ _ z => Heap.get?_push_of_some _ z) ra, fun m => ?_⟩
    exact absurd (reads_lt ra _ m) (Nat.lt_irrefl _)
  refine wpAny_bind (wpAny_holding (PySem.W.list_sort_data (s := { s with heap := h'.push (PyProof.Rows.seqObj "list" acc.toList.toArray 0), toks := tk }) (R := fun u (b : V × PyData) => RelV b.1 u) (enc := fun b : V × PyData => b.2) (bs := bs) (vs := acc.toList) hoL e er hal hk hz (fun b hb => by have := hdep b hb; show X.A.units + 1 + 1 + b.2.depth < cLine; omega) fun out hlen ho => ?_))
  obtain ⟨e', he'⟩ := PyProof.Rows.sortedHeap_at (vs := acc.toList) (out := List.toArray out) hoL
  refine wpAny_pure ⟨_, rfl, .ref h'.objs.size, upd H h'.objs.size (.lst ((bs.mergeSort (dataLe false (·.2))).map (·.1))), I1.laid (t' := tk) (fun b u e => ?_) (Nat.le_refl _)
    (show ObjOk X.prog X.w _ _ _ (.lst ((bs.mergeSort (dataLe false (·.2))).map (·.1))) from ⟨by rw [List.length_map, List.length_mergeSort]; exact hz, out, e', each_vals ho, he'⟩), rfl, q _ (I1.hok.fresh (Nat.le_refl _))⟩
  have hb : b < h'.objs.size := Heap.lt_size e
  rw [PyProof.Rows.sortedHeap_old (Nat.ne_of_lt hb) (by show b < (h'.push _).objs.size; rw [show (h'.push (PyProof.Rows.seqObj "list" acc.toList.toArray 0)).objs.size = h'.objs.size + 1 from by simp [Heap.push]]; exact Nat.lt_succ_of_lt hb)]
  exact Heap.get?_push_of_some _ e
/-- sorted(a list, or a dict of the store) -/
def keysM (m : MV) (st : Sto) : Option (List MV) := match m with
  | .obj k => match st[k]? with
    | some (.dict ks _) => some ks
    | _ => none
  | _ => none
def gSortedG : List MV → Sto → Res MV := fun ms st => match ms with
  | [m] => match listOf m st with
    | some xs => gSorted [m] st
    | none => match keysM m st with
      | some ks => match toDs ks with
        | some ds => if sortOk ds = true then .ok (.lst (sortD ks ds)) st else .bad
        | none => .bad
      | none => .bad
  | _ => .bad
theorem dkeys_of {G : Gm} {A : Ad} {H : Hp} {a : Addr} {ks xs : List MV} (h : ObjR G A H a (.dict ks xs)) : ∃ vs, DKeys G H a vs ∧ RepAll G A H vs ks := by
  rcases obj_dict h with ⟨kvs, h1, h2, h3⟩ | ⟨es, h1, _, h2, h3, h4⟩
  · subst h2
    refine ⟨_, .inl ⟨kvs, h1, rfl⟩, RepAll.map_of (fun p => ?_) kvs⟩
    obtain ⟨k, v⟩ := p
    cases k with
    | inl i => exact .int i
    | inr x => exact .str x
  · exact ⟨_, .inr ⟨es, h1, rfl⟩, h3⟩
theorem oSortedG {G : Gm} : OpN G (fun xs H Q => rSortD G.K xs H Q ∨ rSortK G xs H Q) gSortedG := by
  intro A H st xs ms Q m st' s r h k
  unfold gSortedG at h
  split at h
  · split at h
    · exact .inl (oSorted s r h k)
    · split at h
      · rename_i ks e1
        split at h
        · rename_i ds e2
          obtain ⟨hl, h⟩ := ite_ok h
          cases h
          cases r with
          | cons r rs =>
            cases rs
            unfold keysM at e1
            split at e1
            · split at e1
              · rename_i ks' xs' ek
                cases e1
                cases r with
                | @obj a _ hk =>
                  obtain ⟨vs, dk, rv⟩ := dkeys_of (s.ob _ a _ hk ek)
                  have dp := RepAll.dp ks rv e2
                  obtain ⟨z1, z2, z3⟩ := dp_zip (G := G) dp
                  obtain ⟨k1, k2, k3, k4⟩ := sortOk_is hl
                  have hll : (vs.zip ds).length = ds.length := by rw [← z2]; simp
                  refine .inr ⟨a, vs.zip ds, rfl, by rw [z1]; exact dk, z3, by rw [z2]; exact k1, by rw [z2]; exact k2, fun b hb => k3 _ (by rw [← z2]; exact List.mem_map_of_mem hb), by rw [hll]; exact k4, ?_⟩
                  exact fin_lst s (sort_rep rv (toDs_len e2)) k
              · cases e1
            · cases e1
        · cases h
      · cases h
  · cases h
theorem CallR.or {X : Cx} {f : Value} {r r' : List V → Hp → VK → Prop} (h : CallR X f r) (h' : CallR X f r') : CallR X f (fun xs H Q => r xs H Q ∨ r' xs H Q) := fun pins s σ H xs us Q I rv q =>
  q.elim (h pins s σ H xs us Q I rv) (h' pins s σ H xs us Q I rv)
theorem cr_sortG {X : Cx} (hu : X.A.units + 64 < cLine) (hcalm : X.calm = true := by rfl) : CallR X (.builtin "sorted") (fun xs H Q => rSortD X.K xs H Q ∨ rSortK (gmOf X) xs H Q) := CallR.or (cr_sortD hu) (cr_sortK hu hcalm)
/-! ### tuple(range(..)) is a walk: a comprehension's source -/
end MR

/-! tuple(range(n)), list(range(n)) -/
namespace MR
open PySem L2
variable [Tb]
def mTupRg (a : ME) : ME := fun env st => (a env st).bind fun m st1 => match m with
  | .int n => if n ≤ 16777216 ∧ -16777216 ≤ n then .ok (.tup (rngL 0 n.toNat)) st1 else .bad
  | _ => .bad
def mLstRg (a : ME) : ME := fun env st => (a env st).bind fun m st1 => match m with
  | .int n => if n ≤ 16777216 ∧ -16777216 ≤ n then .ok (.lst (rngL 0 n.toNat)) st1 else .bad
  | _ => .bad
theorem rg_rep {G : Gm} {A : Ad} {H : Hp} (n : Int) : RepAll G A H (rgV 0 n) (rngL 0 n.toNat) := by
  unfold rgV rngL
  rw [show n - 0 = n by omega]
  exact RepAll.map_of (fun i => .int _) _
section
variable {X : Cx} {W : WX} {a : Expr} {ma : ME} {p p2 pos pos2 : Pos}
theorem pm_tupRg (hc : X.calm = true) (hm : X.mg "tuple" = none) (hm2 : X.mg "range" = none) (ha : PM X W a ma) (hg : Gl X "tuple" := by rfl) (hg2 : Gl X "range" := by rfl) (na : starEach [a] X.env = (false, eval a X.env) :: starEach [] X.env := by rfl)
    (na2 : starEach [.Call (.Name "range" p2) [a] [] pos2] X.env = (false, eval (.Call (.Name "range" p2) [a] [] pos2) X.env) :: starEach [] X.env := by rfl) : PM X W (.Call (.Name "tuple" p) [.Call (.Name "range" p2) [a] [] pos2] [] pos) (mTupRg ma) :=
  PE_imp (pe_tupRg hc hg hm (prg_1 hg2 hm2 ha na) na2) fun σ H Q ⟨A, env, st, s, q, h⟩ => by
    unfold mTupRg at h
    rw [Res.post_bind] at h
    refine inE s q (Ext.refl A H) (h.mono (fun mx st1 h1 A1 H1 x e1 s1 r1 => ?_) fun _ _ z => z)
    split at h1
    · obtain ⟨hl, k⟩ := post_ite h1
      exact ⟨_, r1.int_inv, ⟨by omega, by omega, by omega, by omega, by omega⟩, fin_tup s1 (rg_rep _) (okP.ext e1 k)⟩
    · exact h1.elim
theorem pm_lstRg (hc : X.calm = true) (hm : X.mg "list" = none) (hm2 : X.mg "range" = none) (ha : PM X W a ma) (hg : Gl X "list" := by rfl) (hg2 : Gl X "range" := by rfl) (na : starEach [a] X.env = (false, eval a X.env) :: starEach [] X.env := by rfl)
    (na2 : starEach [.Call (.Name "range" p2) [a] [] pos2] X.env = (false, eval (.Call (.Name "range" p2) [a] [] pos2) X.env) :: starEach [] X.env := by rfl) : PM X W (.Call (.Name "list" p) [.Call (.Name "range" p2) [a] [] pos2] [] pos) (mLstRg ma) :=
  PE_imp (pe_listRg hc hg hm (prg_1 hg2 hm2 ha na) na2) fun σ H Q ⟨A, env, st, s, q, h⟩ => by
    unfold mLstRg at h
    rw [Res.post_bind] at h
    refine inE s q (Ext.refl A H) (h.mono (fun mx st1 h1 A1 H1 x e1 s1 r1 => ?_) fun _ _ z => z)
    split at h1
    · obtain ⟨hl, k⟩ := post_ite h1
      exact ⟨_, r1.int_inv, ⟨by omega, by omega, by omega, by omega, by omega⟩, fin_lst s1 (rg_rep _) (okP.ext e1 k)⟩
    · exact h1.elim
end
end MR

/-! plain facts about mirrors: runs, comprehensions, texts, numbers -/
namespace MR
open PySem L2 TL
variable [Tb]

section
variable {α β : Type} {env : MEnv} {st : Sto} {a b : ME} {r : MA} {t u : MT} {s1 s2 : MS}
@[simp] theorem bind_ok (x : α) (f : α → Sto → Res β) : (Res.ok x st).bind f = f x st := rfl
@[simp] theorem bind_exc (c : Ex) (f : α → Sto → Res β) : (Res.exc c st : Res α).bind f = .exc c st := rfl
@[simp] theorem bind_bad (f : α → Sto → Res β) : (Res.bad : Res α).bind f = .bad := rfl
@[simp] theorem noExc_ok (m : MV) : noExc (.ok m st) = .ok m st := rfl
@[simp] theorem noExc_exc (c : Ex) : noExc (.exc c st) = .bad := rfl
@[simp] theorem noExc_bad : noExc .bad = .bad := rfl
@[simp] theorem bindE_ok (x : α) (f : α → Sto → Flw) : bindE (Res.ok x st) env f = f x st := rfl
@[simp] theorem bindE_exc (c : Ex) (f : α → Sto → Flw) : bindE (Res.exc c st : Res α) env f = .exc c env st := rfl
@[simp] theorem bindE_bad (f : α → Sto → Flw) : bindE (Res.bad : Res α) env f = .bad := rfl
@[simp] theorem e_C (m : MV) : mC m env st = .ok m st := rfl
@[simp] theorem e_var (i : Nat) : mVar i env st = match env[i]? with | some (some m) => .ok m st | _ => .bad := rfl
@[simp] theorem e_2 (g : G2) : m2 g a b env st = (a env st).bind fun x st1 => (b env st1).bind fun y st2 => noExc (g x y st2) := rfl
@[simp] theorem e_1 (g : MV → Sto → Res MV) : m1 g a env st = (a env st).bind fun x st1 => noExc (g x st1) := rfl
@[simp] theorem e_B : mB a env st = (a env st).bind toB := rfl
@[simp] theorem e_toB (k : Bool) : toB (.bl k) st = .ok k st := rfl
@[simp] theorem e_andT : mAndT t u env st = (t env st).bind fun x st1 => if x = true then u env st1 else .ok false st1 := rfl
@[simp] theorem e_orT : mOrT t u env st = (t env st).bind fun x st1 => if x = true then .ok true st1 else u env st1 := rfl
@[simp] theorem e_notT : mNotT t env st = (t env st).bind fun x st1 => .ok (!x) st1 := rfl
@[simp] theorem e_and : mAnd a b env st = (a env st).bind fun x st1 => (toB x st1).bind fun x st1 => if x = true then b env st1 else .ok (.bl false) st1 := rfl
@[simp] theorem e_or : mOr a b env st = (a env st).bind fun x st1 => (toB x st1).bind fun x st1 => if x = true then .ok (.bl true) st1 else b env st1 := rfl
@[simp] theorem e_not : mNot a env st = (a env st).bind fun x st1 => (toB x st1).bind fun x st1 => .ok (.bl (!x)) st1 := rfl
@[simp] theorem e_if : mIf t a b env st = (t env st).bind fun x st1 => if x = true then a env st1 else b env st1 := rfl
@[simp] theorem e_chain (g g' : G2) (c : ME) : mChain g g' a b c env st = (a env st).bind fun x st1 => (b env st1).bind fun y st2 => (noExc (g x y st2)).bind fun z st3 => (toB z st3).bind fun k st4 => if k = true then (c env st4).bind fun w st5 => noExc (g' y w st5) else .ok (.bl false) st4 := rfl
@[simp] theorem e_nil : aNil env st = .ok [] st := rfl
@[simp] theorem e_cons : aCons a r env st = (a env st).bind fun x st1 => (r env st1).bind fun xs st2 => .ok (x :: xs) st2 := rfl
@[simp] theorem e_star : aStar a r env st = (a env st).bind fun x st1 => match itemsOf x st1 with | some ys => (r env st1).bind fun xs st2 => .ok (ys ++ xs) st2 | none => .bad := rfl
@[simp] theorem e_tup : mTup r env st = (r env st).bind fun xs st1 => if xs.length ≤ 16777216 then .ok (.tup xs) st1 else .bad := rfl
@[simp] theorem e_lst : mLst r env st = (r env st).bind fun xs st1 => if xs.length ≤ 16777216 then .ok (.lst xs) st1 else .bad := rfl
@[simp] theorem e_lstN : mLstN r env st = (r env st).bind fun xs st1 => if xs.length ≤ 16777216 then .ok (.obj st1.length) (st1 ++ [.lst xs]) else .bad := rfl
@[simp] theorem e_call (g : List MV → Sto → Res MV) : mCall g r env st = (r env st).bind fun xs st1 => noExc (g xs st1) := rfl
@[simp] theorem e_meth (c : MV → Sto → Bool) (g : MV → List MV → Sto → Res MV) : mMethT c g a r env st = (a env st).bind fun x st1 => if c x st1 = true then (r env st1).bind fun xs st2 => noExc (g x xs st2) else .bad := rfl
@[simp] theorem e_fn (n : Nat) (f : FM) : mFn n f r env st = (r env st).bind fun xs st1 => if xs.length = n then f xs st1 else .bad := rfl
@[simp] theorem e_oN : oNone env st = .ok none st := rfl
@[simp] theorem e_oS : oSome a env st = (a env st).bind fun x st1 => match x with | .int i => .ok (some i) st1 | _ => .bad := rfl
@[simp] theorem e_sl (g : GSl) (lo hi : MOp) : mSl g a lo hi env st = (a env st).bind fun x st1 => (lo env st1).bind fun l st2 => (hi env st2).bind fun u st3 => noExc (g x l u st3) := rfl
@[simp] theorem e_lc (mi : MA) (own : List Nat) (tg : Tgt) (tst : MT) (elt : ME) : mLc mi own tg tst elt env st = (mi env st).bind fun ys st1 => (compM tg tst elt ys (wipeM env own) [] st1).bind fun zs st2 => .ok (.lst zs) st2 := rfl
@[simp] theorem e_lcX (mi : MA) (own : List Nat) (tg : Tgt) (tst : MT) (elt : ME) : mLcX mi own tg tst elt env st = (mi env st).bind fun ys st1 => (compX tg tst elt ys (wipeM env own) [] st1).bind fun zs st2 => .ok (.lst zs) st2 := rfl
@[simp] theorem i_all : iAll a env st = (a env st).bind fun m st' => match m with | .str z => .ok (z.cps.toList.map fun c => .str ⟨#[c]⟩) st' | m => match frozen m with | some xs => .ok xs st' | none => .bad := rfl
@[simp] theorem i_zip : iZipM r env st = (r env st).bind fun ms st' => match ms with | [a, b] => (match srcOf a, srcOf b with | some xs, some ys => .ok (zipM xs ys) st' | _, _ => .bad) | _ => .bad := rfl
@[simp] theorem i_enum : iEnumM r env st = (r env st).bind fun ms st' => match ms with | [a] => (match srcOf a with | some xs => .ok (enumFrom 0 xs) st' | none => .bad) | _ => .bad := rfl
@[simp] theorem src_str (z : Str) : srcOf (.str z) = some (z.cps.toList.map fun c => .str ⟨#[c]⟩) := rfl
@[simp] theorem src_tup (xs : List MV) : srcOf (.tup xs) = some xs := rfl
@[simp] theorem src_lst (xs : List MV) : srcOf (.lst xs) = some xs := rfl
@[simp] theorem fr_tup (xs : List MV) : frozen (.tup xs) = some xs := rfl
@[simp] theorem fr_lst (xs : List MV) : frozen (.lst xs) = some xs := rfl
@[simp] theorem it_tup (xs : List MV) : itemsOf (.tup xs) st = some xs := rfl
@[simp] theorem it_lst (xs : List MV) : itemsOf (.lst xs) st = some xs := rfl
@[simp] theorem wipe_nil : wipeM env [] = env := rfl
@[simp] theorem wipe_cons (i : Nat) (l : List Nat) : wipeM env (i :: l) = (wipeM env l).set i none := rfl
@[simp] theorem s_next : sNext env st = .nx env st := rfl
@[simp] theorem s_seq : sSeq s1 s2 env st = match s1 env st with | .nx env' st' => s2 env' st' | r => r := rfl
@[simp] theorem s_set (i : Nat) : sSet i a env st = bindE (a env st) env fun m st' => .nx (env.set i (some m)) st' := rfl
@[simp] theorem s_expr : sExpr a env st = bindE (a env st) env fun _ st' => .nx env st' := rfl
@[simp] theorem s_ret : sRet a env st = bindE (a env st) env fun m st' => .rt m st' := rfl
@[simp] theorem s_if : sIf t s1 s2 env st = bindE (t env st) env fun k st' => if k = true then s1 env st' else s2 env st' := rfl
@[simp] theorem s_raise (x : Str) : sRaise x env st = .exc ⟨x, [], []⟩ env st := rfl
@[simp] theorem s_asg (g : MTg) : sAsg g a env st = bindE (a env st) env fun m st' => match g m env st' with | some (env', st'') => .nx env' st'' | none => .bad := rfl
@[simp] theorem s_par (i j : Nat) : sPar i j r env st = bindE (r env st) env fun xs st1 => match xs with | [x, y] => .nx ((env.set i (some x)).set j (some y)) st1 | _ => .bad := rfl
@[simp] theorem s_for (mi : MA) (g : MTg) : sFor mi g s1 env st = bindE (mi env st) env fun ys st1 => forM g s1 ys env st1 := rfl
@[simp] theorem g_N (i : Nat) (m : MV) : gN i m env st = some (env.set i (some m), st) := rfl
@[simp] theorem g_TL (n : Nat) (gs : MTgs) (m : MV) : gTL n gs m env st = match itemsOf m st with | some xs => if xs.length = n then gs xs env st else none | none => none := rfl
@[simp] theorem g_nilM : gNilM [] env st = some (env, st) := rfl
@[simp] theorem e_fmt : mFmt a env st = (a env st).bind fun m st1 => match m with | .str y => if y.length ≤ 16777216 then .ok (.str y) st1 else .bad | .int i => if i.natAbs.log2 < 1920 then .ok (.str (Str.ofString (toString i))) st1 else .bad | _ => .bad := rfl
@[simp] theorem e_js (l : List ME) : mJs l env st = (joinE l Str.empty env st).bind fun y st1 => .ok (.str y) st1 := rfl
@[simp] theorem j_nil (acc : Str) : joinE [] acc env st = .ok acc st := rfl
@[simp] theorem j_cons (l : List ME) (acc : Str) : joinE (a :: l) acc env st = (a env st).bind fun m st1 => match m with | .str y => if (acc ++ y).length ≤ 16777216 then joinE l (acc ++ y) env st1 else .bad | _ => .bad := rfl
@[simp] theorem e_dictN : mDictN env st = .ok (.obj st.length) (st ++ [.dict [] []]) := rfl
@[simp] theorem s_setixG (c : ME) : sSetIxG a b c env st = bindE (c env st) env fun v st1 => bindE (noExc (a env st1)) env fun m st2 => bindE (noExc (b env st2)) env fun n st3 => match setAtG m n v st3 with | some st4 => .nx env st4 | none => .bad := rfl
@[simp] theorem g_star (g1 g2 : MTg) (m : MV) : gStar g1 g2 m env st = match itemsOf m st with | some (x :: xs) => if xs.length < 16384 then (g1 x env st).bind fun p => g2 (.lst xs) p.1 p.2 else none | _ => none := rfl
end
/-- a comprehension of plain values -/
theorem compM_map {t : Tgt} {elt : ME} {g : MV → MV} {env : MEnv} {st : Sto} : ∀ {ys acc : List MV}, (∀ y ∈ ys, ∃ env1, t.bind y env = some env1 ∧ elt env1 st = .ok (g y) st) → acc.length + ys.length ≤ 16777216 →
    compM t tYesM elt ys env acc st = .ok (acc ++ ys.map g) st
  | [], acc, _, _ => by simp [compM]
  | y :: ys, acc, h, hl => by
    obtain ⟨env1, e1, e2⟩ := h y List.mem_cons_self
    have hl' : acc.length < 16777216 := by simp at hl; omega
    unfold compM
    rw [e1]
    show (match tYesM env1 st with
      | .ok true st1 => (match elt env1 st1 with
        | .ok v st2 => if acc.length < 16777216 then compM t tYesM elt ys env (acc ++ [v]) st2 else .bad
        | _ => .bad)
      | .ok false st1 => compM t tYesM elt ys env acc st1
      | _ => .bad) = _
    simp only [tYesM, e2, if_pos hl']
    rw [compM_map (fun z hz => h z (List.mem_cons_of_mem _ hz)) (by simp at hl ⊢; omega)]
    simp
/-- a comprehension whose element may raise c -/
theorem compX_map {t : Tgt} {elt : ME} {g : MV → Option MV} {c : Ex} {env : MEnv} {st : Sto} : ∀ {ys acc : List MV}, (∀ y ∈ ys, ∃ env1, t.bind y env = some env1 ∧ elt env1 st = (match g y with | some v => .ok v st | none => .exc c st)) → acc.length + ys.length ≤ 16777216 →
    compX t tYesM elt ys env acc st = (match ys.mapM g with | some vs => .ok (acc ++ vs) st | none => .exc c st)
  | [], acc, _, _ => by simp [compX]
  | y :: ys, acc, h, hl => by
    obtain ⟨env1, e1, e2⟩ := h y List.mem_cons_self
    have hl' : acc.length < 16777216 := by simp at hl; omega
    unfold compX
    rw [e1]
    show (match tYesM env1 st with
      | .ok true st1 => (match elt env1 st1 with
        | .ok v st2 => if acc.length < 16777216 then compX t tYesM elt ys env (acc ++ [v]) st2 else .bad
        | .exc c st2 => .exc c st2
        | .bad => .bad)
      | .ok false st1 => compX t tYesM elt ys env acc st1
      | _ => .bad) = _
    simp only [tYesM, e2]
    cases eg : g y with
    | none => simp [List.mapM_cons, eg]
    | some v =>
      simp only [if_pos hl']
      rw [compX_map (fun z hz => h z (List.mem_cons_of_mem _ hz)) (by simp at hl ⊢; omega)]
      simp only [List.mapM_cons, eg]
      cases ys.mapM g <;> simp
theorem strsOf_map : ∀ ys : List Str, strsOf (ys.map .str) = some ys
  | [] => rfl
  | y :: ys => by simp [strsOf, strsOf_map ys]
theorem boolsOf_map : ∀ ys : List Bool, boolsOf (ys.map .bl) = some ys
  | [] => rfl
  | y :: ys => by simp [boolsOf, boolsOf_map ys]
theorem gAll_map (ys : List Bool) (st : Sto) : gAll [.lst (ys.map .bl)] st = .ok (.bl (ys.all id)) st := by
  simp [gAll, listOf, boolsOf_map]
/-- signs below 128, at most n of them -/
def Asc (n : Nat) (t : Str) : Prop := t.length ≤ n ∧ ∀ c ∈ tl t, c < 128
theorem Asc.ok {n : Nat} {t : Str} (h : Asc n t) : PyData.canLay0 (.str t) = true := by
  simp only [PyData.canLay0, PyData.strOk, Array.all_eq_true']
  intro c hc
  have := h.2 c (Array.mem_toList_iff.mpr hc)
  simp
  omega
theorem Asc.sh {n : Nat} {t : Str} (h : Asc n t) : SeqAt.shaped (.str t) = true := by
  unfold SeqAt.shaped
  rw [h.ok]
  simp [PyData.depth]
theorem str_dec (a b : Str) : (a == b) = decide (a = b) := by
  by_cases h : a = b
  · subst h; simp
  · rw [decide_eq_false h]; exact beq_false_of_ne h
theorem gEq_str {a b : Str} {n m : Nat} (ha : Asc n a) (hb : Asc m b) (st : Sto) : gEq (.str a) (.str b) st = .ok (.bl (decide (a = b))) st := by
  simp [gEq, topD, toD, ha.sh, hb.sh, PyData.eqv, str_dec]
theorem gNe_str {a b : Str} {n m : Nat} (ha : Asc n a) (hb : Asc m b) (st : Sto) : gNe (.str a) (.str b) st = .ok (.bl (!decide (a = b))) st := by
  simp [gNe, topD, toD, ha.sh, hb.sh, PyData.eqv, str_dec]
theorem sh_int (i : Int) : SeqAt.shaped (.int i) = true := by
  unfold SeqAt.shaped
  simp [PyData.canLay0, PyData.depth]
theorem gEq_int (i j : Int) (st : Sto) : gEq (.int i) (.int j) st = .ok (.bl (decide (i = j))) st := by
  simp [gEq, topD, toD, sh_int, PyData.eqv, Bool.beq_eq_decide_eq]
theorem asc_lit {s : String} {n : Nat} (h : (s.toList.map Char.toNat).length ≤ n := by decide) (h2 : ∀ c ∈ s.toList.map Char.toNat, c < 128 := by decide) : Asc n (Str.ofString s) := by
  have e : tl (Str.ofString s) = s.toList.map Char.toNat := tl_ofString s
  refine ⟨?_, ?_⟩
  · rw [len_tl, e]; exact h
  · rw [e]; exact h2
/-! ### numbers as texts -/
/-- the sign 48 + d behind -/
theorem numL_of_digits : ∀ (n : Nat) (l : List Nat), l.length = n → NumText.AllDigits l → l ≠ [] → (l = [48] ∨ l.head? ≠ some 48) → numL (NumText.digitsVal l) = l
  | 0, l, hl, _, hne, _ => absurd (List.length_eq_zero_iff.mp hl) hne
  | n + 1, l, hl, hd, hne, hz => by
    obtain ⟨l', d, rfl⟩ : ∃ l' d, l = l' ++ [d] := ⟨l.dropLast, l.getLast hne, (List.dropLast_concat_getLast hne).symm⟩
    have hdd : 48 ≤ d ∧ d ≤ 57 := hd d (by simp)
    have ev : NumText.digitsVal (l' ++ [d]) = NumText.digitsVal l' * 10 + (d - 48) := by simp [NumText.digitsVal, List.foldl_append]
    by_cases hl' : l' = []
    · subst hl'
      rw [ev]
      simp only [NumText.digitsVal, List.foldl_nil, Nat.zero_mul, Nat.zero_add, List.nil_append]
      rw [numL_lt (by omega)]
      congr 1
      omega
    · have hh : l'.head? ≠ some 48 := by
        rcases hz with h | h
        · exfalso
          have := congrArg List.length h
          simp at this
          exact hl' this
        · intro q
          apply h
          cases l' with
          | nil => exact absurd rfl hl'
          | cons a r => simpa using q
      have hd' : NumText.AllDigits l' := fun c hc => hd c (List.mem_append_left _ hc)
      have ih := numL_of_digits n l' (by simp at hl; omega) hd' hl' (.inr hh)
      have h1 : 1 ≤ NumText.digitsVal l' := by
        rcases Nat.eq_zero_or_pos (NumText.digitsVal l') with z | z
        · rw [z, numL_lt (by decide)] at ih
          rw [← ih] at hh
          exact absurd rfl hh
        · exact z
      rw [ev, numL_step (by omega)]
      have e1 : (NumText.digitsVal l' * 10 + (d - 48)) / 10 = NumText.digitsVal l' := by omega
      have e2 : (NumText.digitsVal l' * 10 + (d - 48)) % 10 = d - 48 := by omega
      rw [e1, e2, ih]
      congr 2
      omega
/-- n as a text -/
def numS (n : Nat) : Str := Str.ofString (toString ((n : Nat) : Int))
theorem tl_numS (n : Nat) : tl (numS n) = numL n := tl_num n
theorem numS_of {t : Str} (hd : NumText.AllDigits (tl t)) (hne : tl t ≠ []) (hz : tl t = [48] ∨ (tl t).head? ≠ some 48) : t = numS (NumText.digitsVal (tl t)) := by
  apply ext_tl
  rw [tl_numS]
  exact (numL_of_digits _ _ rfl hd hne hz).symm
theorem numS_asc {n : Nat} (h : n < 10 ^ 6) : Asc 6 (numS n) := by
  refine ⟨?_, ?_⟩
  · rw [len_tl, tl_numS]; exact numL_len (by decide) h
  · rw [tl_numS]
    intro c hc
    have := numL_digits n c hc
    omega
theorem numS_inj {m n : Nat} (h : numS m = numS n) : m = n := numL_inj (by rw [← tl_numS, ← tl_numS, h])
theorem int_numS {n : Nat} (h : n < 10 ^ 6) : intText? (numS n) = some (n : Int) := int_num (Nat.le_trans (numL_len (by decide) h) (by decide))
theorem log2_small {n : Nat} (h : n < 10 ^ 6) : n.log2 < 1920 := by
  by_cases z : n = 0
  · subst z; decide
  · have h1 : n < 2 ^ 20 := by omega
    have := (Nat.log2_lt z).mpr h1
    omega
theorem gStr_nat {n : Nat} (h : n < 10 ^ 6) (st : Sto) : gStr [.int (n : Int)] st = .ok (.str (numS n)) st := by
  have := log2_small h
  show (if ((n : Int)).natAbs.log2 < 1920 then Res.ok (MV.str (Str.ofString (toString (n : Int)))) st else .bad) = _
  rw [if_pos (by simpa using this)]
  rfl
end MR

/-! classes: attributes, methods, making, properties, classmethods -/
namespace MR
open PySem L2
variable [Tb]
/-! ### promises by positional values -/
def FnP (P : Program) (w : World) (K : PySem.W.Frag) (mg : Str → Option Value) (base : Heap) (k : Nat) (f : Addr) (sp : Sp) : Prop :=
  ∀ (A : Around) (outer : List Env) (s : Shared) (H : Hp) (us : List Value) (vs : List V) (Q : VK) (E : XK), Room k A → NoG A → Env0 P w K mg base A outer s H → Vals vs us → sp vs H Q E →
    codeAny (model P w) A (.call (.ref f) ⟨us, []⟩) (CR (L2.CX P w) outer P w H s Q E) s
section
variable {P : Program} {w : World} {K : PySem.W.Frag} {mg : Str → Option Value} {base : Heap} {j k : Nat} {f : Addr} {sp sp' : Sp}
theorem FnP.mono (F : FnP P w K mg base j f sp) (h : j ≤ k) : FnP P w K mg base k f sp := fun A outer s H us vs Q E hr => F A outer s H us vs Q E (hr.mono h)
theorem FnP.imp (F : FnP P w K mg base k f sp) (h : ∀ vs H Q E, sp' vs H Q E → sp vs H Q E) : FnP P w K mg base k f sp' := fun A outer s H us vs Q E hr gd e0 r hs => F A outer s H us vs Q E hr gd e0 r (h _ _ _ _ hs)
theorem FnP.of {fd : FuncData} {ps : List Str} (F : FnG P w K mg base k f fd ps sp) (hb : Binds K fd ps []) : FnP P w K mg base k f sp := fun A outer s H us vs Q E hr gd e0 r hs => by
  have inK : K.In s.heap := e0.mod.kin.keeps fun b o e => (e0.bs b o e).1
  have len : us.length = ps.length := r.length.symm.trans (F.len _ _ _ _ hs)
  have b := hb s us inK (by rw [List.append_nil]; exact len)
  rw [List.append_nil] at b
  exact F.run A outer s H ⟨us, []⟩ us vs Q E hr gd e0 b r hs
end
section
variable {X : Cx} {pins : List (Addr × Obj)} {σ : L2.St} {H : Hp} {s : Shared} {k : Nat} {f : Addr} {sp : Sp} {E : XK} {Q : VK} {us : List Value} {vs : List V}
theorem code_fnP (F : FnP X.prog X.w X.K X.mg X.base k f sp) (hr : Room k X.A) (gd : NoG X.A) (hx : PassesAt (L2.CX X.prog X.w) X σ E) (I : Inv X pins σ H s) (r : Vals vs us) (h : sp vs H Q E) :
    codeAny (model X.prog X.w) X.A (.call (.ref f) ⟨us, []⟩) (fun r s' => match r with | .ok (.ret v) => EP X pins σ Q v s' | .ok _ => False | .error e => X.xe e s') s := by
  refine codeAny_mono (F X.A X.stack s H us vs Q E hr gd I.env0 r h) fun r s' hq => ?_
  cases r with
  | error e => exact hx pins H s e s' I hq
  | ok fl =>
    cases fl with
    | ret u => exact I.after hq
    | next => exact False.elim hq
    | brk => exact False.elim hq
    | cont => exact False.elim hq
theorem run_fnP (F : FnP X.prog X.w X.K X.mg X.base k f sp) (hr : Room k X.A) (gd : NoG X.A) (hx : PassesAt (L2.CX X.prog X.w) X σ E) (I : Inv X pins σ H s) (r : Vals vs us) (h : sp vs H Q E) :
    wpAny (model X.prog X.w) X.A (call (.ref f) us) (EP X pins σ Q) X.xe s := wpAny_call (code_fnP F hr gd hx I r h)
end
/-- a def by its address does what f says, f told of all its values -/
def spA (G : Gm) (f : FM) : Sp := fun vs H Q E => ∃ A st ms, SR G A H st ∧ RepAll G A H vs ms ∧ (f ms st).post (okP G A H Q) (exP G A H E)
def FnA (P : Program) (w : World) (K : PySem.W.Frag) (mg : Str → Option Value) (base : Heap) (k : Nat) (a : Addr) (f : FM) : Prop := FnP P w K mg base k a (spA ⟨K, mg, P, w, Tb.T, Tb.j, Tb.cs⟩ f)
def arity (n : Nat) (f : FM) : FM := fun ms st => if ms.length = n then f ms st else .bad
section
variable {P : Program} {w : World} {K : PySem.W.Frag} {mg : Str → Option Value} {base : Heap} {j k : Nat} {a : Addr} {f : FM}
theorem FnA.mono (F : FnA P w K mg base j a f) (h : j ≤ k) : FnA P w K mg base k a f := FnP.mono F h
theorem FnA.of {n : Nat} {fd : FuncData} {ps : List Str} (F : FnG P w K mg base k a fd ps (spM ⟨K, mg, P, w, Tb.T, Tb.j, Tb.cs⟩ n f)) (hb : Binds K fd ps []) : FnA P w K mg base k a (arity n f) :=
  (FnP.of F hb).imp fun vs H Q E ⟨A, st, ms, s, r, h⟩ => by
    obtain ⟨hl, h⟩ := post_ite h
    exact ⟨A, st, ms, s, r, hl, h⟩
end
/-! ### instances -/
/-- the instance at hand: its class, its attributes -/
def insOf (m : MV) (st : Sto) : Option (Str × List Str × List MV) := match m with
  | .ins c ns xs => some (c, ns, xs)
  | .obj k => match st[k]? with
    | some (.ins c ns xs) => some (c, ns, xs)
    | _ => none
  | _ => none
def lookF (f : Str) (ns : List Str) (xs : List MV) : Option MV := (ns.zip xs).lookup f
theorem ins_rep {G : Gm} {A : Ad} {H : Hp} {st : Sto} {v : V} {m : MV} {c : Str} {ns : List Str} {xs : List MV} (s : SR G A H st) (r : Rep G A H v m) (h : insOf m st = some (c, ns, xs)) :
    ∃ a C dx vs, v = .ref a ∧ G.mg c = some (.ref C) ∧ H a = some (.ins C dx (ns.zip vs)) ∧ ns.length = xs.length ∧ RepAll G A H vs xs := by
  cases r with
  | ins h1 h2 h3 h4 => cases h; exact ⟨_, _, _, _, rfl, h1, h2.1, h3, h4⟩
  | @obj a k h1 =>
    simp only [insOf] at h
    split at h
    · rename_i e
      cases h
      cases s.ob k a _ h1 e with
      | ins h2 h3 h4 h5 => exact ⟨_, _, _, _, rfl, h2, h3, h4, h5⟩
    · cases h
  | _ => cases h
theorem look_rep {G : Gm} {A : Ad} {H : Hp} {f : Str} : ∀ {ns : List Str} {vs : List V} {xs : List MV} {m : MV}, RepAll G A H vs xs → lookF f ns xs = some m → ∃ v, (ns.zip vs).lookup f = some v ∧ Rep G A H v m
  | [], _, _, _, _, h => by cases h
  | n :: ns, _, _, m, .nil, h => by cases h
  | n :: ns, _, _, m, .cons (v := v) (m := x) r rs, h => by
    unfold lookF at h
    rw [List.zip_cons_cons, List.lookup] at h ⊢
    cases e : f == n with
    | true => rw [e] at h; cases h; exact ⟨v, rfl, r⟩
    | false => rw [e] at h; exact look_rep rs h
theorem look_none {f : Str} : ∀ {ns : List Str} {vs : List V}, ns.contains f = false → (ns.zip vs).lookup f = none
  | [], _, _ => rfl
  | n :: ns, [], _ => rfl
  | n :: ns, v :: vs, h => by
    rw [List.contains_cons, Bool.or_eq_false_iff] at h
    rw [List.zip_cons_cons, List.lookup, h.1]
    exact look_none h.2
/-! ### e.f -/
def mFld (p : Str → Bool) (f : Str) (o : ME) : ME := fun env st => (o env st).bind fun x st1 => match insOf x st1 with
  | some (c, ns, xs) => if p c = true then (match lookF f ns xs with
    | some m => .ok m st1
    | none => .bad) else .bad
  | none => .bad
/-- what of the text: the classes of p have no attribute f of their own -/
def FldT (K : PySem.W.Frag) (mg : Str → Option Value) (p : Str → Bool) (f : Str) : Prop := ∀ c C, p c = true → mg c = some (.ref C) → Cls K C ∧ NoAttr K C f
section
variable {X : Cx} {W : WX} {o v : Expr} {mo mv : ME} {f : Str} {pos pos' : Pos} {p : Str → Bool}
theorem pm_fld (T : FldT X.K X.mg p f) (ho : PM X W o mo) (hb : attributeBase o f X.env (eval o X.env) = eval o X.env := by rfl) : PM X W (.Attribute o f pos) (mFld p f mo) :=
  PE_imp (pe_fld ho hb) fun σ H Q ⟨A, env, st, s, q, h⟩ => by
    unfold mFld at h
    rw [Res.post_bind] at h
    refine inE s q (Ext.refl A H) (h.mono (fun mx st1 h1 A1 H1 x e1 s1 r1 => ?_) fun _ _ z => z)
    cases hi : insOf mx st1 with
    | none => rw [hi] at h1; exact h1.elim
    | some y =>
      obtain ⟨c, ns, xs⟩ := y
      rw [hi] at h1
      obtain ⟨hp, h1⟩ := post_ite h1
      cases hl : lookF f ns xs with
      | none => rw [hl] at h1; exact h1.elim
      | some m =>
        rw [hl] at h1
        obtain ⟨a, C, dx, vs, ev, g1, g2, g3, g4⟩ := ins_rep s1 r1 hi
        obtain ⟨v, l, rv⟩ := look_rep g4 hl
        obtain ⟨t1, t2⟩ := T c C hp g1
        exact ⟨a, C, dx, _, v, ev, g2, t1, t2, l, h1 A1 H1 v e1 s1 rv⟩
end
/-! ### o.f = v -/
def putFn (f : Str) : List Str → List Str
  | [] => [f]
  | g :: r => if g = f then g :: r else g :: putFn f r
def putFx {α : Type} (f : Str) (v : α) : List Str → List α → List α
  | [], _ => [v]
  | g :: r, x :: xs => if g = f then v :: xs else x :: putFx f v r xs
  | _ :: _, [] => []
theorem putF_zip {f : Str} {v : V} : ∀ {ns : List Str} {vs : List V}, ns.length = vs.length → putF f v (ns.zip vs) = (putFn f ns).zip (putFx f v ns vs)
  | [], [], _ => rfl
  | [], _ :: _, h => by cases h
  | _ :: _, [], h => by cases h
  | n :: ns, x :: vs, h => by
    rw [List.zip_cons_cons]
    unfold putF putFn putFx
    by_cases e : n = f
    · rw [if_pos e, if_pos e, if_pos e, List.zip_cons_cons]
    · rw [if_neg e, if_neg e, if_neg e, List.zip_cons_cons, putF_zip (by simpa using h)]
theorem putF_len {α : Type} {f : Str} {v : α} : ∀ {ns : List Str} {xs : List α}, ns.length = xs.length → (putFn f ns).length = (putFx f v ns xs).length
  | [], [], _ => rfl
  | [], _ :: _, h => by cases h
  | _ :: _, [], h => by cases h
  | n :: ns, x :: xs, h => by
    unfold putFn putFx
    by_cases e : n = f
    · rw [if_pos e, if_pos e]; simpa using h
    · rw [if_neg e, if_neg e, List.length_cons, List.length_cons, putF_len (by simpa using h)]
theorem putF_rep {G : Gm} {A : Ad} {H : Hp} {f : Str} {v : V} {m : MV} (r : Rep G A H v m) : ∀ {ns : List Str} {vs : List V} {xs : List MV}, ns.length = xs.length → RepAll G A H vs xs → RepAll G A H (putFx f v ns vs) (putFx f m ns xs)
  | [], _, _, h, .nil => .cons r .nil
  | [], _, _, h, .cons _ _ => by cases h
  | _ :: _, _, _, h, .nil => by cases h
  | n :: ns, _, _, h, .cons r1 rs => by
    unfold putFx
    by_cases e : n = f
    · rw [if_pos e, if_pos e]; exact .cons r rs
    · rw [if_neg e, if_neg e]; exact .cons r1 (putF_rep r (by simpa using h) rs)
def sFldSet (p : Str → Bool) (f : Str) (o v : ME) : MS := fun env st => bindE (v env st) env fun y st1 => bindE (o env st1) env fun x st2 => match x with
  | .obj k => match st2[k]? with
    | some (.ins c ns xs) => if p c = true ∧ ns.length < 900 then .nx env (st2.set k (.ins c (putFn f ns) (putFx f y ns xs))) else .bad
    | _ => .bad
  | _ => .bad
section
variable {X : Cx} {W : WX} {o v : Expr} {mo mv : ME} {f : Str} {pos pos' : Pos} {p : Str → Bool}
theorem pms_fld (T : FldT X.K X.mg p f) (hv : PM X W v mv) (ho : PM X W o mo) (hs : swapsWith v (some (.Attribute o f pos')) pos.line X.env = pure false := by rfl) : PMS X W (.Assign [.Attribute o f pos'] v pos) (sFldSet p f mo mv) :=
  PS_imp (ps_fld ho hv hs) fun D σ H ⟨A, env, st, s, q, h⟩ => by
    refine inE s q (Ext.refl A H) ((post_bindE h).mono (fun my st1 h1 A1 H1 y e1 s1 r1 => ?_) fun _ _ z => exP_of q z)
    refine inE s1 (q.ext e1) e1 ((post_bindE h1).mono (fun mx st2 h2 A2 H2 x e2 s2 r2 => ?_) fun _ _ z => exP_of q z)
    split at h2
    · rename_i k
      split at h2
      · rename_i c ns xs eo
        split at h2
        · rename_i hc
          cases r2 with
          | @obj a _ hk =>
            cases s2.ob k a _ hk eo with
            | @ins C dx _ _ vs _ g1 g2 g3 g4 =>
              obtain ⟨t1, t2⟩ := T c C hc.1 g1
              have hl : ns.length = vs.length := g3.trans g4.length.symm
              refine ⟨a, C, dx, _, rfl, g2, t1, t2, ?_, ?_⟩
              · rw [List.length_zip, ← hl, Nat.min_self]; omega
              · rw [putF_zip hl]
                have e : Ext A2 H2 A2 (upd H2 a (.ins C dx ((putFn f ns).zip (putFx f y ns vs)))) := Ext.set s2 (List.mem_of_getElem? hk)
                have s3 := s2.setO (hob := .ins C dx ((putFn f ns).zip (putFx f y ns vs))) (mo := .ins c (putFn f ns) (putFx f my ns xs)) hk (.ins g1 upd_same (putF_len g3) (putF_rep ((r1.ext e2).ext e) g3 (g4.ext e)))
                exact h2 A2 _ σ ((e1.trans e2).trans e) s3 (((q.ext e1).ext e2).ext e)
        · exact h2.elim
      · exact h2.elim
    · exact h2.elim
end
/-! ### o.m(..) -/
def MthT (P : Program) (w : World) (K : PySem.W.Frag) (mg : Str → Option Value) (base : Heap) (k : Nat) (m : Str) (tbl : Str → Option FM) : Prop := ∀ c C f, tbl c = some f → mg c = some (.ref C) → Cls K C ∧ ∃ g, Meth K C m g ∧ FnA P w K mg base k g f
def mMth (m : Str) (tbl : Str → Option FM) (o : ME) (r : MA) : ME := fun env st => (o env st).bind fun x st1 => match insOf x st1 with
  | some (c, ns, _) => if ns.contains m = true then .bad else (match tbl c with
    | some f => (r env st1).bind fun xs st2 => f (x :: xs) st2
    | none => .bad)
  | none => .bad
section
variable {X : Cx} {W : WX} {o e : Expr} {es : List Expr} {mo : ME} {mr : MA} {m : Str} {pos apos : Pos} {k : Nat} {tbl : Str → Option FM}
theorem mth_in {σ : L2.St} {H : Hp} {Q : VK} (T : MthT X.prog X.w X.K X.mg X.base k m tbl) (h : tE (gmOf X) W (mMth m tbl mo mr) σ H Q) :
    tE (gmOf X) W mo σ H fun x H1 => ∃ a C dx fs g f, x = .ref a ∧ H1 a = some (.ins C dx fs) ∧ Cls X.K C ∧ Meth X.K C m g ∧ FnA X.prog X.w X.K X.mg X.base k g f ∧ fs.lookup m = none ∧
      tA (gmOf X) W mr σ H1 fun vs H2 => spA (gmOf X) f (.ref a :: vs) H2 Q (WE W σ) := by
  obtain ⟨A, env, st, s, q, h⟩ := h
  unfold mMth at h
  rw [Res.post_bind] at h
  refine inE s q (Ext.refl A H) (h.mono (fun mx st1 h1 A1 H1 x e1 s1 r1 => ?_) fun _ _ z => z)
  cases hi : insOf mx st1 with
  | none => rw [hi] at h1; exact h1.elim
  | some y =>
    obtain ⟨c, ns, xs⟩ := y
    rw [hi] at h1
    have h1 : (if ns.contains m = true then Res.bad else (match tbl c with
      | some f => (mr env st1).bind fun xs st2 => f (mx :: xs) st2
      | none => .bad)).post _ _ := h1
    by_cases hn : ns.contains m = true
    · rw [if_pos hn] at h1; exact h1.elim
    · rw [if_neg hn] at h1
      cases ht : tbl c with
      | none => rw [ht] at h1; exact h1.elim
      | some f =>
        rw [ht] at h1
        obtain ⟨a, C, dx, vs, ev, g1, g2, g3, g4⟩ := ins_rep s1 r1 hi
        obtain ⟨t1, g, t2, t3⟩ := T c C f ht g1
        refine ⟨a, C, dx, _, g, f, ev, g2, t1, t2, t3, look_none (Bool.eq_false_iff.mpr hn), ?_⟩
        have h1 : ((mr env st1).bind fun xs st2 => f (mx :: xs) st2).post _ _ := h1
        rw [Res.post_bind] at h1
        refine inA s1 (q.ext e1) e1 (h1.mono (fun ms st2 h2 A2 H2 ws e2 s2 r2 => ?_) fun _ _ z => z)
        have e02 := e1.trans e2
        exact ⟨A2, st2, mx :: ms, s2, .cons (by rw [← ev]; exact r1.ext e2) r2, h2.mono (fun _ _ z => z.ext e02) fun _ _ z => z.ext e02⟩
theorem pm_mth {pl : Sem Bool} (T : MthT X.prog X.w X.K X.mg X.base k m tbl) (hr : Room k X.A) (gd : NoG X.A) (tk : Lets X W) (ho : PM X W o mo) (ha : PMA X W (e :: es) mr)
    (hst : starEach (e :: es) X.env = (false, eval e X.env) :: starEach es X.env := by rfl) (hpl : (backTo pos (starEach es X.env)).any (·.1) = false := by rfl)
    (ht : eval (.Call (.Attribute o m apos) (e :: es) [] pos) X.env = (do
      let ov ← eval o X.env
      standAt apos.atName
      let (f, first) ← holding [ov] (getMethod ov m pl)
      callWith pos f first (backTo pos (starEach (e :: es) X.env)) (backToKw pos (keywordEach [] X.env))) := by rfl) :
    PM X W (.Call (.Attribute o m apos) (e :: es) [] pos) (mMth m tbl mo mr) := by
  refine ⟨fun pins s σ H Q I h => ?_⟩
  refine PySem.W.methodCall_KW (pl := pl) (wpAny_mono (ho.run pins s σ H _ I (mth_in T h)) (fun u s1 ⟨x, H1, I1, rx, a, C, dx, fs, g, f, ex, ea, c, hm, F, l, q⟩ => ?_) fun _ _ z => z) ht
  subst ex
  obtain rfl : u = Value.ref a := rx
  refine getmeth_ok I1 ea c hm l ?_
  refine PySem.W.callWith_K (first := [.ref a]) (h₀ := X.base) I.ok.mod.kin hm.kp (wpAny_mono (ha.run pos pins s1 σ H1 _ I1 q) (fun us s2 ⟨vs, H2, I2, r, q2⟩ => ⟨I2.kIn, ?_⟩) fun _ _ z => z) hst hpl
  exact run_fnP (us := .ref a :: us) (vs := .ref a :: vs) F hr gd (tk σ) I2 (.cons rfl r) q2
theorem pm_mth0 {pl : Sem Bool} (T : MthT X.prog X.w X.K X.mg X.base k m tbl) (hr : Room k X.A) (gd : NoG X.A) (tk : Lets X W) (ho : PM X W o mo)
    (ht : eval (.Call (.Attribute o m apos) [] [] pos) X.env = (do
      let ov ← eval o X.env
      standAt apos.atName
      let (f, first) ← holding [ov] (getMethod ov m pl)
      callWith pos f first (backTo pos (starEach [] X.env)) (backToKw pos (keywordEach [] X.env))) := by rfl) :
    PM X W (.Call (.Attribute o m apos) [] [] pos) (mMth m tbl mo aNil) := by
  refine ⟨fun pins s σ H Q I h => ?_⟩
  refine PySem.W.methodCall_KW (pl := pl) (wpAny_mono (ho.run pins s σ H _ I (mth_in T h)) (fun u s1 ⟨x, H1, I1, rx, a, C, dx, fs, g, f, ex, ea, c, hm, F, l, q⟩ => ?_) fun _ _ z => z) ht
  subst ex
  obtain rfl : u = Value.ref a := rx
  refine getmeth_ok I1 ea c hm l ?_
  refine PySem.W.callWith_K0 (first := [.ref a]) I1.kIn hm.kp ?_
  have q2 : spA (gmOf X) f [.ref a] H1 Q (WE W σ) := by
    obtain ⟨A, env, st, s, _, h⟩ := q
    exact h A H1 [] (Ext.refl A H1) s .nil
  exact run_fnP (us := [.ref a]) (vs := [.ref a]) F hr gd (tk σ) I1 (.cons rfl .nil) q2
end
end MR

/-! classes: making instances, that may change or not; properties; classmethods -/
namespace MR
open PySem L2
variable [Tb]
/-! ### equal data -/
mutual
def MV.beq : MV → MV → Bool
  | .non, .non => true
  | .bl a, .bl b => a == b
  | .int a, .int b => a == b
  | .str a, .str b => a == b
  | .ty a, .ty b => a == b
  | .gl a, .gl b => a == b
  | .tup a, .tup b => MV.beqs a b
  | .lst a, .lst b => MV.beqs a b
  | .obj a, .obj b => a == b
  | .scr a, .scr b => a == b
  | .ins c ns xs, .ins d ms ys => c == d && ns == ms && MV.beqs xs ys
  | .dct a b, .dct c d => MV.beqs a c && MV.beqs b d
  | _, _ => false
def MV.beqs : List MV → List MV → Bool
  | [], [] => true
  | a :: r, b :: s => MV.beq a b && MV.beqs r s
  | _, _ => false
end
mutual
theorem MV.beq_eq : ∀ a b : MV, MV.beq a b = true → a = b := fun a b h => by
  cases a <;> cases b <;> first | (simp only [MV.beq, Bool.false_eq_true] at h; done) | rfl | skip
  all_goals simp only [MV.beq, Bool.and_eq_true, beq_iff_eq] at h
  · rw [h]
  · rw [h]
  · rw [h]
  · rw [h]
  · rw [h]
  · rw [MV.beqs_eq _ _ h]
  · rw [MV.beqs_eq _ _ h]
  · rw [h]
  · rw [h]
  · rw [h.1.1, h.1.2, MV.beqs_eq _ _ h.2]
  · rw [MV.beqs_eq _ _ h.1, MV.beqs_eq _ _ h.2]
theorem MV.beqs_eq : ∀ a b : List MV, MV.beqs a b = true → a = b := fun a b h => by
  cases a <;> cases b <;> first | (simp only [MV.beqs, Bool.false_eq_true] at h; done) | rfl | skip
  simp only [MV.beqs, Bool.and_eq_true] at h
  rw [MV.beq_eq _ _ h.1, MV.beqs_eq _ _ h.2]
end
mutual
theorem MV.beq_refl : ∀ a : MV, MV.beq a a = true
  | .non => rfl
  | .bl _ => by simp [MV.beq]
  | .int _ => by simp [MV.beq]
  | .str _ => by simp [MV.beq]
  | .ty _ => by simp [MV.beq]
  | .gl _ => by simp [MV.beq]
  | .tup a => by simp [MV.beq, MV.beqs_refl a]
  | .lst a => by simp [MV.beq, MV.beqs_refl a]
  | .obj _ => by simp [MV.beq]
  | .scr _ => by simp [MV.beq]
  | .ins _ _ xs => by simp [MV.beq, MV.beqs_refl xs]
  | .dct a b => by simp [MV.beq, MV.beqs_refl a, MV.beqs_refl b]
theorem MV.beqs_refl : ∀ a : List MV, MV.beqs a a = true
  | [] => rfl
  | a :: r => by simp [MV.beqs, MV.beq_refl a, MV.beqs_refl r]
end
def MO.beq : MO → MO → Bool
  | .lst a, .lst b => MV.beqs a b
  | .dict a b, .dict c d => MV.beqs a c && MV.beqs b d
  | .ins c ns xs, .ins d ms ys => c == d && ns == ms && MV.beqs xs ys
  | _, _ => false
def stBeq : Sto → Sto → Bool
  | [], [] => true
  | a :: r, b :: s => MO.beq a b && stBeq r s
  | _, _ => false
theorem MO.beq_eq {a b : MO} (h : MO.beq a b = true) : a = b := by
  cases a <;> cases b <;> first | (simp only [MO.beq, Bool.false_eq_true] at h; done) | skip
  all_goals simp only [MO.beq, Bool.and_eq_true, beq_iff_eq] at h
  · rw [MV.beqs_eq _ _ h]
  · rw [MV.beqs_eq _ _ h.1, MV.beqs_eq _ _ h.2]
  · rw [h.1.1, h.1.2, MV.beqs_eq _ _ h.2]
theorem stBeq_eq : ∀ {a b : Sto}, stBeq a b = true → a = b
  | [], [], _ => rfl
  | [], _ :: _, h => by simp [stBeq] at h
  | _ :: _, [], h => by simp [stBeq] at h
  | a :: r, b :: s, h => by
    simp only [stBeq, Bool.and_eq_true] at h
    rw [MO.beq_eq h.1, stBeq_eq h.2]
theorem MO.beq_refl (a : MO) : MO.beq a a = true := by cases a <;> simp [MO.beq, MV.beqs_refl]
theorem stBeq_refl : ∀ a : Sto, stBeq a a = true
  | [] => rfl
  | a :: r => by simp [stBeq, MO.beq_refl, stBeq_refl r]
/-! objects of the store below k alone -/
mutual
def MV.under (k : Nat) : MV → Bool
  | .obj j => decide (j < k)
  | .tup xs => MV.unders k xs
  | .lst xs => MV.unders k xs
  | .ins _ _ xs => MV.unders k xs
  | .dct a b => MV.unders k a && MV.unders k b
  | _ => true
def MV.unders (k : Nat) : List MV → Bool
  | [] => true
  | a :: r => MV.under k a && MV.unders k r
end
theorem keys_under {k : Nat} : ∀ kvs : List (L2.Key × V), MV.unders k (kvs.map fun p => keyM p.1) = true
  | [] => rfl
  | (.inl _, _) :: r => keys_under r
  | (.inr _, _) :: r => keys_under r
/-! ### the store's last objects are forgotten -/
section
variable {G : Gm} {A A' : Ad} {H : Hp}
theorem cut_has {a : Addr} {n : Nat} (h : ¬ A.has a) : ¬ ({ A with ix := A.ix.take n } : Ad).has a := fun m => h (m.imp (fun z => List.mem_of_mem_take z) id)
mutual
theorem Rep.cut {k : Nat} : ∀ {v : V} {m : MV}, Rep G A H v m → m.under k = true → Rep G (A.cut k) H v m
  | _, _, .non, _ => .non
  | _, _, .bl b, _ => .bl b
  | _, _, .int i, _ => .int i
  | _, _, .str s, _ => .str s
  | _, _, .ty n, _ => .ty n
  | _, _, .gl h, _ => .gl h
  | _, _, .tup h r, b => .tup (h.imp (fun z => ⟨z.1, cut_has z.2⟩) id) (RepAll.cut r b)
  | _, _, .lst h n r, b => .lst h (cut_has n) (RepAll.cut r b)
  | _, _, @Rep.obj _ _ _ a j h, b => .obj (by
      have hj : j < k := of_decide_eq_true b
      show (A.ix.take k)[j]? = some a
      rw [List.getElem?_take_of_lt hj]; exact h)
  | _, _, .scr h, _ => .scr (h.imp (fun z => ⟨z.1, cut_has z.2⟩) id)
  | _, _, .ins c h l r, b => .ins c ⟨h.1, h.2.1, cut_has h.2.2⟩ l (RepAll.cut r b)
  | _, _, .dctL h z r, b => .dctL ⟨h.1, h.2.1, cut_has h.2.2⟩ z (RepAll.cut r (Bool.and_eq_true_iff.mp b).2)
  | _, _, .dctN h ne z r q, b => .dctN ⟨h.1, h.2.1, cut_has h.2.2⟩ ne z (RepAll.cut r (Bool.and_eq_true_iff.mp b).1) (RepAll.cut q (Bool.and_eq_true_iff.mp b).2)
theorem RepAll.cut {k : Nat} : ∀ {vs : List V} {ms : List MV}, RepAll G A H vs ms → MV.unders k ms = true → RepAll G (A.cut k) H vs ms
  | _, _, .nil, _ => .nil
  | _, _, .cons r rs, b => .cons (Rep.cut r (Bool.and_eq_true_iff.mp b).1) (RepAll.cut rs (Bool.and_eq_true_iff.mp b).2)
end
/-! what stands in a store speaks of its objects alone -/
mutual
theorem Rep.isBelow {k : Nat} (hk : A.ix.length ≤ k) : ∀ {v : V} {m : MV}, Rep G A H v m → m.under k = true
  | _, _, .non => rfl
  | _, _, .bl b => rfl
  | _, _, .int i => rfl
  | _, _, .str s => rfl
  | _, _, .ty n => rfl
  | _, _, .gl h => rfl
  | _, _, .tup h r => RepAll.isBelow hk r
  | _, _, .lst h n r => RepAll.isBelow hk r
  | _, _, .obj h => decide_eq_true (Nat.lt_of_lt_of_le (List.getElem?_eq_some_iff.mp h).1 hk)
  | _, _, .scr h => rfl
  | _, _, .ins c h l r => RepAll.isBelow hk r
  | _, _, .dctL h z r => by
    subst z
    exact Bool.and_eq_true_iff.mpr ⟨keys_under _, RepAll.isBelow hk r⟩
  | _, _, .dctN h ne z r q => Bool.and_eq_true_iff.mpr ⟨RepAll.isBelow hk r, RepAll.isBelow hk q⟩
theorem RepAll.isBelow {k : Nat} (hk : A.ix.length ≤ k) : ∀ {vs : List V} {ms : List MV}, RepAll G A H vs ms → MV.unders k ms = true
  | _, _, .nil => rfl
  | _, _, .cons r rs => Bool.and_eq_true_iff.mpr ⟨Rep.isBelow hk r, RepAll.isBelow hk rs⟩
end
theorem SR.cut {st st0 : Sto} {k : Nat} {A0 : Ad} {H0 : Hp} (s : SR G A H st) (s0 : SR G A0 H0 st0) (x0 : Ext A0 H0 A H) (hk : st0.length = k) (e : st.take k = st0) : SR G (A.cut k) H st0 where
  len := by
    have h1 : (A.ix.take k).length = min k A.ix.length := List.length_take
    have h2 : (st.take k).length = min k st.length := List.length_take
    rw [e] at h2
    rw [h1, s.len, h2]
  nd := by
    have h1 := List.nodup_append.mp s.nd
    show (A.ix.take k ++ A.fn).Nodup
    rw [List.nodup_append]
    exact ⟨h1.1.sublist (List.take_sublist _ _), h1.2.1, fun a ha b hb => h1.2.2 a (List.mem_of_mem_take ha) b hb⟩
  ob := fun j a o ha ho => by
    have hj : j < k := by
      have := (List.getElem?_eq_some_iff.mp ho).1
      omega
    have ha' : (A.ix.take k)[j]? = some a := ha
    rw [List.getElem?_take_of_lt hj] at ha'
    have ho' : st[j]? = some o := by rw [← e, List.getElem?_take_of_lt hj] at ho; exact ho
    obtain ⟨b, hb, q⟩ := s0.at ho
    have hl : A0.ix.length ≤ k := by rw [s0.len, hk]; exact Nat.le_refl _
    cases s.ob j a o ha' ho' with
    | lst h r => cases q with | lst h' r' => exact .lst h (r.cut (r'.isBelow hl))
    | ins c h l r => cases q with | ins c' h' l' r' => exact .ins c h l (r.cut (r'.isBelow hl))
    | dctL h z r => exact .dctL h z (r.cut (by
        cases q with
        | dctL _ _ r' => exact r'.isBelow hl
        | dctN _ _ _ _ r' => exact r'.isBelow hl))
    | dctN h ne z r r2 => cases q with
      | dctL h' z' r' => exact .dctN h ne z (r.cut (by rw [z']; exact keys_under _)) (r2.cut (r'.isBelow hl))
      | dctN h' ne' z' r' q' => exact .dctN h ne z (r.cut (r'.isBelow hl)) (r2.cut (q'.isBelow hl))
  ft := s.ft
  tb := s.tb
  js := G.j.cut s0.js x0 (by rw [s0.len]; exact hk)
theorem Ext.cut {A0 : Ad} {H0 : Hp} {k : Nat} (e : Ext A0 H0 A H) (hk : A0.ix.length = k) : Ext A0 H0 (A.cut k) H where
  pre := by
    obtain ⟨B, q⟩ := e.pre
    exact ⟨[], by show A.ix.take k = _; rw [q, ← hk, List.take_left, List.append_nil]⟩
  fen := e.fen
  xsk := e.xsk
  keep := e.keep
  new := fun p m => e.new p (m.imp (fun z => List.mem_of_mem_take z) id)
  fk := e.fk
end
end MR

/-! classes: making instances -/
namespace MR
open PySem L2
variable [Tb]
theorem nog_make {A : Around} {C : Addr} {us : List Value} {kw : List (Str × Value)} (h : NoG A) : NoG (A.under (.builtin "type.__call__" ⟨.ref C :: us, kw⟩)) := by
  have h : A.guards = some [] := h
  have e : Code.guards (.builtin "type.__call__" ⟨.ref C :: us, kw⟩) = [] := by
    unfold Code.guards
    rw [if_neg (by simp [Code.isGuard, guardIds])]
  show (A.under (.builtin "type.__call__" ⟨.ref C :: us, kw⟩)).guards = some []
  unfold Around.under
  dsimp only
  rw [e, h]
  rfl
section
variable {X : Cx} {k : Nat} {f C : Addr} {sp : Sp} {E : XK}
theorem run_makeP {pins : List (Addr × Obj)} {σ : L2.St} {H : Hp} {s : Shared} {Q : VK} {us : List Value} {vs : List V} (M : Mk X.K C f) (F : FnP X.prog X.w X.K X.mg X.base k f sp) (hr : Room (k + 1) X.A) (gd : NoG X.A) (hx : PassesAt (L2.CX X.prog X.w) X σ E) (I : Inv X pins σ H s) (r : Vals vs us)
    (h : ∀ x dx, H x = none → H dx = none → dx ≠ x → sp (V.ref x :: vs) (upd (upd H dx (.own x)) x (.ins C dx [])) (fun v H2 => v = .non ∧ Q (.ref x) H2) E) :
    wpAny (model X.prog X.w) X.A (call (.ref C) us) (EP X pins σ Q) X.xe s := by
  have hq := h (s.heap.objs.size + 1) s.heap.objs.size (I.hok.fresh (Nat.le_succ _)) (I.hok.fresh (Nat.le_refl _)) (Nat.ne_of_lt (Nat.lt_succ_self _))
  have I2 := Inv.made (C := C) I
  have r2 : Vals (V.ref (s.heap.objs.size + 1) :: vs) (Value.ref (s.heap.objs.size + 1) :: us) := .cons rfl r
  refine wpAny_call (make_map (f := f) I.kIn M.makes M.init (beq_iff_eq.mp M.fn) (codeAny_mono (F _ X.stack _ _ (Value.ref (s.heap.objs.size + 1) :: us) _ _ E (hr.make C us []) (nog_make gd) (I2.env0.make C us []) r2 hq) fun r s' hq' => ?_))
  cases r with
  | error e => exact hx pins _ _ e s' I2 hq'
  | ok fl =>
    cases fl with
    | ret u =>
      obtain ⟨v, H', I3, rv, ev, q3⟩ := I2.after hq'
      subst ev
      exact ⟨rv, ⟨V.ref (s.heap.objs.size + 1), H', I3, rfl, q3⟩⟩
    | next => exact False.elim hq'
    | brk => exact False.elim hq'
    | cont => exact False.elim hq'
end
def MakT (P : Program) (w : World) (K : PySem.W.Frag) (mg : Str → Option Value) (base : Heap) (k : Nat) (c : Str) (f : FM) : Prop := ∃ C g, mg c = some (.ref C) ∧ Mk K C g ∧ FnA P w K mg base k g f
/-- an instance that may change -/
def newR (st1 : Sto) (r : Res MV) : Res MV := match r with
  | .ok m st2 => (match m with
    | .non => .ok (.obj st1.length) st2
    | _ => .bad)
  | .exc e st2 => .exc e st2
  | .bad => .bad
/-- an instance that does not change any more -/
def frzR (st1 : Sto) (r : Res MV) : Res MV := match r with
  | .ok m st2 => (match m with
    | .non => if stBeq (st2.take st1.length) st1 = true then (match st2[st1.length]? with
      | some (.ins c ns xs) => if MV.unders st1.length xs = true then .ok (.ins c ns xs) st1 else .bad
      | _ => .bad) else .bad
    | _ => .bad)
  | .exc e st2 => if stBeq (st2.take st1.length) st1 = true ∧ MV.unders st1.length e.xs = true then .exc e st1 else .bad
  | .bad => .bad
def mNewG (b : Bool) (c : Str) (f : FM) (r : MA) : ME := fun env st => (r env st).bind fun xs st1 => (if b = true then frzR st1 else newR st1) (f (.obj st1.length :: xs) (st1 ++ [.ins c [] []]))
abbrev mNew (c : Str) (f : FM) (r : MA) : ME := mNewG false c f r
abbrev mNewF (c : Str) (f : FM) (r : MA) : ME := mNewG true c f r
theorem ExR.cut {G : Gm} {A : Ad} {H : Hp} {k : Nat} {c : Ex} {C : Addr} {d : Option Addr} (h : ExR G A H c C d) (b : MV.unders k c.xs = true) : ExR G (A.cut k) H c C d := by
  obtain ⟨h1, h | ⟨p, vs, h0, h2, h3, h4, h5, h6⟩⟩ := h
  · exact ⟨h1, .inl h⟩
  · exact ⟨h1, .inr ⟨p, vs, h0, h2, h3, cut_has h4, h5, h6.cut b⟩⟩
section
variable {X : Cx} {W : WX} {mr : MA} {pos p : Pos} {k : Nat} {c : Str} {f : FM} {es : List Expr} {e : Expr} {b : Bool}
theorem new_in {σ : L2.St} {H : Hp} {Q : VK} {C : Addr} (hC : X.mg c = some (.ref C)) (h : tE (gmOf X) W (mNewG b c f mr) σ H Q) :
    tA (gmOf X) W mr σ H fun vs H1 => ∀ x dx, H1 x = none → H1 dx = none → dx ≠ x → spA (gmOf X) f (V.ref x :: vs) (upd (upd H1 dx (.own x)) x (.ins C dx [])) (fun v H2 => v = .non ∧ Q (.ref x) H2) (WE W σ) := by
  obtain ⟨A, env, st, s, q, h⟩ := h
  unfold mNewG at h
  rw [Res.post_bind] at h
  refine inA s q (Ext.refl A H) (h.mono (fun ms st1 h1 A1 H1 vs e1 s1 r1 x dx hx hdx hne => ?_) fun _ _ z => z)
  have x1 : Ext A1 H1 A1 (upd H1 dx (.own x)) := Ext.laid s1 hdx
  have s2 : SR (gmOf X) A1 (upd H1 dx (.own x)) st1 := s1.laid hdx
  have hx2 : upd H1 dx (.own x) x = none := by rw [upd_ne (Ne.symm hne)]; exact hx
  have x2 : Ext A1 (upd H1 dx (.own x)) (A1.more x) (upd (upd H1 dx (.own x)) x (.ins C dx [])) := Ext.made s2 hx2
  have s3 : SR (gmOf X) (A1.more x) (upd (upd H1 dx (.own x)) x (.ins C dx [])) (st1 ++ [.ins c [] []]) := s2.madeO hx2 (.ins (vs := []) hC upd_same rfl .nil)
  have x12 := x1.trans x2
  have hk : A1.ix.length = st1.length := s1.len
  have hix : (A1.more x).ix[st1.length]? = some x := by
    show (A1.ix ++ [x])[st1.length]? = some x
    rw [← hk, List.getElem?_append_right (Nat.le_refl _), Nat.sub_self]; rfl
  refine ⟨A1.more x, st1 ++ [.ins c [] []], .obj st1.length :: ms, s3, .cons (.obj hix) (r1.ext x12), ?_⟩
  cases ef : f (.obj st1.length :: ms) (st1 ++ [.ins c [] []]) with
  | bad =>
    rw [ef] at h1
    cases b <;> exact h1.elim
  | exc ex st2 =>
    rw [ef] at h1
    cases b with
    | false =>
      have h1 : exP (gmOf X) A H (WE W σ) ex st2 := h1
      exact h1.ext (e1.trans x12)
    | true =>
      have h1 : (if stBeq (st2.take st1.length) st1 = true ∧ MV.unders st1.length ex.xs = true then Res.exc (α := MV) ex st1 else .bad).post (okP (gmOf X) A H Q) (exP (gmOf X) A H (WE W σ)) := h1
      obtain ⟨hb, h1⟩ := post_ite h1
      intro A2 H2 C2 d x3 s4 hE
      have eS := stBeq_eq hb.1
      exact h1 (A2.cut st1.length) H2 C2 d (((e1.trans x12).trans x3).w.pre.elim fun B hB => (e1.trans ((x12.trans x3).cut hk))) (s4.cut s1 (x12.trans x3) rfl eS) (hE.cut hb.2)
  | ok m st2 =>
    rw [ef] at h1
    cases b with
    | false =>
      have h1 : (newR st1 (.ok m st2)).post (okP (gmOf X) A H Q) (exP (gmOf X) A H (WE W σ)) := h1
      unfold newR at h1
      cases m with
      | non =>
        have h1 : okP (gmOf X) A H Q (.obj st1.length) st2 := h1
        intro A2 H2 v x3 s4 rv
        cases rv
        exact ⟨rfl, h1 A2 H2 _ ((e1.trans x12).trans x3) s4 (.obj (x3.at hix))⟩
      | _ => exact h1.elim
    | true =>
      have h1 : (frzR st1 (.ok m st2)).post (okP (gmOf X) A H Q) (exP (gmOf X) A H (WE W σ)) := h1
      unfold frzR at h1
      cases m with
      | non =>
        have h1 : (if stBeq (st2.take st1.length) st1 = true then (match st2[st1.length]? with
          | some (MO.ins c ns xs) => if MV.unders st1.length xs = true then Res.ok (MV.ins c ns xs) st1 else .bad
          | _ => .bad) else .bad).post (okP (gmOf X) A H Q) (exP (gmOf X) A H (WE W σ)) := h1
        obtain ⟨hb, h1⟩ := post_ite h1
        have eS := stBeq_eq hb
        split at h1
        · rename_i c' ns xs eo
          obtain ⟨hu, h1⟩ := post_ite h1
          intro A2 H2 v x3 s4 rv
          cases rv
          refine ⟨rfl, h1 (A2.cut st1.length) H2 _ (e1.trans ((x12.trans x3).cut hk)) (s4.cut s1 (x12.trans x3) rfl eS) ?_⟩
          have hix2 := x3.at hix
          cases s4.ob _ _ _ hix2 eo with
          | @ins C' dx' _ _ vs' _ g1 g2 g3 g4 =>
            have nd := List.nodup_append.mp s4.nd
            refine .ins g1 ⟨g2, nt_ins, fun z => ?_⟩ g3 (g4.cut hu)
            rcases z with z | z
            · obtain ⟨j, hj, ej⟩ := List.mem_iff_getElem.mp z
              have hj' : j < st1.length := by
                have hj : j < (A2.ix.take st1.length).length := hj
                rw [List.length_take] at hj
                omega
              have e3 : A2.ix[j]? = some x := by
                have e4 : (A2.ix.take st1.length)[j]? = some x := by rw [List.getElem?_eq_getElem hj]; exact congrArg some ej
                rw [List.getElem?_take_of_lt hj'] at e4
                exact e4
              exact absurd (s4.obj_ne e3 hix2) (Nat.ne_of_lt hj')
            · exact nd.2.2 x (List.mem_of_getElem? hix2) x z rfl
        · exact h1.elim
      | _ => exact h1.elim
theorem pm_new (T : MakT X.prog X.w X.K X.mg X.base k c f) (hr : Room (k + 1) X.A) (gd : NoG X.A) (tk : Lets X W) (ha : PMA X W (e :: es) mr) (hg : Gl X c := by rfl) (hdb : (c == ("__debug__" : Str)) = false := by decide)
    (he : starEach (e :: es) X.env = (false, eval e X.env) :: starEach es X.env := by rfl) (hpl : (backTo pos (starEach es X.env)).any (·.1) = false := by rfl) : PM X W (.Call (.Name c p) (e :: es) [] pos) (mNewG b c f mr) := by
  obtain ⟨C, g, hm, M, F⟩ := T
  refine ⟨fun pins s σ H Q I h => ?_⟩
  refine wpAny_Call_Name_kw (ld_glob I hg hm ?_ hdb)
  refine PySem.W.callWith_K (h₀ := X.base) I.ok.mod.kin M.kp (wpAny_mono (ha.run pos pins s σ H _ I (new_in hm h)) (fun us s1 ⟨vs, H1, I1, r, q⟩ => ⟨I1.kIn, ?_⟩) fun _ _ z => z) he hpl
  exact run_makeP M F hr gd (tk σ) I1 r q
theorem pm_new0 (T : MakT X.prog X.w X.K X.mg X.base k c f) (hr : Room (k + 1) X.A) (gd : NoG X.A) (tk : Lets X W) (hg : Gl X c := by rfl) (hdb : (c == ("__debug__" : Str)) = false := by decide) : PM X W (.Call (.Name c p) [] [] pos) (mNewG b c f aNil) := by
  obtain ⟨C, g, hm, M, F⟩ := T
  refine ⟨fun pins s σ H Q I h => ?_⟩
  refine wpAny_Call_Name_kw (ld_glob I hg hm ?_ hdb)
  refine PySem.W.callWith_K0 I.kIn M.kp (run_makeP (us := []) (vs := []) M F hr gd (tk σ) I .nil ?_)
  obtain ⟨A, env, st, s', q, z⟩ := new_in hm h
  exact z A H [] (Ext.refl A H) s' .nil
end
/-! ### properties -/
theorem nog_in1 {A : Around} (h : NoG A) : NoG A.in1 := h
def PrpT (P : Program) (w : World) (K : PySem.W.Frag) (mg : Str → Option Value) (base : Heap) (k : Nat) (n : Str) (tbl : Str → Option FM) : Prop := ∀ c C f, tbl c = some f → mg c = some (.ref C) → Cls K C ∧ ∃ p g, PropOf K C n p g ∧ FnA P w K mg base k g f
def mPrp (tbl : Str → Option FM) (o : ME) : ME := fun env st => (o env st).bind fun x st1 => match insOf x st1 with
  | some (c, _, _) => (match tbl c with
    | some f => noExc (f [x] st1)
    | none => .bad)
  | none => .bad
section
variable {X : Cx} {W : WX} {o : Expr} {mo : ME} {n : Str} {pos : Pos} {k : Nat} {tbl : Str → Option FM}
theorem getprop_okP {C p g a dx : Addr} {fs : List (Str × V)} {sp : Sp} {pins : List (Addr × Obj)} {σ : L2.St} {H : Hp} {s : Shared} {Q : VK} {b : Bool} {E' : Value → Shared → Prop} (I : Inv X pins σ H s) (ea : H a = some (.ins C dx fs)) (c : Cls X.K C) (hp : PropOf X.K C n p g)
    (F : FnP X.prog X.w X.K X.mg X.base k g sp) (hr : Room (k + 1) X.A) (gd : NoG X.A) (h : sp [.ref a] H Q (fun _ _ _ => False)) :
    wpAny (model X.prog X.w) X.A (getAttr (.ref a) n b) (EP X pins σ Q) E' s := by
  obtain ⟨mA, O, _, _, _, _⟩ := ins_get I.hok ea
  obtain ⟨od, J, _⟩ := O.look
  obtain ⟨rest, hrec⟩ := hp.rec_
  have I1 := I.tok (s.toks + 1)
  have hc : (PySem.W.clsIn X.K C).isSome = true := by
    obtain ⟨cd, hc, _⟩ := PySem.W.any_some c.hd
    rw [hc]
    rfl
  refine PySem.W.get_bind I.kIn J (PySem.W.plainGet_of (c.get n)).1 (PySem.W.findObj_data hc hp.at_ hp.get hp.tak) (PySem.W.plainGet_of (c.get n)).2 (wpAny_call (PySem.W.prop_get (s := { s with toks := s.toks + 1 }) I.kIn hrec ?_))
  refine codeAny_mono (F X.A.in1 X.stack { s with toks := s.toks + 1 } H [.ref a] [.ref a] Q _ hr.in1 gd I1.env0.in1 (.cons rfl .nil) h) fun r s' hq => ?_
  cases r with
  | error er =>
    obtain ⟨_, _, _, _, _, _, _, _, _, _, _, _, z⟩ := hq
    exact z.elim
  | ok fl =>
    cases fl with
    | ret u =>
      obtain ⟨v, H', I3, rv, q3⟩ := I1.after hq
      show wpAny _ _ (handedOut u) _ _ _
      rw [PySem.W.handedOut_of (handed_of rv)]
      exact wpAny_pure ⟨v, H', I3, rv, q3⟩
    | next => exact False.elim hq
    | brk => exact False.elim hq
    | cont => exact False.elim hq
theorem pm_prp (T : PrpT X.prog X.w X.K X.mg X.base k n tbl) (hr : Room (k + 1) X.A) (gd : NoG X.A) (ho : PM X W o mo) (hab : attributeBase o n X.env (eval o X.env) = eval o X.env := by rfl) : PM X W (.Attribute o n pos) (mPrp tbl mo) := by
  refine ⟨fun pins s σ H Q I h => ?_⟩
  have h2 : tE (gmOf X) W mo σ H fun x H1 => ∃ a C dx fs p g f, x = .ref a ∧ H1 a = some (.ins C dx fs) ∧ Cls X.K C ∧ PropOf X.K C n p g ∧ FnA X.prog X.w X.K X.mg X.base k g f ∧ spA (gmOf X) f [.ref a] H1 Q (fun _ _ _ => False) := by
    obtain ⟨A, env, st, s, q, h⟩ := h
    unfold mPrp at h
    rw [Res.post_bind] at h
    refine inE s q (Ext.refl A H) (h.mono (fun mx st1 h1 A1 H1 x e1 s1 r1 => ?_) fun _ _ z => z)
    cases hi : insOf mx st1 with
    | none => rw [hi] at h1; exact h1.elim
    | some y =>
      obtain ⟨c, ns, xs⟩ := y
      rw [hi] at h1
      have h1 : (match tbl c with
        | some f => noExc (f [mx] st1)
        | none => .bad).post _ _ := h1
      cases ht : tbl c with
      | none => rw [ht] at h1; exact h1.elim
      | some f =>
        rw [ht] at h1
        obtain ⟨a, C, dx, vs, ev, g1, g2, g3, g4⟩ := ins_rep s1 r1 hi
        obtain ⟨t1, p, g, t2, t3⟩ := T c C f ht g1
        obtain ⟨m, st', em, km⟩ := post_noExc h1
        exact ⟨a, C, dx, _, p, g, f, ev, g2, t1, t2, t3, A1, st1, [mx], s1, .cons (by rw [← ev]; exact r1) .nil, post_ok em (okP.ext e1 km)⟩
  refine attr_of hab (wpAny_mono (ho.run pins s σ H _ I h2) (fun u s1 ⟨x, H1, I1, rx, a, C, dx, fs, p, g, f, ex, ea, c, hp, F, q⟩ => ?_) fun _ _ z => z)
  subst ex
  obtain rfl : u = Value.ref a := rx
  exact getprop_okP I1 ea c hp F hr gd q
end
/-! ### classmethods -/
def CmtT (P : Program) (w : World) (K : PySem.W.Frag) (mg : Str → Option Value) (base : Heap) (k : Nat) (c m : Str) (f : FM) : Prop := ∃ C mc p g, mg c = some (.ref C) ∧ ClX.CRead K C mc ∧ ClX.CMet K C mc m p g ∧ FnA P w K mg base k g f
def mCmt (c : Str) (f : FM) (r : MA) : ME := fun env st => (r env st).bind fun xs st1 => f (.gl c :: xs) st1
section
variable {X : Cx} {W : WX} {e : Expr} {es : List Expr} {mr : MA} {c m : Str} {pos apos np : Pos} {k : Nat} {f : FM}
theorem run_cmP {C g q : Addr} {sp : Sp} {E : XK} {Q : VK} {us : List Value} {vs : List V} {pins : List (Addr × Obj)} {σ : L2.St} {H : Hp} {s : Shared} (F : FnP X.prog X.w X.K X.mg X.base k g sp) (hr : Room k X.A) (gd : NoG X.A) (hx : PassesAt (L2.CX X.prog X.w) X σ E) (I : Inv X ((q, PySem.W.methodObj (.ref g) (.ref C)) :: pins) σ H s)
    (r : Vals vs us) (h : sp (.ref C :: vs) H Q E) : wpAny (model X.prog X.w) X.A (call (.ref q) us) (EP X pins σ Q) X.xe s := by
  have z : wpAny (model X.prog X.w) X.A (call (.ref q) us) (EP X ((q, PySem.W.methodObj (.ref g) (.ref C)) :: pins) σ Q) X.xe s :=
    wpAny_call (PySem.W.method_call (ClX.pin_at I) (code_fnP (us := .ref C :: us) (vs := .ref C :: vs) F hr gd hx I (.cons rfl r) h))
  exact wpAny_mono z (fun _ _ y => ClX.unpinE y) fun _ _ z => z
theorem pm_cmt {pl : Sem Bool} (T : CmtT X.prog X.w X.K X.mg X.base k c m f) (hr : Room k X.A) (gd : NoG X.A) (tk : Lets X W) (ha : PMA X W (e :: es) mr) (hg : Gl X c := by rfl) (hdb : (c == ("__debug__" : Str)) = false := by decide)
    (hst : starEach (e :: es) X.env = (false, eval e X.env) :: starEach es X.env := by rfl) (hpl : (backTo pos (starEach es X.env)).any (·.1) = false := by rfl)
    (ht : eval (.Call (.Attribute (.Name c np) m apos) (e :: es) [] pos) X.env = (do
      let ov ← eval (.Name c np) X.env
      standAt apos.atName
      let (f, first) ← holding [ov] (getMethod ov m pl)
      callWith pos f first (backTo pos (starEach (e :: es) X.env)) (backToKw pos (keywordEach [] X.env))) := by rfl) :
    PM X W (.Call (.Attribute (.Name c np) m apos) (e :: es) [] pos) (mCmt c f mr) := by
  obtain ⟨C, mc, p, g, hC, rd, cm, F⟩ := T
  refine ⟨fun pins s σ H Q I h => ?_⟩
  refine PySem.W.methodCall_KW (pl := pl) (wpAny_mono ((pe_glob (pos := np) (v := .ref C) hg hC rfl hdb).run pins s σ H (fun v H1 => v = .ref C ∧ H1 = H) I ⟨rfl, rfl⟩) (fun u s1 ⟨x, H1, I1, rx, ex, eH⟩ => ?_) fun _ _ z => z) ht
  subst ex
  rw [eH] at I1
  obtain rfl : u = Value.ref C := rx
  refine ClX.getmethcm_ok I1 rd cm fun s2 I2 => ?_
  have h2 : tA (gmOf X) W mr σ H fun vs H2 => spA (gmOf X) f (.ref C :: vs) H2 Q (WE W σ) := by
    obtain ⟨A, env, st, s, q, h⟩ := h
    unfold mCmt at h
    rw [Res.post_bind] at h
    refine inA s q (Ext.refl A H) (h.mono (fun ms st1 h1 A1 H1 vs e1 s1 r1 => ?_) fun _ _ z => z)
    exact ⟨A1, st1, .gl c :: ms, s1, .cons (.gl hC) r1, h1.mono (fun _ _ z => z.ext e1) fun _ _ z => z.ext e1⟩
  refine ClX.callwith_cm I2 (ClX.base_none I1 (Nat.le_refl _)) cm.fi (wpAny_mono (ha.run pos _ s2 σ H _ I2 h2) (fun us s3 ⟨vs, H2, I3, rv, q2⟩ => ⟨⟨ClX.pin_at I3, I3.kIn⟩, ?_⟩) fun _ _ z => z) hst hpl
  exact run_cmP F hr gd (tk σ) I3 rv q2
end
end MR

/-! defs with a star parameter; defs that know their class, and super() -/
namespace MR
open PySem L2
variable [Tb]
theorem tS_of_def {G : Gm} {n : Nat} {body : MS} {A1 : Ad} {H : Hp} {st1 : Sto} {ms : List MV} {vs : List V} {Q : VK} {E : XK} (hp : (defM n body ms st1).post (okP G A1 H Q) (exP G A1 H E)) (sr : SR G A1 H st1) (r : RepAll G A1 H vs ms) (nc : G.cs = none) :
    tS G (fun c d _ H => E c d H) body { nx := fun _ H' => Q .non H', rt := Q } (vs.map some ++ List.replicate (n - vs.length) none) H := by
  refine ⟨A1.sx none, _, st1, sr.sx none, EnvR.start (r.sx none) rfl nc n, ?_⟩
  unfold defM at hp
  cases eb : body (ms.map some ++ List.replicate (n - ms.length) none) st1 with
  | nx env st' =>
    rw [eb] at hp
    exact fun A' H' σ' e s' q' => hp (A'.sx A1.xs) H' .non e.sx (s'.sx _) .non
  | rt m st' =>
    rw [eb] at hp
    exact okP.sx none hp
  | bk env st' => rw [eb] at hp; exact hp.elim
  | ct env st' => rw [eb] at hp; exact hp.elim
  | exc c env st' =>
    rw [eb] at hp
    exact fun A' H' σ' C d e s' q' hC => hp (A'.sx A1.xs) H' C d e.sx (s'.sx _) (hC.sx _)
  | bad => rw [eb] at hp; exact hp.elim
theorem vals_cut {vs : List V} {us : List Value} (r : Vals vs us) : ∀ n, Vals (vs.take n) (us.take n) ∧ Vals (vs.drop n) (us.drop n) := by
  induction r with
  | nil => intro n; cases n <;> exact ⟨.nil, .nil⟩
  | cons a rs ih =>
    intro n
    cases n with
    | zero => exact ⟨.nil, .cons a rs⟩
    | succ n => exact ⟨.cons a (ih n).1, (ih n).2⟩
/-! ### def f(a, .., *v) -/
def defStar (n N : Nat) (body : MS) : FM := fun ms st => if n ≤ ms.length ∧ ms.length ≤ 16777216 then defM N body (ms.take n ++ [.tup (ms.drop n)]) st else .bad
section
variable {P : Program} {w : World} {K : PySem.W.Frag} {mg : Str → Option Value} {base : Heap}
theorem fn_star_mirror (nc : Tb.cs = none) {x qual : Str} {st : Stmt} {f : Addr} {fd : FuncData} {N ps : List Str} {pv : Str} {k : Nat} {body : MS} (F : Fun K x qual st f fd) (S : FnScope N (ps ++ [pv]) (defScope st))
    (hb : ∀ us rest : List Value, us.length = ps.length → bindArgs fd ⟨us ++ rest, []⟩ = (newTuple rest >>= fun t => pure (ps.zip us ++ [(pv, t)])))
    (h : ∀ (cdv : Value) (A : Around) (outer : List Env) (s : Shared) (H : Hp) (E : XK), NoG A → Room k (A.deeper (PyProof.Rows.envOfC qual (defScope st) s.heap.objs.size f cdv)) →
      Takes (cxOf (L2.CX P w) P w K mg base N qual (defScope st) f cdv A outer s H E) (fun c d _ H => E c d H) → PMSs (cxOf (L2.CX P w) P w K mg base N qual (defScope st) f cdv A outer s H E) (fun c d _ H => E c d H) (defBody st) body) :
    FnA P w K mg base (k + 1) f (defStar ps.length N.length body) := by
  intro A outer s H us vs Q E hr gd e0 r hsp
  obtain ⟨A1, st1, ms, sr, rm, hp⟩ := hsp
  obtain ⟨oc, od, kV, doc, pm, an, cdv, ct, osl, rfl, look, code⟩ := F.ex
  unfold defStar at hp
  obtain ⟨hl, hp⟩ := post_ite hp
  have lv := rm.length
  have lu := r.length
  have hn : H s.heap.objs.size = Option.none := e0.hok.fresh (Nat.le_refl _)
  have hl1 : (us.take ps.length).length = ps.length := by rw [List.length_take]; omega
  have hz : (vs.drop ps.length).length ≤ sizeLine := by rw [List.length_drop, sizeLine_eq]; omega
  have hl2 : (us.drop ps.length).length ≤ sizeLine := by rw [List.length_drop, sizeLine_eq]; omega
  have rt := vals_cut r
  have eu : us = us.take ps.length ++ us.drop ps.length := (List.take_append_drop _ _).symm
  rw [eu]
  refine StX.run_bnd look code S hr e0 (G := fun xs H2 => ∃ p, H p = Option.none ∧ xs = vs.take ps.length ++ [V.ref p] ∧ H2 = upd H p (.tup (vs.drop ps.length))) (fun A' Ex Q' h => ?_) fun s2 H2 xs ⟨p, hp', ex, eH⟩ hr' => ?_
  · rw [hb _ _ hl1]
    refine wpAny_bind (wpAny_newTuple (wpAny_pure ?_) hl2)
    have new : ObjOk P w (upd H s.heap.objs.size (.tup (vs.drop ps.length))) (s.heap.push ({ cls := .type "tuple", data := .seq (us.drop ps.length).toArray } : Obj)) s.heap.objs.size (.tup (vs.drop ps.length)) := ⟨hz, us.drop ps.length, (rt _).2, ⟨_, Heap.get?_push_size _ rfl, rfl, _, rfl⟩⟩
    have un := StX.un_laid (fs := frs outer) (s := s) (o := ({ cls := .type "tuple", data := .seq (us.drop ps.length).toArray } : Obj)) (u := .tup (vs.drop ps.length)) hn
    have z := h _ _ (vs.take ps.length ++ [V.ref s.heap.objs.size]) (us.take ps.length ++ [Value.ref s.heap.objs.size]) (StX.env0_laid e0 new) un rfl (fun e s' => StX.cxUp outer s H _ _ E e s' un (fun b o q => Heap.get?_push_of_some _ q) rfl) ((rt _).1.append (.cons rfl .nil))
      (by rw [List.length_append, List.length_append, List.length_take]; simp; omega) ⟨_, hn, rfl, rfl⟩
    rw [List.zip_append hl1.symm] at z
    exact z
  · subst ex eH
    have tk : Takes (cxOf (L2.CX P w) P w K mg base N qual (defScope st) f cdv A outer s2 (upd H p (.tup (vs.drop ps.length))) E) (fun c d _ H => E c d H) := takes_of rfl rfl rfl rfl
    refine ⟨_, h cdv A outer s2 _ E gd hr' tk, ?_⟩
    have x1 : Ext A1 H A1 (upd H p (.tup (vs.drop ps.length))) := Ext.laid sr hp'
    have s1 := sr.laid (o := .tup (vs.drop ps.length)) hp'
    refine tS_of_def (ms := ms.take ps.length ++ [.tup (ms.drop ps.length)]) (hp.mono (fun _ _ z => z.ext x1) fun _ _ z => z.ext x1) s1 (((rm.take _).ext x1).append (.cons (.tup (.inl ⟨.inl upd_same, sr.new_out hp'⟩) ((rm.drop _).ext x1)) .nil)) nc
end
/-! ### bodies that stand in their own def's frame -/
def PSsF (X : Cx) (body ss : List Stmt) (t : TS) : Prop := ∀ (pins : List (Addr × Obj)) (s : Shared) (σ : L2.St) (H : Hp) (D : Ends), Inv X pins σ H s → t D σ H → wpAt (model X.prog X.w) X.A (.func body X.env) (execs ss X.env) (SP X pins D) X.xe s
def PSF (X : Cx) (body : List Stmt) (st : Stmt) (t : TS) : Prop := ∀ (pins : List (Addr × Obj)) (s : Shared) (σ : L2.St) (H : Hp) (D : Ends), Inv X pins σ H s → t D σ H → wpAt (model X.prog X.w) X.A (.func body X.env) (exec st X.env) (SP X pins D) X.xe s
section
variable {X : Cx} {body rest : List Stmt} {st : Stmt} {t u : TS}
theorem psf_of (h : PSs X rest t) : PSsF X body rest t := fun pins s σ H D I q => wpAt_of_wpAny (h.run pins s σ H D I q)
theorem psf1_of (h : PS X st t) : PSF X body st t := fun pins s σ H D I q => wpAt_of_wpAny (h.run pins s σ H D I q)
theorem psf_cons (h1 : PSF X body st t) (h2 : PSsF X body rest u) : PSsF X body (st :: rest) (tSeq t u) := fun pins s σ H D I q =>
  ks_wpAt_execs_cons (ks_wpAt_mono (h1 pins s σ H { D with nx := u D } I q) (fun f s1 q => by
    cases f with
    | next =>
      obtain ⟨σ', H', I', q⟩ := q
      exact h2 pins s1 σ' H' D I' q
    | ret v => exact q
    | brk => exact q
    | cont => exact q) fun _ _ z => z)
end
abbrev PMF (X : Cx) (W : WX) (body : List Stmt) (s : Stmt) (m : MS) : Prop := PSF X body s (tS (gmOf X) W m)
abbrev PMFs (X : Cx) (W : WX) (body s : List Stmt) (m : MS) : Prop := PSsF X body s (tS (gmOf X) W m)
section
variable {X : Cx} {W : WX} {body rest : List Stmt} {st : Stmt} {m1 m2 : MS}
theorem pmf_of (h : PMSs X W rest m1) : PMFs X W body rest m1 := psf_of h
theorem pmf1_of (h : PMS X W st m1) : PMF X W body st m1 := psf1_of h
theorem pmf_cons (h1 : PMF X W body st m1) (h2 : PMFs X W body rest m2) : PMFs X W body (st :: rest) (sSeq m1 m2) := fun pins s σ H D I q => psf_cons h1 h2 pins s σ H D I (by
  obtain ⟨A, env, st, s, q, h⟩ := q
  refine ⟨A, env, st, s, q, ?_⟩
  unfold sSeq at h
  cases e : m1 env st with
  | nx env' st' => rw [e] at h; exact fun A1 H1 σ1 e1 s1 q1 => inS s1 q1 e1 h
  | rt m st' => rw [e] at h; exact h
  | bk env' st' => rw [e] at h; exact h
  | ct env' st' => rw [e] at h; exact h
  | exc c env' st' => rw [e] at h; exact h
  | bad => rw [e] at h; exact h)
theorem pmf_one (h1 : PMF X W body st m1) : PMFs X W body [st] m1 := fun pins s σ H D I q =>
  ks_wpAt_execs_cons (ks_wpAt_mono (h1 pins s σ H D I q) (fun f s1 q => by
    cases f with
    | next => exact wpAt_of_wpAny (wpAny_execs_nil q)
    | ret v => exact q
    | brk => exact q
    | cont => exact q) fun _ _ z => z)
end
end MR

/-! defs that know their class: the context of their bodies -/
namespace MR
open PySem L2
variable [Tb]
abbrev envK (qual : Str) (scope : Scope) (L f : Addr) (cdv : Value) (cc : Addr) : Env := PySem.W.ksEnv qual scope L f cdv cc
def cxK (P : Program) (w : World) (K : PySem.W.Frag) (mg : Str → Option Value) (base : Heap) (N : List Str) (qual : Str) (scope : Scope) (f : Addr) (cd : Value) (cc : Addr) (A : Around) (outer : List Env) (s : Shared) (H : Hp) (E : XK) : Cx where
  prog := P
  w := w
  K := K
  mg := mg
  base := base
  A := A.deeper (envK qual scope s.heap.objs.size f cd cc)
  N := N
  s_0 := s
  H_0 := H
  env := envK qual scope s.heap.objs.size f cd cc
  outer := outer
  stack := envK qual scope s.heap.objs.size f cd cc :: outer
  ex := []
  calm := true
  fn := fun _ => false
  pn := []
  xe := fun e s' => wpAny (model P w) (A.deeper (envK qual scope s.heap.objs.size f cd cc)) (leaving (envK qual scope s.heap.objs.size f cd cc) e) (fun _ s'' => L2.CX P w outer H s E e s'') (fun e' s'' => L2.CX P w outer H s E e' s'') s'
structure KScope (N ps : List Str) (sc : Scope) : Prop where
  kind : sc.kind = .function
  co : sc.isCoroutine = false
  gen : sc.isGenerator = false
  nd : N.Nodup
  pre : N.take ps.length = ps
  par : ∀ x ∈ ps, sc.names.lookup x = some .local
  nocell : ∀ y ∈ sc.names, y.2 ≠ .cell
  free : ∀ y ∈ sc.names, y.2 = .free → y.1 = ("__class__" : Str)
def kScB (N ps : List Str) (sc : Scope) : Bool := decide (sc.kind = .function) && (!sc.isCoroutine && (!sc.isGenerator && (decide N.Nodup && (decide (N.take ps.length = ps) && (ps.all (fun x => decide (sc.names.lookup x = some .local)) && sc.names.all (fun y => !decide (y.2 = .cell) && (!decide (y.2 = .free) || decide (y.1 = ("__class__" : Str)))))))))
theorem kScope_by {N ps : List Str} {sc : Scope} (h : kScB N ps sc = true) : KScope N ps sc := by
  unfold kScB at h
  simp only [Bool.and_eq_true, Bool.or_eq_true, Bool.not_eq_true', decide_eq_true_eq, decide_eq_false_iff_not, List.all_eq_true] at h
  obtain ⟨h1, h2, h3, h4, h5, h6, h7⟩ := h
  exact ⟨h1, h2, h3, h4, h5, h6, fun y hy => (h7 y hy).1, fun y hy e => (h7 y hy).2.resolve_left fun z => z e⟩
/-- a def of the text that knows its class D: the cell cc, its code object cda -/
structure FunK (P : Program) (K : PySem.W.Frag) (mg : Str → Option Value) (x qual : Str) (st : Stmt) (f cc cda D : Addr) : Prop where
  look : ∃ (oc : Value) (od : Option Addr) (kV doc pm : Value) (an : Option Addr) (ct : Value) (osl : Array (Option Value)), K.lookup f = some ⟨oc, od, .func (PySem.W.ksFn x qual (defArgs st) (defBody st) (defScope st) .none kV doc pm an (.ref cda) ct cc), osl⟩
  code : PySem.W.codeIn K (.ref cda) qual = true
  file : ∃ (o : Obj) (vs : Array Value) (file : Str) (tf : Tok), K.lookup cda = some o ∧ o.data = .fields vs ∧ vs[2]? = some (.str file tf) ∧ ((P.main.file : Str) == file) = true
  cell : ∃ o : Obj, K.lookup cc = some o ∧ o.data = .cell (some (.ref D))
  cls : ∃ cd, PySem.W.clsIn K D = some cd
  top : (P.main.scope.names.lookup ("super" : Str)).isSome = false
  sup : mg "super" = none
section
variable {P : Program} {w : World} {K : PySem.W.Frag} {mg : Str → Option Value} {base : Heap} {N ps : List Str} {qual : Str} {scope : Scope} {f cc : Addr} {cd : Value} {A : Around} {outer : List Env} {s : Shared} {H : Hp} {E : XK}
theorem zip_look {ps : List Str} {us : List Value} (nd : ps.Nodup) {i : Nat} {x : Str} {u : Value} (h1 : ps[i]? = some x) (h2 : us[i]? = some u) : (ps.zip us).reverse.lookup x = some u := by
  have nd2 : ∀ {l : List (Str × Value)}, (l.map (·.1)).Nodup → (x, u) ∈ l → l.lookup x = some u := by
    intro l
    induction l with
    | nil => intro _ h; cases h
    | cons p l ih =>
      intro nd h
      obtain ⟨n, v⟩ := p
      have nd := List.nodup_cons.mp nd
      rcases List.mem_cons.mp h with e | e
      · cases e; simp [List.lookup]
      · have : x ≠ n := fun z => nd.1 (by rw [← z]; exact List.mem_map.mpr ⟨(x, u), e, rfl⟩)
        rw [List.lookup, beq_eq_false_iff_ne.mpr this]
        exact ih nd.2 e
  refine nd2 ?_ ?_
  · rw [List.map_reverse]; refine (List.pairwise_reverse.mpr ((?_ : List.Nodup _).imp fun z => Ne.symm z))
    have : ((ps.zip us).map (·.1)) = ps.take us.length := by
      clear h1 h2 nd nd2
      induction ps generalizing us with
      | nil => simp
      | cons p ps ih =>
        cases us with
        | nil => simp
        | cons u us => simp [ih]
    rw [this]
    exact nd.sublist (List.take_sublist _ _)
  · rw [List.mem_reverse]
    refine List.mem_iff_getElem?.mpr ⟨i, ?_⟩
    rw [List.getElem?_zip_eq_some]
    exact ⟨h1, h2⟩
theorem inv_startK {us : List Value} {vs : List V} {h₁ : Heap} {tk : Nat} {oc : Obj} {cv : Option Value} (S : KScope N ps scope) (hd : A.handled = none) (e0 : Env0 P w K mg base A outer s H) (hl : vs.length = ps.length) (r : Vals vs us)
    (hns : h₁.Ns s.heap.objs.size fun x => (ps.zip us).reverse.lookup x) (kp : ∀ b o, s.heap.get? b = some o → h₁.get? b = some o) (hcc : K.lookup cc = some oc) (hcd : oc.data = .cell cv) :
    Inv (cxK P w K mg base N qual scope f cd cc A outer s H E) [] (start N vs) H { s with heap := h₁, toks := tk } := by
  have noA : ∀ b : Addr, b ∉ (cxK P w K mg base N qual scope f cd cc A outer s H E).ex := fun b z => absurd (show b ∈ ([] : List Addr) from z) (by simp)
  have hpl : ps.length ≤ N.length := by have := congrArg List.length S.pre; rw [List.length_take] at this; omega
  have one : ∀ {y : Str} {c : Addr}, ([("__class__", cc)] : List (Str × Addr)).lookup y = some c → y = ("__class__" : Str) ∧ c = cc := fun {y c} h => by
    rw [List.lookup] at h
    cases e : y == ("__class__" : Str) with
    | true => rw [e] at h; cases h; exact ⟨beq_iff_eq.mp e, rfl⟩
    | false => rw [e] at h; cases h
  have bc : base.get? cc = some oc := e0.mod.kin _ _ hcc
  have hc1 := e0.bs _ _ bc
  refine ⟨⟨e0.mod, S.kind, rfl, rfl, Nat.le_refl _, fun y z c h1 h2 => (one h1).1.trans (one h2).1.symm, fun y hy => ?_, fun y c z _ => ?_, fun _ => hd, Around.frames_deeper e0.frames, .inr ⟨rfl, rfl⟩, fun b z => absurd z (noA b), e0.bs, e0.bsz, fun b _ _ => noA b, fun b z => absurd z (noA b), e0.funs, e0.frf⟩,
    rfl, e0.bare, Un.kept kp, ⟨_, hns, fun i y v h1 h2 h3 => ?_⟩, fun y c h => ?_, e0.hok.fresh (Nat.le_refl _), fun y c h => ?_, fun p hp => absurd (show p ∈ ([] : List (Addr × Obj)) from hp) (by simp), e0.hok.kept kp, ?_⟩
  · have hy : scope.names.lookup y = some .cell ∨ scope.names.lookup y = some .free := hy
    rcases hy with hy | hy
    · exact absurd rfl (S.nocell _ (PySem.mem_of_lookup hy))
    · refine ⟨cc, ?_⟩
      have e := S.free _ (PySem.mem_of_lookup hy) rfl
      have e : y = ("__class__" : Str) := e
      subst e
      rfl
  · have z : false = true := z
    cases z
  · have hi : i < vs.length := by
      unfold L2.start at h2
      by_cases hi : i < vs.length
      · exact hi
      · rw [List.getElem?_append_right (by simpa using hi)] at h2
        rw [List.getElem?_replicate] at h2
        split at h2 <;> cases h2
    have ha : vs[i]? = some v := by
      unfold L2.start at h2
      rw [List.getElem?_append_left (by simpa using hi), List.getElem?_map] at h2
      cases e : vs[i]? with
      | none => rw [e] at h2; cases h2
      | some a => rw [e] at h2; cases h2; rfl
    obtain ⟨u, hu, rv⟩ := r.get ha
    have hp : ps[i]? = some y := by
      have h1 : N[i]? = some y := h1
      rw [← S.pre, List.getElem?_take_of_lt (by omega)]; exact h1
    have ndP : ps.Nodup := by rw [← S.pre]; exact S.nd.sublist (List.take_sublist _ _)
    exact ⟨u, rv, .inl ⟨S.par y (List.mem_of_getElem? hp), zip_look ndP hp hu⟩⟩
  · obtain ⟨_, rfl⟩ := one h
    exact ⟨cv, oc, kp _ _ hc1.1, hcd⟩
  · obtain ⟨_, rfl⟩ := one h
    exact hc1.2
  · unfold L2.start
    show _ = N.length
    rw [List.length_append, List.length_map, List.length_replicate]
    omega
/-- a def that knows its class, by its body -/
theorem fn_class (nc : Tb.cs = none) {x : Str} {st : Stmt} {cda D : Addr} {k : Nat} {body : MS} (F : FunK P K mg x qual st f cc cda D) (S : KScope N ps (defScope st))
    (hb : ∀ (kV doc pm : Value) (an : Option Addr) (ct : Value) (us : List Value), us.length = ps.length → bindArgs (PySem.W.ksFn x qual (defArgs st) (defBody st) (defScope st) .none kV doc pm an (.ref cda) ct cc) ⟨us, []⟩ = pure (ps.zip us))
    (h : ∀ (A : Around) (outer : List Env) (s : Shared) (H : Hp) (E : XK), NoG A → Room k (A.deeper (envK qual (defScope st) s.heap.objs.size f (.ref cda) cc)) →
      Takes (cxK P w K mg base N qual (defScope st) f (.ref cda) cc A outer s H E) (fun c d _ H => E c d H) → PMFs (cxK P w K mg base N qual (defScope st) f (.ref cda) cc A outer s H E) (fun c d _ H => E c d H) (defBody st) (defBody st) body) :
    FnA P w K mg base (k + 1) f (arity ps.length (defM N.length body)) := by
  intro A outer s H us vs Q E hr gd e0 r hsp
  obtain ⟨A1, st1, ms, sr, rm, hp⟩ := hsp
  obtain ⟨hl, hp⟩ := post_ite hp
  have hvl : vs.length = ps.length := rm.length.trans hl
  have hul : us.length = ps.length := r.length.symm.trans hvl
  obtain ⟨oc, od, kV, doc, pm, an, ct, osl, look⟩ := F.look
  obtain ⟨oce, hce, hcd⟩ := F.cell
  have KX : K.In s.heap := e0.mod.kin.keeps fun b o e => (e0.bs b o e).1
  have lim : s.heap.NoLimit := e0.mod.nolimit.keeps fun b o e => (e0.bs b o e).1
  refine ks_codeAny_call_defAt (fd := PySem.W.ksFn x qual (defArgs st) (defBody st) (defScope st) .none kV doc pm an (.ref cda) ct cc) (body := defBody st) (binds := ps.zip us) hr.depth (KX _ _ look) rfl lim (PySem.W.codeRec_of KX F.code) rfl (.of_eq (hb kV doc pm an ct us hul)) S.nocell
    (fun y hy => S.par y.1 (List.of_mem_zip hy).1) (fun h₁ hns kp => ?_) S.co S.gen S.kind
  have tk : Takes (cxK P w K mg base N qual (defScope st) f (.ref cda) cc A outer s H E) (fun c d _ H => E c d H) := takes_of rfl rfl rfl rfl
  have I : Inv (cxK P w K mg base N qual (defScope st) f (.ref cda) cc A outer s H E) [] (start N vs) H { s with heap := h₁, toks := s.toks + (ps.zip us).length } := inv_startK S hr.hd e0 hvl r hns kp hce hcd
  have hq := tS_of_def (n := N.length) hp sr rm nc
  refine ks_wpAt_mono (h A outer s H E gd (hr.deeper _) tk [] _ (start N vs) H _ I hq) (fun fl s' hs => ?_) fun e s' hs => hs
  have fin : ∀ {σ' : L2.St} {H' : Hp} {v : V} {u : Value}, Inv (cxK P w K mg base N qual (defScope st) f (.ref cda) cc A outer s H E) [] σ' H' s' → L2.RelV v u → Q v H' → CE outer P w H s Q u s' :=
    fun {σ' H' v u} J rv q => ⟨v, H', J.os, J.bare, J.base, J.hok, rv, q⟩
  cases fl with
  | ret u =>
    obtain ⟨v, σ', H', J, rv, q⟩ := hs
    exact fin J rv q
  | next =>
    obtain ⟨σ', H', J, q⟩ := hs
    exact fin (v := V.non) (u := Value.none) J rfl q
  | brk =>
    obtain ⟨_, _, _, q⟩ := hs
    exact False.elim q
  | cont =>
    obtain ⟨_, _, _, q⟩ := hs
    exact False.elim q
end
end MR

/-! super().m(..) -/
namespace MR
open PySem L2
variable [Tb]
/-- a body that knows its class D -/
structure InK (X : Cx) (f cda cc D : Addr) (sf : Str) : Prop where
  e1 : X.env.kindOf "super" = some .globalImplicit
  e2 : X.env.kindOf "__class__" = some .free
  e3 : X.env.func = some f
  e4 : X.env.code = .ref cda
  e5 : X.env.cells.lookup ("__class__" : Str) = some cc
  e6 : X.env.kindOf sf = some .local
  n0 : X.N[0]? = some sf
  fnq : ∃ (of : Obj) (fd : FuncData) (ar : Arg), X.K.lookup f = some of ∧ of.data = .func fd ∧ (fd.params.posonlyargs ++ fd.params.args).head? = some ar ∧ ar.arg = sf
  file : ∃ (o : Obj) (vs : Array Value) (file : Str) (tf : Tok), X.K.lookup cda = some o ∧ o.data = .fields vs ∧ vs[2]? = some (.str file tf) ∧ ((X.prog.main.file : Str) == file) = true
  cell : ∃ o : Obj, X.K.lookup cc = some o ∧ o.data = .cell (some (.ref D))
  cls : ∃ cd, PySem.W.clsIn X.K D = some cd
  top : (X.prog.main.scope.names.lookup ("super" : Str)).isSome = false
  sup : X.mg "super" = none
theorem InK.of {P : Program} {w : World} {K : PySem.W.Frag} {mg : Str → Option Value} {base : Heap} {N : List Str} {x qual : Str} {st : Stmt} {f cc cda D : Addr} {A : Around} {outer : List Env} {s : Shared} {H : Hp} {E : XK} {sf : Str} (F : FunK P K mg x qual st f cc cda D)
    (h1 : (defScope st).names.lookup ("super" : Str) = some .globalImplicit) (h2 : (defScope st).names.lookup ("__class__" : Str) = some .free) (h3 : (defScope st).names.lookup sf = some .local) (h4 : N[0]? = some sf) (h5 : ((defArgs st).posonlyargs ++ (defArgs st).args).head?.map (·.arg) = some sf) :
    InK (cxK P w K mg base N qual (defScope st) f (.ref cda) cc A outer s H E) f cda cc D sf := by
  refine ⟨h1, h2, rfl, rfl, rfl, h3, h4, ?_, F.file, F.cell, F.cls, F.top, F.sup⟩
  obtain ⟨oc, od, kV, doc, pm, an, ct, osl, look⟩ := F.look
  obtain ⟨ar, e1, e2⟩ := Option.map_eq_some_iff.mp h5
  exact ⟨_, _, ar, look, rfl, e1, e2⟩
def SupT (P : Program) (w : World) (K : PySem.W.Frag) (mg : Str → Option Value) (base : Heap) (k : Nat) (D : Addr) (m : Str) (tbl : Str → Option FM) : Prop :=
  PySem.W.nsIn K cStatics "thirdparty.any" = some none ∧ ∀ c C f, tbl c = some f → mg c = some (.ref C) → PySem.W.mroIn K C (.ref D) = some true ∧ ∃ f2, PySem.W.ks_superIn K C D m = some (some (.ref f2)) ∧ PySem.W.typeIn K (.ref f2) = some (.type "function") ∧ PySem.W.fnIn K f2 = true ∧ FnA P w K mg base k f2 f
def mSup (tbl : Str → Option FM) (r : MA) : ME := fun env st => match env[0]? with
  | some (some x) => (match insOf x st with
    | some (c, _, _) => (match tbl c with
      | some f => (r env st).bind fun xs st1 => f (x :: xs) st1
      | none => .bad)
    | none => .bad)
  | _ => .bad
section
variable {X : Cx} {W : WX} {body : List Stmt} {f cda cc D : Addr} {sf m : Str} {k : Nat} {tbl : Str → Option FM} {es : List Expr} {mr : MA} {p0 p1 apos pos : Pos}
theorem sup_in {σ : L2.St} {H : Hp} {Q : VK} (T : SupT X.prog X.w X.K X.mg X.base k D m tbl) (h : tE (gmOf X) W (mSup tbl mr) σ H Q) :
    ∃ a C dx fs f2 g, σ[0]? = some (some (.ref a)) ∧ H a = some (.ins C dx fs) ∧ PySem.W.mroIn X.K C (.ref D) = some true ∧ PySem.W.ks_superIn X.K C D m = some (some (.ref f2)) ∧ PySem.W.typeIn X.K (.ref f2) = some (.type "function") ∧ PySem.W.fnIn X.K f2 = true ∧ FnA X.prog X.w X.K X.mg X.base k f2 g ∧
      tA (gmOf X) W mr σ H fun vs H2 => spA (gmOf X) g (.ref a :: vs) H2 Q (WE W σ) := by
  obtain ⟨A, env, st, s, q, h⟩ := h
  unfold mSup at h
  split at h
  · rename_i x ex
    split at h
    · rename_i c ns xs hi
      split at h
      · rename_i g ht
        obtain ⟨v, ev, rv⟩ := q.get 0 x ex
        obtain ⟨a, C, dx, vs, e0, g1, g2, g3, g4⟩ := ins_rep s rv hi
        subst e0
        obtain ⟨t1, f2, t2, t3, t4, t5⟩ := T.2 c C g ht g1
        refine ⟨a, C, dx, _, f2, g, ev, g2, t1, t2, t3, t4, t5, ?_⟩
        rw [Res.post_bind] at h
        refine inA s q (Ext.refl A H) (h.mono (fun ms st2 h2 A2 H2 ws e2 s2 r2 => ?_) fun _ _ z => z)
        exact ⟨A2, st2, x :: ms, s2, .cons (rv.ext e2) r2, h2.mono (fun _ _ z => z.ext e2) fun _ _ z => z.ext e2⟩
      · exact h.elim
    · exact h.elim
  · exact h.elim
theorem pe_sup (hK : InK X f cda cc D sf) (T : SupT X.prog X.w X.K X.mg X.base k D m tbl) (hat : (m == ("__class__" : Str)) = false := by decide)
    {pins : List (Addr × Obj)} {s : Shared} {σ : L2.St} {H : Hp} {Q : VK}
    (hcw : ∀ (s2 : Shared) (q so : Addr) (ob : Obj) (f2 a : Addr) (g : FM), Inv X ((q, PySem.W.methodObj (.ref f2) (.ref a)) :: (so, ob) :: pins) σ H s2 → X.base.get? q = none → PySem.W.fnIn X.K f2 = true → FnA X.prog X.w X.K X.mg X.base k f2 g →
      tA (gmOf X) W mr σ H (fun vs H2 => spA (gmOf X) g (.ref a :: vs) H2 Q (WE W σ)) → wpAny (model X.prog X.w) X.A (callWith pos (.ref q) [] (backTo pos (starEach es X.env)) []) (EP X pins σ Q) X.xe s2)
    {pl : Sem Bool} (ht : eval (.Call (.Attribute (.Call (.Name "super" p0) [] [] p1) m apos) es [] pos) X.env = (do
      let ov ← attributeBase (.Call (.Name "super" p0) [] [] p1) m X.env (eval (.Call (.Name "super" p0) [] [] p1) X.env)
      standAt apos.atName
      let (f, first) ← holding [ov] (getMethod ov m pl)
      callWith pos f first (backTo pos (starEach es X.env)) []))
    (I : Inv X pins σ H s) (h : tE (gmOf X) W (mSup tbl mr) σ H Q) :
    wpAt (model X.prog X.w) X.A (.func body X.env) (eval (.Call (.Attribute (.Call (.Name "super" p0) [] [] p1) m apos) es [] pos) X.env) (EP X pins σ Q) X.xe s := by
  obtain ⟨a, C, dx, fs, f2, g, e0, eH, t1, t2, t3, t4, F, q⟩ := sup_in T h
  obtain ⟨of, fd, ar, l1, l2, l3, l4⟩ := hK.fnq
  obtain ⟨oc, vs, file, tf, c1, c2, c3, c4⟩ := hK.file
  obtain ⟨oce, d1, d2⟩ := hK.cell
  obtain ⟨cdD, hcD⟩ := hK.cls
  have KX := I.kIn
  obtain ⟨mA, O, _, _, _, _⟩ := ins_get I.hok eH
  obtain ⟨od, J, _⟩ := O.look
  obtain ⟨oD, hD1, hD2⟩ : ∃ oD, s.heap.get? D = some oD ∧ oD.data = .cls cdD := by
    unfold PySem.W.clsIn at hcD
    split at hcD
    · rename_i c d cd' sl ho
      cases hcD
      exact ⟨_, KX _ _ ho, rfl⟩
    · cases hcD
  obtain ⟨mb, hb1, hb2⟩ := I.mod.blt
  obtain ⟨m0, hns, hloc⟩ := I.loc
  obtain ⟨u, ru, lk⟩ := hloc 0 sf _ hK.n0 e0 (.inl hK.e6)
  obtain rfl : u = Value.ref a := ru
  have hm0 : m0 sf = some (.ref a) := by
    rcases lk with ⟨_, z⟩ | ⟨z | z, _⟩
    · exact z
    · rw [hK.e6] at z; cases z
    · rw [hK.e6] at z; cases z
  refine ks_wpAt_MethodCall (pl := pl) ?_ ht
  refine ks_wpAt_super_base hK.e1 hK.e2 hat hK.e3 (KX _ _ l1) l2 l3 hK.e4 (KX _ _ c1) c2 c3 c4 hK.top ?_
  refine PySem.W.ks_loadName_global I.ok.kind hK.e1 (Calls.loadGlobal_builtin (by rw [I.ok.glob]; exact I.mod.glob.keeps I.bk) hK.sup (by rw [I.ok.blt]; exact hb1.keeps I.bk) ((hb2 "super" (by decide)).trans (by decide +kernel)) ⟨rfl, ?_⟩)
  refine wpAny_loadName_free I.ok.kind hK.e2 hK.e5 ⟨_, KX _ _ d1, d2⟩ ?_
  rw [l4]
  refine wpAny_loadName_local I.ok.kind hK.e6 hns hm0 ?_
  have I0 := I
  obtain ⟨hh, gg, dd, tt, os⟩ := s
  refine ks_wpAny_isType_cls hD1 hD2 ⟨rfl, ?_⟩
  refine ks_wpAny_call_super hD1 hD2 J.at_ J.cls (fun c e => ?_) (PySem.W.looks_mroIn KX t1) (fun h' e kk => ?_)
  · have := J.no
    unfold PySem.W.notCls at this
    rw [e] at this
    exact Bool.noConfusion this
  have I1 : Inv X ((hh.objs.size, PySem.W.ks_superObj D a C) :: pins) σ H ⟨h', gg, dd, tt, os⟩ := ClX.pin_new (t' := tt) I kk (Nat.le_refl _) e (fun v z => by cases z)
  have KX1 := I1.kIn
  obtain ⟨cd, hcC⟩ : ∃ cd, PySem.W.clsIn X.K C = some cd := by
    cases hc : PySem.W.clsIn X.K C with
    | none => unfold PySem.W.ks_superIn at t2; rw [hc] at t2; cases t2
    | some cd => exact ⟨cd, rfl⟩
  have t2' := t2
  unfold PySem.W.ks_superIn at t2'
  rw [hcC] at t2'
  obtain ⟨o2, ho2, hoc2⟩ : ∃ o2, h'.get? f2 = some o2 ∧ o2.cls = .type "function" := by
    have ht' : (X.K.lookup f2).map (·.cls) = some (.type "function") := t3
    cases z : X.K.lookup f2 with
    | none => rw [z] at ht'; cases ht'
    | some o2 => rw [z] at ht'; exact ⟨o2, KX1 _ _ z, Option.some.inj ht'⟩
  refine ks_wpAny_getMethod_super (l₀ := cd.mro) e (PySem.W.looks_opaque KX1 T.1) ?_ rfl KX1 t2' ho2 hoc2 (PySem.W.ks_ne KX J hcC) hat ?_
  · exact fun A Q E s k q => wpAny_bind ((PySem.W.looks_clsIn KX1 hcC) A _ E s k (wpAny_pure q))
  have I2 : Inv X ((h'.objs.size, PySem.W.methodObj (.ref f2) (.ref a)) :: (hh.objs.size, PySem.W.ks_superObj D a C) :: pins) σ H ⟨h'.push (PySem.W.methodObj (.ref f2) (.ref a)), gg, dd, tt + 1, os⟩ :=
    ClX.pin_new (t' := tt + 1) I1 (fun b o z => Heap.get?_push_of_some _ z) (Nat.le_refl _) (Heap.get?_push_size _ rfl) (fun v z => nomatch z)
  have hbq : X.base.get? h'.objs.size = none := ClX.base_none I1 (Nat.le_refl _)
  exact hcw _ _ _ _ f2 a g I2 hbq t4 F q
theorem sup_args {e : Expr} (hr : Room k X.A) (gd : NoG X.A) (tk : Lets X W) (ha : PMA X W (e :: es) mr)
    (he : starEach (e :: es) X.env = (false, eval e X.env) :: starEach es X.env) (hpl : (backTo pos (starEach es X.env)).any (·.1) = false)
    {pins : List (Addr × Obj)} {σ : L2.St} {H : Hp} {Q : VK} {s2 : Shared} {q so : Addr} {ob : Obj} {f2 a : Addr} {g : FM} (I2 : Inv X ((q, PySem.W.methodObj (.ref f2) (.ref a)) :: (so, ob) :: pins) σ H s2) (hbq : X.base.get? q = none) (t4 : PySem.W.fnIn X.K f2 = true) (F : FnA X.prog X.w X.K X.mg X.base k f2 g)
    (h : tA (gmOf X) W mr σ H (fun vs H2 => spA (gmOf X) g (.ref a :: vs) H2 Q (WE W σ))) : wpAny (model X.prog X.w) X.A (callWith pos (.ref q) [] (backTo pos (starEach (e :: es) X.env)) []) (EP X pins σ Q) X.xe s2 := by
  have hL : q ≠ X.env.locals := (I2.pin (q, PySem.W.methodObj (.ref f2) (.ref a)) (List.mem_append_right _ List.mem_cons_self)).2.2.1
  refine PySem.W.callWith_M (first := []) I2.ok.mod.kin (news_at hL hbq (ClX.pin_at I2)) List.mem_cons_self t4 (wpAny_mono (ha.run pos _ _ σ H _ I2 h) (fun us s3 ⟨vs, H2, I3, rv, q2⟩ => ⟨⟨ClX.pin_at I3, I3.kIn⟩, ?_⟩) fun _ _ z => z) he hpl
  have z : wpAny (model X.prog X.w) X.A (call (.ref q) us) (EP X ((q, PySem.W.methodObj (.ref f2) (.ref a)) :: (so, ob) :: pins) σ Q) X.xe s3 :=
    wpAny_call (PySem.W.method_call (ClX.pin_at I3) (code_fnP (us := .ref a :: us) (vs := .ref a :: vs) F hr gd (tk σ) I3 (.cons rfl rv) q2))
  exact wpAny_mono z (fun _ _ y => ClX.unpinE (ClX.unpinE y)) fun _ _ z => z
theorem sup_args0 (hr : Room k X.A) (gd : NoG X.A) (tk : Lets X W)
    {pins : List (Addr × Obj)} {σ : L2.St} {H : Hp} {Q : VK} {s2 : Shared} {q so : Addr} {ob : Obj} {f2 a : Addr} {g : FM} (I2 : Inv X ((q, PySem.W.methodObj (.ref f2) (.ref a)) :: (so, ob) :: pins) σ H s2) (hbq : X.base.get? q = none) (t4 : PySem.W.fnIn X.K f2 = true) (F : FnA X.prog X.w X.K X.mg X.base k f2 g)
    (h : tA (gmOf X) W aNil σ H (fun vs H2 => spA (gmOf X) g (.ref a :: vs) H2 Q (WE W σ))) : wpAny (model X.prog X.w) X.A (callWith pos (.ref q) [] (backTo pos (starEach [] X.env)) []) (EP X pins σ Q) X.xe s2 := by
  refine PySem.W.callWith_M0 (first := []) ⟨ClX.pin_at I2, I2.kIn⟩ t4 ?_
  have q2 : spA (gmOf X) g [.ref a] H Q (WE W σ) := by
    obtain ⟨A, env, st, s, _, h⟩ := h
    exact h A H [] (Ext.refl A H) s .nil
  have z : wpAny (model X.prog X.w) X.A (call (.ref q) []) (EP X ((q, PySem.W.methodObj (.ref f2) (.ref a)) :: (so, ob) :: pins) σ Q) X.xe s2 :=
    wpAny_call (PySem.W.method_call (ClX.pin_at I2) (code_fnP (us := [.ref a]) (vs := [.ref a]) F hr gd (tk σ) I2 (.cons rfl .nil) q2))
  exact wpAny_mono z (fun _ _ y => ClX.unpinE (ClX.unpinE y)) fun _ _ z => z
/-- super().m(..) as a statement -/
theorem pmf_sup (hK : InK X f cda cc D sf) (T : SupT X.prog X.w X.K X.mg X.base k D m tbl) (hr : Room k X.A) (gd : NoG X.A) (tk : Lets X W) {e : Expr} (ha : PMA X W (e :: es) mr) (hat : (m == ("__class__" : Str)) = false := by decide)
    (he : starEach (e :: es) X.env = (false, eval e X.env) :: starEach es X.env := by rfl) (hpl : (backTo pos (starEach es X.env)).any (·.1) = false := by rfl)
    {pl : Sem Bool} (ht : eval (.Call (.Attribute (.Call (.Name "super" p0) [] [] p1) m apos) (e :: es) [] pos) X.env = (do
      let ov ← attributeBase (.Call (.Name "super" p0) [] [] p1) m X.env (eval (.Call (.Name "super" p0) [] [] p1) X.env)
      standAt apos.atName
      let (f, first) ← holding [ov] (getMethod ov m pl)
      callWith pos f first (backTo pos (starEach (e :: es) X.env)) []) := by rfl) {spos : Pos}
    (hi : interactive X.env = false := by rfl) (hs : swapsWith (.Call (.Attribute (.Call (.Name "super" p0) [] [] p1) m apos) (e :: es) [] pos) none spos.line X.env = pure false := by rfl) :
    PMF X W body (.Expr (.Call (.Attribute (.Call (.Name "super" p0) [] [] p1) m apos) (e :: es) [] pos) spos) (sExpr (mSup tbl mr)) := fun pins s σ H D I ⟨A, env, st, sr, q, h⟩ => by
  refine ks_wpAt_Expr_any (ks_wpAt_mono (pe_sup (Q := fun _ H' => D.nx σ H') hK T hat (fun s2 q so ob f2 a g I2 h1 h2 F h => sup_args hr gd tk ha he hpl I2 h1 h2 F h) ht I ?_) (fun v s' z => ?_) fun _ _ z => z) hi hs
  · exact inE sr q (Ext.refl A H) ((post_bindE h).mono (fun mx st1 h1 A1 H1 x e1 s1 r1 => h1 A1 H1 _ e1 s1 (q.ext e1)) fun _ _ z => exP_of q z)
  · obtain ⟨v, H', I', _, z⟩ := z
    exact ⟨σ, H', I', z⟩
theorem pmf_sup0 (hK : InK X f cda cc D sf) (T : SupT X.prog X.w X.K X.mg X.base k D m tbl) (hr : Room k X.A) (gd : NoG X.A) (tk : Lets X W) (hat : (m == ("__class__" : Str)) = false := by decide)
    {pl : Sem Bool} (ht : eval (.Call (.Attribute (.Call (.Name "super" p0) [] [] p1) m apos) [] [] pos) X.env = (do
      let ov ← attributeBase (.Call (.Name "super" p0) [] [] p1) m X.env (eval (.Call (.Name "super" p0) [] [] p1) X.env)
      standAt apos.atName
      let (f, first) ← holding [ov] (getMethod ov m pl)
      callWith pos f first (backTo pos (starEach [] X.env)) []) := by rfl) {spos : Pos}
    (hi : interactive X.env = false := by rfl) (hs : swapsWith (.Call (.Attribute (.Call (.Name "super" p0) [] [] p1) m apos) [] [] pos) none spos.line X.env = pure false := by rfl) :
    PMF X W body (.Expr (.Call (.Attribute (.Call (.Name "super" p0) [] [] p1) m apos) [] [] pos) spos) (sExpr (mSup tbl aNil)) := fun pins s σ H D I ⟨A, env, st, sr, q, h⟩ => by
  refine ks_wpAt_Expr_any (ks_wpAt_mono (pe_sup (Q := fun _ H' => D.nx σ H') hK T hat (fun s2 q so ob f2 a g I2 h1 h2 F h => sup_args0 hr gd tk I2 h1 h2 F h) ht I ?_) (fun v s' z => ?_) fun _ _ z => z) hi hs
  · exact inE sr q (Ext.refl A H) ((post_bindE h).mono (fun mx st1 h1 A1 H1 x e1 s1 r1 => h1 A1 H1 _ e1 s1 (q.ext e1)) fun _ _ z => exP_of q z)
  · obtain ⟨v, H', I', _, z⟩ := z
    exact ⟨σ, H', I', z⟩
end
end MR

/-! {elt for a in x for b in y}: the two-clause set comprehension of texts -/
namespace MR
open PySem PySem.Spec PyProof.Rows L2
variable [Tb]
section
variable {P : Program} {w : World} {A : Around} {E : Value → Shared → Prop} {s : Shared} {a : Addr} {S : Str → Bool} {n : Nat}
theorem setT_fresh {h : Heap} (P : Program) (w : World) : SetT P w (h.push { cls := .type "set", dict := none, data := .set #[] 0 (.fresh 0 0 (!w.params.followText "set-order")) }) h.objs.size (fun _ => false) 0 :=
  (setT_new_at (xs := []) (Heap.get?_push_size _ rfl)).congr fun _ => by simp
theorem setT_add1 {k : Str} {tk : Tok} {Q : Value → Shared → Prop} (R : SetT P w s.heap a S n) (room : n + 1 < scanBound)
    (hQ : ∀ h', Heap.SameBut a s.heap h' → SetT P w h' a (fun j => S j || decide (j = k)) (if S k = true then n else n + 1) → Q .none { s with heap := h', toks := s.toks + 1 }) : wpAny (model P w) A (call (.builtin "set.add") [.ref a, .str k tk]) Q E s := by
  have hS : s.TypeIs (.ref a) "set" := by
    obtain ⟨o, es, ep, t, ho, hex, _⟩ := R
    exact ⟨o, ho, hex.1⟩
  refine wpAny_call_entry F.slot_set_add hS F.entry_set_add ?_ (F.args_set_add_2 _ _)
  unfold Builtin.«set.add» Builtin.Frozenset.oneOther
  simp only [List.isEmpty_nil, bind_assoc]
  unfold Builtin.Frozenset.addrOf setAdd
  refine wpAny_bind (wpAny_pure ?_)
  try dsimp only
  refine wpAny_bind (wpAny_pure ?_)
  try dsimp only
  refine wpAny_bind (wpAny_holding (wpAny_bind ((tkind P w).pyHash (strKind_is P w k tk) ?_)))
  refine setT_add_hashed (s := { s with toks := s.toks + 1 }) R room fun h' sb r => ?_
  show wpAny _ _ (ret Value.none) _ _ _
  exact wpAny_pure ⟨_, rfl, hQ h' sb r⟩
end
section
variable {X : Cx}
theorem addT_ok {pins : List (Addr × Obj)} {σ : L2.St} {H : Hp} {s : Shared} {E : Value → Shared → Prop} {D : Addr} {S : Str → Bool} {n : Nat} {y : Str} {tk : Tok} {Q : Value → Shared → Prop} (I : Inv X pins σ H s) (hD : H D = some (SetTO X.prog X.w D S n)) (room : n + 1 < scanBound)
    (h : ∀ s', Inv X pins σ (upd H D (SetTO X.prog X.w D (fun j => S j || decide (j = y)) (if S y = true then n else n + 1))) s' → Q .none s') : wpAny (model X.prog X.w) X.A (call (.builtin "set.add") [.ref D, .str y tk]) Q E s := by
  have R := setTO_get I hD
  refine setT_add1 R room fun h' sb new => ?_
  have he : ∃ u, h'.get? D = some u := by
    have ⟨o, _, _, _, ho, _⟩ := new
    exact ⟨o, ho⟩
  exact h _ (I.write (e := D) (t' := s.toks + 1) (by rw [hD]; trivial) (.inl rfl) (fun b u hb hu => (sb.2 b hb).trans hu) he (setTO_new new))
end
theorem compTurn2S_out (elt t0 i0 t1 i1 : Expr) (ifs0 ifs1 : List Expr) (scope : Scope) (pos : Pos) (it acc : Value) (env : Env) :
    compTurn (.SetComp elt [⟨t0, i0, ifs0, 0⟩, ⟨t1, i1, ifs1, 0⟩] scope pos) 0 it acc env = (do
      standAt i0.pos
      match ← pyNext it with
      | none => pure (.done .next)
      | some v =>
        letOwnedTupleGo t0 it v
        assign t0 env v
        let mut ok := true
        for c in ifs0 do
          if ok then ok ← isTrue c env (eval c env)
        if ok then
          let x ← eval i1 env
          standAt i1.pos
          let x ← foldedSetIterable i1 env x
          let _ ← runOwn (.compStart (.SetComp elt [⟨t0, i0, ifs0, 0⟩, ⟨t1, i1, ifs1, 0⟩] scope pos) 1 (← holding [x] (pyIter x)) acc env) env
        again (.compLoop (.SetComp elt [⟨t0, i0, ifs0, 0⟩, ⟨t1, i1, ifs1, 0⟩] scope pos) 0 it acc env)) := by rfl
theorem compTurn2S_in (elt t0 i0 t1 i1 : Expr) (ifs0 ifs1 : List Expr) (scope : Scope) (pos : Pos) (it acc : Value) (env : Env) :
    compTurn (.SetComp elt [⟨t0, i0, ifs0, 0⟩, ⟨t1, i1, ifs1, 0⟩] scope pos) 1 it acc env = (do
      standAt i1.pos
      match ← pyNext it with
      | none => pure (.done .next)
      | some v =>
        letOwnedTupleGo t1 it v
        assign t1 env v
        let mut ok := true
        for c in ifs1 do
          if ok then ok ← isTrue c env (eval c env)
        if ok then
          (do let v ← eval elt env; standAt elt.pos; let _ ← call (.builtin "set.add") [acc, v])
        again (.compLoop (.SetComp elt [⟨t0, i0, ifs0, 0⟩, ⟨t1, i1, ifs1, 0⟩] scope pos) 1 it acc env)) := by rfl

section
variable {prog : Program} {w : World} {A : Around} {R : Result → Shared → Prop} {s : Shared} {elt t0 i0 t1 i1 : Expr} {ifs0 ifs1 : List Expr} {scope : Scope} {pos : Pos} {it acc : Value} {env : Env}
/-- the loop of the first clause -/
theorem compLoop2S_out (hs : ∀ x, foldedSetIterable i1 env x = pure x) (I : Nat → Shared → Prop)
    (turn : ∀ n s, I n s → wpAny (model prog w) A (pyNext it) (fun r s₁ => match r with
      | none => R (.ok .next) s₁
      | some v => wpAny (model prog w) A (letOwnedTupleGo t0 it v) (fun _ s₁' => wpAny (model prog w) A (assign t0 env v) (fun _ s₂ =>
          wpAny (model prog w) A (forIn ifs0 true fun c r => if r = true then do let ok ← isTrue c env (eval c env); pure (ForInStep.yield ok) else pure (ForInStep.yield r)) (fun ok s₃ =>
            if ok = true then wpAny (model prog w) A (eval i1 env) (fun x s₄ => wpAny (model prog w) A (pyIter x) (fun it1 s₅ =>
              codeAny (model prog w) A (.compStart (.SetComp elt [⟨t0, i0, ifs0, 0⟩, ⟨t1, i1, ifs1, 0⟩] scope pos) 1 it1 acc env) (fun r s' => match r with
                | .ok _ => ∃ m, m < n ∧ I m s'
                | .error _ => False) s₅) (notedBy (model prog w) A env fun e s' => R (.error e) s') s₄) (notedBy (model prog w) A env fun e s' => R (.error e) s') s₃
            else ∃ m, m < n ∧ I m s₃) (notedBy (model prog w) A env fun e s' => R (.error e) s') s₂) (notedBy (model prog w) A env fun e s' => R (.error e) s') s₁') (notedBy (model prog w) A env fun e s' => R (.error e) s') s₁) (notedBy (model prog w) A env fun e s' => R (.error e) s') s)
    (n : Nat) (h : I n s) :
    codeAny (model prog w) A (.compLoop (.SetComp elt [⟨t0, i0, ifs0, 0⟩, ⟨t1, i1, ifs1, 0⟩] scope pos) 0 it acc env) R s := by
  refine codeAny_loop rfl I (fun n s hI => ?_) n h
  show wpAny _ A ((compTurn (.SetComp elt [⟨t0, i0, ifs0, 0⟩, ⟨t1, i1, ifs1, 0⟩] scope pos) 0 it acc env).onRaise (fun x => do noteFrame x env; theTreesLotGoes x)) _ _ s
  refine wpAny_noted ?_
  rw [compTurn2S_out]
  refine wpAny_bind (wpAny_standAt (wpAny_bind (wpAny_mono (turn n s hI) (fun r s₁ h₁ => ?_) fun _ _ h' => h')))
  cases r with
  | none => exact wpAny_pure h₁
  | some v =>
    refine wpAny_bind (wpAny_mono h₁ (fun _ s₁' h₁' => ?_) fun _ _ h' => h')
    refine wpAny_bind (wpAny_mono h₁' (fun _ s₂ h₂ => wpAny_bind (wpAny_mono h₂ (fun ok s₃ h₃ => ?_) fun _ _ h' => h')) fun _ _ h' => h')
    cases ok with
    | false => exact wpAny_pure ⟨rfl, h₃⟩
    | true =>
      refine wpAny_bind (wpAny_mono h₃ (fun x s₄ h₄ => ?_) fun _ _ h' => h')
      refine wpAny_bind (wpAny_standAt (wpAny_bind (wpAny_of_eq (hs x) (wpAny_bind (wpAny_holding (wpAny_mono h₄ (fun it1 s₅ h₅ => ?_) fun _ _ h' => h'))))))
      refine wpAny_bind (wpAny_runOwn ?_)
      rw [Around.mark_none]
      refine codeAny_mono h₅ fun r s' hr => ?_
      cases r with
      | ok f =>
        first
          | exact wpAny_pure ⟨rfl, hr⟩
          | exact wpAny_bind (wpAny_pure (wpAny_pure ⟨rfl, hr⟩))
      | error e => exact hr.elim
/-- the loop of the second -/
theorem compLoop2S_in (I : Nat → Shared → Prop)
    (turn : ∀ n s, I n s → wpAny (model prog w) A (pyNext it) (fun r s₁ => match r with
      | none => R (.ok .next) s₁
      | some v => wpAny (model prog w) A (letOwnedTupleGo t1 it v) (fun _ s₁' => wpAny (model prog w) A (assign t1 env v) (fun _ s₂ =>
          wpAny (model prog w) A (forIn ifs1 true fun c r => if r = true then do let ok ← isTrue c env (eval c env); pure (ForInStep.yield ok) else pure (ForInStep.yield r)) (fun ok s₃ =>
            if ok = true then wpAny (model prog w) A (eval elt env) (fun x s₄ =>
              wpAny (model prog w) A (call (.builtin "set.add") [acc, x]) (fun _ s₅ => ∃ m, m < n ∧ I m s₅) (notedBy (model prog w) A env fun e s' => R (.error e) s') s₄) (notedBy (model prog w) A env fun e s' => R (.error e) s') s₃
            else ∃ m, m < n ∧ I m s₃) (notedBy (model prog w) A env fun e s' => R (.error e) s') s₂) (notedBy (model prog w) A env fun e s' => R (.error e) s') s₁') (notedBy (model prog w) A env fun e s' => R (.error e) s') s₁) (notedBy (model prog w) A env fun e s' => R (.error e) s') s)
    (n : Nat) (h : I n s) :
    codeAny (model prog w) A (.compLoop (.SetComp elt [⟨t0, i0, ifs0, 0⟩, ⟨t1, i1, ifs1, 0⟩] scope pos) 1 it acc env) R s := by
  refine codeAny_loop rfl I (fun n s hI => ?_) n h
  show wpAny _ A ((compTurn (.SetComp elt [⟨t0, i0, ifs0, 0⟩, ⟨t1, i1, ifs1, 0⟩] scope pos) 1 it acc env).onRaise (fun x => do noteFrame x env; theTreesLotGoes x)) _ _ s
  refine wpAny_noted ?_
  rw [compTurn2S_in]
  refine wpAny_bind (wpAny_standAt (wpAny_bind (wpAny_mono (turn n s hI) (fun r s₁ h₁ => ?_) fun _ _ h' => h')))
  cases r with
  | none => exact wpAny_pure h₁
  | some v =>
    refine wpAny_bind (wpAny_mono h₁ (fun _ s₁' h₁' => ?_) fun _ _ h' => h')
    refine wpAny_bind (wpAny_mono h₁' (fun _ s₂ h₂ => wpAny_bind (wpAny_mono h₂ (fun ok s₃ h₃ => ?_) fun _ _ h' => h')) fun _ _ h' => h')
    cases ok with
    | false => exact wpAny_pure ⟨rfl, h₃⟩
    | true =>
      exact wpAny_bind (wpAny_bind (wpAny_mono h₃ (fun x s₄ h₄ => wpAny_bind (wpAny_standAt (wpAny_bind (wpAny_mono h₄ (fun _ s₅ h₅ => wpAny_pure (wpAny_pure ⟨rfl, h₅⟩)) fun _ _ h' => h')))) fun _ _ h' => h'))
/-- the second clause's start -/
theorem compStart1S_ok (h0 : codeAny (model prog w) A (.compLoop (.SetComp elt [⟨t0, i0, ifs0, 0⟩, ⟨t1, i1, ifs1, 0⟩] scope pos) 1 it acc env) R s)
    (h : wpAny (model prog w) A (pyIter it) (fun it' s' => codeAny (model prog w) A (.compLoop (.SetComp elt [⟨t0, i0, ifs0, 0⟩, ⟨t1, i1, ifs1, 0⟩] scope pos) 1 it' acc env) R s')
      (notedBy (model prog w) A env fun x s' => R (.error x) s') s) :
    codeAny (model prog w) A (.compStart (.SetComp elt [⟨t0, i0, ifs0, 0⟩, ⟨t1, i1, ifs1, 0⟩] scope pos) 1 it acc env) R s := by
  refine codeAny_of_tree ?_
  show wpAny _ _ ((compStart (.SetComp elt [⟨t0, i0, ifs0, 0⟩, ⟨t1, i1, ifs1, 0⟩] scope pos) 1 it acc env).onRaise (fun x => do noteFrame x env; standAt theWindowsPlace)) _ _ s
  refine wpAny_notedAt ?_
  unfold compStart
  show wpAny _ _ (ask >>= _) _ _ s
  refine wpAny_bind (wpAny_askSetting (wpAny_ite ?_))
  split
  · first
      | exact wpAny_bind (wpAny_pure (wpAny_pure (And.intro rfl h0)))
      | exact wpAny_pure (And.intro rfl h0)
  · first
      | exact wpAny_bind (wpAny_rule (wpAny_bind (wpAny_standAt (wpAny_bind (wpAny_mono h (fun it' s' h' => wpAny_pure (And.intro rfl h')) fun _ _ x => x)))))
      | (refine wpAny_bind (wpAny_rule ?_); show wpAny _ _ (standAt i1.pos >>= _) _ _ s; exact wpAny_bind (wpAny_standAt (wpAny_bind (wpAny_mono h (fun it' s' h' => wpAny_pure (And.intro rfl h')) fun _ _ x => x))))
end

section
variable {X : Cx}
/-- [elt for tg in iter if .. for tg1 in iter1 if ..]: behind the first clause's store and tests the second source's own loop, from which Nx is reached. vs: the block's names; vs1: those of the second target -/
def tSc2 (P : Program) (w : World) (wi : TI) (g : TG) (tt : TT) (wi1 : TI) (g1 : TG) (tt1 : TT) (te : TE) (vs vs1 : List Nat) : TE := fun σ H Q => wi σ H fun J H1 => ∀ D, H1 D = none → ∃ W : Nat → Nat → Hp → Prop, (∃ m, W 0 m (upd H1 D (SetTO P w D (fun _ => false) 0))) ∧ ∀ i m H, W i m H →
  (J.stop i H ∧ Q (.ref D) H) ∨ (J.go i H ∧ ∃ Nx : Hp → Prop, (∀ H', Nx H' → ∃ m', m' < m ∧ W (i + 1) m' H') ∧ ∀ x H', J.yld i H x H' → g x (wipe σ vs) H' fun σ2 H2 => wipe σ2 vs = wipe σ vs ∧ tt σ2 H2 fun b H3 =>
    if b = true then wi1 σ2 H3 fun J1 H4 => ∃ W1 : Nat → Nat → Hp → Prop, (∃ m, W1 0 m H4) ∧ ∀ j k H, W1 j k H →
      (J1.stop j H ∧ Nx H) ∨ (J1.go j H ∧ ∃ Nx1 : Hp → Prop, (∀ H', Nx1 H' → ∃ k', k' < k ∧ W1 (j + 1) k' H') ∧ ∀ x H', J1.yld j H x H' → g1 x (wipe σ2 vs1) H' fun σ3 H5 => wipe σ3 vs1 = wipe σ2 vs1 ∧ tt1 σ3 H5 fun b H6 =>
        if b = true then te σ3 H6 fun y H7 => ∃ (z : Str) (S : Str → Bool) (n : Nat), y = .str z ∧ H7 D = some (SetTO P w D S n) ∧ n + 1 < scanBound ∧ Nx1 (upd H7 D (SetTO P w D (fun j => S j || decide (j = z)) (if S z = true then n else n + 1))) else Nx1 H6)
    else Nx H3)
theorem sc2_core {pins : List (Addr × Obj)} {s : Shared} {σ : L2.St} {H : Hp} {Q : VK} {elt tg iter tg1 iter1 : Expr} {ifs ifs1 : List Expr} {scope : Scope} {own : List (Str × Nat)} {vs1 : List Nat} {pos pos' : Pos} {wi wi1 : TI} {g g1 : TG} {tt tt1 : TT} {te : TE} {use : Option (Value → Sem Unit)} {Qf : Value → Shared → Prop}
    (hc : X.calm = true) (hN : X.N.Nodup) (I : Inv X pins σ H s) (hi : PI X tg iter wi) (ok : BlkOk X.N X.env.scope scope own) (hv : ∀ i ∈ vs1, i ∈ own.map (·.2))
    (hg : ∀ (s : Shared) (H : Hp) (C : Addr) (cl : List (Str × Addr)) (fp : List Addr), PG (X.blk s H scope (compEnvC scope cl C X.env) fp) tg g) (ht : ∀ (s : Shared) (H : Hp) (C : Addr) (cl : List (Str × Addr)) (fp : List Addr), PTs (X.blk s H scope (compEnvC scope cl C X.env) fp) ifs tt)
    (he : ∀ (s : Shared) (H : Hp) (C : Addr) (cl : List (Str × Addr)) (fp : List Addr), PE (X.blk s H scope (compEnvC scope cl C X.env) fp) elt te) (hs : ∀ x, foldedSetIterable iter X.env x = pure x)
    (hi1 : ∀ (s : Shared) (H : Hp) (C : Addr) (cl : List (Str × Addr)) (fp : List Addr), PI (X.blk s H scope (compEnvC scope cl C X.env) fp) tg1 iter1 wi1)
    (hg1 : ∀ (s : Shared) (H : Hp) (C : Addr) (cl : List (Str × Addr)) (fp : List Addr), PG (X.blk s H scope (compEnvC scope cl C X.env) fp) tg1 g1)
    (ht1 : ∀ (s : Shared) (H : Hp) (C : Addr) (cl : List (Str × Addr)) (fp : List Addr), PTs (X.blk s H scope (compEnvC scope cl C X.env) fp) ifs1 tt1)
    (hs1 : ∀ env x, foldedSetIterable iter1 env x = pure x)
    (h : tSc2 X.prog X.w wi g tt wi1 g1 tt1 te (own.map (·.2)) vs1 σ H Q)
    (hRR : ∀ D C s' m H', Inv X pins σ H' s' → Q (.ref D) H' → s'.heap.Ns C m → FpOk X pins H' C → compPost (model X.prog X.w) X.A X.xe use Qf (.ref D) C (.ok .next) s') :
    wpAny (model X.prog X.w) X.A (comprehension (.SetComp elt [⟨tg, iter, ifs, 0⟩, ⟨tg1, iter1, ifs1, 0⟩] scope pos) scope X.env pos' (PySem.newSet (.type "set")) false (eval iter X.env) use) Qf X.xe s := by
  have hfree : ∀ y ∈ scope.names, y.2 = .free → ∃ c, X.env.cells.lookup y.1 = some c := fun y hy e => by
    rcases ok.free y hy e with k | k
    · exact I.ok.has _ (.inl k)
    · exact I.ok.has _ (.inr k)
  refine wpAny_comprehension_free (use := use) rfl hs (closure_ok hfree) ok.kind (fun y hy e => by rw [ok.uniq y hy, e])
    (thn (hi.run pins s σ H _ I h) fun xv s1 hx => thn hx fun itv s2 h2 => ?_)
  obtain ⟨it, fp, tn, J, H2, e, I2, T, st2, f2, q⟩ := h2
  subst e
  refine PpSet.newSet_ok (newEnv_comp ?_)
  generalize hD : s2.heap.objs.size = D
  have hDn : H2 D = none := I2.hok.fresh (Nat.le_of_eq hD)
  obtain ⟨W, ⟨m0, w0⟩, turn⟩ := q D hDn
  -- the new list
  generalize hs3 : ({ s2 with heap := s2.heap.push { cls := .type "set", dict := none, data := .set #[] 0 (.fresh 0 0 (!X.w.params.followText "set-order")) } } : Shared) = s3
  have I3 : Inv X pins σ (upd H2 D (SetTO X.prog X.w D (fun _ => false) 0)) s3 := by
    rw [← hs3]
    refine I2.laid (t' := s2.toks) (fun b o e => Heap.get?_push_of_some _ e) (Nat.le_of_eq hD) ?_
    rw [← hD]
    exact setTO_new (setT_fresh X.prog X.w)
  have h3 : s3.heap = s2.heap.push { cls := .type "set", dict := none, data := .set #[] 0 (.fresh 0 0 (!X.w.params.followText "set-order")) } := by rw [← hs3]
  have sz : ∀ b ∈ fp, b < s2.heap.objs.size := fun b hb => by
    obtain ⟨o, e, _⟩ := T.obj _ _ st2 b hb
    exact Heap.lt_size e
  have f3 : ∀ b ∈ fp, FpOk X pins (upd H2 D (SetTO X.prog X.w D (fun _ => false) 0)) b ∧ b < s3.heap.objs.size := fun b hb => by
    have hlt := sz b hb
    refine ⟨⟨?_, (f2 b hb).2⟩, by rw [h3, Heap.size_push]; exact Nat.lt_succ_of_lt hlt⟩
    rw [upd_ne (by rw [← hD]; exact Nat.ne_of_lt hlt)]
    exact (f2 b hb).1
  have st3 : tn 0 s3.heap := T.keep _ _ _ st2 fun b _ o e => by rw [h3]; exact Heap.get?_push_of_some _ e
  have I4 := block_start I3 ok hN f3
  have pg := hg s3 (upd H2 D (SetTO X.prog X.w D (fun _ => false) 0)) s3.heap.objs.size (cellsFrom (s3.heap.objs.size + 1) scope.names (cloFrom X.env.cells scope.names [])) fp
  have pt := ht s3 (upd H2 D (SetTO X.prog X.w D (fun _ => false) 0)) s3.heap.objs.size (cellsFrom (s3.heap.objs.size + 1) scope.names (cloFrom X.env.cells scope.names [])) fp
  have pe := he s3 (upd H2 D (SetTO X.prog X.w D (fun _ => false) 0)) s3.heap.objs.size (cellsFrom (s3.heap.objs.size + 1) scope.names (cloFrom X.env.cells scope.names [])) fp
  have pi1 := hi1 s3 (upd H2 D (SetTO X.prog X.w D (fun _ => false) 0)) s3.heap.objs.size (cellsFrom (s3.heap.objs.size + 1) scope.names (cloFrom X.env.cells scope.names [])) fp
  have pg1 := hg1 s3 (upd H2 D (SetTO X.prog X.w D (fun _ => false) 0)) s3.heap.objs.size (cellsFrom (s3.heap.objs.size + 1) scope.names (cloFrom X.env.cells scope.names [])) fp
  have pt1 := ht1 s3 (upd H2 D (SetTO X.prog X.w D (fun _ => false) 0)) s3.heap.objs.size (cellsFrom (s3.heap.objs.size + 1) scope.names (cloFrom X.env.cells scope.names [])) fp
  show codeAny _ _ (.compStart (.SetComp elt [⟨tg, iter, ifs, 0⟩, ⟨tg1, iter1, ifs1, 0⟩] scope pos) 0 (.ref it) (.ref D) (compEnvC scope (cellsFrom (s3.heap.objs.size + 1) scope.names (cloFrom X.env.cells scope.names [])) s3.heap.objs.size X.env)) (compPost (model X.prog X.w) X.A X.xe use Qf (.ref D) s3.heap.objs.size) { s3 with heap := pushCells (s3.heap.push { cls := .type "dict", data := .dict #[] }) scope.names }
  have nfp : ∀ b ∈ fp, (upd H2 D (SetTO X.prog X.w D (fun _ => false) 0)) b = none := fun b hb => (f3 b hb).1.1
  generalize hce : compEnvC scope (cellsFrom (s3.heap.objs.size + 1) scope.names (cloFrom X.env.cells scope.names [])) s3.heap.objs.size X.env = ce at I4 pg pt pe pi1 pg1 pt1 ⊢
  have cL : ce.locals = s3.heap.objs.size := by subst hce; rfl
  generalize hH3 : upd H2 D (SetTO X.prog X.w D (fun _ => false) 0) = H3 at I3 I4 pg pt pe pi1 pg1 pt1 w0 nfp f3
  generalize hs4 : ({ s3 with heap := pushCells (s3.heap.push { cls := .type "dict", data := .dict #[] }) scope.names } : Shared) = s4 at I4 ⊢
  have st4 : tn 0 s4.heap := T.keep _ _ _ st3 fun b _ o e => by rw [← hs4]; exact pushCells_keeps _ _ _ _ (Heap.get?_push_of_some _ e)
  have stat : ∀ {σ' : L2.St} {H' : Hp} {s' : Shared}, Inv (X.blk s3 H3 scope ce fp) [] σ' H' s' → (∀ b ∈ fp, H' b = none) → ∀ b ∈ fp, FpOk (X.blk s3 H3 scope ce fp) [] H' b := fun {σ' H' s'} I' hn b hb =>
    ⟨hn b hb, (I'.ok.exf b hb).1, I'.ok.exfs b hb, .inl hb, fun x c e => (I'.ok.exf b hb).2 x c e, fun p hp => absurd (show p ∈ ([] : List (Addr × Obj)) ++ [] from hp) (by simp)⟩
  have loop : codeAny (model X.prog X.w) X.A (.compLoop (.SetComp elt [⟨tg, iter, ifs, 0⟩, ⟨tg1, iter1, ifs1, 0⟩] scope pos) 0 (.ref it) (.ref D) ce) (compPost (model X.prog X.w) X.A X.xe use Qf (.ref D) s3.heap.objs.size) s4 := by
    refine compLoop2S_out (hs1 ce) (fun n s' => ∃ i H', Inv (X.blk s3 H3 scope ce fp) [] (wipe σ (own.map (·.2))) H' s' ∧ tn i s'.heap ∧ (∀ b ∈ fp, H' b = none) ∧ W i n H') ?_ m0 ⟨0, H3, I4, st4, nfp, w0⟩
    rintro n s5 ⟨i, H5, I5, st5, n5, w5⟩
    rcases turn i n H5 w5 with ⟨stop, qq⟩ | ⟨go, Nx, hNx, step⟩
    · have td := T.done (X.blk s3 H3 scope ce fp) rfl rfl rfl hc i [] s5 _ H5 (fun _ _ => False) I5 (stat I5 n5) st5 stop
      refine thnF td fun r s6 ⟨hr, I6⟩ => ?_
      subst hr
      -- back in the def's context
      have I7 : Inv X pins σ H5 s6 := I3.call' (ch := fp) I6.os I6.base I6.hok I6.bare fun b hb => ⟨(f3 b hb).1.2.2.2.1, (f3 b hb).1.2.1, (f3 b hb).1.2.2.2.2.1, (f3 b hb).1.2.2.2.2.2⟩
      have nC : H5 s3.heap.objs.size = none := by
        have z : H5 ce.locals = none := I6.free
        rw [cL] at z
        exact z
      obtain ⟨m, hn, _⟩ := I6.loc
      have hn : s6.heap.Ns ce.locals m := hn
      rw [cL] at hn
      exact hRR D s3.heap.objs.size s6 m H5 I7 qq hn (I3.fpOk (Nat.le_refl _) nC)
    · have ti := T.item (X.blk s3 H3 scope ce fp) rfl rfl rfl hc i [] s5 _ H5 (fun _ _ => False) I5 (stat I5 n5) st5 go
      refine thnF ti fun r s6 ⟨u, hr, h6⟩ => ?_
      subst hr
      refine thnF h6 fun _ s7 ⟨x, H7, I7, r7, y7, st7, n7⟩ => ?_
      have I7' := I7.pinned (stat I7 n7) (T.obj _ _ st7)
      refine thnF (pg.run _ s7 _ H7 x u _ I7' r7 (step x H7 y7)) fun _ s8 ⟨σ8, H8, I8, hw8, q8⟩ => ?_
      refine thnF (pt.run _ s8 σ8 H8 _ I8 q8) fun b s9 ⟨H9, I9, q9⟩ => ?_
      -- the turn's end, from any slots that know what the block knew at its start
      have fin : ∀ {σ9 : L2.St} {s' : Shared} {H' : Hp}, Inv (X.blk s3 H3 scope ce fp) ([] ++ pinsAt fp s7.heap) σ9 H' s' → (wipe σ (own.map (·.2))).length = σ9.length → (∀ (j : Nat) v, (wipe σ (own.map (·.2)))[j]? = some (some v) → σ9[j]? = some (some v)) → Nx H' →
          ∃ m, m < n ∧ ∃ i H', Inv (X.blk s3 H3 scope ce fp) [] (wipe σ (own.map (·.2))) H' s' ∧ tn i s'.heap ∧ (∀ b ∈ fp, H' b = none) ∧ W i m H' := fun {σ9 s' H'} I' hl hk nx => by
        obtain ⟨m', hm, w'⟩ := hNx H' nx
        have pin' : ∀ b ∈ fp, ∀ o, s7.heap.get? b = some o → s'.heap.get? b = some o ∧ H' b = none := fun b hb o e =>
          let z := I'.pin (b, o) (List.mem_append_right _ (List.mem_append_right _ (mem_pinsAt hb e)))
          ⟨z.1, z.2.1⟩
        refine ⟨m', hm, i + 1, H', (I'.unpinned (pins := [])).weak hl hk, T.keep _ _ _ st7 fun b hb o e => (pin' b hb o e).1, fun b hb => ?_, w'⟩
        obtain ⟨o, e, _⟩ := T.obj _ _ st7 b hb
        exact (pin' b hb o e).2
      have hl8 : (wipe σ (own.map (·.2))).length = σ8.length := by rw [← hw8, wipe_length]
      have hk8 : ∀ (j : Nat) v, (wipe σ (own.map (·.2)))[j]? = some (some v) → σ8[j]? = some (some v) := fun j v e => by
        rw [← hw8] at e
        exact (wipe_some e).1
      have hk9 : ∀ (j : Nat) v, (wipe σ (own.map (·.2)))[j]? = some (some v) → (wipe σ8 vs1)[j]? = some (some v) := fun j v e => by
        rw [← hw8] at e
        obtain ⟨e1, e2⟩ := wipe_some e
        rw [wipe_out fun z => e2 (hv j z)]
        exact e1
      cases b with
      | false =>
        simp only [Bool.false_eq_true, if_false] at q9 ⊢
        exact fin I9 hl8 hk8 q9
      | true =>
        simp only [if_true] at q9 ⊢
        refine thnF (pi1.run _ s9 σ8 H9 _ I9 q9) fun xv s10 hx => thnF hx fun itv s11 h11 => ?_
        obtain ⟨it1, fp1, tn1, J1, H11, e1, I11, T1, st11, f11, W1, ⟨m1, w1⟩, turn1⟩ := h11
        subst e1
        -- the inner loop
        have stat1 : ∀ {H' : Hp}, (∀ b ∈ fp1, H' b = none) → ∀ b ∈ fp1, FpOk (X.blk s3 H3 scope ce fp) ([] ++ pinsAt fp s7.heap) H' b := fun hn b hb => ⟨hn b hb, (f11 b hb).2⟩
        have loop1 : codeAny (model X.prog X.w) X.A (.compLoop (.SetComp elt [⟨tg, iter, ifs, 0⟩, ⟨tg1, iter1, ifs1, 0⟩] scope pos) 1 (.ref it1) (.ref D) ce)
            (fun r s' => match r with
              | .ok _ => ∃ m, m < n ∧ ∃ i H', Inv (X.blk s3 H3 scope ce fp) [] (wipe σ (own.map (·.2))) H' s' ∧ tn i s'.heap ∧ (∀ b ∈ fp, H' b = none) ∧ W i m H'
              | .error _ => False) s11 := by
          refine compLoop2S_in (fun k s' => ∃ j H', Inv (X.blk s3 H3 scope ce fp) ([] ++ pinsAt fp s7.heap) (wipe σ8 vs1) H' s' ∧ tn1 j s'.heap ∧ (∀ b ∈ fp1, H' b = none) ∧ W1 j k H') ?_ m1 ⟨0, H11, I11.weak (wipe_length _ _) (fun j v e => (wipe_some e).1), st11, fun b hb => (f11 b hb).1, w1⟩
          rintro k s12 ⟨j, H12, I12, st12, n12, w12⟩
          rcases turn1 j k H12 w12 with ⟨stop1, nx1⟩ | ⟨go1, Nx1, hNx1, step1⟩
          · refine thnF (T1.done (X.blk s3 H3 scope ce fp) rfl rfl rfl hc j _ s12 (wipe σ8 vs1) H12 (fun _ _ => False) I12 (stat1 n12) st12 stop1) fun r s13 ⟨hr, I13⟩ => ?_
            subst hr
            exact fin I13 (hl8.trans (wipe_length σ8 vs1).symm) hk9 nx1
          · refine thnF (T1.item (X.blk s3 H3 scope ce fp) rfl rfl rfl hc j _ s12 (wipe σ8 vs1) H12 (fun _ _ => False) I12 (stat1 n12) st12 go1) fun r s13 ⟨u1, hr, h13⟩ => ?_
            subst hr
            refine thnF h13 fun _ s14 ⟨x1, H14, I14, r14, y14, st14, n14⟩ => ?_
            have I14' := I14.pinned (stat1 n14) (T1.obj _ _ st14)
            refine thnF (pg1.run _ s14 (wipe σ8 vs1) H14 x1 u1 _ I14' r14 (step1 x1 H14 y14)) fun _ s15 ⟨σ15, H15, I15, hw15, q15⟩ => ?_
            refine thnF (pt1.run _ s15 σ15 H15 _ I15 q15) fun b1 s16 ⟨H16, I16, q16⟩ => ?_
            have fin1 : ∀ {s' : Shared} {H' : Hp}, Inv (X.blk s3 H3 scope ce fp) (([] ++ pinsAt fp s7.heap) ++ pinsAt fp1 s14.heap) σ15 H' s' → Nx1 H' → ∃ m, m < k ∧ ∃ j H', Inv (X.blk s3 H3 scope ce fp) ([] ++ pinsAt fp s7.heap) (wipe σ8 vs1) H' s' ∧ tn1 j s'.heap ∧ (∀ b ∈ fp1, H' b = none) ∧ W1 j m H' := fun {s' H'} I' nx => by
              obtain ⟨m', hm, w'⟩ := hNx1 H' nx
              have pin' : ∀ b ∈ fp1, ∀ o, s14.heap.get? b = some o → s'.heap.get? b = some o ∧ H' b = none := fun b hb o e =>
                let z := I'.pin (b, o) (List.mem_append_right _ (List.mem_append_right _ (mem_pinsAt hb e)))
                ⟨z.1, z.2.1⟩
              refine ⟨m', hm, j + 1, H', I'.unpinned.weak (by rw [← hw15, wipe_length]) (fun j v e => by rw [← hw15] at e; exact (wipe_some e).1), T1.keep _ _ _ st14 fun b hb o e => (pin' b hb o e).1, fun b hb => ?_, w'⟩
              obtain ⟨o, e, _⟩ := T1.obj _ _ st14 b hb
              exact (pin' b hb o e).2
            cases b1 with
            | false =>
              simp only [Bool.false_eq_true, if_false] at q16 ⊢
              exact fin1 I16 q16
            | true =>
              simp only [if_true] at q16 ⊢
              refine thnF (pe.run _ s16 σ15 H16 _ I16 q16) fun z s17 ⟨yv, H17, I17, r17, zt, S0, n0, ey, hD17, hz17, nx⟩ => ?_
              subst ey
              obtain ⟨tk, ez⟩ := (show ∃ tk, z = Value.str zt tk from r17)
              subst ez
              exact addT_ok (X := X.blk s3 H3 scope ce fp) I17 hD17 hz17 fun s18 I18 => fin1 I18 nx
        exact compStart1S_ok loop1 (T1.self X.A 0 _ _ _ st11 loop1)
  exact PpSet.codeAny_compStart_set loop (T.self X.A 0 _ _ _ st4 loop)
/-- as a value -/
theorem pe_sc2 {elt tg iter tg1 iter1 : Expr} {ifs ifs1 : List Expr} {scope : Scope} {own : List (Str × Nat)} {vs1 : List Nat} {pos : Pos} {wi wi1 : TI} {g g1 : TG} {tt tt1 : TT} {te : TE} (hc : X.calm = true) (hN : X.N.Nodup) (hi : PI X tg iter wi) (ok : BlkOk X.N X.env.scope scope own) (hv : ∀ i ∈ vs1, i ∈ own.map (·.2))
    (hg : ∀ (s : Shared) (H : Hp) (C : Addr) (cl : List (Str × Addr)) (fp : List Addr), PG (X.blk s H scope (compEnvC scope cl C X.env) fp) tg g) (ht : ∀ (s : Shared) (H : Hp) (C : Addr) (cl : List (Str × Addr)) (fp : List Addr), PTs (X.blk s H scope (compEnvC scope cl C X.env) fp) ifs tt)
    (hi1 : ∀ (s : Shared) (H : Hp) (C : Addr) (cl : List (Str × Addr)) (fp : List Addr), PI (X.blk s H scope (compEnvC scope cl C X.env) fp) tg1 iter1 wi1)
    (hg1 : ∀ (s : Shared) (H : Hp) (C : Addr) (cl : List (Str × Addr)) (fp : List Addr), PG (X.blk s H scope (compEnvC scope cl C X.env) fp) tg1 g1) (ht1 : ∀ (s : Shared) (H : Hp) (C : Addr) (cl : List (Str × Addr)) (fp : List Addr), PTs (X.blk s H scope (compEnvC scope cl C X.env) fp) ifs1 tt1)
    (he : ∀ (s : Shared) (H : Hp) (C : Addr) (cl : List (Str × Addr)) (fp : List Addr), PE (X.blk s H scope (compEnvC scope cl C X.env) fp) elt te) (hs : ∀ x, foldedSetIterable iter X.env x = pure x := by intro _; rfl) (hs1 : ∀ env x, foldedSetIterable iter1 env x = pure x := by intro _ _; rfl) :
    PE X (.SetComp elt [⟨tg, iter, ifs, 0⟩, ⟨tg1, iter1, ifs1, 0⟩] scope pos) (tSc2 X.prog X.w wi g tt wi1 g1 tt1 te (own.map (·.2)) vs1) := by
  refine ⟨fun pins s σ H Q I h => ?_⟩
  rw [PpSet.eval_SetComp]
  refine sc2_core hc hN I hi ok hv hg ht he hs hi1 hg1 ht1 hs1 h fun D C s' m H' I' q hn f => ⟨m, hn, fun h'' sb => ?_⟩
  obtain ⟨f0, f1, f2, f3, f4, f5⟩ := f
  exact ⟨.ref D, H', I'.turned (t' := s'.toks) (fun b o hb e => (sb.2 b hb).trans e) f0 f1 f3 f4 f5, rfl, q⟩
end
end MR

/-! sorted({elt for a in x if .. for b in y if ..}) as a mirror -/
namespace MR
open PySem L2
open PyProof.Rows (sortedS)
variable [Tb]
theorem nc_setT {P : Program} {w : World} {a : Addr} {S : Str → Bool} {n : Nat} : NCo (SetTO P w a S n) := nc_ext (a := a) fun hp o vs h e d => by
  obtain ⟨o', es, ep, t, e', _, d', _⟩ := h
  rw [e] at e'; cases e'
  rw [d] at d'; cases d'
def compT (t : Tgt) (tst : MT) (elt : ME) : List MV → MEnv → List Str → Sto → Res (List Str)
  | [], _, acc, st => .ok acc st
  | y :: ys, env, acc, st => match t.bind y env with
    | none => .bad
    | some env1 => match tst env1 st with
      | .ok true st1 => match elt env1 st1 with
        | .ok (.str v) st2 => if acc.length < 60 then compT t tst elt ys env (acc ++ [v]) st2 else .bad
        | _ => .bad
      | .ok false st1 => compT t tst elt ys env acc st1
      | _ => .bad
def compT2 (t1 : Tgt) (tst1 : MT) (it2 : MA) (own2 : List Nat) (t2 : Tgt) (tst2 : MT) (elt : ME) : List MV → MEnv → List Str → Sto → Res (List Str)
  | [], _, acc, st => .ok acc st
  | y :: ys, env, acc, st => match t1.bind y env with
    | none => .bad
    | some env1 => match tst1 env1 st with
      | .ok true st1 => match it2 env1 st1 with
        | .ok zs st2 => match compT t2 tst2 elt zs (wipeM env1 own2) acc st2 with
          | .ok acc' st3 => compT2 t1 tst1 it2 own2 t2 tst2 elt ys env acc' st3
          | _ => .bad
        | _ => .bad
      | .ok false st1 => compT2 t1 tst1 it2 own2 t2 tst2 elt ys env acc st1
      | _ => .bad
def mSortSc2 (mi : MA) (own : List Nat) (t1 : Tgt) (tst1 : MT) (it2 : MA) (own2 : List Nat) (t2 : Tgt) (tst2 : MT) (elt : ME) : ME := fun env st => (mi env st).bind fun ys st1 => match compT2 t1 tst1 it2 own2 t2 tst2 elt ys (wipeM env own) [] st1 with
  | .ok zs st2 => .ok (.lst ((sortT zs).map .str)) st2
  | _ => .bad
theorem ad_fence {A : Ad} {D : Addr} {f : List Addr} (h : A.fn = D :: f) : A = ({ A with fn := f } : Ad).fence D := by
  obtain ⟨ix, fn, xs⟩ := A
  subst h
  rfl
theorem ExtW.updD {A A' : Ad} {H H' : Hp} {D : Addr} {o : HO} (e : ExtW A H A' H') (hD : A.has D) : ExtW A H A' (upd H' D o) :=
  ⟨e.pre, fun b u n h t => by rw [upd_ne (fun z => n (by rw [z]; exact hD))]; exact e.keep b u n h t, e.out⟩
theorem ExtW.refl (A : Ad) (H : Hp) : ExtW A H A H := (Ext.refl A H).w
/-- the texts of acc stand in the set at D -/
def SetAt (G : Gm) (D : Addr) (acc : List Str) (H : Hp) : Prop := ∃ S n, H D = some (SetTO G.P G.w D S n) ∧ (∀ k, S k = decide (k ∈ acc)) ∧ n ≤ acc.length
theorem compT_len {t : Tgt} {tst : MT} {elt : ME} : ∀ {ys : List MV} {env : MEnv} {acc : List Str} {st : Sto} {zs : List Str} {st' : Sto}, acc.length ≤ 60 → compT t tst elt ys env acc st = .ok zs st' → zs.length ≤ 60
  | [], env, acc, st, zs, st', hl, h => by cases h; exact hl
  | y :: ys, env, acc, st, zs, st', hl, h => by
    unfold compT at h
    split at h
    · cases h
    · split at h
      · split at h
        · split at h
          · exact compT_len (by rw [List.length_append]; simp; omega) h
          · cases h
        · cases h
      · exact compT_len hl h
      · cases h
theorem compT2_len {t1 t2 : Tgt} {tst1 tst2 : MT} {it2 : MA} {own2 : List Nat} {elt : ME} : ∀ {ys : List MV} {env : MEnv} {acc : List Str} {st : Sto} {zs : List Str} {st' : Sto}, acc.length ≤ 60 → compT2 t1 tst1 it2 own2 t2 tst2 elt ys env acc st = .ok zs st' → zs.length ≤ 60
  | [], env, acc, st, zs, st', hl, h => by cases h; exact hl
  | y :: ys, env, acc, st, zs, st', hl, h => by
    unfold compT2 at h
    split at h
    · cases h
    · split at h
      · split at h
        · split at h
          · rename_i e
            exact compT2_len (compT_len hl e) h
          · cases h
        · cases h
      · exact compT2_len hl h
      · cases h
section
variable {X : Cx} {W : WX} {mi it2 : MA} {mt mt2 : MT} {me : ME} {t1 t2 : Tgt} {own own2 : List Nat}
theorem sc2E (nc : Tb.cs = none) (hsub : ∀ i ∈ t1.slots, i ∈ own) (hsub2 : ∀ i ∈ t2.slots, i ∈ own2) {σ : L2.St} {H : Hp} {Q : VK} (h : tE (gmOf X) W (mSortSc2 mi own t1 mt it2 own2 t2 mt2 me) σ H Q) :
    tSc2 X.prog X.w (tI (gmOf X) W mi) (t1.tg X.K) (tT (gmOf X) W0 mt) (tI (gmOf X) W0 it2) (t2.tg X.K) (tT (gmOf X) W0 mt2) (tE (gmOf X) W0 me) own own2 σ H
      fun v H1 => ∃ (a : Addr) (S : Str → Bool) (n : Nat), [v] = [V.ref a] ∧ H1 a = some (SetTO X.prog X.w a S n) ∧ n < 64 ∧ ∀ (ys : List Str) (p : Addr), sortedS ys = true → ys.Nodup → (∀ k, k ∈ ys ↔ S k = true) → H1 p = none → Q (.ref p) (upd H1 p (.lst (ys.map V.str))) := by
  obtain ⟨A, env, st, nx, s, q, h⟩ := h.nox
  unfold mSortSc2 at h
  rw [Res.post_bind] at h
  refine ⟨A, env, st, s, q, h.mono (fun ys st1 h1 A1 H1 J e1 s1 itm D hD => ?_) fun _ _ z => z⟩
  cases hr : compT2 t1 mt it2 own2 t2 mt2 me ys (wipeM env own) [] st1 with
  | exc c st2 => rw [hr] at h1; exact h1.elim
  | bad => rw [hr] at h1; exact h1.elim
  | ok zs0 st0 =>
  rw [hr] at h1
  have nx1 : A1.xs = none := e1.xsk.trans nx
  have h1 : okP (gmOf X) A H Q (.lst ((sortT zs0).map .str)) st0 := h1
  have hlen := compT2_len (by simp) hr
  let Wi : Nat → Nat → Hp → Prop := fun i m H' => m = ys.length - i ∧ i ≤ ys.length ∧ ∃ A' st' acc, Ext A1 H1 A' H' ∧ SR (gmOf X) (A'.fence D) H' st' ∧ SetAt (gmOf X) D acc H' ∧ acc.length ≤ 60 ∧ compT2 t1 mt it2 own2 t2 mt2 me (ys.drop i) (wipeM env own) acc st' = .ok zs0 st0
  refine ⟨Wi, ⟨ys.length, by simp, Nat.zero_le _, A1, st1, [], Ext.grown _ s1 hD (Ext.refl A1 H1), s1.fence hD _ nc_setT, ⟨_, 0, upd_same, fun k => by simp, Nat.zero_le _⟩, by simp, by rw [List.drop_zero]; exact hr⟩, ?_⟩
  rintro i m H' ⟨rfl, hi, A', st', acc, x', s', hS, hal, ec⟩
  have itw := itm (A'.fence D) H' st' (x'.w.fence hD) s'
  by_cases hlt : i < ys.length
  · refine .inr ⟨itw.1 i hlt, fun H2 => Wi (i + 1) (ys.length - (i + 1)) H2, fun H2 w2 => ⟨_, by omega, w2⟩, fun x H2 y => ?_⟩
    obtain ⟨x2, s2, mv, em, r2⟩ := itw.2.2 i x H2 hlt y
    have ed : ys.drop i = mv :: ys.drop (i + 1) := by
      rw [List.drop_eq_getElem_cons hlt]
      rw [List.getElem?_eq_getElem hlt] at em
      rw [Option.some.inj em]
    rw [ed] at ec
    unfold compT2 at ec
    cases eb : t1.bind mv (wipeM env own) with
    | none => rw [eb] at ec; cases ec
    | some env1 =>
    rw [eb] at ec
    have nx2 : (A'.fence D).xs = none := x'.xsk.trans nx1
    have q2 : EnvR (gmOf X) (A'.fence D) H2 (wipe σ own) (wipeM env own) := by
      have q1 := (q.ext e1)
      refine EnvR.wipe ⟨q1.len, fun j a z => by (rw [nx2] at z; cases z), fun j a z => by (rw [show (gmOf X).cs = none from nc] at z; cases z), fun j mj hj => ?_⟩ nx2 nc own
      obtain ⟨v, a, r⟩ := q1.get j mj hj
      exact ⟨v, a, (r.extW (x'.w.fence hD)).ext x2⟩
    have toA : ∀ {A3 : Ad} {H3 : Hp}, Ext (A'.fence D) H2 A3 H3 → A3 = ({ A3 with fn := A'.fn } : Ad).fence D := fun {A3 H3} x3 => by
      obtain ⟨ix, fn, _⟩ := A3
      have : fn = D :: A'.fn := x3.fen
      subst this
      rfl
    have setAt : ∀ {A3 : Ad} {H3 : Hp}, Ext (A'.fence D) H2 A3 H3 → SetAt (gmOf X) D acc H3 := fun {A3 H3} x3 => by
      obtain ⟨S, n, z1, z2⟩ := hS
      exact ⟨S, n, ((x2.trans x3).fk D List.mem_cons_self).trans z1, z2⟩
    refine Tgt.ok (own := own) r2 q2 eb hsub fun σ2 q3 hw => ⟨by rw [hw]; exact wipe_wipe fun _ m => m, ?_⟩
    have ec : (match mt env1 st' with
      | .ok true st1 => (match it2 env1 st1 with
        | .ok zs st2 => (match compT t2 mt2 me zs (wipeM env1 own2) acc st2 with
          | .ok acc' st3 => compT2 t1 mt it2 own2 t2 mt2 me (ys.drop (i + 1)) (wipeM env own) acc' st3
          | _ => .bad)
        | _ => .bad)
      | .ok false st1 => compT2 t1 mt it2 own2 t2 mt2 me (ys.drop (i + 1)) (wipeM env own) acc st1
      | _ => .bad) = Res.ok zs0 st0 := ec
    cases et : mt env1 st' with
    | exc c st3 => rw [et] at ec; cases ec
    | bad => rw [et] at ec; cases ec
    | ok b st3 =>
    rw [et] at ec
    refine ⟨A'.fence D, env1, st', s2, q3, post_ok et fun A3 H3 x3 s3 => ?_⟩
    cases b with
    | false =>
      have fA := toA x3
      have sa := setAt x3
      rw [fA] at x3 s3
      exact ⟨rfl, hlt, _, st3, acc, x'.trans (Ext.unfence s3 (x2.trans x3)), s3, sa, hal, ec⟩
    | true =>
      have ec : (match it2 env1 st3 with
        | .ok zs st2 => (match compT t2 mt2 me zs (wipeM env1 own2) acc st2 with
          | .ok acc' st3 => compT2 t1 mt it2 own2 t2 mt2 me (ys.drop (i + 1)) (wipeM env own) acc' st3
          | _ => .bad)
        | _ => .bad) = Res.ok zs0 st0 := ec
      cases ei : it2 env1 st3 with
      | exc c st4 => rw [ei] at ec; cases ec
      | bad => rw [ei] at ec; cases ec
      | ok zs st4 =>
      rw [ei] at ec
      have ec : (match compT t2 mt2 me zs (wipeM env1 own2) acc st4 with
          | .ok acc' st3 => compT2 t1 mt it2 own2 t2 mt2 me (ys.drop (i + 1)) (wipeM env own) acc' st3
          | _ => .bad) = Res.ok zs0 st0 := ec
      show tI (gmOf X) W0 it2 σ2 H3 _
      refine ⟨A3, env1, st3, s3, q3.ext x3, post_ok ei fun A4 H4 J1 x4 s4 itm1 => ?_⟩
      cases ek : compT t2 mt2 me zs (wipeM env1 own2) acc st4 with
      | exc c st5 => rw [ek] at ec; cases ec
      | bad => rw [ek] at ec; cases ec
      | ok acc1 st5 =>
      rw [ek] at ec
      have ec : compT2 t1 mt it2 own2 t2 mt2 me (ys.drop (i + 1)) (wipeM env own) acc1 st5 = Res.ok zs0 st0 := ec
      have x34 := x3.trans x4
      have nx4 : A4.xs = none := x34.xsk.trans nx2
      -- the inner loop
      have fA4 := ad_fence (x34.fen : A4.fn = D :: A'.fn)
      have hD4 : A4.has D := .inr (by rw [x34.fen]; exact List.mem_cons_self)
      have base4 : Ext A1 H1 ({ A4 with fn := A'.fn } : Ad) H4 := by
        have x24 := x2.trans x34
        have s4' := s4
        rw [fA4] at x24 s4'
        exact x'.trans (Ext.unfence s4' x24)
      let Wj : Nat → Nat → Hp → Prop := fun j k H5 => k = zs.length - j ∧ j ≤ zs.length ∧ ∃ (A5 : Ad) (st6 : Sto) (ac : List Str), Ext A1 H1 A5 H5 ∧ ExtW A4 H4 (A5.fence D) H5 ∧ SR (gmOf X) (A5.fence D) H5 st6 ∧ SetAt (gmOf X) D ac H5 ∧ ac.length ≤ 60 ∧ compT t2 mt2 me (zs.drop j) (wipeM env1 own2) ac st6 = .ok acc1 st5
      refine ⟨Wj, ⟨zs.length, by simp, Nat.zero_le _, { A4 with fn := A'.fn }, st4, acc, base4, by rw [← fA4]; exact ExtW.refl A4 H4, by rw [← fA4]; exact s4, setAt x34, hal, by rw [List.drop_zero]; exact ek⟩, ?_⟩
      rintro j k H5 ⟨rfl, hj, A5, st6, ac, x5, xw5, s5, hS5, hal5, ec5⟩
      have itw1 := itm1 (A5.fence D) H5 st6 xw5 s5
      by_cases hlt5 : j < zs.length
      · refine .inr ⟨itw1.1 j hlt5, fun H6 => Wj (j + 1) (zs.length - (j + 1)) H6, fun H6 w6 => ⟨_, by omega, w6⟩, fun x1 H6 y1 => ?_⟩
        obtain ⟨x6, s6, mz, em1, r6⟩ := itw1.2.2 j x1 H6 hlt5 y1
        have ed1 : zs.drop j = mz :: zs.drop (j + 1) := by
          rw [List.drop_eq_getElem_cons hlt5]
          rw [List.getElem?_eq_getElem hlt5] at em1
          rw [Option.some.inj em1]
        rw [ed1] at ec5
        unfold compT at ec5
        cases eb1 : t2.bind mz (wipeM env1 own2) with
        | none => rw [eb1] at ec5; cases ec5
        | some env2 =>
        rw [eb1] at ec5
        have nx5 : (A5.fence D).xs = none := x5.xsk.trans nx1
        have q6 : EnvR (gmOf X) (A5.fence D) H6 (wipe σ2 own2) (wipeM env1 own2) := by
          have q4 := q3.ext x34
          refine EnvR.wipe ⟨q4.len, fun j a z => by (rw [nx5] at z; cases z), fun j a z => by (rw [show (gmOf X).cs = none from nc] at z; cases z), fun j mj hj => ?_⟩ nx5 nc own2
          obtain ⟨v, a, r⟩ := q4.get j mj hj
          exact ⟨v, a, (r.extW xw5).ext x6⟩
        refine Tgt.ok (own := own2) r6 q6 eb1 hsub2 fun σ7 q7 hw7 => ⟨by rw [hw7]; exact wipe_wipe fun _ m => m, ?_⟩
        have ec5 : (match mt2 env2 st6 with
          | .ok true st1 => (match me env2 st1 with
            | .ok (.str v) st2 => if ac.length < 60 then compT t2 mt2 me (zs.drop (j + 1)) (wipeM env1 own2) (ac ++ [v]) st2 else .bad
            | _ => .bad)
          | .ok false st1 => compT t2 mt2 me (zs.drop (j + 1)) (wipeM env1 own2) ac st1
          | _ => .bad) = Res.ok acc1 st5 := ec5
        cases et7 : mt2 env2 st6 with
        | exc c st7 => rw [et7] at ec5; cases ec5
        | bad => rw [et7] at ec5; cases ec5
        | ok b7 st7 =>
        rw [et7] at ec5
        have carry : ∀ {A8 : Ad} {H8 : Hp} {st8 : Sto}, Ext (A5.fence D) H6 A8 H8 → SR (gmOf X) A8 H8 st8 → A8 = ({ A8 with fn := A5.fn } : Ad).fence D ∧ Ext A1 H1 ({ A8 with fn := A5.fn } : Ad) H8 ∧ ExtW A4 H4 A8 H8 ∧ SetAt (gmOf X) D ac H8 := fun {A8 H8 st8} x8 s8 => by
          have f8 := ad_fence (x8.fen : A8.fn = D :: A5.fn)
          refine ⟨f8, ?_, xw5.trans (x6.trans x8).w, ?_⟩
          · have x68 := x6.trans x8
            rw [f8] at x68 s8
            exact x5.trans (Ext.unfence s8 x68)
          · obtain ⟨S, n, z1, z2⟩ := hS5
            exact ⟨S, n, ((x6.trans x8).fk D List.mem_cons_self).trans z1, z2⟩
        refine ⟨A5.fence D, env2, st6, s6, q7, post_ok et7 fun A7 H7 x7 s7 => ?_⟩
        cases b7 with
        | false =>
          obtain ⟨f7, g7, w7, k7⟩ := carry x7 s7
          exact ⟨rfl, hlt5, { A7 with fn := A5.fn }, st7, ac, g7, by rw [← f7]; exact w7, by rw [← f7]; exact s7, k7, hal5, ec5⟩
        | true =>
          have ec5 : (match me env2 st7 with
            | .ok (.str v) st2 => if ac.length < 60 then compT t2 mt2 me (zs.drop (j + 1)) (wipeM env1 own2) (ac ++ [v]) st2 else .bad
            | _ => .bad) = Res.ok acc1 st5 := ec5
          show tE (gmOf X) W0 me σ7 H7 _
          cases ee : me env2 st7 with
          | exc c st8 => rw [ee] at ec5; cases ec5
          | bad => rw [ee] at ec5; cases ec5
          | ok v st8 =>
          rw [ee] at ec5
          cases v with
          | str z =>
            have ec5 : (if ac.length < 60 then compT t2 mt2 me (zs.drop (j + 1)) (wipeM env1 own2) (ac ++ [z]) st8 else .bad) = Res.ok acc1 st5 := ec5
            by_cases hl5 : ac.length < 60
            · rw [if_pos hl5] at ec5
              refine ⟨A7, env2, st7, s7, q7.ext x7, post_ok ee fun A8 H8 vv x8 s8 r8 => ?_⟩
              obtain ⟨f8, g8, w8, k8⟩ := carry (x7.trans x8) s8
              obtain ⟨S, n, z1, z2, z3⟩ := k8
              cases r8
              refine ⟨z, S, n, rfl, z1, by unfold scanBound; omega, rfl, hlt5, { A8 with fn := A5.fn }, st8, ac ++ [z], Ext.grown _ s1 hD g8, by rw [← f8]; exact w8.updD hD4, ?_, ⟨_, _, upd_same, fun k => ?_, ?_⟩, by rw [List.length_append]; simp; omega, ec5⟩
              · have s8' := s8
                rw [f8] at s8'
                exact s8'.grow _ nc_setT
              · rw [z2, Bool.eq_iff_iff]; simp
              · rw [List.length_append]; simp only [List.length_cons, List.length_nil]
                by_cases hz : S z = true
                · rw [if_pos hz]; omega
                · rw [if_neg hz]; omega
            · rw [if_neg hl5] at ec5; cases ec5
          | _ => cases ec5
      · have e : j = zs.length := by omega
        subst e
        rw [List.drop_length] at ec5
        cases ec5
        exact .inl ⟨itw1.2.1, rfl, hlt, A5, _, _, x5, s5, hS5, hal5, ec⟩
  · have e : i = ys.length := by omega
    subst e
    refine .inl ⟨itw.2.1, ?_⟩
    rw [List.drop_length] at ec
    cases ec
    obtain ⟨S, n, z1, z2, z3⟩ := hS
    refine ⟨D, S, n, rfl, z1, by omega, fun zs p k1 k2 k3 hp => ?_⟩
    have ez : zs = sortT zs0 := sortT_of k1 k2 fun k => by rw [k3, z2]; exact decide_eq_true_iff
    subst ez
    exact fin_lst s'.unfence (RepAll.strs (sortT zs0)) (okP.ext (e1.trans x') h1) p hp
end
end MR

/-! x(lambda: body): x a def that calls what it gets -/
namespace MR
open PySem L2
open LamX (ExtN TabB LamS lamEnv lamCx CodeO)
/-! ### what is known of a frame does not matter for values -/
abbrev Gm.at (G : Gm) (j : JP) (cs : Option (Nat × Addr)) : Gm := { G with j := j, cs := cs }
section
variable {G : Gm} {A A' : Ad} {H H' : Hp} (j : JP) (cs : Option (Nat × Addr))
mutual
theorem Rep.gj : ∀ {v : V} {m : MV}, Rep G A H v m → Rep (G.at j cs) A H v m
  | _, _, .non => .non
  | _, _, .bl b => .bl b
  | _, _, .int i => .int i
  | _, _, .str s => .str s
  | _, _, .ty n => .ty n
  | _, _, .gl h => .gl h
  | _, _, .tup h r => .tup h (RepAll.gj r)
  | _, _, .lst h n r => .lst h n (RepAll.gj r)
  | _, _, .obj h => .obj h
  | _, _, .scr h => .scr h
  | _, _, .ins c h l r => .ins c h l (RepAll.gj r)
  | _, _, .dctL h z r => .dctL h z (RepAll.gj r)
  | _, _, .dctN h ne z r q => .dctN h ne z (RepAll.gj r) (RepAll.gj q)
theorem RepAll.gj : ∀ {vs : List V} {ms : List MV}, RepAll G A H vs ms → RepAll (G.at j cs) A H vs ms
  | _, _, .nil => .nil
  | _, _, .cons r rs => .cons (Rep.gj r) (RepAll.gj rs)
end
theorem SR.gj {st : Sto} (s : SR G A H st) (hj : j.J A H) : SR (G.at j cs) A H st where
  len := s.len
  nd := s.nd
  ob := fun k a o ha ho => by
    cases s.ob k a o ha ho with
    | lst h r => exact .lst h (r.gj j cs)
    | ins c h l r => exact .ins c h l (r.gj j cs)
    | dctL h z r => exact .dctL h z (r.gj j cs)
    | dctN h ne z r q => exact .dctN h ne z (r.gj j cs) (q.gj j cs)
  ft := s.ft
  tb := s.tb
  js := hj
theorem ExR.gj {c : Ex} {C : Addr} {d : Option Addr} (h : ExR G A H c C d) : ExR (G.at j cs) A H c C d := by
  obtain ⟨h1, h | ⟨p, vs, h0, h2, h3, h4, h5, h6⟩⟩ := h
  · exact ⟨h1, .inl h⟩
  · exact ⟨h1, .inr ⟨p, vs, h0, h2, h3, h4, h5, h6.gj j cs⟩⟩
end
/-- all tables but those stand -/
theorem SR.extN {G : Gm} {A : Ad} {H H' : Hp} {st : Sto} (s : SR G A H st) (e : ExtN H H') (t : LamX.Tabs G.T H') : Ext A H A H' ∧ SR G A H' st := by
  have x : Ext A H A H' := ⟨⟨[], by simp⟩, rfl, rfl, fun b o _ h n => e b o h n, fun _ m => .inl m, fun b m => by
    obtain ⟨o, h, n⟩ := s.ft b m
    rw [h]; exact e b o h n.1⟩
  refine ⟨x, s.ext_same x (fun a ha => ?_) t⟩
  obtain ⟨o, h, n⟩ := s.tracked (a := a) (.inl ha)
  rw [h]; exact e a o h n.1
/-! ### a def that calls what it gets -/
def defL (n : Nat) (b : MS) (st : Sto) : Res MV := match b (List.replicate n none) st with
  | .nx _ st' => .ok .non st'
  | .rt m st' => .ok m st'
  | .exc c _ st' => .exc c st'
  | _ => .bad
/-- the call of what it got -/
def mGot (c : Sto → Res MV) : ME := fun env st => match env[0]? with
  | some none => c st
  | _ => .bad
section
variable [Tb] {P : Program} {w : World} {K : PySem.W.Frag} {mg : Str → Option Value} {base : Heap}
/-- the promise of such a def g, entered: f the lambda, r what its call does, told from A1 H on -/
def LamP (P : Program) (w : World) (K : PySem.W.Frag) (mg : Str → Option Value) (base : Heap) (N : List Str) (x : Str) (sg : Scope) (g : Addr) (cdv : Value) (a : Str) (k : Nat) (F : (Sto → Res MV) → Sto → Res MV) : Prop :=
  ∀ (A : Around) (outer : List Env) (s : Shared) (H : Hp) (f : Addr) (Q : VK) (E : XK) (r : Sto → Res MV) (A1 : Ad) (st1 : Sto), Room k A → NoG A → Env0 P w K mg base A outer s H → SR ⟨K, mg, P, w, Tb.T, Tb.j, Tb.cs⟩ A1 H st1 →
    (∀ (W : WX) (pn : List (Addr × Obj)) (xe : Value → Shared → Prop) (p1 p2 : Pos), Takes ((cxOf (L2.CX P w) P w K mg base N x sg g cdv A outer s H E).tr pn xe) W →
      PE ((cxOf (L2.CX P w) P w K mg base N x sg g cdv A outer s H E).tr pn xe) (.Call (.Name a p1) [] [] p2) (fun σZ HZ Q => σZ[0]? = some (some (.ref f)) ∧ ∃ A2 st2, ExtW A1 H A2 HZ ∧ SR ⟨K, mg, P, w, Tb.T, Tb.j, Tb.cs⟩ A2 HZ st2 ∧ (r st2).post (okP ⟨K, mg, P, w, Tb.T, Tb.j, Tb.cs⟩ A2 HZ Q) (exP ⟨K, mg, P, w, Tb.T, Tb.j, Tb.cs⟩ A2 HZ (WE W σZ)))) →
    (F r st1).post (okP ⟨K, mg, P, w, Tb.T, Tb.j, Tb.cs⟩ A1 H Q) (exP ⟨K, mg, P, w, Tb.T, Tb.j, Tb.cs⟩ A1 H E) →
    codeAny (model P w) A (.call (.ref g) ⟨[.ref f], []⟩) (CR (L2.CX P w) outer P w H s Q E) s
structure FnL (P : Program) (w : World) (K : PySem.W.Frag) (mg : Str → Option Value) (base : Heap) (k : Nat) (x : Str) (F : (Sto → Res MV) → Sto → Res MV) : Prop where
  ex : ∃ (g : Addr) (N : List Str) (sg : Scope) (cdv : Value) (a : Str), mg x = some (.ref g) ∧ PySem.W.keepIn K (.ref g) = true ∧ LamP P w K mg base N x sg g cdv a k F ∧ N[0]? = some a ∧ Vis sg a ∧ (a == ("__debug__" : Str)) = false ∧ (a == ("__classdict__" : Str)) = false
theorem FnL.mono {j k : Nat} {x : Str} {F : (Sto → Res MV) → Sto → Res MV} (h : FnL P w K mg base j x F) (hk : j ≤ k) : FnL P w K mg base k x F := by
  obtain ⟨g, N, sg, cdv, a, h1, h2, h3, h4⟩ := h.ex
  exact ⟨g, N, sg, cdv, a, h1, h2, fun A outer s H f Q E r A1 st1 hr => h3 A outer s H f Q E r A1 st1 (hr.mono hk), h4⟩
theorem fn_got (nj : Tb.j = JP.no) {x : Str} {st : Stmt} {g : Addr} {fd : FuncData} {N : List Str} {a : Str} {k : Nat} {b : (Sto → Res MV) → MS} (F : Fun K x x st g fd) (S : FnScope N [a] (defScope st)) (hx : mg x = some (.ref g)) (hb : Binds K fd [a] []) (hN : N[0]? = some a) (hv : Vis (defScope st) a)
    (hd : (a == ("__debug__" : Str)) = false) (hcd : (a == ("__classdict__" : Str)) = false)
    (h : ∀ (τ : Tb) (r : Sto → Res MV) (cdv : Value) (A : Around) (outer : List Env) (s : Shared) (H : Hp) (E : XK), NoG A → Room k (A.deeper (PyProof.Rows.envOfC x (defScope st) s.heap.objs.size g cdv)) →
      Takes (cxOf (L2.CX P w) P w K mg base N x (defScope st) g cdv A outer s H E) (fun c d _ H => E c d H) →
      (∀ (W : WX) (pn : List (Addr × Obj)) (xe : Value → Shared → Prop) (p1 p2 : Pos), Takes ((cxOf (L2.CX P w) P w K mg base N x (defScope st) g cdv A outer s H E).tr pn xe) W →
        @PM τ ((cxOf (L2.CX P w) P w K mg base N x (defScope st) g cdv A outer s H E).tr pn xe) W (.Call (.Name a p1) [] [] p2) (mGot r)) →
      @PMSs τ (cxOf (L2.CX P w) P w K mg base N x (defScope st) g cdv A outer s H E) (fun c d _ H => E c d H) (defBody st) (b r)) :
    FnL P w K mg base (k + 1) x (fun r => defL N.length (b r)) := by
  obtain ⟨oc, od, kV, doc, pm, an, cdv, ct, osl, rfl, look, code⟩ := F.ex
  refine ⟨g, N, defScope st, cdv, a, hx, F.kp, ?_, hN, hv, hd, hcd⟩
  intro A outer s H f Q E r A1 st1 hr gd e0 sr hact hp
  have KX : K.In s.heap := e0.mod.kin.keeps fun b o e => (e0.bs b o e).1
  have hbq := hb s [.ref f] KX rfl
  rw [List.append_nil] at hbq
  refine LamX.run_ofS (us := [.ref f]) (vs := [.ref f]) look code S hr e0 hbq (.cons rfl .nil) rfl fun hr' => ?_
  let T0 : List (Addr × Str) := Tb.T
  let j0 : JP := Tb.j
  let c0 : Option (Nat × Addr) := Tb.cs
  have nj0 : j0 = JP.no := nj
  have tk : Takes (cxOf (L2.CX P w) P w K mg base N x (defScope st) g cdv A outer s H E) (fun c d _ H => E c d H) := takes_of rfl rfl rfl rfl
  let G : Gm := ⟨K, mg, P, w, T0, j0, c0⟩
  let G' : Gm := ⟨K, mg, P, w, T0, relJ A1 H, some (0, f)⟩
  have jn : ∀ (A : Ad) (H : Hp), j0.J A H := fun A H => by rw [nj0]; trivial
  have hp : (defL N.length (b r) st1).post (okP G A1 H Q) (exP G A1 H E) := hp
  have sr : SR G A1 H st1 := sr
  let τ : Tb := ⟨T0, relJ A1 H, some (0, f)⟩
  have back : ∀ {A2 : Ad} {H2 : Hp} {st2 : Sto}, SR G' A2 H2 st2 → SR G A2 H2 st2 := fun s2 => SR.gj (G := G') j0 c0 s2 (jn _ _)
  have backR : ∀ {A2 : Ad} {H2 : Hp} {v : V} {m : MV}, Rep G' A2 H2 v m → Rep G A2 H2 v m := fun r2 => Rep.gj (G := G') j0 c0 r2
  have toR : ∀ {A2 : Ad} {H2 : Hp} {v : V} {m : MV}, Rep G A2 H2 v m → Rep G' A2 H2 v m := fun r2 => Rep.gj (G := G) (relJ A1 H) (some (0, f)) r2
  have hcall : ∀ (W : WX) (pn : List (Addr × Obj)) (xe : Value → Shared → Prop) (p1 p2 : Pos), Takes ((cxOf (L2.CX P w) P w K mg base N x (defScope st) g cdv A outer s H E).tr pn xe) W →
      @PM τ ((cxOf (L2.CX P w) P w K mg base N x (defScope st) g cdv A outer s H E).tr pn xe) W (.Call (.Name a p1) [] [] p2) (mGot r) := fun W pn xe p1 p2 tkW =>
    PE_imp (hact W pn xe p1 p2 tkW) fun σZ HZ QZ ⟨A2, env, st2, s2, q2, h2⟩ => by
      have s2 : SR G' A2 HZ st2 := s2
      have q2 : EnvR G' A2 HZ σZ env := q2
      have h2 : (mGot r env st2).post (okP G' A2 HZ QZ) (exP G' A2 HZ (WE W σZ)) := h2
      unfold mGot at h2
      split at h2
      · rename_i e0
        have rj : ExtW A1 H A2 HZ := s2.js
        refine ⟨q2.cs 0 f rfl e0, A2, st2, rj, back s2, h2.mono (fun m st3 k A3 H3 v e3 s3 r3 => ?_) fun c st3 k A3 H3 C d e3 s3 hE => ?_⟩
        · exact k A3 H3 v e3 (SR.gj (G := G) (relJ A1 H) (some (0, f)) s3 (rj.trans e3.w)) (toR r3)
        · exact k A3 H3 C d e3 (SR.gj (G := G) (relJ A1 H) (some (0, f)) s3 (rj.trans e3.w)) (ExR.gj (G := G) (relJ A1 H) (some (0, f)) hE)
      · exact h2.elim
  refine ⟨_, h τ r cdv A outer s H E gd hr' tk hcall, ?_⟩
  have s1 : SR G' (A1.sx none) H st1 := SR.gj (G := G) (relJ A1 H) (some (0, f)) (sr.sx none) ⟨⟨[], by simp⟩, fun b o _ h _ => h, fun b o _ n _ => n⟩
  have hl : (L2.start N [V.ref f])[0]? = some (some (.ref f)) := rfl
  have q1 : EnvR G' (A1.sx none) H (L2.start N [V.ref f]) (List.replicate N.length none) := by
    refine ⟨?_, fun j a z => (by cases z), fun j a z _ => ?_, fun i m hm => ?_⟩
    · have : 0 < N.length := (List.getElem?_eq_some_iff.mp hN).1
      unfold L2.start; simp; omega
    · cases z; exact hl
    · rw [List.getElem?_replicate] at hm
      split at hm <;> cases hm
  refine ⟨A1.sx none, List.replicate N.length none, st1, s1, q1, ?_⟩
  unfold defL at hp
  cases eb : b r (List.replicate N.length none) st1 with
  | nx env st' =>
    rw [eb] at hp
    exact fun A' H' σ' e s' q' => hp (A'.sx A1.xs) H' .non e.sx ((back s').sx _) .non
  | rt m st' =>
    rw [eb] at hp
    exact fun A' H' v e s' r' => hp (A'.sx A1.xs) H' v e.sx ((back s').sx _) ((backR r').sx _)
  | bk env st' => rw [eb] at hp; exact hp.elim
  | ct env st' => rw [eb] at hp; exact hp.elim
  | exc c env st' =>
    rw [eb] at hp
    exact fun A' H' σ' C d e s' q' hC => hp (A'.sx A1.xs) H' C d e.sx ((back s').sx _) ((ExR.gj (G := G') j0 c0 hC).sx _)
  | bad => rw [eb] at hp; exact hp.elim
end
end MR

/-! x(lambda: body), at the maker -/
namespace MR
open PySem L2
open LamX (ExtN TabB LamS lamEnv lamCx CodeO)
variable [Tb]
/-- the call of what was got: F what the def makes of it, m the lambda's body -/
def mLam (F : (Sto → Res MV) → Sto → Res MV) (m : ME) : ME := fun env st => F (fun st' => m env st') st
theorem EnvR.later {G : Gm} {A A' : Ad} {H H' : Hp} {σ : St} {env : MEnv} (nc : G.cs = none) (q : EnvR G A H σ env) (e : ExtW A H A' H') : EnvR G (A'.sx none) H' σ env :=
  ⟨q.len, fun _ _ z => (by cases z), fun _ _ z => (by rw [nc] at z; cases z), fun i m hm => let ⟨v, a, r⟩ := q.get i m hm; ⟨v, a, (r.extW e).sx none⟩⟩
section
variable {X : Cx} {W : WX} {pins : List (Addr × Obj)} {σ : L2.St} {H : Hp} {s : Shared}
theorem lam_act (nc : Tb.cs = none) {Eg : XK} {Ng : List Str} {qg : Str} {sg : Scope} {g f c' : Addr} {cdg pm ctv : Value} {params : Arguments} {body : Expr} {scope : Scope} {kb : Nat} {a : Str} {pn : List (Addr × Obj)} {xe : Value → Shared → Prop} {WZ : WX} {m : ME} {p1 p2 : Pos} {A0 : Ad} {env : MEnv}
    (I : Inv X pins σ H s) (L : LamS X.env.scope scope) (hf : s.heap.get? f = some (PySem.W.kla_obj "<lambda>" (X.env.qual ++ "<lambda>") params body scope (cloFrom X.env.cells scope.names []) pm c' ctv)) (hfn : H f = none) (hfr : f ∉ frs X.stack) (hco : H c' = some (CodeO c' (X.env.qual ++ "<lambda>"))) (hca : ¬ A0.has c')
    (q : EnvR (gmOf X) A0 H σ env)
    (hbind : bindArgs (PySem.W.kla_fn "<lambda>" (X.env.qual ++ "<lambda>") params body scope (cloFrom X.env.cells scope.names []) pm (.ref c') ctv) ⟨[], []⟩ = pure [])
    (tk : Takes ((cxOf (L2.CX X.prog X.w) X.prog X.w X.K X.mg X.base Ng qg sg g cdg X.A X.stack s H Eg).tr pn xe) WZ) (hr : Room (kb + 2) X.A) (gd : NoG X.A)
    (hbody : ∀ (A : Around) (outer : List Env) (s : Shared) (H : Hp) (E : XK), NoG A → Room kb (A.deeper (lamEnv X scope s.heap.objs.size f c')) → Takes (lamCx X A outer s H E scope f c') (fun c d _ H => E c d H) → PM (lamCx X A outer s H E scope f c') (fun c d _ H => E c d H) body m)
    (hN : Ng[0]? = some a) (hv : Vis sg a) (hd : (a == ("__debug__" : Str)) = false) (hcd : (a == ("__classdict__" : Str)) = false) :
    PE ((cxOf (L2.CX X.prog X.w) X.prog X.w X.K X.mg X.base Ng qg sg g cdg X.A X.stack s H Eg).tr pn xe) (.Call (.Name a p1) [] [] p2)
      (fun σZ HZ Q => σZ[0]? = some (some (.ref f)) ∧ ∃ A2 st2, ExtW A0 H A2 HZ ∧ SR (gmOf X) A2 HZ st2 ∧ (m env st2).post (okP (gmOf X) A2 HZ Q) (exP (gmOf X) A2 HZ (WE WZ σZ))) := by
  refine ⟨fun pinsZ sZ σZ HZ Q IZ h => ?_⟩
  obtain ⟨hs, A2, st2, rj, s2, hp⟩ := h
  refine PySem.wpAny_Call_Name_kw (wpAny_mono ((pe_var (pos := p1) (i := 0) hN hv hd hcd).run pinsZ sZ σZ HZ (fun v H1 => v = .ref f ∧ H1 = HZ) IZ ⟨.ref f, hs, rfl, rfl⟩) (fun u s1 ⟨v, H1, I1, r1, q1⟩ => ?_) fun _ _ z => z)
  obtain ⟨ev, eH⟩ := q1
  subst ev
  rw [eH] at I1
  obtain rfl : u = Value.ref f := r1
  have of1 := I1.base.keep f _ hf hfn hfr (fun z => nomatch (show f ∈ ([] : List Addr) from z))
  refine PySem.W.callWith_F0 ⟨_, _, _, _, of1⟩ ?_
  have un : Un (frs X.stack) [] H HZ s.heap s1.heap := I1.base
  have hc : HZ c' = some (CodeO c' (X.env.qual ++ "<lambda>")) := rj.keep _ _ hca hco (fun ps z => by unfold LamX.CodeO at z; cases z)
  obtain ⟨⟨oc, vs, t, hoc, hdc, hvc⟩, _, _⟩ := I1.hok c' _ hc
  let AZ : Around := X.A.deeper (PyProof.Rows.envOfC qg sg s.heap.objs.size g cdg)
  have hrZ : Room (kb + 1) AZ := hr.deeper _
  have rc : codeAny (model X.prog X.w) AZ (.call (.ref f) ⟨[], []⟩) (CR (L2.CX X.prog X.w) (PyProof.Rows.envOfC qg sg s.heap.objs.size g cdg :: X.stack) X.prog X.w HZ s1 Q (WE WZ σZ)) s1 := by
    refine PySem.W.kla_callFunE hrZ.depth of1 rfl L.co L.gen rfl ⟨c', oc, vs, t, rfl, hoc, hdc, hvc⟩ ?_
    rw [hbind]
    refine wpAny_pure (wpAny_newFunctionEnv (fun y hy => (L.own y hy).2) (fun y hy => absurd hy (by simp)) (fun h₁ hns hsb => ⟨I1.nolimit.fresh _ hsb, ?_⟩) L.kind)
    have kp : ∀ b o, s1.heap.get? b = some o → h₁.get? b = some o := fun b o e => hsb.extBut b o (Nat.ne_of_lt (Heap.lt_size e)) (Heap.get?_push_of_some _ e)
    have J : Inv (lamCx X AZ (PyProof.Rows.envOfC qg sg s.heap.objs.size g cdg :: X.stack) s1 HZ (WE WZ σZ) scope f c') [] σ HZ { s1 with heap := h₁, toks := s1.toks + ([] : List (Str × Value)).length } :=
      LamX.lam_start2 I L I1.env0 hrZ.hd un hns kp
    have tkL : Takes (lamCx X AZ (PyProof.Rows.envOfC qg sg s.heap.objs.size g cdg :: X.stack) s1 HZ (WE WZ σZ) scope f c') (fun c d _ H => WE WZ σZ c d H) := takes_of rfl rfl rfl rfl
    have hq : tE (gmOf X) (fun c d _ H => WE WZ σZ c d H) m σ HZ Q := ⟨A2.sx none, env, st2, s2.sx none, q.later nc rj, hp.mono (fun _ _ z => z.sx none) fun _ _ z => z.sx none⟩
    refine PySem.W.kla_codeExpr (wpAny_mono ((hbody AZ _ s1 HZ (WE WZ σZ) gd (hrZ.deeper _) tkL).run [] _ σ HZ Q J hq) (fun v s' hq => ?_) fun e s' hq => hq)
    obtain ⟨w', H', J', rv, q⟩ := hq
    exact ⟨w', H', J'.os, J'.bare, J'.base, J'.hok, rv, q⟩
  have hx := passAt tk σZ
  refine wpAny_call (codeAny_mono rc fun r s' hq => ?_)
  cases r with
  | error e => exact hx pinsZ HZ s1 e s' I1 hq
  | ok fl =>
    cases fl with
    | ret u => exact I1.after hq
    | next => exact False.elim hq
    | brk => exact False.elim hq
    | cont => exact False.elim hq
theorem pm_lam (nc : Tb.cs = none) {x : Str} {c P : Addr} {k kb kk : Nat} {F : (Sto → Res MV) → Sto → Res MV} {m : ME} {params : Arguments} {body : Expr} {scope : Scope} {p lpos pos : Pos} (FL : FnL X.prog X.w X.K X.mg X.base k x F) (TB : TabB X.base X.mg c P) (hcode : X.env.code = .ref c)
    (hmT : (P, X.env.qual ++ "<lambda>") ∈ Tb.T) (hu : ∀ p ∈ Tb.T, p.1 = P → p.2 = X.env.qual ++ "<lambda>") (hr : Room kk X.A) (hk : k ≤ kk) (hkb : kb + 2 ≤ kk) (gd : NoG X.A) (tk : Lets X W) (L : LamS X.env.scope scope)
    (hbody : ∀ (A : Around) (outer : List Env) (s : Shared) (H : Hp) (E : XK) (f c' : Addr), NoG A → Room kb (A.deeper (lamEnv X scope s.heap.objs.size f c')) → Takes (lamCx X A outer s H E scope f c') (fun c d _ H => E c d H) → PM (lamCx X A outer s H E scope f c') (fun c d _ H => E c d H) body m)
    (hdef : defaultsOf params X.env = ([], []) := by rfl) (hg : Gl X x := by rfl)
    (hbind : ∀ (q : Str) (cl : List (Str × Addr)) (pm cv ctv : Value), bindArgs (PySem.W.kla_fn "<lambda>" q params body scope cl pm cv ctv) ⟨[], []⟩ = pure [] := by intro _ _ _ _ _; rfl)
    (hdb : (x == ("__debug__" : Str)) = false := by decide) :
    PM X W (.Call (.Name x p) [.Lambda params body scope lpos] [] pos) (mLam F m) := by
  obtain ⟨g, N, sg, cdv, a, hm, hkp, FP, hN, hv, hd, hcd⟩ := FL.ex
  refine ⟨fun pins s σ H Q I ⟨A, env, st, s0, q, h⟩ => ?_⟩
  refine PySem.wpAny_Call_Name_kw (ld_glob I hg hm ?_ hdb)
  refine PySem.W.callWith_K (h₀ := X.base) I.ok.mod.kin hkp ?_ (by rfl) (by rfl)
  show wpAny _ _ (spliced ((false, eval (.Lambda params body scope lpos) X.env) :: backTo pos (starEach [] X.env))) _ _ s
  refine Calls.spliced_cons (LamX.lam_make2 I TB hcode hmT hu s0.tb hdef (L.has I.ok) fun f c' pm' ctv H1 s' I1 eN T1 hf hfn hfr hco => ?_)
  refine Calls.spliced_nil ⟨I1.kIn, ?_⟩
  obtain ⟨x1, s1⟩ := s0.extN eN T1
  have hca : ¬ A.has c' := fun z => by
    obtain ⟨o, e, n⟩ := s1.tracked z
    rw [hco] at e; cases e
    exact n.2 _ _ rfl
  have rc := FP X.A X.stack s' H1 f Q (WE W σ) (fun st' => m env st') A st (hr.mono hk) gd I1.env0 s1
    (fun WZ pn xe p1 p2 tkZ => lam_act nc (kb := kb) I1 L hf hfn hfr hco hca (q.ext x1) (hbind _ _ _ _ _) tkZ (hr.mono hkb) gd (fun A outer s H E g2 hr2 tk2 => hbody A outer s H E f c' g2 hr2 tk2) hN hv hd hcd)
    (h.mono (fun _ _ z => z.ext x1) fun _ _ z => z.ext x1)
  refine wpAny_call (codeAny_mono rc fun r s2 hq => ?_)
  cases r with
  | error e => exact tk σ pins H1 s' e s2 I1 hq
  | ok fl =>
    cases fl with
    | ret u => exact I1.after hq
    | next => exact False.elim hq
    | brk => exact False.elim hq
    | cont => exact False.elim hq
end
end MR

/-! try: .. except x as n: a suite that returns -/
namespace MR
open PySem L2
/-- hm: what the suite does with an error at hand -/
def sTryAs (mb : MS) (i : Nat) (sub : Str → Option Bool) (hm : Ex → MS) : MS := fun env st => match mb env st with
  | .exc c env' st' => if i < env'.length then (match sub c.c with
    | some true => if c.ns = [] ∧ c.xs.isEmpty = true then (match hm c (env'.set i none) st' with
      | .rt m st2 => .rt m st2
      | _ => .bad) else .bad
    | some false => .exc c env' st'
    | none => .bad) else .bad
  | r => r
/-- isinstance(n, y) of the caught error n, in its suite -/
def mIsE (i : Nat) (b : Option Bool) : ME := fun env st => match env[i]? with
  | some none => (match b with
    | some b => .ok (.bl b) st
    | none => .bad)
  | _ => .bad
section
variable {X : Cx} {W : WX}
theorem pm_isE [Tb] {i : Nat} {a C Y : Addr} {oe : Obj} {pn : List (Addr × Obj)} {n y : Str} {b : Option Bool} {p1 p2 p3 p4 : Pos} (hcs : Tb.cs = some (i, a)) (hE : ∀ k, b = some k → ExcC X.K C ∧ PySem.W.kitOne X.K (.ref C) (.ref Y) = some k) (hz : Zc (.ref C) none oe) (hfl : ∃ vs, oe.data = .fields vs)
    (hi : X.N[i]? = some n) (gY : X.mg y = some (.ref Y)) (mi : X.mg "isinstance" = none) (hv : Vis X.env.scope n := by first | exact Or.inl rfl | exact Or.inr (Or.inl rfl) | exact Or.inr (Or.inr rfl)) (hg1 : Gl X "isinstance" := by rfl) (hg2 : Gl X y := by rfl)
    (hd1 : (n == ("__debug__" : Str)) = false := by decide) (hd2 : (n == ("__classdict__" : Str)) = false := by decide) (hd3 : (y == ("__debug__" : Str)) = false := by decide) :
    PM (X.suite a ((a, oe) :: pn)) W (.Call (.Name "isinstance" p1) [.Name n p2, .Name y p3] [] p4) (mIsE i b) := by
  refine ⟨fun pins s σ H Q I ⟨A, env, st, sr, q, h⟩ => ?_⟩
  unfold mIsE at h
  split at h
  · rename_i e0
    cases b with
    | none => exact h.elim
    | some k =>
      obtain ⟨hE1, hE2⟩ := hE k rfl
      have hcall : PE (X.suite a ((a, oe) :: pn)) (.Call (.Name "isinstance" p1) [.Name n p2, .Name y p3] [] p4) (tCB (rIsE X.K C a) (tCons (tVar i) (tCons (tC (.ref Y)) tNil))) :=
        pe_callB (call_isE (X := X) (a := a) (pn := pn) hE1 hz hfl) hg1 mi (by decide +kernel) (pa_cons (pe_var (X := X.suite a ((a, oe) :: pn)) hi hv hd1 hd2) (pa_cons (pe_glob (X := X.suite a ((a, oe) :: pn)) (v := .ref Y) hg2 gY rfl hd3) pa_nil))
      refine hcall.run pins s σ H Q I ⟨.ref a, q.cs i a hcs e0, ⟨.ref Y, .ref Y, k, rfl, rel_ref, hE2, ?_⟩⟩
      have h : okP (gmOf (X.suite a ((a, oe) :: pn))) A H Q (.bl k) st := h
      exact h A H _ (Ext.refl A H) sr (.bl k)
  · exact h.elim
end
section
variable [Tb] {X : Cx} {W : WX}
/-- what the suite is asked -/
def tSuA (G : Gm) (i : Nat) (hm : Ex → MS) : Addr → Value → Option Addr → TS := fun a cls d D σ H => ∃ (C : Addr) (c : Ex), cls = .ref C ∧ d = none ∧ G.mg c.c = some (.ref C) ∧ tS (G.at G.j (some (i, a))) W0 (hm c) D σ H
theorem pms_tryAs {i : Nat} {n x : Str} {cx : Value} {body suite : List Stmt} {s0 : Stmt} {mb : MS} {hm : Ex → MS} {sub : Str → Option Bool} {np pos pos' : Pos}
    (hs : X.stack = X.env :: X.outer) (hf : X.env.frame = some X.env.locals) (hN : X.N.Nodup) (hi : X.N[i]? = some n) (hln : X.env.kindOf n = some .local) (hc : Names X x cx) (tk : Takes X W)
    (hb : ∀ (W' : WX) (pn : List (Addr × Obj)) (xe : Value → Shared → Prop), Takes (X.tr pn xe) W' → PMSs (X.tr pn xe) W' body mb)
    (hsub : ∀ c b C, sub c = some b → X.mg c = some (.ref C) → PySem.W.exmOne X.K (.ref C) cx = some b)
    (hsu : ∀ (τ : Tb) (a : Addr) (oe : Obj) (pn : List (Addr × Obj)) (c : Ex) (C : Addr), τ.cs = some (i, a) → X.mg c.c = some (.ref C) → Zc (.ref C) none oe → (∃ vs, oe.data = .fields vs) → @PMSs τ (X.suite a ((a, oe) :: pn)) W0 (s0 :: suite) (hm c)) :
    PMS X W (.Try body [.ExceptHandler (some (.Name x np)) (some n) (s0 :: suite) pos'] [] [] pos) (sTryAs mb i sub hm) := by
  refine PS_imp (ps_try_as (i := i) (c := cx) (tb := fun W' => tS (gmOf X) W' mb) (ts := tSuA (gmOf X) i hm) (Wout := W) hs hf hN hi hln hc tk (fun W' pn xe tk' _ => hb W' pn xe tk') fun a oe cls d pn hz hfl => ?_) fun D σ H ⟨A, env, st, s, q, h⟩ => ?_
  · refine ⟨fun pins s σ H D I ⟨C, c, e1, e2, hC, q⟩ => ?_⟩
    subst e1 e2
    exact (hsu ⟨Tb.T, Tb.j, some (i, a)⟩ a oe pn c C rfl hC hz hfl).run pins s σ H D I q
  · refine ⟨A, env, st, s, q, ?_⟩
    unfold sTryAs at h
    cases eb0 : mb env st with
    | nx e s => rw [eb0] at h; exact h
    | rt m s => rw [eb0] at h; exact h
    | bk e s => rw [eb0] at h; exact h
    | ct e s => rw [eb0] at h; exact h
    | bad => rw [eb0] at h; exact h
    | exc c env' st' =>
      rw [eb0] at h
      have h : Flw.post (if i < env'.length then (match sub c.c with
        | some true => if c.ns = [] ∧ c.xs.isEmpty = true then (match hm c (env'.set i none) st' with
          | .rt m st2 => .rt m st2
          | _ => .bad) else .bad
        | some false => .exc c env' st'
        | none => .bad) else .bad) (gmOf X) A H W D := h
      by_cases hlen : i < env'.length
      · rw [if_pos hlen] at h
        intro A' H' σ' C dE e' s' q' hC0
        have hC := hC0.1
        cases es : sub c.c with
        | none => rw [es] at h; exact h.elim
        | some b =>
          refine ⟨b, hsub c.c b C es hC, fun hb a ha => ?_, fun hb => ?_⟩
          · subst hb
            rw [es] at h
            have h : Flw.post (if c.ns = [] ∧ c.xs.isEmpty = true then (match hm c (env'.set i none) st' with
              | .rt m st2 => .rt m st2
              | _ => .bad) else .bad) (gmOf X) A H W D := h
            by_cases hem : c.ns = [] ∧ c.xs.isEmpty = true
            · rw [if_pos hem] at h
              have hd : dE = none := by
                obtain ⟨_, hz | ⟨p, vs, z1, _⟩⟩ := hC0
                · exact hz.2.2
                · exact absurd hem.1 z1
              subst hd
              refine ⟨C, c, rfl, rfl, hC, A'.sx none, env'.set i none, st', SR.gj (gmOf X).j (some (i, a)) (s'.sx none) (s'.sx none).js, ?_, ?_⟩
              · refine ⟨by simpa using q'.len, fun _ _ z => (by cases z), fun j a2 z _ => ?_, fun j m hj => ?_⟩
                · cases z
                  exact List.getElem?_set_self (Nat.lt_of_lt_of_le hlen q'.len)
                · by_cases e : i = j
                  · subst e
                    rw [List.getElem?_set_self hlen] at hj; cases hj
                  · rw [List.getElem?_set_ne e] at hj
                    obtain ⟨v, ev, rv⟩ := q'.get j m hj
                    exact ⟨v, by rw [List.getElem?_set_ne e]; exact ev, (rv.sx none).gj _ _⟩
              · cases em : hm c (env'.set i none) st' with
                | rt m st2 =>
                  rw [em] at h
                  have h : okP (gmOf X) A H D.rt m st2 := h
                  have h := (h.ext e').sx none
                  exact fun A2 H2 v e2 s2 r2 => h A2 H2 v e2 (SR.gj (G := (gmOf X).at (gmOf X).j (some (i, a))) (gmOf X).j (gmOf X).cs s2 s2.js) (Rep.gj (G := (gmOf X).at (gmOf X).j (some (i, a))) (gmOf X).j (gmOf X).cs r2)
                | nx e s => rw [em] at h; exact h.elim
                | bk e s => rw [em] at h; exact h.elim
                | ct e s => rw [em] at h; exact h.elim
                | exc c e s => rw [em] at h; exact h.elim
                | bad => rw [em] at h; exact h.elim
            · rw [if_neg hem] at h; exact h.elim
          · subst hb
            rw [es] at h
            exact h A' H' σ' C dE e' s' q' hC0
      · rw [if_neg hlen] at h; exact h.elim
end
end MR

/-! sorted({..}), sum, max with a default, isinstance of own classes -/
namespace MR
open PySem L2
open PyProof.Rows (sortedS)
variable [Tb]
section
variable {X : Cx} {W : WX} {elt tg iter tg1 iter1 : Expr} {ifs ifs1 : List Expr} {scope : Scope} {pos pos2 p : Pos} {mi it2 : MA} {mt mt2 : MT} {me : ME}
theorem pm_sortsc2 (nc : Tb.cs = none) {own : List (Str × Nat)} {own2 : List Nat} {t1 t2 : Tgt} (hm1 : X.mg "sorted" = none) (hN : X.N.Nodup) (hi : PMI X W tg iter mi) (ok : BlkOk X.N X.env.scope scope own) (hv : ∀ i ∈ own2, i ∈ own.map (·.2))
    (hg : ∀ (s : Shared) (H : Hp) (C : Addr) (cl : List (Str × Addr)) (fp : List Addr), PG (X.blk s H scope (compEnvC scope cl C X.env) fp) tg (t1.tg X.K))
    (ht : ∀ (s : Shared) (H : Hp) (C : Addr) (cl : List (Str × Addr)) (fp : List Addr), PTs (X.blk s H scope (compEnvC scope cl C X.env) fp) ifs (tT (gmOf X) W0 mt))
    (hi1 : ∀ (s : Shared) (H : Hp) (C : Addr) (cl : List (Str × Addr)) (fp : List Addr), PMI (X.blk s H scope (compEnvC scope cl C X.env) fp) W0 tg1 iter1 it2)
    (hg1 : ∀ (s : Shared) (H : Hp) (C : Addr) (cl : List (Str × Addr)) (fp : List Addr), PG (X.blk s H scope (compEnvC scope cl C X.env) fp) tg1 (t2.tg X.K))
    (ht1 : ∀ (s : Shared) (H : Hp) (C : Addr) (cl : List (Str × Addr)) (fp : List Addr), PTs (X.blk s H scope (compEnvC scope cl C X.env) fp) ifs1 (tT (gmOf X) W0 mt2))
    (he : ∀ (s : Shared) (H : Hp) (C : Addr) (cl : List (Str × Addr)) (fp : List Addr), PM (X.blk s H scope (compEnvC scope cl C X.env) fp) W0 elt me)
    (hsub : ∀ i ∈ t1.slots, i ∈ own.map (·.2) := by decide) (hsub2 : ∀ i ∈ t2.slots, i ∈ own2 := by decide) (hc : X.calm = true := by rfl) (hs : ∀ x, foldedSetIterable iter X.env x = pure x := by intro _; rfl) (hs1 : ∀ env x, foldedSetIterable iter1 env x = pure x := by intro _ _; rfl)
    (hgl : Gl X "sorted" := by rfl) (he' : starEach [.SetComp elt [⟨tg, iter, ifs, 0⟩, ⟨tg1, iter1, ifs1, 0⟩] scope pos2] X.env = (false, eval (.SetComp elt [⟨tg, iter, ifs, 0⟩, ⟨tg1, iter1, ifs1, 0⟩] scope pos2) X.env) :: starEach [] X.env := by rfl) (hpl : (backTo pos (starEach [] X.env)).any (·.1) = false := by rfl) :
    PM X W (.Call (.Name "sorted" p) [.SetComp elt [⟨tg, iter, ifs, 0⟩, ⟨tg1, iter1, ifs1, 0⟩] scope pos2] [] pos) (mSortSc2 mi (own.map (·.2)) t1 mt it2 own2 t2 mt2 me) :=
  PE_imp (pe_callB (cr_sortedT hc) hgl hm1 (by decide +kernel) (pa_cons (pe_sc2 hc hN hi ok hv hg ht hi1 hg1 ht1 he hs hs1) pa_nil he') (by decide) (by decide) he' hpl) fun σ H Q h => by
    exact sc2E nc hsub hsub2 h
end
/-! ### sum, max with a default -/
def intsOf : List MV → Option (List Int)
  | [] => some []
  | .int i :: r => (intsOf r).map (i :: ·)
  | _ :: _ => none
theorem intsOf_rep {G : Gm} {A : Ad} {H : Hp} : ∀ {ms : List MV} {vs : List V} {ns : List Int}, RepAll G A H vs ms → intsOf ms = some ns → vs = ns.map V.int
  | [], _, _, .nil, h => by cases h; rfl
  | m :: ms, _, ns, .cons r rs, h => by
    cases m with
    | int i =>
      simp only [intsOf] at h
      obtain ⟨ks, e, z⟩ := Option.map_eq_some_iff.mp h
      subst z
      rw [intsOf_rep rs e, r.int_inv]; rfl
    | _ => cases h
def gSum : List MV → Sto → Res MV := fun ms st => match ms with
  | [m] => match (listOf m st).bind intsOf with
    | some ns => .ok (.int ns.sum) st
    | none => .bad
  | _ => .bad
theorem ints_rep {G : Gm} {A : Ad} {H : Hp} {st : Sto} {m : MV} {v : V} {ns : List Int} (s : SR G A H st) (r : Rep G A H v m) (h : (listOf m st).bind intsOf = some ns) : ∃ a, v = .ref a ∧ H a = some (.lst (ns.map V.int)) := by
  cases e : listOf m st with
  | none => rw [e] at h; cases h
  | some xs =>
    rw [e] at h
    obtain ⟨a, vs, rfl, hH, rv⟩ := listOf_rep s r e
    have ev := intsOf_rep rv h
    exact ⟨a, rfl, by rw [← ev]; exact hH⟩
theorem oSum {G : Gm} : OpN G (rSum G.K) gSum := by
  intro A H st xs ms Q m st' s r h k
  unfold gSum at h
  split at h
  · split at h
    · rename_i ns e
      cases h
      cases r with
      | cons r rs =>
        cases rs
        obtain ⟨a, ev, hH⟩ := ints_rep s r e
        exact ⟨a, ns, by rw [ev], SqL.of hH, fin0 s (.int _) k⟩
    · cases h
  · cases h
def maxI (d : Int) : List Int → Int
  | [] => d
  | y :: ys => ys.foldl max y
def rMaxDf (K : PySem.W.Frag) : List V → List V → Hp → VK → Prop := fun vs zs H Q => ∃ (a : Addr) (ns : List Int) (d : Int), vs = [V.ref a] ∧ zs = [V.int d] ∧ SqL K H a (ns.map V.int) ∧ Q (.int (maxI d ns)) H
theorem dpAll_ints {K : PySem.W.Frag} {H : Hp} : ∀ ns : List Int, DpAll K H (ns.map V.int) (ns.map PyData.int)
  | [] => .nil
  | i :: ns => .cons (.int i) (dpAll_ints ns)
theorem depth_ints : ∀ ns : List Int, PyData.depthAll (ns.map PyData.int) ≤ 1
  | [] => by simp [PyData.depthAll]
  | i :: ns => by
    have := depth_ints ns
    simp only [List.map_cons, PyData.depthAll, PyData.depth]
    omega
theorem cr_maxDf {X : Cx} (hc : X.calm = true) (hu : X.A.units + 64 < cLine) : CallRK X (.builtin "max") ["default"] (rMaxDf X.K) := by
  intro pins s σ H xs zs us ws Q I r rz h
  obtain ⟨a, ns, d, rfl, rfl, hs, q⟩ := h
  obtain ⟨its, rv, hl, _⟩ := I.list hs
  rw [Vals.ref1 r]
  obtain ⟨u, rfl, ru⟩ : ∃ u, ws = [u] ∧ RelV (.int d) u := by
    cases rz with
    | cons r rr => cases rr; exact ⟨_, rfl, r⟩
  obtain ⟨as, hr⟩ := Dp.readsAll I _ _ _ (dpAll_ints ns) rv
  have ha : PySem.W.AlikeAll (ns.map PyData.int) := by
    refine ⟨fun x hx y hy => ?_, fun x hx => ?_⟩
    · obtain ⟨i, _, rfl⟩ := List.mem_map.mp hx
      obtain ⟨j, _, rfl⟩ := List.mem_map.mp hy
      rfl
    · obtain ⟨i, _, rfl⟩ := List.mem_map.mp hx
      intro z; cases z
  refine PySem.W.max_list_default (xs := ns.map PyData.int) (as := as) (I.ok.hd hc) hl.isList (by simpa using hr) ha (by have := depth_ints ns; omega) (fun h0 h' tk kk => ?_) fun y ys i v h' tk bs e hv hR kk => ?_
  · have : ns = [] := by cases ns with
      | nil => rfl
      | cons _ _ => cases h0
    subst this
    exact ⟨.int d, H, I.kept kk, ru, q⟩
  · cases ns with
    | nil => cases e
    | cons n ns =>
      cases e
      have hm := PySem.W.maxD_ints n ns
      rw [hm] at hR
      refine ⟨.int (ns.foldl max n), H, I.kept kk, ?_, q⟩
      cases hR with
      | int t => exact ⟨_, rfl⟩
section
variable {X : Cx} {W : WX} {e : Expr} {me : ME} {d : Int} {j : Nat} {p pos p2 kp : Pos}
def mMaxDf (d : Int) (a : ME) : ME := fun env st => (a env st).bind fun m st1 => match (listOf m st1).bind intsOf with
  | some ns => .ok (.int (maxI d ns)) st1
  | none => .bad
theorem pm_maxDf (hu : X.A.units + 64 < cLine) (hm : X.mg "max" = none) (he : PM X W e me) (hc : X.calm = true := by rfl) (hg : Gl X "max" := by rfl) (hst : starEach [e] X.env = (false, eval e X.env) :: starEach [] X.env := by rfl)
    (hb : backTo pos (starEach [e] X.env) = (false, eval e X.env) :: backTo pos (starEach [] X.env) := by rfl) (hpl : (backTo pos (starEach [e] X.env)).any (·.1) = false := by rfl)
    (hall : (backToKw pos (keywordEach [⟨some "default", .Constant (.int d) j p2, kp⟩] X.env)).all (·.1.isSome) = true := by rfl) (hnone : (backToKw pos (keywordEach [⟨some "default", .Constant (.int d) j p2, kp⟩] X.env)).any (·.1.isNone) = false := by rfl) (hks : (backToKw pos (keywordEach [⟨some "default", .Constant (.int d) j p2, kp⟩] X.env)).filterMap (·.1) = [("default" : Str)] := by rfl) :
    PM X W (.Call (.Name "max" p) [e] [⟨some "default", .Constant (.int d) j p2, kp⟩] pos) (mMaxDf d me) :=
  PE_imp (pe_callBK (cr_maxDf hc hu) hg hm (by decide +kernel) (pa_cons he pa_nil hst) (pk_cons pe_int pk_nil) (by decide) (by decide) hb hpl hall hnone hks) fun σ H Q ⟨A, env, st, s, q, h⟩ => by
    unfold mMaxDf at h
    rw [Res.post_bind] at h
    refine inE s q (Ext.refl A H) (h.mono (fun mx st1 h1 A1 H1 x e1 s1 r1 => ?_) fun _ _ z => z)
    split at h1
    · rename_i ns ei
      obtain ⟨a, ev, hH⟩ := ints_rep s1 r1 ei
      exact ⟨a, ns, d, by rw [ev], rfl, SqL.of hH, h1 A1 H1 _ e1 s1 (.int _)⟩
    · exact h1.elim
end
end MR

/-! isinstance of all kinds -/
namespace MR
open PySem L2
variable [Tb]
/-- a dict that is told by its nested keys -/
def rIsiD (G : Gm) : List V → Hp → VK → Prop := fun xs H Q => ∃ (a : Addr) (c : V) (u : Value) (b : Bool) (es : List (NestedKey × Addr × V)), xs = [.ref a, c] ∧ ClsV c u ∧ Rd H a (DNO G a es) ∧ PySem.W.kitOne G.K (.type "dict") u = some b ∧ Q (.bl b) H
theorem call_isiD {X : Cx} : CallR X (.builtin "isinstance") (rIsiD (gmOf X)) := by
  intro pins s σ H xs us Q I r h
  obtain ⟨a, c, u, b, es, rfl, hc, hD, e, q⟩ := h
  cases r with
  | cons rx rr =>
    cases rr with
    | cons rt rr =>
      cases rr
      cases rx
      have ec := hc.eq rt
      subst ec
      have ho : ∃ o, s.heap.get? a = some o ∧ o.cls = .type "dict" := by
        rcases hD with hD | ⟨ob, hD⟩
        · obtain ⟨⟨_, _, xs, _, o, es', ep, ho, hx, _⟩, _, _⟩ := I.hok a _ hD
          exact ⟨o, ho, hx.1⟩
        · obtain ⟨_, ⟨_, _, xs, _, o, es', ep, ho, hx, _⟩, _, _⟩ := I.hok a _ hD
          exact ⟨o, ho, hx.1⟩
      exact PySem.W.kia_one PySem.W.kitx_dict I.kIn ho e (fun z => nomatch z) fun tk => ⟨.bl b, H, I.kept (t' := tk) fun _ _ z => z, rfl, q⟩
/-- what isinstance asks of an own class -/
structure InsK (K : PySem.W.Frag) (C : Addr) : Prop where
  cl : Cls K C
  ha : PySem.W.findIn K (.ref C) "__class__" = some (some (.builtin "object.__class__"))
  hn : PySem.W.specialIn K (.builtin "object.__class__") "__get__" = some (some (.builtin "getset_descriptor.__get__"))
  htk : PySem.W.takesIn K (.builtin "object.__class__") = some true
  hm : PySem.W.mroIn K C (.type "object") = some true
def tyL : List String := ["NoneType", "bool", "int", "str", "tuple", "list", "dict"]
def clL : List String := ["int", "str", "bool", "tuple", "list", "dict", "float"]
/-- own: classes whose instances are of no built-in type; sub: which instances are of which own class; ys: own classes that are asked for -/
structure IsT (K : PySem.W.Frag) (mg : Str → Option Value) (own : Str → Bool) (sub : Str → Str → Option Bool) (ys : Str → Bool) : Prop where
  ins : ∀ d D, own d = true → mg d = some (.ref D) → InsK K D ∧ ∀ c, c ∈ clL → PySem.W.kitOne K (.ref D) (.type c) = some false
  sub : ∀ y d b Y D, sub y d = some b → mg y = some (.ref Y) → mg d = some (.ref D) → InsK K D ∧ PySem.W.kitOne K (.ref D) (.ref Y) = some b
  gl : ∀ y Y, ys y = true → mg y = some (.ref Y) → ∀ t, t ∈ tyL → PySem.W.kitOne K (.type t) (.ref Y) = some false
def tyName3 (m : MV) (st : Sto) : Option String := match m with
  | .dct _ _ => some "dict"
  | .obj k => match st[k]? with
    | some (.lst _) => some "list"
    | some (.dict _ _) => some "dict"
    | _ => none
  | m => tyName m st
theorem tyName3_mem {m : MV} {st : Sto} {t : String} (h : tyName3 m st = some t) : t ∈ tyL := by
  unfold tyName3 at h
  split at h
  · cases h; simp [tyL]
  · split at h <;> first | (cases h; simp [tyL]; done) | cases h
  · unfold tyName at h
    split at h <;> first | (cases h; simp [tyL]; done) | (split at h <;> first | (cases h; simp [tyL]; done) | cases h) | cases h
def gIsK (own : Str → Bool) (sub : Str → Str → Option Bool) (ys : Str → Bool) : List MV → Sto → Res MV := fun ms st => match ms with
  | [x, .ty c] => (match insOf x st with
    | some (d, _, _) => if own d = true ∧ clL.contains c = true then .ok (.bl false) st else .bad
    | none => (match (tyName3 x st).bind fun t => kitB t c with
      | some b => .ok (.bl b) st
      | none => .bad))
  | [x, .gl y] => (match insOf x st with
    | some (d, _, _) => (match sub y d with
      | some b => .ok (.bl b) st
      | none => .bad)
    | none => if ys y = true ∧ (tyName3 x st).isSome = true then .ok (.bl false) st else .bad)
  | _ => .bad
abbrev rIsAll (G : Gm) : List V → Hp → VK → Prop := fun xs H Q => rIsi G.K xs H Q ∨ rIsiD G xs H Q
theorem call_isAll {X : Cx} : CallR X (.builtin "isinstance") (rIsAll (gmOf X)) := CallR.or call_isi call_isiD
theorem is_ty {G : Gm} {A : Ad} {H : Hp} {st : Sto} {v c : V} {u : Value} {m : MV} {t : String} {b : Bool} {Q : VK} (s : SR G A H st) (r : Rep G A H v m) (h : tyName3 m st = some t) (hc : ClsV c u) (e : PySem.W.kitOne G.K (.type t) u = some b) (q : Q (.bl b) H) : rIsAll G [v, c] H Q := by
  have gen : ∀ {m : MV}, Rep G A H v m → tyName m st = some t → rIsAll G [v, c] H Q := fun r h => .inl ⟨_, c, .type t, u, b, rfl, hc, tyName_rep s r h, e, q⟩
  have dK : ∀ {a : Addr} {kvs : List (L2.Key × V)}, v = .ref a → Rd H a (.dK kvs) → t = "dict" → rIsAll G [v, c] H Q := fun {a kvs} ev hr et => by
    subst ev et
    rcases hr with hr | ⟨ob, hr⟩
    · exact .inl ⟨_, c, .type "dict", u, b, rfl, hc, .base (.dK hr), e, q⟩
    · exact .inl ⟨_, c, .type "dict", u, b, rfl, hc, .fDict hr, e, q⟩
  have dN : ∀ {a : Addr} {es : List (NestedKey × Addr × V)}, v = .ref a → Rd H a (DNO G a es) → t = "dict" → rIsAll G [v, c] H Q := fun {a es} ev hr et => by
    subst ev et
    exact .inr ⟨a, c, u, b, es, rfl, hc, hr, e, q⟩
  cases r with
  | dctL h1 => cases h; exact dK rfl h1.1 rfl
  | dctN h1 => cases h; exact dN rfl h1.1 rfl
  | @obj a k h1 =>
    have h : (match st[k]? with
      | some (.lst _) => some "list"
      | some (.dict _ _) => some "dict"
      | _ => none) = some t := h
    split at h
    · rename_i ys eo
      cases h
      cases s.ob k a _ h1 eo with
      | lst h2 h3 => exact .inl ⟨_, c, .type "list", u, b, rfl, hc, tyx_sqL (SqL.of h2), e, q⟩
    · rename_i ks xs eo
      cases h
      cases s.ob k a _ h1 eo with
      | dctL h2 => exact dK rfl (.inl h2) rfl
      | dctN h2 => exact dN rfl (.inl h2) rfl
    · cases h
  | non => exact gen .non h
  | bl x => exact gen (.bl x) h
  | int i => exact gen (.int i) h
  | str x => exact gen (.str x) h
  | ty n => exact gen (.ty n) h
  | gl h1 => exact gen (.gl h1) h
  | tup f r => exact gen (.tup f r) h
  | lst f n r => exact gen (.lst f n r) h
  | scr f => exact gen (.scr f) h
  | ins a b c d => exact gen (.ins a b c d) h
theorem oIsK {G : Gm} {own : Str → Bool} {sub : Str → Str → Option Bool} {ys : Str → Bool} (T : IsT G.K G.mg own sub ys) : OpN G (rIsAll G) (gIsK own sub ys) := by
  intro A H st xs ms Q m st' s r h k
  unfold gIsK at h
  split at h
  · rename_i x c
    cases r with
    | cons r rs =>
    cases rs with
    | cons r2 rs =>
    cases rs
    cases r2
    split at h
    · rename_i d ns zs ei
      obtain ⟨hl, h⟩ := ite_ok h
      cases h
      obtain ⟨a, C, dx, vs, rfl, g1, g2, g3, g4⟩ := ins_rep s r ei
      obtain ⟨t1, t2⟩ := T.ins d C hl.1 g1
      exact .inl ⟨_, .ty c, .ref C, .type c, false, rfl, .ty c, .base (.ins g2 t1.cl t1.ha t1.hn t1.htk t1.hm), t2 c (by simpa using hl.2), fin0 s (.bl _) k⟩
    · split at h
      · rename_i b e
        cases h
        cases e1 : tyName3 x st with
        | none => rw [e1] at e; cases e
        | some t =>
          rw [e1] at e
          exact is_ty s r e1 (.ty c) (kit_ty e) (fin0 s (.bl _) k)
      · cases h
  · rename_i x y
    cases r with
    | cons r rs =>
    cases rs with
    | cons r2 rs =>
    cases rs
    cases r2 with
    | @gl _ Y hY =>
    split at h
    · rename_i d ns zs ei
      split at h
      · rename_i b eb
        cases h
        obtain ⟨a, C, dx, vs, rfl, g1, g2, g3, g4⟩ := ins_rep s r ei
        obtain ⟨t1, t2⟩ := T.sub y d b Y C eb hY g1
        exact .inl ⟨_, .ref Y, .ref C, .ref Y, b, rfl, .own Y, .base (.ins g2 t1.cl t1.ha t1.hn t1.htk t1.hm), t2, fin0 s (.bl _) k⟩
      · cases h
    · obtain ⟨hl, h⟩ := ite_ok h
      cases h
      obtain ⟨t, et⟩ := Option.isSome_iff_exists.mp hl.2
      exact is_ty s r et (.own Y) (T.gl y Y hl.1 hY t (tyName3_mem et)) (fin0 s (.bl _) k)
  · cases h
end MR

set_option maxHeartbeats 2000000
/-! the end of a law's walk with tables of code objects -/
namespace MR
open PySem PySem.Spec PyProof.Rows L2 LamX
/-- law_call with tables: cs, the code objects and their tables -/
theorem law_callTG {P : Program} {w : World} {K : PySem.W.Frag} {mg mb : Str → Option Value} {k : Nat} {fa a : Addr} {cs : List (Addr × Addr)} {fd : FuncData} {x : Str} {sp : Sp} {s₁ : Shared} {vs : List Value} {ns : List Int}
    (KX : K.In s₁.heap) (hns : s₁.heap.Ns mainGlobals mg) (hb : s₁.heap.Ns builtinsNs mb) (hbb : ∀ x : Str, x ≠ "__name__" → mb x = bootBuiltins x) (hlim : s₁.heap.NoLimit) (hSy : ∃ mm, s₁.heap.Ns sysModules mm) (hg : s₁.gens = #[])
    (hT : ∀ p ∈ cs, s₁.heap.get? p.2 = some { cls := .none, data := .fields #[] }) (nT : ∀ p ∈ cs, K.lookup p.2 = none) (C : ∀ p ∈ cs, PySem.W.CodeHd s₁.heap p.1 p.2)
    (hbm : ∃ (bm : Addr) (ob : Obj), mg "__builtins__" = some (.ref bm) ∧ bm ≠ builtinsNs ∧ s₁.heap.get? bm = some ob ∧ ob.cls = .type "module" ∧ ob.dict = some builtinsNs ∧ ob.data = .plain)
    (ha : s₁.heap.get? a = some { cls := .type "list", data := .seq vs.toArray }) (hi : IntsAre vs ns) (hl : ns.length ≤ sizeLine) (hr : Room k callerA)
    (F : ∀ base : Heap, K.In base → base.Ns mainGlobals mg → (∀ p ∈ cs, TabB base mg p.1 p.2) → (∃ o, base.get? sysModules = some o) → FnG P w K mg base k fa fd [x] sp) (hbind : ∀ (s : Shared) (u : Value), BindsTo s fd ⟨[u], []⟩ [(x, u)])
    (hsp : ∀ H : Hp, (∀ p ∈ cs, H p.2 = some (.tbl #[])) → SqL K H a (ns.map V.int) → sp [.ref a] H (fun v _ => v = .bl true) fun _ _ _ => False) :
    codeAny (model P w) callerA (.call (.ref fa) ⟨[.ref a], []⟩) (fun r s' => r = .ok (.ret (.bool true)) ∧ OldK s₁.heap s'.heap ∧ s'.os = s₁.os ∧ AllBare s'.gens) s₁ := by
  have rv := vals_ints hi
  have lenV := hi.length
  have isT : ∀ b : Addr, b ∈ cs.map (·.2) → s₁.heap.get? b = some { cls := .none, data := .fields #[] } := fun b hb => by
    obtain ⟨p, hp, e⟩ := List.mem_map.mp hb
    rw [← e]
    exact hT p hp
  have aT : a ∉ cs.map (·.2) := fun z => by
    have q := isT a z
    rw [ha] at q
    have z' : Data.seq vs.toArray _ = Data.fields #[] := congrArg Obj.data (Option.some.inj q)
    cases z'
  have memT : ∀ p ∈ cs, p.2 ∈ cs.map (·.2) := fun p hp => List.mem_map.mpr ⟨p, hp, rfl⟩
  -- from an abstract heap in which nothing but the script and the tables may be tracked
  have core : ∀ H : Hp, (∀ p ∈ cs, H p.2 = some (.tbl #[])) → (∀ b, H b = none ∨ b ∈ cs.map (·.2) ∨ ∃ o xs, H b = some (.frz o (.lst xs))) → SqL K H a (ns.map V.int) → HOk P w H s₁.heap → (∀ b, H b ≠ none → b = a ∨ b ∈ cs.map (·.2)) → (H a ≠ none → K.lookup a = none) →
      codeAny (model P w) callerA (.call (.ref fa) ⟨[.ref a], []⟩) (fun r s' => r = .ok (.ret (.bool true)) ∧ OldK s₁.heap s'.heap ∧ s'.os = s₁.os ∧ AllBare s'.gens) s₁ := by
    intro H hH hO hS hok hA hK
    have base_of : ∀ {b : Addr} {o : Obj}, s₁.heap.get? b = some o → H b = none → (hidT s₁.heap H).get? b = some o := fun e n => hidT_get e n
    have noD : ∀ {b : Addr} {o : Obj}, s₁.heap.get? b = some o → (∀ vs n, o.data ≠ .seq vs n) → o.data ≠ .fields #[] → H b = none := fun {b o} e h1 h2 => by
      cases q : H b with
      | none => rfl
      | some u =>
        rcases hA b (by rw [q]; simp) with e' | e'
        · rw [e', ha] at e
          cases e
          exact (h1 _ _ rfl).elim
        · rw [isT b e'] at e
          cases e
          exact (h2 rfl).elim
    have noA : ∀ {b : Addr} {o : Obj} {es : Array DictEntry} {ep : Nat}, s₁.heap.get? b = some o → o.data = .dict es ep → H b = none := fun {b o es ep} e d => by
      refine noD e (fun vs n z => ?_) fun z => ?_
      · rw [d] at z
        cases z
      · rw [d] at z
        cases z
    have nsK : ∀ {b : Addr} {m : Str → Option Value}, s₁.heap.Ns b m → (hidT s₁.heap H).Ns b m := fun {b m} ⟨o, es, ep, e, d, r⟩ => ⟨o, es, ep, base_of e (noA e d), d, r⟩
    have hKb : K.In (hidT s₁.heap H) := fun b o e => base_of (KX b o e) (by
      cases q : H b with
      | none => rfl
      | some u =>
        rcases hA b (by rw [q]; simp) with e' | e'
        · rw [e'] at e q
          rw [hK (by rw [q]; simp)] at e
          cases e
        · obtain ⟨p, hp, ep⟩ := List.mem_map.mp e'
          rw [← ep, nT p hp] at e
          cases e)
    have hM : L2.Mod K mg (hidT s₁.heap H) := ⟨hKb, nsK hns, ⟨mb, nsK hb, hbb⟩, let ⟨mc, h1, h2⟩ := hlim; ⟨mc, nsK h1, h2⟩⟩
    have TB : ∀ p ∈ cs, TabB (hidT s₁.heap H) mg p.1 p.2 := fun p hp => by
      have hTp := hT p hp
      refine ⟨?_, ?_, fun z => ?_⟩
      · obtain ⟨o, us, file, tf, flags, tg, inF, text, tt, e1, r1, r2, r3, r4, r5, r6, r7, r8, hne⟩ := C p hp
        refine ⟨o, us, file, tf, flags, tg, inF, text, tt, base_of e1 (noD e1 (fun vs n z => ?_) fun z => ?_), r1, r2, r3, r4, r5, r6, r7, r8, hne⟩
        · rw [r2] at z
          cases z
        · rw [r2] at z
          cases z
          simp at r3
      · obtain ⟨bm, ob, b1, b2, b3, b4, b5, b6⟩ := hbm
        have nG : bm ≠ mainGlobals := fun q => by
          obtain ⟨o, es, ep, e, hd, _⟩ := hns
          rw [q, e] at b3
          cases b3
          rw [hd] at b6
          cases b6
        have nP : bm ≠ p.2 := fun q => by
          rw [q, hTp] at b3
          cases b3
          cases b6
        refine ⟨bm, ob, b1, b2, nG, nP, base_of b3 (noD b3 (fun vs n z => ?_) fun z => ?_), b4, b5, b6⟩
        · rw [b6] at z
          cases z
        · rw [b6] at z
          cases z
      · obtain ⟨o, es, ep, e, hd, _⟩ := hns
        rw [z, hTp] at e
        cases e
        cases hd
    have hSY : ∃ o, (hidT s₁.heap H).get? sysModules = some o := by
      obtain ⟨mm, o, es, ep, e, hd, _⟩ := hSy
      exact ⟨o, base_of e (noA e hd)⟩
    have e0 : Env0 P w K mg (hidT s₁.heap H) callerA [] s₁ H := ⟨rfl, hM, fun b o e => of_hidT e, Nat.le_of_eq (hidT_size _ _), trivial, fun b hb => absurd (show b ∈ ([] : List Addr) from hb) (by simp), hok, .of_eq hg⟩
    refine codeAny_mono ((F _ hKb (nsK hns) TB hSY).run callerA [] s₁ H ⟨[.ref a], []⟩ [.ref a] [.ref a] _ _ hr rfl e0 (hbind s₁ (.ref a)) (.cons rfl .nil) (hsp H hH hS)) fun r s' h => ?_
    cases r with
    | error e =>
      obtain ⟨_, _, _, _, _, _, _, _, _, _, _, _, z⟩ := h
      exact z.elim
    | ok fl =>
      cases fl with
      | next => exact False.elim h
      | brk => exact False.elim h
      | cont => exact False.elim h
      | ret u =>
        obtain ⟨v, H', os, bare, un, hok', r', q⟩ := h
        have q' : v = .bl true := q
        subst q'
        obtain rfl : u = Value.bool true := r'
        have key : ∀ b o, b ∉ cs.map (·.2) → s₁.heap.get? b = some o → s'.heap.get? b = some o := fun b o nb e => by
          cases q : H b with
          | none => exact un.keep b o e q (by intro z; exact absurd (show b ∈ ([] : List Addr) from z) (by simp)) (by simp)
          | some u =>
            rcases hO b with z | z | ⟨ob, xs, z⟩
            · rw [q] at z; cases z
            · exact absurd z nb
            · have z2 := un.frzs b ob _ z
              obtain ⟨e1, _⟩ := hok b _ z
              obtain ⟨e2, _⟩ := hok' b _ z2
              rw [e] at e1; cases e1
              exact e2
        have grown : ∀ p ∈ cs, ∃ more : Array Value, s'.heap.get? p.2 = some { cls := .none, data := .fields more } := fun p hp => by
          obtain ⟨more, z⟩ := un.tbls p.2 #[] (hH p hp)
          exact ⟨_, hok' p.2 _ z⟩
        refine ⟨rfl, ⟨fun b o e => ?_, fun b o e => ?_⟩, os, bare⟩
        · by_cases hb : b ∈ cs.map (·.2)
          · obtain ⟨p, hp, ep⟩ := List.mem_map.mp hb
            obtain ⟨more, hm⟩ := grown p hp
            rw [← ep] at e ⊢
            rw [hT p hp] at e
            cases e
            exact .inr (.inl ⟨((C p hp).tab (hT p hp)).isCodeTable, rfl, #[], more, rfl, by rw [Array.empty_append]; exact hm⟩)
          · exact .inl (key b o hb e)
        · by_cases hb : b ∈ cs.map (·.2)
          · obtain ⟨p, hp, ep⟩ := List.mem_map.mp hb
            obtain ⟨more, hm⟩ := grown p hp
            rw [← ep]
            exact ⟨_, hm⟩
          · exact ⟨o, key b o hb e⟩
  cases hk : K.lookup a with
  | some o =>
    have e := KX a o hk
    rw [ha] at e
    cases e
    refine core (fun b => if b ∈ cs.map (·.2) then some (.tbl #[]) else none) (fun p hp => if_pos (memT p hp)) (fun b => ?_) (.inr ⟨_, vs.toArray, _, hk, rfl, rfl, rfl, by rw [List.size_toArray, lenV]; exact hl, by simpa using rv⟩) (fun b u z => ?_) (fun b z => ?_) fun z => absurd (show (if a ∈ cs.map (·.2) then some (HO.tbl #[]) else none) = none from if_neg aT) z
    · by_cases hb : b ∈ cs.map (·.2)
      · exact .inr (.inl hb)
      · exact .inl (if_neg hb)
    · by_cases hb : b ∈ cs.map (·.2)
      · have z' := (if_pos hb).symm.trans z
        cases z'
        exact isT b hb
      · have z' := (if_neg hb).symm.trans z
        cases z'
    · by_cases hb : b ∈ cs.map (·.2)
      · exact .inr hb
      · exact absurd (if_neg hb) z
  | none =>
    refine core (fun b => if b = a then some (.frz { cls := .type "list", data := .seq vs.toArray } (.lst (ns.map V.int))) else if b ∈ cs.map (·.2) then some (.tbl #[]) else none) (fun p hp => (if_neg (show ¬ p.2 = a from fun z => aT (by rw [← z]; exact memT p hp))).trans (if_pos (memT p hp))) (fun b => ?_)
      (.inl (.inr ⟨{ cls := .type "list", data := .seq vs.toArray }, if_pos rfl⟩)) (fun b u z => ?_) (fun b z => ?_) fun _ => hk
    · by_cases hb : b = a
      · exact .inr (.inr ⟨_, _, if_pos hb⟩)
      · by_cases hb2 : b ∈ cs.map (·.2)
        · exact .inr (.inl hb2)
        · exact .inl ((if_neg hb).trans (if_neg hb2))
    · by_cases hb : b = a
      · have z' := (if_pos hb).symm.trans z
        cases z'
        rw [hb]
        exact ⟨ha, by rw [List.length_map]; exact hl, vs, _, rv, ha⟩
      · have z1 := (if_neg hb).symm.trans z
        by_cases hb2 : b ∈ cs.map (·.2)
        · have z' := (if_pos hb2).symm.trans z1
          cases z'
          exact isT b hb2
        · have z' := (if_neg hb2).symm.trans z1
          cases z'
    · by_cases hb : b = a
      · exact .inl hb
      · by_cases hb2 : b ∈ cs.map (·.2)
        · exact .inr hb2
        · exact absurd ((if_neg hb).trans (if_neg hb2)) z

theorem walk_ofTG {l : PySem.W.OpenLaw} {n k : Nat} {q : Program} {loose : List Str} {XP : (Str → Option Value) → Heap → Prop} {YP : World → Heap → Prop} {d : PySem.DefRec} {K : PySem.Params → PySem.W.Frag} {sp : World → Sp} {x : Str} {cs : World → List (Addr × Addr)}
    (hn : l.most = some n) (hn2 : n ≤ sizeLine) (hdf : d.params.defaults = []) (room : Room k callerA) (him : importsNone q = true)
    (hY : ∀ (w : World) (h : Heap), YP w h → (K w.params).In h)
    (hT : ∀ (w : World) (p : Program) (loose : List Str) (mean : ExcName → Option Value) (mg mb : Str → Option Value) (h : Heap), Top p loose mean mg mb h → recsOf p = recsOf q → (K w.params).In h → ∀ c ∈ cs w, PySem.W.CodeHd h c.1 c.2 ∧ h.get? c.2 = some { cls := .none, data := .fields #[] })
    (nT : ∀ (w : World) c, c ∈ cs w → (K w.params).lookup c.2 = none)
    (F : ∀ (w : World) (mg : Str → Option Value) (fa : Addr) (h : Heap), (K w.params).In h → h.Ns mainGlobals mg → mg d.name = some (.ref fa) →
      ∃ fd : FuncData, (∀ (s : Shared) (u : Value), BindsTo s fd ⟨[u], []⟩ [(x, u)]) ∧ ∀ base : Heap, (K w.params).In base → base.Ns mainGlobals mg → (∀ p ∈ cs w, TabB base mg p.1 p.2) → (∃ o, base.get? sysModules = some o) → FnG l.prog w (K w.params) mg base k fa fd [x] (sp w))
    (hsp : ∀ (w : World) (H : Hp) (a : Addr) (ns : List Int), ns.length ≤ n → (∀ p ∈ cs w, H p.2 = some (.tbl #[])) → SqL (K w.params) H a (ns.map V.int) → sp w [.ref a] H (fun v _ => v = .bl true) fun _ _ _ => False) :
    PySem.W.WalkO q loose XP YP l.row.toRowW d [] (fun f vs => PySem.call f vs) :=
  Att.attach_call hn hdf fun w s0 s1 mg mb fa o pm cd doc a vs ns G Y ho hd hcd hmg hobj hints hlen hg => by
    obtain ⟨fd, bind, FF⟩ := F w mg fa _ (hY w _ Y) G.T.g hmg
    have tt := hT w _ _ _ _ _ _ G.T rfl (hY w _ Y)
    exact law_callTG (hY w _ Y) G.T.g G.T.b G.T.builtins G.T.nolimit (let ⟨mm, h1, _⟩ := (G.T.seer him).mods; ⟨mm, h1⟩) hg (fun p hp => (tt p hp).2) (nT w) (fun p hp => (tt p hp).1) G.T.bmain hobj hints (Nat.le_trans hlen hn2) room FF bind fun H hO hS => hsp w H a ns hlen hO hS
end MR

/-! defs whose code object is known: those that make lambdas -/
namespace MR
open PySem L2
variable [Tb]
structure FunC (K : PySem.W.Frag) (x qual : Str) (st : Stmt) (f : Addr) (fd : FuncData) (cdv : Value) : Prop where
  ex : ∃ (oc : Value) (od : Option Addr) (kV doc pm : Value) (an : Option Addr) (ct : Value) (osl : Array (Option Value)),
    fd = PySem.W.fnOf x qual (defArgs st) (defBody st) (defScope st) .none kV doc pm an cdv ct ∧ K.lookup f = some ⟨oc, od, .func fd, osl⟩ ∧ PySem.W.codeIn K cdv qual = true
  kp : PySem.W.keepIn K (.ref f) = true
theorem funC_mk {K : PySem.W.Frag} {x qual : Str} {st : Stmt} {f : Addr} {oc kV doc pm cdv ct : Value} {an od : Option Addr} {osl : Array (Option Value)} (lk : K.lookup f = some ⟨oc, od, .func (PySem.W.fnOf x qual (defArgs st) (defBody st) (defScope st) .none kV doc pm an cdv ct), osl⟩) (hcd : PySem.W.codeIn K cdv qual = true) (kp : PySem.W.keepIn K (.ref f) = true) :
    FunC K x qual st f (PySem.W.fnOf x qual (defArgs st) (defBody st) (defScope st) .none kV doc pm an cdv ct) cdv := ⟨⟨oc, od, kV, doc, pm, an, ct, osl, rfl, lk, hcd⟩, kp⟩
section
variable {P : Program} {w : World} {K : PySem.W.Frag} {mg : Str → Option Value} {base : Heap}
theorem fn_mirrorCG (nc : Tb.cs = none) {x qual : Str} {st : Stmt} {f : Addr} {fd : FuncData} {cdv : Value} {N ps : List Str} {k : Nat} {body : MS} (F : FunC K x qual st f fd cdv) (S : FnScope N ps (defScope st))
    (h : ∀ (A : Around) (outer : List Env) (s : Shared) (H : Hp) (E : XK), NoG A → Room k (A.deeper (PyProof.Rows.envOfC qual (defScope st) s.heap.objs.size f cdv)) →
      Takes (cxOf (L2.CX P w) P w K mg base N qual (defScope st) f cdv A outer s H E) (fun c d _ H => E c d H) → PMSs (cxOf (L2.CX P w) P w K mg base N qual (defScope st) f cdv A outer s H E) (fun c d _ H => E c d H) (defBody st) body) :
    FnG P w K mg base (k + 1) f fd ps (spM ⟨K, mg, P, w, Tb.T, Tb.j, Tb.cs⟩ ps.length (defM N.length body)) := by
  obtain ⟨oc, od, kV, doc, pm, an, ct, osl, rfl, look, code⟩ := F.ex
  refine { len := fun vs H Q E ⟨A, s, ms, sr, r, hl, _⟩ => r.length.trans hl, run := fun A outer s H args us vs Q E room gd e0 binds rv hsp => ?_ }
  obtain ⟨A1, st1, ms, sr, r, hl, hp⟩ := hsp
  refine LamX.run_ofS look code S room e0 binds rv (r.length.trans hl) fun hr' => ?_
  have tk : Takes (cxOf (L2.CX P w) P w K mg base N qual (defScope st) f cdv A outer s H E) (fun c d _ H => E c d H) := takes_of rfl rfl rfl rfl
  exact ⟨_, h A outer s H E gd hr' tk, tS_of_def hp sr r nc⟩
theorem fn_mirrorC (nc : Tb.cs = none) {x qual : Str} {st : Stmt} {f : Addr} {fd : FuncData} {cdv : Value} {N ps : List Str} {k : Nat} {body : MS} (F : FunC K x qual st f fd cdv) (S : FnScope N ps (defScope st)) (hx : mg x = some (.ref f)) (hb : Binds K fd ps [])
    (h : ∀ (A : Around) (outer : List Env) (s : Shared) (H : Hp) (E : XK), NoG A → Room k (A.deeper (PyProof.Rows.envOfC qual (defScope st) s.heap.objs.size f cdv)) →
      Takes (cxOf (L2.CX P w) P w K mg base N qual (defScope st) f cdv A outer s H E) (fun c d _ H => E c d H) → PMSs (cxOf (L2.CX P w) P w K mg base N qual (defScope st) f cdv A outer s H E) (fun c d _ H => E c d H) (defBody st) body) :
    FnM P w K mg base (k + 1) x ps.length (defM N.length body) := ⟨f, fd, ps, hx, F.kp, hb, fn_mirrorCG nc F S h⟩
end
/-! ### what is never reached -/
def mBad : ME := fun _ _ => .bad
def sBad : MS := fun _ _ => .bad
theorem pm_bad {X : Cx} {W : WX} {e : Expr} : PM X W e mBad := ⟨fun pins s σ H Q I ⟨A, env, st, _, _, h⟩ => h.elim⟩
theorem pms_bad {X : Cx} {W : WX} {s : Stmt} : PMS X W s sBad := ⟨fun pins s σ H D I ⟨A, env, st, _, _, h⟩ => h.elim⟩
theorem pmss_bad {X : Cx} {W : WX} {s : List Stmt} : PMSs X W s sBad := ⟨fun pins s σ H D I ⟨A, env, st, _, _, h⟩ => h.elim⟩
/-! ### a dict of the module's, whose values are tuples that the text writes: KINDS[k], k in KINDS -/
end MR

/-! a dict that the module's text writes, text keys -/
namespace MR
open PySem L2
variable [Tb]
structure KDc (P : Program) (w : World) (K : PySem.W.Frag) (mg : Str → Option Value) (x : Str) (kvs : List (Str × MV)) : Prop where
  ex : ∃ a es n, mg x = some (.ref a) ∧ K.lookup a = some ⟨.type "dict", none, .dict es n, #[]⟩ ∧ PySem.W.KeysLit w.params es.toList ∧ (a == sysModules) = false ∧
    ∀ k, (kvs.lookup k = none → PySem.W.nsIn K a k = some none) ∧ ∀ m, kvs.lookup k = some m → ∃ u v, PySem.W.nsIn K a k = some (some u) ∧ RelV v u ∧ ∀ A H, Rep ⟨K, mg, P, w, Tb.T, Tb.j, Tb.cs⟩ A H v m
/-- the entries of such a dict, told one by one -/
inductive EntR (G : Gm) : List DictEntry → List (Str × MV) → Prop
  | nil : EntR G [] []
  | cons {h : Int} {k : Str} {t : Tok} {u : Value} {v : V} {m : MV} {es : List DictEntry} {kvs : List (Str × MV)} : RelV v u → (∀ A H, Rep G A H v m) → EntR G es kvs → EntR G (⟨h, .str k t, u⟩ :: es) ((k, m) :: kvs)
theorem EntR.find {G : Gm} {k : Str} : ∀ {es : List DictEntry} {kvs : List (Str × MV)}, EntR G es kvs →
    (kvs.lookup k = none → es.find? (·.key.isStr k) = none) ∧ ∀ m, kvs.lookup k = some m → ∃ e v, es.find? (·.key.isStr k) = some e ∧ RelV v e.val ∧ ∀ A H, Rep G A H v m
  | _, _, .nil => ⟨fun _ => rfl, fun m h => by cases h⟩
  | _, _, .cons (h := hh) (k := k0) (t := t) (u := u) (v := v) (m := m0) (es := es) (kvs := kvs) r q rest => by
    have ih := EntR.find (k := k) rest
    have hk : (Value.str k0 t).isStr k = (k == k0) := by
      show (k0 == k) = (k == k0)
      rw [Bool.eq_iff_iff, beq_iff_eq, beq_iff_eq]; exact eq_comm
    rw [List.find?_cons, List.lookup]
    show (_ → (match (Value.str k0 t).isStr k with | true => _ | false => _) = none) ∧ _
    rw [hk]
    cases e : (k == k0) with
    | true => exact ⟨fun z => (by cases z), fun m z => (by cases z; exact ⟨_, v, rfl, r, q⟩)⟩
    | false => exact ih
theorem EntR.noref {G : Gm} : ∀ {es : List DictEntry} {kvs : List (Str × MV)}, EntR G es kvs → es.any (·.refKey) = false
  | _, _, .nil => rfl
  | _, _, .cons r q rest => by
    rw [List.any_cons, EntR.noref rest]
    rfl
theorem KDc.of {P : Program} {w : World} {K : PySem.W.Frag} {mg : Str → Option Value} {x : Str} {kvs : List (Str × MV)} {a : Addr} {es : List DictEntry} {n : Nat} (hm : mg x = some (.ref a)) (hl : K.lookup a = some ⟨.type "dict", none, .dict es.toArray n, #[]⟩) (hk : PySem.W.KeysLit w.params es) (lo : (a == sysModules) = false)
    (he : EntR ⟨K, mg, P, w, Tb.T, Tb.j, Tb.cs⟩ es kvs) : KDc P w K mg x kvs := by
  refine ⟨a, es.toArray, n, hm, hl, by simpa using hk, lo, fun k => ?_⟩
  have f := he.find (k := k)
  have hn : PySem.W.nsIn K a k = match es.find? (·.key.isStr k) with
      | some e => some (some e.val)
      | none => if es.any (·.refKey) then none else some none := by
    unfold PySem.W.nsIn
    rw [hl]
    simp only [List.toList_toArray]
    rfl
  rw [hn]
  refine ⟨fun z => ?_, fun m z => ?_⟩
  · rw [f.1 z]
    show (if es.any (·.refKey) then none else some none) = some none
    rw [he.noref]; rfl
  · obtain ⟨e, v, e1, e2, e3⟩ := f.2 m z
    rw [e1]
    exact ⟨e.val, v, rfl, e2, e3⟩
def mInK (neg : Bool) (kvs : List (Str × MV)) (a : ME) : ME := fun env st => (a env st).bind fun x st1 => match x with
  | .str k => .ok (.bl (neg != (kvs.lookup k).isSome)) st1
  | _ => .bad
def mIxK (kvs : List (Str × MV)) (a : ME) : ME := fun env st => (a env st).bind fun x st1 => match x with
  | .str k => (match kvs.lookup k with
    | some m => .ok m st1
    | none => .bad)
  | _ => .bad
section
variable {X : Cx} {W : WX} {e : Expr} {me : ME} {x : Str} {kvs : List (Str × MV)} {pos p : Pos}
def rInK (p : Addr) (neg : Bool) (kvs : List (Str × MV)) : R2 := fun x y H Q => ∃ k, x = .str k ∧ y = .ref p ∧ Q (.bl (neg != (kvs.lookup k).isSome)) H
theorem pm_ixK (T : KDc X.prog X.w X.K X.mg x kvs) (he : PM X W e me) (hg : Gl X x := by rfl) (hdb : (x == ("__debug__" : Str)) = false := by decide) (hs : PlainIx e := by exact fun _ _ => rfl) : PM X W (.Subscript (.Name x p) e pos) (mIxK kvs me) := by
  obtain ⟨a, es, n, hm, hl, hk, lo, f⟩ := T.ex
  refine PE_imp (pe_ix (ix_kdict (X := X)) (pe_glob (v := .ref a) hg hm rfl hdb) he hs) fun σ H Q ⟨A, env, st, s, q, h⟩ => ?_
  unfold mIxK at h
  rw [Res.post_bind] at h
  refine inE s q (Ext.refl A H) (h.mono (fun mx st1 h1 A1 H1 v e1 s1 r1 => ?_) fun _ _ z => z)
  split at h1
  · rename_i k
    split at h1
    · rename_i m em
      cases r1
      obtain ⟨u, v, n1, n2, n3⟩ := (f k).2 m em
      exact ⟨a, k, v, rfl, rfl, ⟨es, n, u, hl, hk, n1, n2⟩, h1 A1 H1 v e1 s1 (n3 A1 H1)⟩
    · exact h1.elim
  · exact h1.elim
end
end MR

/-! l.index(b), l.count(b) of truth values (fit in an except suite); tuple * int -/
namespace MR
open PySem L2
variable [Tb]
def rIndexB (K : PySem.W.Frag) : V → List V → Hp → VK → Prop := fun x xs H Q => ∃ (a : Addr) (b : Bool) (bs : List Bool) (j : Nat), x = .ref a ∧ xs = [.bl b] ∧ SqL K H a (bs.map .bl) ∧ bs.findIdx? (· == b) = some j ∧ Q (.int (j : Nat)) H
theorem mt_indexB {X : Cx} : MtR X "list.index" (rIndexB X.K) := by
  intro pins s σ H x xs v us Q I rx rxs h
  obtain ⟨a, b, bs, j, e1, e2, hs, hj, q⟩ := h
  obtain ⟨h1, h2, h3⟩ := List.findIdx?_eq_some_iff_getElem.mp hj
  refine mt_index (X := X) _ _ _ _ _ _ _ _ _ I rx rxs ⟨a, bs.map .bl, .bl b, j, .bl bs[j], e1, e2, hs, rfl, ?_, ?_, h2, ?_, q⟩
  · rw [List.all_map]; exact List.all_eq_true.mpr fun _ _ => rfl
  · rw [List.getElem?_map, List.getElem?_eq_getElem h1]; rfl
  · intro m z' hm hz
    rw [List.getElem?_map, List.getElem?_eq_getElem (by omega)] at hz
    cases hz
    have := h3 m hm
    show (bs[m] == b) = false
    simpa using this
def gIndexB : MV → List MV → Sto → Res MV := fun x ms st => match ms with
  | [.bl b] => match (listOf x st).bind boolsOf with
    | some bs => match bs.findIdx? (· == b) with
      | some j => .ok (.int (j : Nat)) st
      | none => .bad
    | none => .bad
  | _ => .bad
theorem oIndexB {G : Gm} : OpMt G (rIndexB G.K) gIndexB := by
  intro A H st x mx xs ms Q m st' s rx r h k
  unfold gIndexB at h
  split at h
  · split at h
    · rename_i _ b _ bs e
      split at h
      · rename_i j ej
        cases h
        obtain ⟨ys, e1, e2⟩ := Option.bind_eq_some_iff.mp e
        obtain ⟨a, vs, rfl, h1, r1⟩ := listOf_rep s rx e1
        cases r with
        | cons r rs =>
          cases rs
          cases r
          exact ⟨a, b, bs, j, rfl, rfl, by rw [← boolsOf_rep r1 e2]; exact SqL.of h1, ej, fin0 s (.int _) k⟩
      · cases h
    · cases h
  · cases h
theorem dpBools {K : PySem.W.Frag} {H : Hp} : ∀ bs : List Bool, DpAll K H (bs.map .bl) (bs.map .bool)
  | [] => .nil
  | b :: bs => .cons (.bl b) (dpBools bs)
theorem plBools : ∀ bs : List Bool, PyData.plainAll (bs.map .bool) = true
  | [] => by simp [PyData.plainAll]
  | b :: bs => by simp [PyData.plainAll, PyData.plain, plBools bs]
theorem dpthBools : ∀ bs : List Bool, PyData.depthAll (bs.map .bool) = 0
  | [] => by simp [PyData.depthAll]
  | b :: bs => by simp [PyData.depthAll, PyData.depth, dpthBools bs]
def rCountB (K : PySem.W.Frag) : V → List V → Hp → VK → Prop := fun x xs H Q => ∃ (a : Addr) (b : Bool) (bs : List Bool), x = .ref a ∧ xs = [.bl b] ∧ SqL K H a (bs.map .bl) ∧ Q (.int ((bs.countP (· == b) : Nat) : Int)) H
theorem mt_countB {X : Cx} (hu : X.A.units + 64 < cLine) : MtR X "list.count" (rCountB X.K) := by
  intro pins s σ H x xs v us Q I rx rxs h
  obtain ⟨a, b, bs, rfl, rfl, hs, q⟩ := h
  cases rx
  cases rxs with
  | cons ry rt =>
    cases rt
    cases ry
    obtain ⟨its, rv, hl, _⟩ := I.list hs
    obtain ⟨as, h4⟩ := Dp.readsAll I _ _ its (dpBools bs) rv
    refine SeqAt.count_list_data (vs := its.toArray) (xs := bs.map .bool) (d := .bool b) hl.isList (by simpa using h4) (Reads.bool b) (plBools bs) (by simp [PyData.plain]) (by rw [dpthBools]; omega) ?_
    have e : (bs.map PyData.bool).countP (fun y => PyData.eqv y (.bool b)) = bs.countP (· == b) := by
      rw [List.countP_map]; refine List.countP_congr fun y _ => ?_
      show PyData.eqv (.bool y) (.bool b) = true ↔ _
      cases y <;> cases b <;> decide
    rw [e]
    exact ⟨.int _, H, I.tok _, ⟨_, rfl⟩, q⟩
def gCountB : MV → List MV → Sto → Res MV := fun x ms st => match ms with
  | [.bl b] => match (listOf x st).bind boolsOf with
    | some bs => .ok (.int ((bs.countP (· == b) : Nat) : Int)) st
    | none => .bad
  | _ => .bad
theorem oCountB {G : Gm} : OpMt G (rCountB G.K) gCountB := by
  intro A H st x mx xs ms Q m st' s rx r h k
  unfold gCountB at h
  split at h
  · split at h
    · rename_i _ b _ bs e
      cases h
      obtain ⟨ys, e1, e2⟩ := Option.bind_eq_some_iff.mp e
      obtain ⟨a, vs, rfl, h1, r1⟩ := listOf_rep s rx e1
      cases r with
      | cons r rs =>
        cases rs
        cases r
        exact ⟨a, b, bs, rfl, rfl, by rw [← boolsOf_rep r1 e2]; exact SqL.of h1, fin0 s (.int _) k⟩
    · cases h
  · cases h

/-! ### tuple * int -/
theorem opMulT {X : Cx} : OpR X (binaryOp .Mult) (fun x y H Q => rMulA x y H Q ∨ rRepT X.K x y H Q) := opMulA.or op_repT
def gMulT : G2 := fun a b st => match a, b with
  | .tup xs, .int k => if (xs ≠ [] ∧ xs.length ≤ 1000) ∧ 2 ≤ k ∧ k ≤ 1000 then .ok (.tup (List.replicate k.toNat xs).flatten) st else .bad
  | a, b => gMulS a b st
theorem RepAll.rep {G : Gm} {A : Ad} {H : Hp} {a : List V} {c : List MV} (h : RepAll G A H a c) : ∀ k : Nat, RepAll G A H (List.replicate k a).flatten (List.replicate k c).flatten
  | 0 => .nil
  | k + 1 => by
    rw [List.replicate_succ, List.replicate_succ, List.flatten_cons, List.flatten_cons]
    exact h.append (h.rep k)
theorem o2MulT {G : Gm} : Op2 G (fun x y H Q => rMulA x y H Q ∨ rRepT G.K x y H Q) gMulT := by
  intro A H st x y mx my Q m st' s rx ry h k
  unfold gMulT at h
  split at h
  · obtain ⟨hl, h⟩ := ite_ok h
    cases h
    cases rx with
    | @tup a vs ms f r =>
      refine .inr ⟨a, _, vs, rfl, ry.int_inv, f.sq, fun z => ?_, hl.2.1, hl.2.2, by rw [r.length]; exact hl.1.2, fin_tup s (r.rep _) k⟩
      have := r.length
      rw [z] at this
      exact hl.1.1 (List.eq_nil_of_length_eq_zero this.symm)
  · exact .inl (o2MulA s rx ry h k)
end MR

set_option maxHeartbeats 4000000
/-! repr of data with dicts (keys: ints, texts) -/
namespace MR
open PySem L2
variable [Tb]
def toKs : List MV → Option (List PyData)
  | [] => some []
  | .int i :: r => (toKs r).map (.int i :: ·)
  | .str x :: r => (toKs r).map (.str x :: ·)
  | _ :: _ => none
mutual
def toE : MV → Option PyData
  | .non => some .none
  | .bl b => some (.bool b)
  | .int i => some (.int i)
  | .str x => some (.str x)
  | .tup xs => (toEs xs).map .tuple
  | .lst xs => (toEs xs).map .list
  | .ty _ => none
  | .gl _ => none
  | .obj _ => none
  | .scr _ => none
  | .ins _ _ _ => none
  | .dct ks xs => (toKs ks).bind fun a => (toEs xs).map fun b => .dict (a.zip b)
def toEs : List MV → Option (List PyData)
  | [] => some []
  | x :: xs => (toE x).bind fun d => (toEs xs).map (d :: ·)
end
theorem rd_some {H : Hp} {a : Addr} {o : HO} (h : Rd H a o) : H a ≠ none := by
  rcases h with h | ⟨_, h⟩ <;> (rw [h]; nofun)
theorem toKs_len : ∀ {ks : List MV} {ds : List PyData}, toKs ks = some ds → ds.length = ks.length
  | [], _, e => by cases e; rfl
  | .int i :: r, ds, e => by
    obtain ⟨d', e1, rfl⟩ := Option.map_eq_some_iff.mp e
    exact congrArg (· + 1) (toKs_len e1)
  | .str i :: r, ds, e => by
    obtain ⟨d', e1, rfl⟩ := Option.map_eq_some_iff.mp e
    exact congrArg (· + 1) (toKs_len e1)
theorem toEs_len : ∀ {ks : List MV} {ds : List PyData}, toEs ks = some ds → ds.length = ks.length
  | [], _, e => by simp only [toEs] at e; cases e; rfl
  | m :: r, ds, e => by
    simp only [toEs] at e
    obtain ⟨d, e0, e⟩ := Option.bind_eq_some_iff.mp e
    obtain ⟨d', e1, rfl⟩ := Option.map_eq_some_iff.mp e
    exact congrArg (· + 1) (toEs_len e1)
/-- keys read -/
theorem keys_read {P : Program} {w : World} {h : Heap} : ∀ {es : List DictEntry} {kvs : List (Key × V)} {vs : List (Key × Value)} {ds : List PyData}, KV kvs vs → Pairs (mixKind P w) es vs → toKs (kvs.map fun p => keyM p.1) = some ds →
    ReadsAll h (es.map (·.key)) ds [] ∧ Vals (kvs.map (·.2)) (es.map (·.val))
  | _, [], _, _, r, p, e => by cases r; cases p; cases e; exact ⟨.nil, .nil⟩
  | _, (k, v) :: kvs, _, ds, r, p, e => by
    cases r with
    | cons r1 rs =>
      rename_i q vs
      obtain ⟨k', u⟩ := q
      obtain ⟨rfl, rv⟩ := r1
      cases p with
      | @cons en _ es _ h1 h2 h3 =>
        have rv' : RelV v en.val := by rw [h2]; exact rv
        rcases keyIs_shape h1 with ⟨i, t, e1, e2⟩ | ⟨x, t, e1, e2⟩
        · dsimp only at e1
          subst e1
          obtain ⟨d', e3, rfl⟩ := Option.map_eq_some_iff.mp (show (toKs (kvs.map fun p => keyM p.1)).map (.int i :: ·) = some ds from e)
          obtain ⟨q1, q2⟩ := keys_read (h := h) rs h3 e3
          refine ⟨?_, .cons rv' q2⟩
          show ReadsAll h (en.key :: es.map (·.key)) _ ([] ++ [])
          rw [e2]
          exact .cons (.int i t) q1
        · dsimp only at e1
          subst e1
          obtain ⟨d', e3, rfl⟩ := Option.map_eq_some_iff.mp (show (toKs (kvs.map fun p => keyM p.1)).map (.str x :: ·) = some ds from e)
          obtain ⟨q1, q2⟩ := keys_read (h := h) rs h3 e3
          refine ⟨?_, .cons rv' q2⟩
          show ReadsAll h (en.key :: es.map (·.key)) _ ([] ++ [])
          rw [e2]
          exact .cons (.str x t) q1
theorem noN {G : Gm} {A : Ad} {H : Hp} : ∀ {es : List (NestedKey × Addr × V)} {ks : List MV} {a : List PyData}, es ≠ [] → RepAll G A H (es.map fun e => V.ref e.2.1) ks → toKs ks = some a → False
  | [], _, _, h, _, _ => h rfl
  | p :: es, [], _, _, r, _ => by cases r
  | p :: es, .int i :: ks, _, _, r, _ => by cases r with | cons r1 _ => cases r1
  | p :: es, .str i :: ks, _, _, r, _ => by cases r with | cons r1 _ => cases r1
section
variable {X : Cx} {pins : List (Addr × Obj)} {σ : St} {A : Ad} {H : Hp} {s : Shared}
mutual
theorem Rep.rd (I : Inv X pins σ H s) : ∀ (m : MV) {v : V} {u : Value} {d : PyData}, Rep (gmOf X) A H v m → toE m = some d → RelV v u → ∃ as, Reads s.heap u d as ∧ ∀ b ∈ as, H b ≠ none
  | .non, _, _, _, h, e, r => by simp only [toE] at e; cases h; cases e; cases r; exact ⟨_, .none, nofun⟩
  | .bl b, _, _, _, h, e, r => by simp only [toE] at e; cases h; cases e; cases r; exact ⟨_, .bool b, nofun⟩
  | .int i, _, _, _, h, e, r => by simp only [toE] at e; cases h; cases e; obtain ⟨t, rfl⟩ := r; exact ⟨_, .int i t, nofun⟩
  | .str i, _, _, _, h, e, r => by simp only [toE] at e; cases h; cases e; obtain ⟨t, rfl⟩ := r; exact ⟨_, .str i t, nofun⟩
  | .tup xs, _, _, _, h, e, r => by
    simp only [toE] at e
    obtain ⟨ds, e1, rfl⟩ := Option.map_eq_some_iff.mp e
    cases h with
    | tup f ra =>
      cases r
      obtain ⟨its, rv, ⟨o, ho, hc, n, hd⟩, _⟩ := I.tuple f.sq
      obtain ⟨as, hr, hn⟩ := RepAll.rds I xs ra e1 rv
      exact ⟨_, Reads.tuple ho hc hd hr, hn⟩
  | .lst xs, _, _, _, h, e, r => by
    simp only [toE] at e
    obtain ⟨ds, e1, rfl⟩ := Option.map_eq_some_iff.mp e
    cases h with
    | lst f _ ra =>
      cases r
      obtain ⟨its, rv, ⟨o, n, ho, hc, _, hd⟩, _⟩ := I.list (SqL.of f)
      obtain ⟨as, hr, hn⟩ := RepAll.rds I xs ra e1 rv
      refine ⟨_, Reads.list ho hc hd hr, fun b hb => ?_⟩
      rcases List.mem_cons.mp hb with rfl | hb
      · rw [f]; nofun
      · exact hn b hb
  | .dct ks xs, _, _, _, h, e, r => by
    simp only [toE] at e
    obtain ⟨a, e0, e⟩ := Option.bind_eq_some_iff.mp e
    obtain ⟨ds, e1, rfl⟩ := Option.map_eq_some_iff.mp e
    cases h with
    | dctL f hk ra =>
      cases r
      obtain ⟨_, _, vs, rel, o, es, ep, ho, hx, hd, _, hp, _⟩ := dk_rd I.hok f.1
      subst hk
      obtain ⟨q1, q2⟩ := keys_read (h := s.heap) rel hp e0
      obtain ⟨as, hr, hn⟩ := RepAll.rds I xs ra e1 q2
      have hl : a.length = ds.length := by
        rw [toKs_len e0, toEs_len e1, ← ra.length, List.length_map, List.length_map]
      refine ⟨_, Reads.dict (kvs := a.zip ds) ho hx.1 hd (by rw [List.map_fst_zip (by omega)]; exact q1) (by rw [List.map_snd_zip (by omega)]; exact hr), fun b hb => ?_⟩
      rcases List.mem_cons.mp hb with rfl | hb
      · exact rd_some f.1
      · exact hn b hb
    | @dctN _ es _ _ f hne _ rk _ => exact (noN hne rk e0).elim
theorem RepAll.rds (I : Inv X pins σ H s) : ∀ (ms : List MV) {vs : List V} {us : List Value} {ds : List PyData}, RepAll (gmOf X) A H vs ms → toEs ms = some ds → Vals vs us → ∃ as, ReadsAll s.heap us ds as ∧ ∀ b ∈ as, H b ≠ none
  | [], _, _, _, h, e, r => by simp only [toEs] at e; cases h; cases e; cases r; exact ⟨_, .nil, nofun⟩
  | m :: ms, _, _, _, h, e, r => by
    simp only [toEs] at e
    obtain ⟨d, e0, e⟩ := Option.bind_eq_some_iff.mp e
    obtain ⟨ds, e1, rfl⟩ := Option.map_eq_some_iff.mp e
    cases h with
    | cons h1 h2 =>
      cases r with
      | cons r1 r2 =>
        obtain ⟨as, q1, n1⟩ := Rep.rd I m h1 e0 r1
        obtain ⟨bs, q2, n2⟩ := RepAll.rds I ms h2 e1 r2
        refine ⟨_, .cons q1 q2, fun b hb => ?_⟩
        rcases List.mem_append.mp hb with hb | hb
        · exact n1 b hb
        · exact n2 b hb
end
end
end MR

namespace MR
open PySem L2
variable [Tb]
def topE (m : MV) (st : Sto) : Option PyData := match m with
  | .obj k => match st[k]? with
    | some (.lst xs) => (toEs xs).map .list
    | _ => none
  | m => toE m
/-- x reads as d, whatever state bears the store; mutable parts are tracked -/
def rReprE (X : Cx) : List V → Hp → VK → Prop := fun xs H Q => ∃ v d, xs = [v] ∧ (∀ (pins : List (Addr × Obj)) (σ : St) (s : Shared) (u : Value), Inv X pins σ H s → RelV v u → ∃ as, Reads s.heap u d as ∧ ∀ b ∈ as, H b ≠ none) ∧
  d.showable = true ∧ d.depth ≤ 60 ∧ d.shown.length ≤ sizeLine ∧ Q (.str d.shown) H
theorem call_reprE {X : Cx} (hg : NoG X.A) (hu : X.A.units + 64 < cLine) (hsm : ∃ o, X.base.get? sysModules = some o) : CallR X (.builtin "repr") (rReprE X) := by
  intro pins s σ H xs us Q I r h
  obtain ⟨x, d, rfl, hd, hs, hdep, hsz, q⟩ := h
  obtain ⟨u, rfl, rx⟩ : ∃ u, us = [u] ∧ RelV x u := by
    cases r with
    | cons r rr => cases rr; exact ⟨_, rfl, r⟩
  obtain ⟨as, hr, hn⟩ := hd pins σ s u I rx
  have hno : sysModules ∉ as := fun z => by
    obtain ⟨o, ho⟩ := hsm
    exact hn _ z (I.bs _ o ho).2
  have fin : ∀ tk, EP X pins σ Q (.str d.shown s.toks) { s with toks := tk } := fun tk => ⟨.str _, H, I.tok _, ⟨_, rfl⟩, q⟩
  have go : ∀ a, u = .ref a → wpAny (model X.prog X.w) X.A (call (.builtin "repr") [u]) (EP X pins σ Q) X.xe s := by
    intro a e
    subst e
    exact repr_of_reads' hr hs (fun _ => hno) hg (by omega) (fun _ _ e => e) (fun h' u tk hk => ⟨.str _, H, I.kept hk, ⟨_, rfl⟩, q⟩) hsz
  cases hr with
  | none => exact PySem.P.repr_of_none (fin _)
  | bool b => exact PySem.P.repr_of_bool (by cases b <;> exact fin _)
  | int i t => exact PySem.P.repr_of_int (of_decide_eq_true hs) (fin _)
  | str y t => exact PySem.P.repr_of_str (fin _) hsz
  | list => exact go _ rfl
  | tuple => exact go _ rfl
  | dict => exact go _ rfl
def gReprE : List MV → Sto → Res MV := fun ms st => match ms with
  | [m] => match topE m st with
    | some d => if (d.showable = true ∧ d.depth ≤ 60) ∧ d.shown.length ≤ 16777216 then .ok (.str d.shown) st else .bad
    | none => .bad
  | _ => .bad
theorem Rep.topE {X : Cx} {A : Ad} {H : Hp} {st : Sto} {m : MV} {v : V} {d : PyData} (s0 : SR (gmOf X) A H st) (r : Rep (gmOf X) A H v m) (h : topE m st = some d) (pins : List (Addr × Obj)) (σ : St) (s : Shared) (u : Value) (I : Inv X pins σ H s) (ru : RelV v u) :
    ∃ as, Reads s.heap u d as ∧ ∀ b ∈ as, H b ≠ none := by
  cases m with
  | obj k =>
    cases r with
    | @obj a k h1 =>
      simp only [MR.topE] at h
      split at h
      · rename_i ys e
        obtain ⟨ds, e1, rfl⟩ := Option.map_eq_some_iff.mp h
        cases s0.ob k a _ h1 e with
        | lst h2 h3 =>
          cases ru
          obtain ⟨its, rv, ⟨o, n, ho, hc, _, hd⟩, _⟩ := I.list (SqL.of h2)
          obtain ⟨as, hr, hn⟩ := RepAll.rds I ys h3 e1 rv
          refine ⟨_, Reads.list ho hc hd hr, fun b hb => ?_⟩
          rcases List.mem_cons.mp hb with rfl | hb
          · rw [h2]; nofun
          · exact hn b hb
      · cases h
  | _ => exact Rep.rd I _ r h ru
theorem oReprE {X : Cx} : OpN (gmOf X) (rReprE X) gReprE := by
  intro A H st xs ms Q m st' s r h k
  unfold gReprE at h
  split at h
  · split at h
    · rename_i d e
      obtain ⟨hl, h⟩ := ite_ok h
      cases h
      cases r with
      | cons r rs =>
        cases rs
        exact ⟨_, d, rfl, Rep.topE s r e, hl.1.1, hl.1.2, line_of hl.2, fin0 s (.str _) k⟩
    · cases h
  · cases h
end MR

/-! k in KINDS, k not in KINDS; f(e, ..) where the local f holds a def of the module -/
namespace MR
open PySem L2
variable [Tb]
def rInKd (p : Addr) (neg : Bool) (kvs : List (Str × MV)) : R2 := fun x y H Q => ∃ k, x = .str k ∧ y = .ref p ∧ Q (.bl (neg != (kvs.lookup k).isSome)) H
section
variable {X : Cx} {W : WX} {e : Expr} {me : ME} {x : Str} {kvs : List (Str × MV)} {pos p : Pos}
theorem kd_some {k : Str} {a : Addr} (f : (kvs.lookup k = none → PySem.W.nsIn X.K a k = some none) ∧ ∀ m, kvs.lookup k = some m → ∃ u v, PySem.W.nsIn X.K a k = some (some u) ∧ RelV v u ∧ ∀ A H, Rep (gmOf X) A H v m) :
    ∃ r, PySem.W.nsIn X.K a k = some r ∧ r.isSome = (kvs.lookup k).isSome := by
  cases h : kvs.lookup k with
  | none => exact ⟨none, f.1 h, rfl⟩
  | some m =>
    obtain ⟨u, v, h1, _⟩ := f.2 m h
    exact ⟨some u, h1, rfl⟩
theorem op_inKd {a : Addr} {es : Array DictEntry} {n : Nat} (hl : X.K.lookup a = some ⟨.type "dict", none, .dict es n, #[]⟩) (hk : PySem.W.KeysLit X.w.params es.toList) (lo : (a == sysModules) = false)
    (f : ∀ k, (kvs.lookup k = none → PySem.W.nsIn X.K a k = some none) ∧ ∀ m, kvs.lookup k = some m → ∃ u v, PySem.W.nsIn X.K a k = some (some u) ∧ RelV v u ∧ ∀ A H, Rep (gmOf X) A H v m) : OpR X (compareOp .In) (rInKd a false kvs) := by
  intro pins s σ H x y v u Q I rx ry h
  obtain ⟨k, rfl, rfl, q⟩ := h
  obtain ⟨t, rfl⟩ := rx
  cases ry
  obtain ⟨r, e, er⟩ := kd_some (f k)
  have e2 : (false != (kvs.lookup k).isSome) = (kvs.lookup k).isSome := by cases (kvs.lookup k).isSome <;> rfl
  rw [e2, ← er] at q
  exact wpAny_in_of (strKind_is X.prog X.w k t) lo (PySem.W.mapOf_K (prog := X.prog) (w := X.w) I.kIn hl hk) (by rw [PySem.W.find_K hl e]; exact ⟨.bl _, H, I.tok _, rfl, q⟩)
theorem op_ninKd {a : Addr} {es : Array DictEntry} {n : Nat} (hl : X.K.lookup a = some ⟨.type "dict", none, .dict es n, #[]⟩) (hk : PySem.W.KeysLit X.w.params es.toList) (lo : (a == sysModules) = false)
    (f : ∀ k, (kvs.lookup k = none → PySem.W.nsIn X.K a k = some none) ∧ ∀ m, kvs.lookup k = some m → ∃ u v, PySem.W.nsIn X.K a k = some (some u) ∧ RelV v u ∧ ∀ A H, Rep (gmOf X) A H v m) : OpR X (compareOp .NotIn) (rInKd a true kvs) := by
  intro pins s σ H x y v u Q I rx ry h
  obtain ⟨k, rfl, rfl, q⟩ := h
  obtain ⟨t, rfl⟩ := rx
  cases ry
  obtain ⟨r, e, er⟩ := kd_some (f k)
  have e2 : (true != (kvs.lookup k).isSome) = !(kvs.lookup k).isSome := by cases (kvs.lookup k).isSome <;> rfl
  rw [e2, ← er] at q
  exact wpAny_notIn_of (strKind_is X.prog X.w k t) lo (PySem.W.mapOf_K (prog := X.prog) (w := X.w) I.kIn hl hk) (by rw [PySem.W.find_K hl e]; exact ⟨.bl _, H, I.tok _, rfl, q⟩)
def gInKd (x : Str) (neg : Bool) (kvs : List (Str × MV)) : G2 := fun a b st => match a, b with
  | .str k, .gl y => if y = x then .ok (.bl (neg != (kvs.lookup k).isSome)) st else .bad
  | _, _ => .bad
theorem o2InKd {G : Gm} {a : Addr} {neg : Bool} (hm : G.mg x = some (.ref a)) : Op2 G (rInKd a neg kvs) (gInKd x neg kvs) := by
  intro A H st vx vy mx my Q m st' s rx ry h k
  unfold gInKd at h
  split at h
  · obtain ⟨hl, h⟩ := ite_ok h
    cases h
    subst hl
    cases ry with
    | gl h1 =>
      cases h1.symm.trans hm
      exact ⟨_, rx.str_inv, rfl, fin0 s (.bl _) k⟩
  · cases h
theorem pm_inK (T : KDc X.prog X.w X.K X.mg x kvs) (he : PM X W e me) (hg : Gl X x := by rfl) (hdb : (x == ("__debug__" : Str)) = false := by decide) (hm : behindInMarks .In (.Name x p) = false := by first | exact nomark _ | rfl) :
    PM X W (.Compare e [.In] [.Name x p] pos) (m2 (gInKd x false kvs) me (mC (.gl x))) := by
  obtain ⟨a, es, n, g, hl, hk, lo, f⟩ := T.ex
  exact pm_cmp (op_inKd hl hk lo f) (o2InKd g) he (pm_fn g hg hdb) hm
theorem pm_ninK (T : KDc X.prog X.w X.K X.mg x kvs) (he : PM X W e me) (hg : Gl X x := by rfl) (hdb : (x == ("__debug__" : Str)) = false := by decide) (hm : behindInMarks .NotIn (.Name x p) = false := by first | exact nomark _ | rfl) :
    PM X W (.Compare e [.NotIn] [.Name x p] pos) (m2 (gInKd x true kvs) me (mC (.gl x))) := by
  obtain ⟨a, es, n, g, hl, hk, lo, f⟩ := T.ex
  exact pm_cmp (op_ninKd hl hk lo f) (o2InKd g) he (pm_fn g hg hdb) hm
theorem pmt_inK (T : KDc X.prog X.w X.K X.mg x kvs) (he : PM X W e me) (hg : Gl X x := by rfl) (hdb : (x == ("__debug__" : Str)) = false := by decide) (hm : behindInMarks .In (.Name x p) = false := by first | exact nomark _ | rfl) :
    PMT X W (.Compare e [.In] [.Name x p] pos) (mB (m2 (gInKd x false kvs) me (mC (.gl x)))) := by
  obtain ⟨a, es, n, g, hl, hk, lo, f⟩ := T.ex
  exact pmt_cmp (op_inKd hl hk lo f) (o2InKd g) he (pm_fn g hg hdb) hm
theorem pmt_ninK (T : KDc X.prog X.w X.K X.mg x kvs) (he : PM X W e me) (hg : Gl X x := by rfl) (hdb : (x == ("__debug__" : Str)) = false := by decide) (hm : behindInMarks .NotIn (.Name x p) = false := by first | exact nomark _ | rfl) :
    PMT X W (.Compare e [.NotIn] [.Name x p] pos) (mB (m2 (gInKd x true kvs) me (mC (.gl x)))) := by
  obtain ⟨a, es, n, g, hl, hk, lo, f⟩ := T.ex
  exact pmt_cmp (op_ninKd hl hk lo f) (o2InKd g) he (pm_fn g hg hdb) hm
end
/-! ### f(e, ..), f a local that holds a def of the module -/
def GlT (P : Program) (w : World) (K : PySem.W.Frag) (mg : Str → Option Value) (base : Heap) (k : Nat) (tbl : Str → Option FM) : Prop := ∀ x f, tbl x = some f → ∃ g, mg x = some (.ref g) ∧ PySem.W.keepIn K (.ref g) = true ∧ FnA P w K mg base k g f
def mCallV (tbl : Str → Option FM) (i : Nat) (r : MA) : ME := fun env st => match env[i]? with
  | some (some (.gl x)) => (match tbl x with
    | some f => (r env st).bind fun xs st1 => f xs st1
    | none => .bad)
  | _ => .bad
section
variable {X : Cx} {W : WX} {e : Expr} {es : List Expr} {mr : MA} {k i : Nat} {x : Str} {p pos : Pos} {tbl : Str → Option FM}
theorem pm_callV (T : GlT X.prog X.w X.K X.mg X.base k tbl) (i : Nat) (hr : Room k X.A) (gd : NoG X.A) (tk : Lets X W) (ha : PMA X W (e :: es) mr) (hN : X.N[i]? = some x := by rfl) (hv : Vis X.env.scope x := by first | exact Or.inl rfl | exact Or.inr (Or.inl rfl) | exact Or.inr (Or.inr rfl))
    (hdb : (x == ("__debug__" : Str)) = false := by decide) (hcd : (x == ("__classdict__" : Str)) = false := by decide)
    (he : starEach (e :: es) X.env = (false, eval e X.env) :: starEach es X.env := by rfl) (hpl : (backTo pos (starEach es X.env)).any (·.1) = false := by rfl) : PM X W (.Call (.Name x p) (e :: es) [] pos) (mCallV tbl i mr) := by
  refine ⟨fun pins s σ H Q I ⟨A, env, st, sr, q, h⟩ => ?_⟩
  unfold mCallV at h
  split at h
  · rename_i y ey
    cases et : tbl y with
    | none => rw [et] at h; exact h.elim
    | some f =>
      rw [et] at h
      obtain ⟨v, hv1, hv2⟩ := q.get i _ ey
      obtain ⟨g, hg, hk, F⟩ := T y f et
      cases hv2 with
      | gl h0 =>
        cases h0.symm.trans hg
        refine wpAny_Call_Name_kw (thn ((pe_var (pos := p) (i := i) hN hv hdb hcd).run pins s σ H (fun v H1 => v = .ref g ∧ H1 = H) I ⟨.ref g, hv1, rfl, rfl⟩) fun u s1 ⟨v, H1, I1, r1, ev, eH⟩ => ?_)
        subst ev
        rw [eH] at I1
        cases r1
        have h : ((mr env st).bind fun xs st1 => f xs st1).post _ _ := h
        rw [Res.post_bind] at h
        have t : tA (gmOf X) W mr σ H fun vs H2 => spA (gmOf X) f vs H2 Q (WE W σ) := inA sr q (Ext.refl A H) (h.mono (fun ms st2 h2 A2 H2 ws e2 s2 r2 => ⟨A2, st2, ms, s2, r2, h2.mono (fun _ _ z => z.ext e2) fun _ _ z => z.ext e2⟩) fun _ _ z => z)
        refine PySem.W.callWith_K (h₀ := X.base) I.ok.mod.kin hk (thn (ha.run pos pins s1 σ H _ I1 t) fun us s2 ⟨vs, H2, I2, r, q2⟩ => ⟨I2.kIn, ?_⟩) he hpl
        exact run_fnP F hr gd (tk σ) I2 r q2
  · exact h.elim
end
end MR

/-! a tuple of texts that the module writes -/
namespace MR
open PySem L2
variable [Tb]
def strsB : List Value → List Str → Bool
  | [], [] => true
  | .str z _ :: r, s :: ss => (z == s) && strsB r ss
  | _, _ => false
theorem strsB_vals : ∀ {vs : List Value} {ss : List Str}, strsB vs ss = true → Vals (ss.map V.str) vs
  | [], [], _ => .nil
  | v :: r, s :: ss, h => by
    cases v with
    | str z t =>
      have h2 : ((z == s) && strsB r ss) = true := h
      rw [Bool.and_eq_true, beq_iff_eq] at h2
      obtain ⟨rfl, h3⟩ := h2
      exact .cons ⟨t, rfl⟩ (strsB_vals h3)
    | _ => exact absurd h Bool.false_ne_true
  | [], s :: ss, h => absurd h Bool.false_ne_true
  | v :: r, [], h => by cases v <;> exact absurd h Bool.false_ne_true
theorem tupS {P : Program} {w : World} {K : PySem.W.Frag} {mg : Str → Option Value} {a : Addr} {vs : Array Value} {n : Nat} {dd : Option Addr} {sl : Array (Option Value)} {ss : List Str} (hl : K.lookup a = some ⟨.type "tuple", dd, .seq vs n, sl⟩) (h : strsB vs.toList ss = true) (hz : vs.size ≤ 1000) (A : Ad) (H : Hp) :
    Rep ⟨K, mg, P, w, Tb.T, Tb.j, Tb.cs⟩ A H (.ref a) (.tup (ss.map .str)) := by
  refine .tup (vs := ss.map V.str) (.inr (.inr ⟨_, vs, n, hl, rfl, rfl, by rw [sizeLine_eq]; omega, strsB_vals h⟩)) ?_
  exact RepAll.strs ss
end MR

set_option maxHeartbeats 2000000
/-! the end of a law's walk with tables of code objects, told by what the hook says -/
namespace MR
open PySem PySem.Spec PyProof.Rows L2 LamX
theorem walk_ofTY {l : PySem.W.OpenLaw} {n k : Nat} {q : Program} {loose : List Str} {XP : (Str → Option Value) → Heap → Prop} {YP : World → Heap → Prop} {d : PySem.DefRec} {K : PySem.Params → PySem.W.Frag} {sp : World → Sp} {x : Str} {cs : World → List (Addr × Addr)}
    (hn : l.most = some n) (hn2 : n ≤ sizeLine) (hdf : d.params.defaults = []) (room : Room k callerA) (him : importsNone q = true)
    (hY : ∀ (w : World) (h : Heap), YP w h → (K w.params).In h)
    (hT : ∀ (w : World) (h : Heap), YP w h → ∀ c ∈ cs w, PySem.W.CodeHd h c.1 c.2 ∧ h.get? c.2 = some { cls := .none, data := .fields #[] })
    (nT : ∀ (w : World) c, c ∈ cs w → (K w.params).lookup c.2 = none)
    (F : ∀ (w : World) (mg : Str → Option Value) (fa : Addr) (h : Heap), (K w.params).In h → h.Ns mainGlobals mg → mg d.name = some (.ref fa) →
      ∃ fd : FuncData, (∀ (s : Shared) (u : Value), BindsTo s fd ⟨[u], []⟩ [(x, u)]) ∧ ∀ base : Heap, (K w.params).In base → base.Ns mainGlobals mg → (∀ p ∈ cs w, TabB base mg p.1 p.2) → (∃ o, base.get? sysModules = some o) → FnG l.prog w (K w.params) mg base k fa fd [x] (sp w))
    (hsp : ∀ (w : World) (H : Hp) (a : Addr) (ns : List Int), ns.length ≤ n → (∀ p ∈ cs w, H p.2 = some (.tbl #[])) → SqL (K w.params) H a (ns.map V.int) → sp w [.ref a] H (fun v _ => v = .bl true) fun _ _ _ => False) :
    PySem.W.WalkO q loose XP YP l.row.toRowW d [] (fun f vs => PySem.call f vs) :=
  Att.attach_call hn hdf fun w s0 s1 mg mb fa o pm cd doc a vs ns G Y ho hd hcd hmg hobj hints hlen hg => by
    obtain ⟨fd, bind, FF⟩ := F w mg fa _ (hY w _ Y) G.T.g hmg
    have tt := hT w _ Y
    exact law_callTG (hY w _ Y) G.T.g G.T.b G.T.builtins G.T.nolimit (let ⟨mm, h1, _⟩ := (G.T.seer him).mods; ⟨mm, h1⟩) hg (fun p hp => (tt p hp).2) (nT w) (fun p hp => (tt p hp).1) G.T.bmain hobj hints (Nat.le_trans hlen hn2) room FF bind fun H hO hS => hsp w H a ns hlen hO hS
/-- the code objects of some defs of the module, with their tables -/
def codeTab (K : PySem.W.Frag) (x : Str) : Option (Addr × Addr) := match PySem.W.nsIn K mainGlobals x with
  | some (some (.ref f)) => (match K.lookup f with
    | some ⟨_, _, .func fd, _⟩ => (match fd.code with
      | .ref c => (match K.lookup c with
        | some ⟨_, _, .fields vs, _⟩ => (match (vs[11]? : Option Value) with
          | some (.ref P) => some (c, P)
          | _ => none)
        | _ => none)
      | _ => none)
    | _ => none)
  | _ => none
def csOf (K : PySem.W.Frag) (xs : List Str) : List (Addr × Addr) := xs.filterMap (codeTab K)
theorem csOf_hd {K : PySem.W.Frag} {h : Heap} {xs : List Str} {ts : List Addr} (X : K.In h) (T : ∀ P ∈ ts, h.get? P = some (PySem.W.tabObj #[])) (e : (csOf K xs).all (fun p => PySem.W.codeHdIn K p.1 p.2 && decide (p.2 ∈ ts)) = true) :
    ∀ c ∈ csOf K xs, PySem.W.CodeHd h c.1 c.2 ∧ h.get? c.2 = some { cls := .none, data := .fields #[] } := fun c hc => by
  have q := List.all_eq_true.mp e c hc
  rw [Bool.and_eq_true, decide_eq_true_eq] at q
  exact ⟨PySem.W.codeHd_of_K X q.1, T _ q.2⟩
def tabsOf (K : PySem.W.Frag) (xs : List Str) : List (Addr × Str) := xs.filterMap fun x => (codeTab K x).map fun p => (p.2, x ++ ".<locals>." ++ "<lambda>")
theorem tabs_start {K : PySem.W.Frag} {xs : List Str} {H : Hp} (h : ∀ p ∈ csOf K xs, H p.2 = some (.tbl #[])) : LamX.Tabs (tabsOf K xs) H := fun p hp => by
  obtain ⟨x, hx, e⟩ := List.mem_filterMap.mp hp
  obtain ⟨c, e1, rfl⟩ := Option.map_eq_some_iff.mp e
  exact ⟨#[], h c (List.mem_filterMap.mpr ⟨x, hx, e1⟩), by first | exact .nil | trivial | (intro i; simp), fun pos cv hc => by have z : (none : Option Value) = some cv := hc; cases z⟩
end MR

/-! small joints of a law's facts -/
namespace MR
open PySem L2
variable [Tb]
variable {P : Program} {w : World} {K : PySem.W.Frag} {mg : Str → Option Value} {base : Heap}
theorem fnA_of {k : Nat} {x : Str} {n : Nat} {f : FM} {a : Addr} (F : FnM P w K mg base k x n f) (h : mg x = some (.ref a)) : FnA P w K mg base k a (arity n f) := by
  obtain ⟨a', fd, ps, h1, h2, h3, h4⟩ := F.ex
  cases h1.symm.trans h
  exact FnA.of h4 h3
/-- a written pair of an int and a def -/
theorem tup2K {a f : Addr} {dd : Option Addr} {i : Int} {t : Tok} {n : Nat} {sl : Array (Option Value)} {x : Str} (hl : K.lookup a = some ⟨.type "tuple", dd, .seq #[.int i t, .ref f] n, sl⟩) (h : mg x = some (.ref f)) (A : Ad) (H : Hp) :
    Rep ⟨K, mg, P, w, Tb.T, Tb.j, Tb.cs⟩ A H (.ref a) (.tup [.int i, .gl x]) :=
  .tup (vs := [.int i, .ref f]) (.inr (.inr ⟨_, _, n, hl, rfl, rfl, by show (2 : Nat) ≤ sizeLine; rw [sizeLine_eq]; omega, .cons ⟨t, rfl⟩ (.cons rfl .nil)⟩)) (.cons (.int i) (.cons (.gl h) .nil))
end MR

/-! an expression whose value does not hang on the store: run in a store of its own -/
namespace MR
open PySem L2
variable [Tb]
def maskE (env : MEnv) : MEnv := env.map fun o => match o with
  | some m => if m.under 0 = true then some m else none
  | none => none
def ownR (st : Sto) (r : Res MV) : Res MV := match r with
  | .ok m _ => if m.under 0 = true then .ok m st else .bad
  | .exc c _ => if MV.unders 0 c.xs = true then .exc c st else .bad
  | .bad => .bad
def mOwn (m : ME) : ME := fun env st => ownR st (m (maskE env) [])
section
variable {G : Gm} {A A2 : Ad} {H : Hp}
mutual
theorem Rep.bare (hs : ∀ a, A.has a → A2.has a) : ∀ {v : V} {m : MV}, Rep G A2 H v m → m.under 0 = true → Rep G A H v m
  | _, _, .non, _ => .non
  | _, _, .bl b, _ => .bl b
  | _, _, .int i, _ => .int i
  | _, _, .str s, _ => .str s
  | _, _, .ty n, _ => .ty n
  | _, _, .gl h, _ => .gl h
  | _, _, .tup h r, b => .tup (h.imp (fun z => ⟨z.1, fun q => z.2 (hs _ q)⟩) id) (RepAll.bare hs r b)
  | _, _, .lst h n r, b => .lst h (fun q => n (hs _ q)) (RepAll.bare hs r b)
  | _, _, @Rep.obj _ _ _ a j h, b => absurd (of_decide_eq_true (p := j < 0) b) (Nat.not_lt_zero j)
  | _, _, .scr h, _ => .scr (h.imp (fun z => ⟨z.1, fun q => z.2 (hs _ q)⟩) id)
  | _, _, .ins c h l r, b => .ins c ⟨h.1, h.2.1, fun q => h.2.2 (hs _ q)⟩ l (RepAll.bare hs r b)
  | _, _, .dctL h z r, b => .dctL ⟨h.1, h.2.1, fun q => h.2.2 (hs _ q)⟩ z (RepAll.bare hs r (Bool.and_eq_true_iff.mp b).2)
  | _, _, .dctN h ne z r q, b => .dctN ⟨h.1, h.2.1, fun q => h.2.2 (hs _ q)⟩ ne z (RepAll.bare hs r (Bool.and_eq_true_iff.mp b).1) (RepAll.bare hs q (Bool.and_eq_true_iff.mp b).2)
theorem RepAll.bare (hs : ∀ a, A.has a → A2.has a) : ∀ {vs : List V} {ms : List MV}, RepAll G A2 H vs ms → MV.unders 0 ms = true → RepAll G A H vs ms
  | _, _, .nil, _ => .nil
  | _, _, .cons r rs, b => .cons (Rep.bare hs r (Bool.and_eq_true_iff.mp b).1) (RepAll.bare hs rs (Bool.and_eq_true_iff.mp b).2)
end
end
/-- all of the store behind the fence -/
abbrev Ad.hide (A : Ad) : Ad := { ix := [], fn := A.ix ++ A.fn, xs := none }
theorem hide_has {A : Ad} {a : Addr} : A.hide.has a ↔ A.has a := by
  constructor
  · rintro (h | h)
    · cases h
    · exact (List.mem_append.mp h)
  · exact fun h => .inr (List.mem_append.mpr h)
section
variable {G : Gm} {A : Ad} {H : Hp} {st : Sto}
theorem SR.hide (nj : G.j = JP.no) (s : SR G A H st) : SR G A.hide H [] where
  len := rfl
  nd := by simpa using s.nd
  ob := fun k a o _ h => by simp at h
  ft := fun b m => s.tracked (List.mem_append.mp m)
  tb := s.tb
  js := by rw [nj]; trivial
theorem EnvR.hide (nc : G.cs = none) {σ : St} {env : MEnv} (q : EnvR G A H σ env) : EnvR G A.hide H σ (maskE env) where
  len := by unfold maskE; rw [List.length_map]; exact q.len
  xs := fun j a h => by cases h
  cs := fun j a h => by rw [nc] at h; cases h
  get := fun i m h => by
    unfold maskE at h
    rw [List.getElem?_map] at h
    cases e : env[i]? with
    | none => rw [e] at h; cases h
    | some o =>
      rw [e] at h
      cases o with
      | none => cases h
      | some m' =>
        simp only [Option.map_some, Option.some.injEq] at h
        split at h
        · rename_i u
          cases h
          obtain ⟨v, e1, r⟩ := q.get i _ e
          exact ⟨v, e1, Rep.bare (fun a z => hide_has.mp z) r u⟩
        · cases h
/-- back: what was behind the fence stands as it was -/
theorem unhide (nj : G.j = JP.no) (s : SR G A H st) {A2 : Ad} {H2 : Hp} {st2 : Sto} (e : Ext A.hide H A2 H2) (s2 : SR G A2 H2 st2) : Ext A H A H2 ∧ SR G A H2 st ∧ ∀ a, A.has a → A2.has a := by
  have k : ∀ a, A.has a → H2 a = H a := fun a h => e.fk a (List.mem_append.mpr h)
  have x : Ext A H A H2 := ⟨⟨[], by simp⟩, rfl, rfl, fun b o n h t => e.keep b o (fun z => n (hide_has.mp z)) h t, fun p h => .inl h, fun b h => k b (.inr h)⟩
  exact ⟨x, s.ext_same x (fun a h => k a (.inl h)) s2.tb, fun a h => .inr (by rw [e.fen]; exact List.mem_append.mpr h)⟩
end
theorem ExR.bare {G : Gm} {A A2 : Ad} {H : Hp} (hs : ∀ a, A.has a → A2.has a) {c : Ex} {C : Addr} {d : Option Addr} (h : ExR G A2 H c C d) (b : MV.unders 0 c.xs = true) : ExR G A H c C d := by
  obtain ⟨h1, h2⟩ := h
  refine ⟨h1, h2.imp id ?_⟩
  rintro ⟨p, vs, n, e, hp, na, l, r⟩
  exact ⟨p, vs, n, e, hp, fun q => na (hs _ q), l, RepAll.bare hs r b⟩
theorem pm_own (nc : Tb.cs = none) (nj : Tb.j = JP.no) {X : Cx} {W : WX} {e : Expr} {m : ME} (h : PM X W e m) : PM X W e (mOwn m) := PE_imp h fun σ H Q t => by
  obtain ⟨A, env, st, s, q, p⟩ := t
  refine ⟨A.hide, maskE env, [], s.hide nj, q.hide nc, ?_⟩
  unfold mOwn at p
  generalize m (maskE env) [] = r at p
  cases r with
  | bad => exact p
  | ok v st2 =>
    unfold ownR at p
    obtain ⟨u, p⟩ := post_ite p
    intro A2 H2 x e2 s2 r2
    obtain ⟨x1, x2, x3⟩ := unhide nj s e2 s2
    exact p A H2 x x1 x2 (Rep.bare x3 r2 u)
  | exc c st2 =>
    unfold ownR at p
    obtain ⟨u, p⟩ := post_ite p
    intro A2 H2 C d e2 s2 r2
    obtain ⟨x1, x2, x3⟩ := unhide nj s e2 s2
    exact p A H2 C d x1 x2 (r2.bare x3 u)
end MR

/-! t == (), t != (), t a tuple of anything -/
namespace MR
open PySem L2
variable [Tb]
def rEqT (K : PySem.W.Frag) : R2 := fun x y H Q => ∃ a b xs, x = .ref a ∧ y = .ref b ∧ SqT K H a xs ∧ SqT K H b [] ∧ Q (.bl xs.isEmpty) H
def rNeT (K : PySem.W.Frag) : R2 := fun x y H Q => ∃ a b xs, x = .ref a ∧ y = .ref b ∧ SqT K H a xs ∧ SqT K H b [] ∧ Q (.bl (!xs.isEmpty)) H
section
variable {X : Cx}
theorem op_eqT (hu : X.A.units + 64 < cLine) : OpR X (compareOp .Eq) (rEqT X.K) := by
  intro pins s σ H x y v u Q I rx ry h
  obtain ⟨a, b, xs, rfl, rfl, ha, hb, q⟩ := h
  cases (show v = Value.ref a from rx)
  cases (show u = Value.ref b from ry)
  obtain ⟨us, r1, p1, _⟩ := I.tuple ha
  obtain ⟨ws, r2, p2, _⟩ := I.tuple hb
  cases r2
  refine SeqAt.eq_tupleAt (e := fun _ => true) p1 p2 (by omega) (fun j h1 h2 => absurd h2 (by simp)) ?_
  have e : ((List.range (min us.toArray.size ([] : List Value).toArray.size)).all (fun _ => true) && us.toArray.size == ([] : List Value).toArray.size) = xs.isEmpty := by
    cases r1 with
    | nil => rfl
    | cons a rs => simp
  rw [e]
  exact ⟨.bl _, H, I, rfl, q⟩
theorem op_neT (hu : X.A.units + 64 < cLine) : OpR X (compareOp .NotEq) (rNeT X.K) := by
  intro pins s σ H x y v u Q I rx ry h
  obtain ⟨a, b, xs, rfl, rfl, ha, hb, q⟩ := h
  cases (show v = Value.ref a from rx)
  cases (show u = Value.ref b from ry)
  obtain ⟨us, r1, p1, _⟩ := I.tuple ha
  obtain ⟨ws, r2, p2, _⟩ := I.tuple hb
  cases r2
  have e : (!((List.range (min us.toArray.size ([] : List Value).toArray.size)).all (fun _ => true) && us.toArray.size == ([] : List Value).toArray.size)) = !xs.isEmpty := by
    cases r1 with
    | nil => rfl
    | cons a rs => simp
  refine SeqAt.RcNeAt.tuples (e := fun _ => true) p1 p2 (by omega) (fun j h1 h2 => absurd h2 (by simp)) _ _ _ _ ?_
  rw [e]
  exact ⟨.bl _, H, I, rfl, q⟩
end
def gEqT : G2 := fun a b st => match a, b with
  | .tup xs, .tup [] => .ok (.bl xs.isEmpty) st
  | a, b => gEq a b st
def gNeT : G2 := fun a b st => match a, b with
  | .tup xs, .tup [] => .ok (.bl (!xs.isEmpty)) st
  | a, b => gNe a b st
theorem op_eqDT {X : Cx} (hu : X.A.units + 64 < cLine) : OpR X (compareOp .Eq) (fun x y H Q => rEqT X.K x y H Q ∨ rEqD X.K x y H Q) := OpR.or (op_eqT hu) (op_eqD hu)
theorem op_neDT {X : Cx} (hu : X.A.units + 64 < cLine) : OpR X (compareOp .NotEq) (fun x y H Q => rNeT X.K x y H Q ∨ rNeD X.K x y H Q) := OpR.or (op_neT hu) (op_neD hu)
theorem isE_of {G : Gm} {A : Ad} {H : Hp} {vs : List V} {ms : List MV} (r : RepAll G A H vs ms) : vs.isEmpty = ms.isEmpty := by cases r <;> rfl
theorem o2EqT {G : Gm} : Op2 G (fun x y H Q => rEqT G.K x y H Q ∨ rEqD G.K x y H Q) gEqT := fun {A H st x y mx my Q m st'} s rx ry e k => by
  unfold gEqT at e
  split at e
  · cases e
    cases rx with
    | tup f r =>
      cases ry with
      | tup f2 r2 =>
        cases r2
        exact .inl ⟨_, _, _, rfl, rfl, f.sq, f2.sq, by rw [isE_of r]; exact fin0 s (.bl _) k⟩
  · exact .inr (o2Eq s rx ry e k)
theorem o2NeT {G : Gm} : Op2 G (fun x y H Q => rNeT G.K x y H Q ∨ rNeD G.K x y H Q) gNeT := fun {A H st x y mx my Q m st'} s rx ry e k => by
  unfold gNeT at e
  split at e
  · cases e
    cases rx with
    | tup f r =>
      cases ry with
      | tup f2 r2 =>
        cases r2
        exact .inl ⟨_, _, _, rfl, rfl, f.sq, f2.sq, by rw [isE_of r]; exact fin0 s (.bl _) k⟩
  · exact .inr (o2Ne s rx ry e k)
end MR

namespace MR
open PySem L2
theorem csOf_none {K : PySem.W.Frag} {xs : List Str} (e : (csOf K xs).all (fun p => (K.lookup p.2).isNone) = true) : ∀ c ∈ csOf K xs, K.lookup c.2 = none := fun c hc => by
  have := List.all_eq_true.mp e c hc
  cases q : K.lookup c.2 with
  | none => rfl
  | some o => rw [q] at this; cases this
end MR

/-! aids for all laws: their stream of draws, texts, repr -/
namespace MR
open PySem L2 TL
variable [Tb]
@[simp] theorem g_consM (g : MTg) (gs : MTgs) (m : MV) (r : List MV) (env : MEnv) (st : Sto) : gConsM g gs (m :: r) env st = (g m env st).bind fun p => gs r p.1 p.2 := rfl
/-- one sign, a to z -/
def lowc (c : Nat) : Bool := decide (97 ≤ c) && decide (c ≤ 122)
theorem signs_mem (c : Nat) : decide (c ∈ (Str.ofString "abcdefghijklmnopqrstuvwxyz").cps.toList) = lowc c := by
  rw [show (Str.ofString "abcdefghijklmnopqrstuvwxyz").cps.toList = "abcdefghijklmnopqrstuvwxyz".toList.map Char.toNat from tl_ofString _]
  unfold lowc
  rw [← Bool.decide_and]
  apply decide_eq_decide.mpr
  constructor
  · intro h
    have : ∀ c ∈ "abcdefghijklmnopqrstuvwxyz".toList.map Char.toNat, 97 ≤ c ∧ c ≤ 122 := by decide
    exact this c h
  · rintro ⟨h1, h2⟩
    have : ∀ c, c < 123 → 97 ≤ c → c ∈ "abcdefghijklmnopqrstuvwxyz".toList.map Char.toNat := by decide
    exact this c (by omega) h1
/-- an alphabet -/
def rising : List Nat → Bool
  | a :: b :: r => decide (a < b) && rising (b :: r)
  | _ => true
theorem zip_rising : ∀ l : List Nat, (List.zipWith (fun a b => decide (a < b)) l (l.drop 1)).all id = rising l
  | [] => rfl
  | [a] => rfl
  | a :: b :: r => by
    have ih := zip_rising (b :: r)
    simp only [List.drop_succ_cons, List.drop_zero, List.zipWith_cons_cons, List.all_cons, rising] at ih ⊢
    rw [ih]
    rfl
theorem zip_get {xs ys : List MV} {y : MV} (h : y ∈ zipM xs ys) : ∃ a b, a ∈ xs ∧ b ∈ ys ∧ y = .tup [a, b] := by
  unfold zipM at h
  rw [List.mem_iff_getElem] at h
  obtain ⟨i, hi, e⟩ := h
  rw [List.getElem_zipWith] at e
  exact ⟨_, _, List.getElem_mem _, List.getElem_mem _, e.symm⟩
abbrev one (c : Nat) : MV := .str ⟨#[c]⟩
theorem lt_one (a b : Nat) : sLt ⟨#[a]⟩ ⟨#[b]⟩ = decide (a < b) := by
  unfold sLt
  apply decide_eq_decide.mpr
  show [a] < [b] ↔ a < b
  rw [List.cons_lt_cons_iff]
  simp
theorem one_asc {c : Nat} (h : c < 128) : Asc 1 ⟨#[c]⟩ := ⟨Nat.le_refl _, fun d hd => by simp at hd; rw [hd]; exact h⟩
theorem tl_cut1 (s : Str) : tl (cutS s (some 1) none) = (tl s).drop 1 := by
  show ((s.cps.toList.drop (HT.sIx s.length 0 (some 1))).take (HT.sIx s.length s.length none - HT.sIx s.length 0 (some 1))) = _
  have e : HT.sIx s.length 0 (some 1) = min 1 s.length := HT.sIx_nat _ _ 1
  rw [e, HT.sIx_none]
  have hl : s.cps.toList.length = s.length := by simp [Str.length]
  by_cases h : s.length = 0
  · have : s.cps.toList = [] := List.length_eq_zero_iff.mp (hl.trans h)
    simp [this]
  · have : min 1 s.length = 1 := by omega
    rw [this]
    apply List.take_of_length_le
    rw [List.length_drop, hl]
    omega
theorem mapM_mem {α β : Type} {f : α → Option β} : ∀ {l : List α} {m : List β}, l.mapM f = some m → m.length = l.length ∧ ∀ b ∈ m, ∃ a ∈ l, f a = some b
  | [], m, h => by cases h; exact ⟨rfl, fun _ h => nomatch h⟩
  | a :: l, m, h => by
    rw [List.mapM_cons] at h
    cases e1 : f a with
    | none => rw [e1] at h; cases h
    | some n =>
      cases e2 : l.mapM f with
      | none => rw [e1, e2] at h; cases h
      | some w =>
        rw [e1, e2] at h
        cases h
        obtain ⟨i1, i2⟩ := mapM_mem e2
        refine ⟨by simp [i1], fun b hb => ?_⟩
        rcases List.mem_cons.mp hb with hb | hb
        · exact ⟨a, List.mem_cons_self, by rw [hb]; exact e1⟩
        · obtain ⟨c, hc, e⟩ := i2 b hb
          exact ⟨c, List.mem_cons_of_mem _ hc, e⟩
theorem forM_step {g : MTg} {b : MS} {y : MV} {ys : List MV} {env env1 env2 : MEnv} {st st1 st2 : Sto} (h1 : g y env st = some (env1, st1)) (h2 : b env1 st1 = .nx env2 st2) : forM g b (y :: ys) env st = forM g b ys env2 st2 := by
  show (match g y env st with
    | none => Flw.bad
    | some (env1, st1) => match b env1 st1 with
      | .nx env2 st2 => forM g b ys env2 st2
      | .ct env2 st2 => forM g b ys env2 st2
      | .bk env2 st2 => .nx env2 st2
      | .rt m st2 => .rt m st2
      | .exc c env2 st2 => .exc c env2 st2
      | .bad => .bad) = _
  rw [h1]
  simp only [h2]
theorem at_last (st : Sto) (x : MO) : (st ++ [x])[st.length]? = some x := by simp
theorem set_last (st : Sto) (x y : MO) : (st ++ [x]).set st.length y = st ++ [y] := by
  rw [List.set_append_right _ _ (Nat.le_refl _)]
  simp
theorem append_last (st : Sto) (xs : List MV) (m : MV) (h : xs.length < 16777216) : gAppend (.obj st.length) [m] (st ++ [.lst xs]) = .ok .non (st ++ [.lst (xs ++ [m])]) := by
  simp [gAppend, h, set_last]
theorem items_last (st : Sto) (xs : List MV) : itemsOf (.obj st.length) (st ++ [.lst xs]) = some xs := by
  simp [itemsOf]
theorem isLst_last (st : Sto) (xs : List MV) : isLst (.obj st.length) (st ++ [.lst xs]) = true := by
  simp [isLst, MR.listOf]
theorem tuple_last (st : Sto) (xs : List MV) : gTuple [.obj st.length] (st ++ [.lst xs]) = .ok (.tup xs) (st ++ [.lst xs]) := by
  simp [gTuple, items_last]
theorem cutM_1 (x : MV) (xs : List MV) : cutM (x :: xs) (some 1) none = xs := by
  unfold cutM
  have e : HT.sIx (x :: xs).length 0 (some 1) = min 1 (x :: xs).length := HT.sIx_nat _ _ 1
  rw [e, HT.sIx_none]
  have : min 1 (x :: xs).length = 1 := by simp
  rw [this]
  simp
theorem gSlL1 (x : MV) (xs : List MV) (st : Sto) : gSlice (.lst (x :: xs)) (some 1) none st = .ok (.lst xs) st := by
  show Res.ok (MV.lst (cutM (x :: xs) (some 1) none)) st = _
  rw [cutM_1]
theorem gSlT1 (x : MV) (xs : List MV) (st : Sto) : gSlice (.tup (x :: xs)) (some 1) none st = .ok (.tup xs) st := by
  show Res.ok (MV.tup (cutM (x :: xs) (some 1) none)) st = _
  rw [cutM_1]
theorem gIx0 (m : MV) (ps : List MV) (st : Sto) : gIx (.lst (m :: ps)) (.int 0) st = .ok m st := by
  simp [gIx, atI, ixN]
theorem gIxT0 (m : MV) (ps : List MV) (st : Sto) : gIx (.tup (m :: ps)) (.int 0) st = .ok m st := by
  simp [gIx, atI, ixN]
theorem gLenL (ps : List MV) (st : Sto) : gLen [.lst ps] st = .ok (.int ps.length) st := by simp [gLen]
theorem gLenT (ps : List MV) (st : Sto) : gLen [.tup ps] st = .ok (.int ps.length) st := by simp [gLen]
theorem Asc.mono {n m : Nat} {t : Str} (h : Asc n t) (hn : n ≤ m) : Asc m t := ⟨Nat.le_trans h.1 hn, h.2⟩
theorem lit_tl (s : String) : tl (Str.ofString s) = s.toList.map Char.toNat := tl_ofString s
theorem len_app (x y : Str) : (x ++ y).length = x.length + y.length := by
  rw [len_tl, tl_append, List.length_append, ← len_tl, ← len_tl]
theorem litE : Str.ofString "" = ⟨#[]⟩ := ext_tl (tl_ofString "")
def Strm (k : Nat) (st : Sto) : Prop := ∃ a b c : Int, st[k]? = some (.lst [.int a, .int b, .int c])
theorem Strm.app {k : Nat} {st : Sto} (h : Strm k st) (tail : Sto) : Strm k (st ++ tail) := by
  obtain ⟨a, b, c, e⟩ := h
  exact ⟨a, b, c, by rw [List.getElem?_append_left (List.getElem?_eq_some_iff.mp e).1]; exact e⟩
theorem gMod_eq {i j : Int} (h : 0 < j) (st : Sto) : gMod (.int i) (.int j) st = .ok (.int (i % j)) st := by
  simp [gMod, gI, h]
theorem gDiv_eq {i j : Int} (h : 0 < j) (h2 : j < 2 ^ 64) (st : Sto) : gDiv (.int i) (.int j) st = .ok (.int (i / j)) st := by
  have : j.natAbs.log2 < 9000 := by
    have := (Nat.log2_lt (n := j.natAbs) (k := 64) (by omega)).mpr (by omega)
    omega
  simp [gDiv, gI, h, this]
theorem gAddI (i j : Int) (st : Sto) : MR.gAdd (.int i) (.int j) st = .ok (.int (i + j)) st := rfl
theorem gSubI (i j : Int) (st : Sto) : MR.gSub (.int i) (.int j) st = .ok (.int (i - j)) st := rfl
theorem gLtI (i j : Int) (st : Sto) : gLtD (.int i) (.int j) st = .ok (.bl (decide (i < j))) st := rfl
theorem gGtI (i j : Int) (st : Sto) : gGt (.int i) (.int j) st = .ok (.bl (decide (j < i))) st := rfl
theorem ix_obj {k : Nat} {st : Sto} {a b c : Int} (h : st[k]? = some (.lst [.int a, .int b, .int c])) : gIx (.obj k) (.int 0) st = .ok (.int a) st ∧ gIx (.obj k) (.int 1) st = .ok (.int b) st ∧ gIx (.obj k) (.int 2) st = .ok (.int c) st := by
  refine ⟨?_, ?_, ?_⟩ <;> simp [gIx, itemsOf, h, atI, ixN]
theorem set_obj {k : Nat} {st : Sto} {a b c : Int} (h : st[k]? = some (.lst [.int a, .int b, .int c])) (x : Int) : setAtG (.obj k) (.int 0) (.int x) st = some (st.set k (.lst [.int x, .int b, .int c])) ∧ setAtG (.obj k) (.int 2) (.int x) st = some (st.set k (.lst [.int a, .int b, .int x])) := by
  refine ⟨?_, ?_⟩ <;> simp [setAtG, h, ixN]
theorem pow1 (st : Sto) : gPow (.int 10) (.int 60) st = .ok (.int ((10 : Int) ^ 60)) st := by
  show (if (decide ((0 : Int) ≤ 60 ∧ (60 : Int) ≤ 1000 ∧ (10 : Int).natAbs.log2 < 1000)) = true then Res.ok (MV.int ((10 : Int) ^ (60 : Int).toNat)) st else .bad) = _
  rw [if_pos (by decide +kernel)]
  rfl
theorem pow3 (st : Sto) : gPow (.int 10) (.int 18) st = .ok (.int ((10 : Int) ^ 18)) st := by
  show (if (decide ((0 : Int) ≤ 18 ∧ (18 : Int) ≤ 1000 ∧ (10 : Int).natAbs.log2 < 1000)) = true then Res.ok (MV.int ((10 : Int) ^ (18 : Int).toNat)) st else .bad) = _
  rw [if_pos (by decide +kernel)]
  rfl
theorem pow2 (st : Sto) : ∃ z : Int, 0 < z ∧ gPow (.int ((10 : Int) ^ 60)) (.int 12) st = .ok (.int z) st := by
  refine ⟨((10 : Int) ^ 60) ^ (12 : Int).toNat, by decide +kernel, ?_⟩
  show (if (decide ((0 : Int) ≤ 12 ∧ (12 : Int) ≤ 1000 ∧ ((10 : Int) ^ 60).natAbs.log2 < 1000)) = true then Res.ok (MV.int (((10 : Int) ^ 60) ^ (12 : Int).toNat)) st else .bad) = _
  rw [if_pos (by decide +kernel)]
theorem gLen_str {N : Nat} {s : Str} (h : Asc N s) (hN : N ≤ 16777216) (st : Sto) : gLen [.str s] st = .ok (.int s.length) st := by
  have : s.length ≤ 16777216 := Nat.le_trans h.1 hN
  show (if s.length ≤ 16777216 then Res.ok (MV.int s.length) st else .bad) = _
  rw [if_pos this]
theorem gIx_str {N : Nat} {s : Str} (h : Asc N s) (hN : N ≤ 16777216) {d : Nat} (hd : d < s.length) (st : Sto) : ∃ c, c ∈ tl s ∧ c < 128 ∧ gIx (.str s) (.int d) st = .ok (.str ⟨#[c]⟩) st := by
  have hl : s.length ≤ 16777216 := Nat.le_trans h.1 hN
  have hd' : d < (tl s).length := by rw [← len_tl]; exact hd
  refine ⟨(tl s)[d], List.getElem_mem hd', h.2 _ (List.getElem_mem hd'), ?_⟩
  have : atI s.cps.toList (d : Int) = some (tl s)[d] := by
    unfold atI ixN
    have hd2 : d < s.cps.toList.length := hd'
    rw [if_pos (by omega), if_pos (by omega)]
    show (tl s)[(d : Int).toNat]? = _
    rw [Int.toNat_natCast, List.getElem?_eq_getElem hd']
  simp [gIx, hl, this]
theorem isLst_at {n : Nat} {s : Sto} (h : s.length = n) (xs : List MV) : isLst (.obj n) (s ++ [.lst xs]) = true := by subst h; exact isLst_last s xs
theorem append_at {n : Nat} {s : Sto} (h : s.length = n) (xs : List MV) (m : MV) (hx : xs.length < 16777216) : gAppend (.obj n) [m] (s ++ [.lst xs]) = .ok .non (s ++ [.lst (xs ++ [m])]) := by subst h; exact append_last s xs m hx
theorem cutS_asc {N : Nat} {z : Str} (h : Asc N z) (lo hi : Option Int) : Asc N (cutS z lo hi) := by
  have sub : ∀ (a b : Nat), List.Sublist (((tl z).drop a).take b) (tl z) := fun a b => (List.take_sublist _ _).trans (List.drop_sublist _ _)
  have s := sub (HT.sIx z.length 0 lo) (HT.sIx z.length z.length hi - HT.sIx z.length 0 lo)
  refine ⟨?_, fun c hc => h.2 c (s.subset hc)⟩
  have h1 := h.1
  have := s.length_le
  rw [len_tl] at h1 ⊢
  exact Nat.le_trans this h1
theorem gSl_str {N : Nat} {z : Str} (h : Asc N z) (hN : N ≤ 8000) (lo hi : Option Int) (st : Sto) : ∃ y, gSlice (.str z) lo hi st = .ok (.str y) st ∧ Asc N y := by
  have hl : z.length ≤ 16777216 := by have := h.1; omega
  refine ⟨cutS z lo hi, ?_, cutS_asc h lo hi⟩
  show (if z.length ≤ 16777216 then Res.ok (MV.str (cutS z lo hi)) st else .bad) = _
  rw [if_pos hl]
theorem gAdd_str {N M : Nat} {a b : Str} (ha : Asc N a) (hb : Asc M b) (h : N + M ≤ 8000) (st : Sto) : ∃ y, MR.gAdd (.str a) (.str b) st = .ok (.str y) st ∧ Asc (N + M) y := by
  have h1 := ha.1
  have h2 := hb.1
  refine ⟨a ++ b, ?_, ?_, fun c hc => ?_⟩
  · show (if a.length + b.length ≤ 16777216 then Res.ok (MV.str (a ++ b)) st else .bad) = _
    rw [if_pos (by omega)]
  · rw [len_app]; omega
  · rw [tl_append] at hc
    rcases List.mem_append.mp hc with hc | hc
    · exact ha.2 c hc
    · exact hb.2 c hc
theorem hex_asc : ∀ c, c < 128 → ∀ d ∈ (Nat.toDigits 16 c).map Char.toNat, d < 128 := by decide +kernel
theorem reprChar_asc {q c : Nat} (hc : c < 128) : ∀ d ∈ Builtin.Str.reprChar q c, d < 128 := by
  have hx := hex_asc c hc
  unfold Builtin.Str.reprChar
  intro d hd
  repeat' split at hd
  · simp at hd; omega
  · simp at hd; omega
  · simp at hd; omega
  · simp at hd; omega
  · simp at hd; omega
  · rcases List.mem_append.mp hd with hd | hd
    · simp at hd; omega
    · rcases List.mem_append.mp hd with hd | hd
      · have := (List.mem_replicate.mp hd).2; omega
      · exact hx d hd
  · omega
  · omega
theorem foldl_asc (q : Nat) : ∀ (l : List Nat) (acc : Array Nat), (∀ c ∈ l, c < 128) → (∀ c ∈ acc.toList, c < 128) → ∀ d ∈ (l.foldl (fun out c => out ++ (Builtin.Str.reprChar q c).toArray) acc).toList, d < 128
  | [], acc, _, ha => ha
  | c :: r, acc, h, ha => by
    refine foldl_asc q r _ (fun d hd => h d (List.mem_cons_of_mem _ hd)) fun d hd => ?_
    rw [Array.toList_append] at hd
    rcases List.mem_append.mp hd with hd | hd
    · exact ha d hd
    · exact reprChar_asc (h c List.mem_cons_self) d hd
theorem repr_asc {N : Nat} {x : Str} (h : Asc N x) : Asc (10 * N + 2) (reprText x) := by
  have hq : reprQuote x < 128 := by unfold reprQuote; split <;> decide
  refine ⟨?_, fun d hd => ?_⟩
  · have := StrLaws.reprText_len x fun c hc => Nat.lt_trans (h.2 c hc) (by decide)
    have := h.1
    omega
  · unfold reprText at hd
    have hd : d ∈ ((x.cps.foldl (fun out c => out ++ (Builtin.Str.reprChar (reprQuote x) c).toArray) #[reprQuote x]).push (reprQuote x)).toList := hd
    rw [Array.toList_push, ← Array.foldl_toList] at hd
    rcases List.mem_append.mp hd with hd | hd
    · exact foldl_asc (reprQuote x) x.cps.toList #[reprQuote x] h.2 (fun c hc => by simp at hc; omega) d hd
    · rw [List.mem_singleton.mp hd]; exact hq
theorem joinS_mem {S : List Nat} {d : Nat} : ∀ {ps : List (List Nat)}, d ∈ joinL S ps → d ∈ S ∨ ∃ p ∈ ps, d ∈ p
  | [], h => by cases h
  | [p], h => .inr ⟨p, List.mem_cons_self, h⟩
  | p :: q :: r, h => by
    have h : d ∈ p ++ (S ++ joinL S (q :: r)) := h
    rcases List.mem_append.mp h with h | h
    · exact .inr ⟨p, List.mem_cons_self, h⟩
    · rcases List.mem_append.mp h with h | h
      · exact .inl h
      · rcases joinS_mem h with h | ⟨x, hx, h⟩
        · exact .inl h
        · exact .inr ⟨x, List.mem_cons_of_mem _ hx, h⟩
theorem tupleText_asc {N : Nat} {ts : List Str} (h : ∀ t ∈ ts, Asc N t) : Asc (ts.length * (N + 2) + 3) (tupleText ts) := by
  have hs : ∀ l : List Str, (∀ p ∈ l, Asc N p) → (l.map (·.length)).sum ≤ l.length * N := by
    intro l
    induction l with
    | nil => intro _; simp
    | cons a l ih =>
      intro h
      have h1 := (h a List.mem_cons_self).1
      have h2 := ih fun p hp => h p (List.mem_cons_of_mem _ hp)
      simp only [List.map_cons, List.sum_cons, List.length_cons]
      rw [Nat.add_mul]
      omega
  refine ⟨?_, fun d hd => ?_⟩
  · have := tupleText_len_le ts
    have := hs ts h
    rw [Nat.mul_add]
    omega
  · unfold tupleText at hd
    rw [tl_append, tl_append] at hd
    rcases List.mem_append.mp hd with hd | hd
    · rcases List.mem_append.mp hd with hd | hd
      · rw [lit_tl] at hd
        have : ∀ c ∈ "(".toList.map Char.toNat, c < 128 := by decide
        exact this d hd
      · rw [tl_join] at hd
        rcases joinS_mem hd with hd | ⟨p, hp, hd⟩
        · rw [lit_tl] at hd
          have : ∀ c ∈ ", ".toList.map Char.toNat, c < 128 := by decide
          exact this d hd
        · obtain ⟨t, ht, rfl⟩ := List.mem_map.mp hp
          exact (h t ht).2 d hd
    · split at hd
      · rw [lit_tl] at hd
        have : ∀ c ∈ ",)".toList.map Char.toNat, c < 128 := by decide
        exact this d hd
      · rw [lit_tl] at hd
        have : ∀ c ∈ ")".toList.map Char.toNat, c < 128 := by decide
        exact this d hd
structure GoodAll (N D : Nat) (ds : List PyData) : Prop where
  asc : ∀ t ∈ PyData.shownAll ds, Asc N t
  sh : PyData.showableAll ds = true
  dep : PyData.depthAll ds ≤ D
theorem shownAll_len : ∀ ds : List PyData, (PyData.shownAll ds).length = ds.length
  | [] => by simp only [PyData.shownAll]; rfl
  | d :: ds => by simp only [PyData.shownAll, List.length_cons, shownAll_len ds]
theorem GoodAll.nil (N D : Nat) : GoodAll N D [] := ⟨(fun t ht => by simp only [PyData.shownAll] at ht; cases ht), by simp only [PyData.showableAll], by simp [PyData.depthAll]⟩
theorem GoodAll.cons {N D : Nat} {d : PyData} {ds : List PyData} (h1 : Asc N d.shown) (h2 : d.showable = true) (h3 : d.depth ≤ D) (h : GoodAll N D ds) : GoodAll N D (d :: ds) :=
  ⟨fun t ht => by
    simp only [PyData.shownAll] at ht
    rcases List.mem_cons.mp ht with e | e
    · rw [e]; exact h1
    · exact h.asc t e, by simp only [PyData.showableAll, h2, h.sh]; rfl, by simp only [PyData.depthAll]; exact Nat.max_le.mpr ⟨h3, h.dep⟩⟩
theorem GoodAll.tuple {N D : Nat} {ds : List PyData} (h : GoodAll N D ds) : Asc (ds.length * (N + 2) + 3) (PyData.tuple ds).shown ∧ (PyData.tuple ds).showable = true ∧ (PyData.tuple ds).depth ≤ D + 1 := by
  refine ⟨?_, by simp only [PyData.showable]; exact h.sh, by simp only [PyData.depth]; have := h.dep; omega⟩
  simp only [PyData.shown]
  have := tupleText_asc h.asc
  rw [shownAll_len] at this
  exact this
theorem gNe_same {N : Nat} {y : Str} (h : Asc N y) (st : Sto) : gNe (.str y) (.str y) st = .ok (.bl false) st := by
  rw [gNe_str h h, decide_eq_true rfl]
  rfl
theorem mul_l {i j : Int} (h : -(2 ^ 64) < i ∧ i < 2 ^ 64) (st : Sto) : gMulT (.int i) (.int j) st = .ok (.int (i * j)) st := by
  have : mulOk i j = true := by unfold mulOk; rw [decide_eq_true_iff]; exact .inl (.inl h)
  show (if mulOk i j = true then Res.ok (MV.int (i * j)) st else .bad) = _
  rw [if_pos this]
theorem mul_r {i j : Int} (h : -(2 ^ 64) < j ∧ j < 2 ^ 64) (st : Sto) : gMulT (.int i) (.int j) st = .ok (.int (i * j)) st := by
  have : mulOk i j = true := by unfold mulOk; rw [decide_eq_true_iff]; exact .inl (.inr h)
  show (if mulOk i j = true then Res.ok (MV.int (i * j)) st else .bad) = _
  rw [if_pos this]
def lDrawB : MS := (sSeq (sIf (mB (m2 gGt (m2 gIx (mVar 0) (mC (.int 0))) (mC (.int 0)))) (sSeq (sSet 2 (m2 gMod (m2 gIx (mVar 0) (mC (.int 0))) (mVar 1)))
  (sSeq (sSetIxG (mVar 0) (mC (.int 0)) (m2 gDiv (m2 gIx (mVar 0) (mC (.int 0))) (mVar 1)))
  (sRet (mVar 2)))) sNext)
  (sSeq (sSetIxG (mVar 0) (mC (.int 2)) (m2 gAdd (m2 gIx (mVar 0) (mC (.int 2))) (mC (.int 1))))
  (sSeq (sSet 3 (m2 gMod (m2 gAdd (m2 gIx (mVar 0) (mC (.int 1))) (m2 gMulT (mC (.int 1000003)) (m2 gIx (mVar 0) (mC (.int 2))))) (mC (.int 2305843009213693951))))
  (sSeq (sSet 4 (m2 gMod (m2 gAdd (m2 gMulT (m2 gMod (m2 gMulT (mVar 3) (mVar 3)) (mC (.int 2305843009213693921))) (mVar 3)) (m2 gMulT (mC (.int 8191)) (m2 gIx (mVar 0) (mC (.int 2))))) (mC (.int 2305843009213693907))))
  (sRet (m2 gMod (m2 gDiv (mVar 4) (mC (.int 4096))) (mVar 1)))))))
def lDraw : FM := defM 5 lDrawB
def lStreamB : MS := (sSeq (sSet 2 (m2 gAdd (m2 gMulT (mC (.int 7)) (mVar 1)) (mC (.int 3))))
  (sSeq (sIf (mB (m2 gLtD (mVar 1) (mCall gLen (aCons (mVar 0) aNil)))) (sSet 2 (m2 gIx (mVar 0) (mVar 1))) sNext)
  (sSeq (sSet 3 (m2 gMod (mCall gAbs (aCons (mVar 2) aNil)) (m2 gPow (m2 gPow (mC (.int 10)) (mC (.int 60))) (mC (.int 12)))))
  (sSeq (sSet 4 (m2 gMod (m2 gAdd (m2 gAdd (m2 gAdd (m2 gMulT (m2 gMod (mVar 3) (mC (.int 2147483629))) (mC (.int 48271))) (m2 gMulT (mC (.int 977)) (mVar 1))) (m2 gMulT (mC (.int 2)) (mCall gInt (aCons (m2 gLtD (mVar 2) (mC (.int 0))) aNil)))) (mC (.int 11))) (mC (.int 2147483647))))
  (sRet (mLstN (aCons (mCall gMax (aCons (mC (.int 0)) (aCons (m2 gSub (mVar 3) (m2 gPow (mC (.int 10)) (mC (.int 18)))) aNil))) (aCons (mVar 4) (aCons (mC (.int 0)) aNil)))))))))
def lStream : FM := defM 5 lStreamB
theorem draw_eq {k : Nat} {st : Sto} (h : Strm k st) {d : Nat} (hd : 0 < d) (hd2 : d < 2 ^ 60) (tail : Sto) : ∃ (r : Nat) (s2 : Sto), lDraw [.obj k, .int d] (st ++ tail) = .ok (.int r) (s2 ++ tail) ∧ r < d ∧ s2.length = st.length ∧ Strm k s2 := by
  obtain ⟨a, b, c, e⟩ := h
  have hk : k < st.length := (List.getElem?_eq_some_iff.mp e).1
  have e' : (st ++ tail)[k]? = some (.lst [.int a, .int b, .int c]) := by rw [List.getElem?_append_left hk]; exact e
  obtain ⟨i0, i1, i2⟩ := ix_obj e'
  have hdi : (0 : Int) < d := by omega
  have hdj : (d : Int) < 2 ^ 64 := by omega
  have fin : ∀ x : Int, ∃ r : Nat, r < d ∧ x % d = r := fun x => ⟨(x % d).toNat, by
    have h1 := Int.emod_nonneg x (b := d) (by omega)
    have h2 := Int.emod_lt_of_pos x hdi
    omega, by
    have h1 := Int.emod_nonneg x (b := d) (by omega)
    omega⟩
  have fs : ∀ y : MO, (st ++ tail).set k y = st.set k y ++ tail := fun y => List.set_append_left _ _ hk
  by_cases ha : 0 < a
  · obtain ⟨r, hr, er⟩ := fin a
    refine ⟨r, st.set k (.lst [.int (a / d), .int b, .int c]), ?_, hr, by simp, ⟨a / d, b, c, by simp [hk]⟩⟩
    have s1 := (set_obj e' (a / d)).1
    rw [fs] at s1
    simp [lDraw, lDrawB, defM, i0, gGtI, ha, gMod_eq hdi, gDiv_eq hdi hdj, s1, er]
  · have s1 := (set_obj e' (c + 1)).2
    rw [fs] at s1
    have e2 : (st.set k (.lst [.int a, .int b, .int (c + 1)]) ++ tail)[k]? = some (.lst [.int a, .int b, .int (c + 1)]) := by
      rw [List.getElem?_append_left (by simpa using hk)]
      simp [hk]
    obtain ⟨j0, j1, j2⟩ := ix_obj e2
    have p1 : (0 : Int) < 2305843009213693951 := by decide
    have p2 : (0 : Int) < 2305843009213693921 := by decide
    have p3 : (0 : Int) < 2305843009213693907 := by decide
    have p4 : (0 : Int) < 4096 := by decide
    have p5 : (4096 : Int) < 2 ^ 64 := by decide
    have b1 : ∀ x : Int, -(2 ^ 64) < x % 2305843009213693951 ∧ x % 2305843009213693951 < 2 ^ 64 := fun x => by omega
    have m1 : ∀ (x : Int) s, gMulT (.int 1000003) (.int x) s = .ok (.int (1000003 * x)) s := fun x s => mul_l (by decide) s
    have m2 : ∀ (x : Int) s, gMulT (.int 8191) (.int x) s = .ok (.int (8191 * x)) s := fun x s => mul_l (by decide) s
    have m3 : ∀ (x y : Int) s, gMulT (.int x) (.int (y % 2305843009213693951)) s = .ok (.int (x * (y % 2305843009213693951))) s := fun x y s => mul_r (b1 y) s
    generalize hw : ((b + 1000003 * (c + 1)) % 2305843009213693951) = w at *
    obtain ⟨r, hr, er⟩ := fin ((w * w % 2305843009213693921 * w + 8191 * (c + 1)) % 2305843009213693907 / 4096)
    have bw : -(2 ^ 64) < w ∧ w < 2 ^ 64 := by rw [← hw]; exact b1 _
    have m4 : ∀ (x : Int) s, gMulT (.int x) (.int w) s = .ok (.int (x * w)) s := fun x s => mul_r bw s
    refine ⟨r, st.set k (.lst [.int a, .int b, .int (c + 1)]), ?_, hr, by simp, ⟨a, b, c + 1, by simp [hk]⟩⟩
    simp [lDraw, lDrawB, defM, i0, i1, i2, j0, j1, j2, gGtI, ha, gMod_eq hdi, gDiv_eq p4 p5, s1, er, gAddI, gMod_eq p1, gMod_eq p2, gMod_eq p3, m1, m2, m4, hw]
theorem stream_eq {ns : List Int} {t : Nat} (st : Sto) : ∃ a b c : Int, lStream [.scr ns, .int t] st = .ok (.obj st.length) (st ++ [.lst [.int a, .int b, .int c]]) := by
  obtain ⟨z, hz, p2⟩ := pow2 st
  have hp1 := pow1 st
  have hp3 := pow3 st
  generalize (10 : Int) ^ 60 = P at hp1 p2
  generalize (10 : Int) ^ 18 = Q at hp3
  obtain ⟨v0, a1⟩ : ∃ y : Int, gMulT (.int 7) (.int t) st = .ok (.int y) st := ⟨_, mul_l (by decide) st⟩
  obtain ⟨v1, a2⟩ : ∃ y : Int, MR.gAdd (.int v0) (.int 3) st = .ok (.int y) st := ⟨_, rfl⟩
  have gl : gLen [.scr ns] st = .ok (.int ns.length) st := rfl
  have tail : ∀ v : Int, ∃ w x y p q r i j s u m n o : Int, ∃ b : Bool, gAbs [.int v] st = .ok (.int w) st ∧ gMod (.int w) (.int z) st = .ok (.int x) st ∧ gMod (.int x) (.int 2147483629) st = .ok (.int y) st ∧
      gMulT (.int y) (.int 48271) st = .ok (.int p) st ∧ gMulT (.int 977) (.int t) st = .ok (.int q) st ∧ MR.gAdd (.int p) (.int q) st = .ok (.int r) st ∧ gLtD (.int v) (.int 0) st = .ok (.bl b) st ∧ gInt [.bl b] st = .ok (.int i) st ∧
      gMulT (.int 2) (.int i) st = .ok (.int j) st ∧ MR.gAdd (.int r) (.int j) st = .ok (.int s) st ∧ MR.gAdd (.int s) (.int 11) st = .ok (.int u) st ∧ gMod (.int u) (.int 2147483647) st = .ok (.int m) st ∧
      MR.gSub (.int x) (.int Q) st = .ok (.int n) st ∧ gMax [.int 0, .int n] st = .ok (.int o) st := fun v =>
    ⟨_, _, _, _, _, _, _, _, _, _, _, _, _, _, rfl, gMod_eq hz st, gMod_eq (by decide) st, mul_r (by decide) st, mul_l (by decide) st, rfl, rfl, rfl, mul_l (by decide) st, rfl, rfl, gMod_eq (by decide) st, rfl, rfl⟩
  have g0 := gLtI t ns.length st
  by_cases h : (t : Int) < ns.length
  · rw [decide_eq_true h] at g0
    have h : t < ns.length := by omega
    have gi : gIx (.scr ns) (.int t) st = .ok (.int ns[t]) st := by
      have : atI ns (t : Int) = some ns[t] := by simp [atI, ixN, h]
      simp [gIx, this]
    generalize ns[t] = v at gi
    obtain ⟨w, x, y, p, q, r, i, j, s, u, m, n, o, b, c1, c2, c3, c4, c5, c6, c7, c8, c9, c10, c11, c12, c13, c14⟩ := tail v
    refine ⟨o, m, 0, ?_⟩
    simp [lStream, lStreamB, defM, a1, a2, gl, g0, gi, hp1, p2, hp3, c1, c2, c3, c4, c5, c6, c7, c8, c9, c10, c11, c12, c13, c14]
  · rw [decide_eq_false h] at g0
    obtain ⟨w, x, y, p, q, r, i, j, s, u, m, n, o, b, c1, c2, c3, c4, c5, c6, c7, c8, c9, c10, c11, c12, c13, c14⟩ := tail v1
    refine ⟨o, m, 0, ?_⟩
    simp [lStream, lStreamB, defM, a1, a2, gl, g0, hp1, p2, hp3, c1, c2, c3, c4, c5, c6, c7, c8, c9, c10, c11, c12, c13, c14]
end MR

set_option maxHeartbeats 400000
/-! the small head of the kit, with facts of my own: what law_mk asks is computed in the kernel's one run of the top -/
namespace Hk
open PySem PySem.Spec PyProof.Rows L2 MR
/-! ### the part of the heap that is told: all that the module's names reach, but for the tables -/
def noneV : Value → Bool
  | .none => true
  | _ => false
def emptyF : Data → Bool
  | .fields vs => vs.toList.isEmpty
  | _ => false
def isTab (o : Obj) : Bool := noneV o.cls && (o.dict.isNone && (emptyF o.data && o.slots.toList.isEmpty))
theorem noneV_ok {v : Value} (h : noneV v = true) : v = .none := by cases v <;> first | rfl | cases h
theorem emptyF_ok {d : Data} (h : emptyF d = true) : d = .fields #[] := by
  cases d with
  | fields vs =>
    obtain ⟨l⟩ := vs
    cases l with
    | nil => rfl
    | cons _ _ => cases h
  | _ => cases h
theorem isTab_ok {o : Obj} (h : isTab o = true) : o = PySem.W.tabObj #[] := by
  obtain ⟨a, b, c, d⟩ := o
  obtain ⟨h1, h⟩ := He.ba h
  obtain ⟨h2, h⟩ := He.ba h
  obtain ⟨h3, h4⟩ := He.ba h
  have e1 : a = .none := noneV_ok h1
  have e2 : b = none := Option.isNone_iff_eq_none.mp h2
  have e3 : c = .fields #[] := emptyF_ok h3
  have e4 : d = #[] := by
    obtain ⟨l⟩ := d
    cases l with
    | nil => rfl
    | cons _ _ => cases h4
  rw [e1, e2, e3, e4]
/-- what of an object is followed: a def's code and cells, a class's names, a dict's values, a tuple's items, a record's fields -/
def isCode : Value → Bool
  | .type n => n == "code"
  | _ => false
def refsX (o : Obj) : List Addr := match o.data with
  | .func fd => He.refV fd.code ++ fd.closure.map (·.2)
  | .cls cd => [cd.ns]
  | .dict es _ => es.toList.flatMap fun e => He.refV e.val
  | .seq its _ => its.toList.flatMap He.refV
  | .fields vs => match isCode o.cls with
    | true => []
    | false => vs.toList.flatMap He.refV
  | _ => []
def lay (g : Addr → Option Obj) (as : List Addr) : List Addr := as.flatMap fun a => match g a with
  | some o => refsX o
  | none => []
def asX (g : Addr → Option Obj) : Nat → List Addr → List Addr
  | 0, _ => []
  | n + 1, as => as ++ asX g n (lay g as)
def fragM (n : Nat) (g : Addr → Option Obj) : PySem.W.Frag := He.frG g ((cStatics :: asX g n [mainGlobals]).filter fun a => match g a with
  | some o => !isTab o
  | none => false)
/-! ### defs -/
abbrev FnV : Type := Option (Str × Str × Arguments × FuncBody × Scope × Addr × Addr)
def fnV (K : PySem.W.Frag) (a : Addr) : FnV := match K.lookup a with
  | some ⟨_, _, .func fd, _⟩ => some (fd.name, fd.qualname, fd.params, fd.body, fd.scope, fd.globals, fd.builtins)
  | _ => none
abbrev fv (nm q : Str) (st : Stmt) : FnV := some (nm, q, defArgs st, .stmts (defBody st), defScope st, mainGlobals, builtinsNs)
def isN : Value → Bool
  | .none => true
  | _ => false
def plainB (K : PySem.W.Frag) (a : Addr) (q : Str) : Bool := PySem.W.keepIn K (.ref a) && (match K.lookup a with
  | some ⟨_, _, .func fd, _⟩ => PySem.W.codeIn K fd.code q && (fd.closure.isEmpty && isN fd.defaults)
  | _ => false)
theorem plain_ok {K : PySem.W.Frag} {a : Addr} {nm q : Str} {st : Stmt} (e : fnV K a = fv nm q st) (c : plainB K a q = true) :
    ∃ (oc : Value) (od : Option Addr) (kv dc pm : Value) (an : Option Addr) (cd ct : Value) (sl : Array (Option Value)),
      K.lookup a = some ⟨oc, od, .func (PySem.W.fnOf nm q (defArgs st) (defBody st) (defScope st) .none kv dc pm an cd ct), sl⟩ ∧ PySem.W.codeIn K cd q = true ∧ PySem.W.keepIn K (.ref a) = true := by
  obtain ⟨kp, c2⟩ := He.ba c
  unfold fnV at e
  cases hl : K.lookup a with
  | none => rw [hl] at c2; cases c2
  | some o =>
    obtain ⟨oc, od, dt, osl⟩ := o
    rw [hl] at c2 e
    cases dt with
    | func fd =>
      obtain ⟨n1, n2, n3, n4, n5, n6, n7, n8, n9, n10, n11, n12, n13, n14, n15⟩ := fd
      have e2 : (some (n1, n2, n3, n4, n5, n6, n15) : FnV) = fv nm q st := e
      simp only [fv, Option.some.injEq, Prod.mk.injEq] at e2
      obtain ⟨h1, h2, h3, h4, h5, h6, h7⟩ := e2
      subst h1 h2 h3 h4 h5 h6 h7
      have c3 : (PySem.W.codeIn K n13 n2 && (n7.isEmpty && isN n8)) = true := c2
      obtain ⟨k1, k2⟩ := He.ba c3
      obtain ⟨k3, k4⟩ := He.ba k2
      cases n7 with
      | cons _ _ => cases k3
      | nil =>
        cases n8 with
        | none => exact ⟨oc, od, n9, n10, n11, n12, n13, n14, osl, rfl, k1, kp⟩
        | _ => cases k4
    | _ => cases c2
theorem code_ref {K : PySem.W.Frag} {cd : Value} {q : Str} (h : PySem.W.codeIn K cd q = true) : ∃ c, cd = .ref c := by
  cases cd with
  | ref c => exact ⟨c, rfl⟩
  | _ => cases h
theorem lam_ok {K : PySem.W.Frag} {a : Addr} {nm q : Str} {st : Stmt} (e : fnV K a = fv nm q st) (c : plainB K a q = true) :
    ∃ (oc : Value) (od : Option Addr) (kv dc pm : Value) (an : Option Addr) (cd : Addr) (ct : Value) (sl : Array (Option Value)),
      K.lookup a = some ⟨oc, od, .func (PySem.W.fnOf nm q (defArgs st) (defBody st) (defScope st) .none kv dc pm an (.ref cd) ct), sl⟩ ∧ PySem.W.codeIn K (.ref cd) q = true ∧ PySem.W.keepIn K (.ref a) = true := by
  obtain ⟨oc, od, kv, dc, pm, an, cd, ct, sl, l, k, kp⟩ := plain_ok e c
  obtain ⟨c, rfl⟩ := code_ref k
  exact ⟨oc, od, kv, dc, pm, an, c, ct, sl, l, k, kp⟩
/-- a def over the cell of its class at D -/
def cellD : Data → Addr → Bool
  | .cell (some (.ref b)), D => decide (b = D)
  | _, _ => false
theorem cellD_ok {d : Data} {D : Addr} (h : cellD d D = true) : d = .cell (some (.ref D)) := by
  cases d with
  | cell v =>
    cases v with
    | none => cases h
    | some v =>
      cases v with
      | ref b => rw [show b = D from of_decide_eq_true h]
      | _ => cases h
  | _ => cases h
def cellB (K : PySem.W.Frag) (D cc : Addr) : Bool := match K.lookup cc with
  | some o => cellD o.data D
  | none => false
theorem cellB_ok {K : PySem.W.Frag} {D cc : Addr} (h : cellB K D cc = true) : ∃ o : Obj, K.lookup cc = some o ∧ o.data = .cell (some (.ref D)) := by
  unfold cellB at h
  cases e : K.lookup cc with
  | none => rw [e] at h; cases h
  | some o => rw [e] at h; exact ⟨o, rfl, cellD_ok h⟩
def closB (K : PySem.W.Frag) (D : Addr) : List (Str × Addr) → Bool
  | [p] => decide (p.1 = "__class__") && cellB K D p.2
  | _ => false
theorem closB_ok {K : PySem.W.Frag} {D : Addr} : ∀ {l : List (Str × Addr)}, closB K D l = true → ∃ cc, l = [(("__class__" : Str), cc)] ∧ cellB K D cc = true
  | [(x, cc)], h => by
    obtain ⟨h1, h2⟩ := He.ba h
    have h1 : x = "__class__" := of_decide_eq_true h1
    subst h1
    exact ⟨cc, rfl, h2⟩
  | [], h => by cases h
  | _ :: _ :: _, h => by cases h
def strIs (file : Str) : Option Value → Bool
  | some (.str f _) => file == f
  | _ => false
theorem strIs_ok {file : Str} {o : Option Value} (h : strIs file o = true) : ∃ f t, o = some (.str f t) ∧ (file == f) = true := by
  cases o with
  | none => cases h
  | some v =>
    cases v with
    | str f t => exact ⟨f, t, rfl, h⟩
    | _ => cases h
def fldIs (file : Str) : Data → Bool
  | .fields vs => strIs file vs[2]?
  | _ => false
theorem fldIs_ok {file : Str} {d : Data} (h : fldIs file d = true) : ∃ vs f t, d = .fields vs ∧ vs[2]? = some (.str f t) ∧ (file == f) = true := by
  cases d with
  | fields vs =>
    obtain ⟨f, t, h1, h2⟩ := strIs_ok h
    exact ⟨vs, f, t, rfl, h1, h2⟩
  | _ => cases h
def fileB (K : PySem.W.Frag) (file : Str) : Value → Bool
  | .ref c => (match K.lookup c with
    | some o => fldIs file o.data
    | none => false)
  | _ => false
theorem fileB_ok {K : PySem.W.Frag} {file : Str} {c : Addr} (h9 : fileB K file (.ref c) = true) : ∃ (fo : Obj) (vs : Array Value) (f : Str) (t : Tok), K.lookup c = some fo ∧ fo.data = .fields vs ∧ vs[2]? = some (.str f t) ∧ (file == f) = true := by
  have h : (match K.lookup c with
    | some o => fldIs file o.data
    | none => false) = true := h9
  cases e : K.lookup c with
  | none => rw [e] at h; cases h
  | some o =>
    rw [e] at h
    obtain ⟨vs, f, t, h1, h2, h3⟩ := fldIs_ok h
    exact ⟨o, vs, f, t, rfl, h1, h2, h3⟩
def supF (K : PySem.W.Frag) (file : Str) (D : Addr) (q : Str) (fd : FuncData) : Bool := PySem.W.codeIn K fd.code q && (isN fd.defaults && (closB K D fd.closure && fileB K file fd.code))
def supB (K : PySem.W.Frag) (file : Str) (D a : Addr) (q : Str) : Bool := match K.lookup a with
  | some ⟨_, _, .func fd, _⟩ => supF K file D q fd
  | _ => false
theorem sup_ok {K : PySem.W.Frag} {file : Str} {D a : Addr} {nm q : Str} {st : Stmt} (e : fnV K a = fv nm q st) (c : supB K file D a q = true) :
    ∃ (cc cda : Addr) (fo : Obj) (fv9 : Array Value) (ff : Str) (ft : Tok) (oc kv dc pm ct : Value) (od an : Option Addr) (sl : Array (Option Value)),
      K.lookup a = some ⟨oc, od, .func (PySem.W.ksFn nm q (defArgs st) (defBody st) (defScope st) .none kv dc pm an (.ref cda) ct cc), sl⟩ ∧ PySem.W.codeIn K (.ref cda) q = true ∧ K.lookup cda = some fo ∧ fo.data = .fields fv9 ∧ fv9[2]? = some (.str ff ft) ∧ (file == ff) = true ∧
      ∃ o : Obj, K.lookup cc = some o ∧ o.data = .cell (some (.ref D)) := by
  unfold fnV at e
  unfold supB at c
  cases hl : K.lookup a with
  | none => rw [hl] at c; cases c
  | some o =>
    obtain ⟨oc, od, dt, osl⟩ := o
    rw [hl] at c e
    cases dt with
    | func fd =>
      obtain ⟨n1, n2, n3, n4, n5, n6, n7, n8, n9, n10, n11, n12, n13, n14, n15⟩ := fd
      have e2 : (some (n1, n2, n3, n4, n5, n6, n15) : FnV) = fv nm q st := e
      simp only [fv, Option.some.injEq, Prod.mk.injEq] at e2
      obtain ⟨h1, h2, h3, h4, h5, h6, h7⟩ := e2
      subst h1 h2 h3 h4 h5 h6 h7
      obtain ⟨k1, c1⟩ := He.ba (show (PySem.W.codeIn K n13 n2 && (isN n8 && (closB K D n7 && fileB K file n13))) = true from c)
      obtain ⟨k2, c2⟩ := He.ba c1
      obtain ⟨k3, k4⟩ := He.ba c2
      clear c c1 c2 e
      obtain ⟨cda, rfl⟩ := code_ref k1
      obtain ⟨cc, rfl, k5⟩ := closB_ok k3
      obtain ⟨fo, vs, f, t, f1, f2, f3, f4⟩ := fileB_ok k4
      have e8 : n8 = .none := by cases n8 <;> first | rfl | cases k2
      subst e8
      exact ⟨cc, cda, fo, vs, f, t, oc, n9, n10, n11, n14, od, n12, osl, rfl, k1, f1, f2, f3, f4, cellB_ok k5⟩
    | _ => cases c
/-! ### other things of the module -/
def strB (K : PySem.W.Frag) (x z : Str) : Bool := match PySem.W.nsIn K mainGlobals x with
  | some (some (.str y _)) => decide (y = z)
  | _ => false
theorem strB_ok {K : PySem.W.Frag} {x z : Str} (c : strB K x z = true) : ∃ t, PySem.W.nsIn K mainGlobals x = some (some (.str z t)) := by
  unfold strB at c
  split at c
  · rename_i y t e
    rw [of_decide_eq_true c] at e
    exact ⟨t, e⟩
  · cases c
def intB (K : PySem.W.Frag) (x : Str) (i : Int) : Bool := match PySem.W.nsIn K mainGlobals x with
  | some (some (.int j _)) => decide (j = i)
  | _ => false
theorem intB_ok {K : PySem.W.Frag} {x : Str} {i : Int} (c : intB K x i = true) : ∃ t, PySem.W.nsIn K mainGlobals x = some (some (.int i t)) := by
  unfold intB at c
  split at c
  · rename_i y t e
    rw [of_decide_eq_true c] at e
    exact ⟨t, e⟩
  · cases c
def tupB (K : PySem.W.Frag) (a : Addr) (ss : List Str) : Bool := match K.lookup a with
  | some ⟨.type c, _, .seq vs _, _⟩ => decide (c = "tuple") && (strsB vs.toList ss && decide (vs.size ≤ 1000))
  | _ => false
theorem tupB_ok {K : PySem.W.Frag} {a : Addr} {ss : List Str} (c : tupB K a ss = true) : ∃ (td : Option Addr) (vs : Array Value) (n : Nat) (ts : Array (Option Value)), K.lookup a = some ⟨.type "tuple", td, .seq vs n, ts⟩ ∧ (strsB vs.toList ss && decide (vs.size ≤ 1000)) = true := by
  unfold tupB at c
  split at c
  · rename_i cc od vs n sl e
    obtain ⟨c1, c2⟩ := He.ba c
    rw [of_decide_eq_true c1] at e
    exact ⟨od, vs, n, sl, e, c2⟩
  · cases c
/-- the value at i of a dict's entries, if it is an object -/
def entA (K : PySem.W.Frag) (a : Addr) (i : Nat) : Addr := match K.lookup a with
  | some ⟨_, _, .dict es _, _⟩ => (match es.toList[i]? with
    | some ⟨_, _, .ref p⟩ => p
    | _ => 0)
  | _ => 0
def entsB (K : PySem.W.Frag) : List DictEntry → List Str → List Addr → Bool
  | [], [], [] => true
  | ⟨_, .str z _, .ref p⟩ :: r, s :: ss, q :: qs => decide (z = s) && (decide (p = q) && entsB K r ss qs)
  | _, _, _ => false
def hashes : List DictEntry → List Int := List.map (·.hash)
def dctH (K : PySem.W.Frag) (a : Addr) : List Int := match K.lookup a with
  | some ⟨_, _, .dict es _, _⟩ => hashes es.toList
  | _ => []
def dctB (K : PySem.W.Frag) (a : Addr) (ss : List Str) (ps : List Addr) : Bool := match K.lookup a with
  | some ⟨.type c, none, .dict es _, sl⟩ => decide (c = "dict") && (sl.toList.isEmpty && entsB K es.toList ss ps)
  | _ => false
inductive Ents (P : Params) : List DictEntry → List Str → List Addr → Prop where
  | nil : Ents P [] [] []
  | cons {t : Tok} {s : Str} {p : Addr} {es : List DictEntry} {ss : List Str} {ps : List Addr} : Ents P es ss ps → Ents P (⟨PyData.keyHash P s, .str s t, .ref p⟩ :: es) (s :: ss) (p :: ps)
theorem ents_of {K : PySem.W.Frag} {P : Params} : ∀ {es : List DictEntry} {ss : List Str} {ps : List Addr}, entsB K es ss ps = true → hashes es = ss.map (PyData.keyHash P) → Ents P es ss ps
  | [], [], [], _, _ => .nil
  | ⟨h, .str z t, .ref p⟩ :: r, s :: ss, q :: qs, c, e => by
    obtain ⟨c1, c2⟩ := He.ba (show (decide (z = s) && (decide (p = q) && entsB K r ss qs)) = true from c)
    obtain ⟨c3, c4⟩ := He.ba c2
    have c1 := of_decide_eq_true c1
    have c3 := of_decide_eq_true c3
    subst c1 c3
    have e : h :: hashes r = PyData.keyHash P z :: ss.map (PyData.keyHash P) := e
    injection e with e1 e2
    subst e1
    exact .cons (ents_of c4 e2)
  | [], [], _ :: _, c, _ => by cases c
  | [], _ :: _, _, c, _ => by cases c
  | ⟨_, k, v⟩ :: _, [], _, c, _ => by cases k <;> cases v <;> cases c
  | ⟨_, k, v⟩ :: _, _ :: _, [], c, _ => by cases k <;> cases v <;> cases c
theorem dctB_ok {K : PySem.W.Frag} {P : Params} {a : Addr} {ss : List Str} {ps : List Addr} (c : dctB K a ss ps = true) (e : dctH K a = ss.map (PyData.keyHash P)) :
    ∃ (es : List DictEntry) (n : Nat), K.lookup a = some ⟨.type "dict", none, .dict es.toArray n, #[]⟩ ∧ Ents P es ss ps := by
  unfold dctB at c
  unfold dctH at e
  split at c
  · rename_i cc es n sl l
    rw [l] at e
    obtain ⟨c1, c2⟩ := He.ba c
    obtain ⟨c3, c4⟩ := He.ba c2
    have c1 := of_decide_eq_true c1
    subst c1
    obtain ⟨sl⟩ := sl
    cases sl with
    | nil =>
      obtain ⟨es⟩ := es
      exact ⟨es, n, l, ents_of c4 e⟩
    | cons _ _ => cases c3
  · cases c
def pairL (i : Int) (f : Addr) : List Value → Bool
  | [.int j _, .ref g] => decide (j = i) && decide (g = f)
  | _ => false
theorem pairL_ok {i : Int} {f : Addr} : ∀ {l : List Value}, pairL i f l = true → ∃ t, l = [.int i t, .ref f]
  | [a, b], h => by
    cases a with
    | int j t =>
      cases b with
      | ref g =>
        obtain ⟨h1, h2⟩ := He.ba (show (decide (j = i) && decide (g = f)) = true from h)
        exact ⟨t, by rw [of_decide_eq_true h1, of_decide_eq_true h2]⟩
      | _ => cases h
    | _ => cases b <;> cases h
  | [], h => by cases h
  | [a], h => by cases a <;> cases h
  | a :: b :: _ :: _, h => by cases a <;> cases b <;> cases h
def pairB (K : PySem.W.Frag) (p : Addr) (i : Int) (f : Addr) : Bool := match K.lookup p with
  | some ⟨.type c, _, .seq vs _, _⟩ => decide (c = "tuple") && pairL i f vs.toList
  | _ => false
theorem pairB_ok {K : PySem.W.Frag} {p : Addr} {i : Int} {f : Addr} (c : pairB K p i f = true) : ∃ (kd : Option Addr) (k2 : Tok) (km : Nat) (ks : Array (Option Value)), K.lookup p = some ⟨.type "tuple", kd, .seq #[.int i k2, .ref f] km, ks⟩ := by
  unfold pairB at c
  split at c
  · rename_i cc od vs n sl l
    obtain ⟨c1, c2⟩ := He.ba c
    obtain ⟨t, e⟩ := pairL_ok c2
    obtain ⟨vl⟩ := vs
    have e : vl = [.int i t, .ref f] := e
    subst e
    rw [of_decide_eq_true c1] at l
    exact ⟨od, t, n, sl, l⟩
  · cases c
/-! ### the hook -/
structure Dat where
  n : Nat
  fns : PySem.W.Frag → List Addr
  vals : List FnV
  chk : PySem.W.Frag → List Bool
  hs : PySem.W.Frag → List Int
  ks : List Str
  tabs : PySem.W.Frag → List Addr
abbrev Al : Type := Bool × List FnV × List Int
def obsK (d : Dat) (g : Addr → Option Obj) (K : PySem.W.Frag) : Al := ((d.chk K).all id && (d.tabs K).all fun P => (match g P with
  | some o => isTab o
  | none => false) && (K.lookup P).isNone, (d.fns K).map (fnV K), d.hs K)
def obsM (d : Dat) (g : Addr → Option Obj) : Al := obsK d g (fragM d.n g)
def Says (d : Dat) (P : Params) (h : Heap) : Prop := ∃ K : PySem.W.Frag, K.In h ∧ (d.chk K).all id = true ∧ (d.fns K).map (fnV K) = d.vals ∧ d.hs K = d.ks.map (PyData.keyHash P) ∧ ∀ T ∈ d.tabs K, h.get? T = some (PySem.W.tabObj #[]) ∧ K.lookup T = none
def hookM (d : Dat) : PySem.W.Hook where
  α := Al
  obs := fun s => obsM d s.heap.get?
  val := fun w => (true, d.vals, d.ks.map (PyData.keyHash w.params))
  says := fun w h => Says d w.params h
  of := fun w s e => by
    have e : obsK d s.heap.get? (fragM d.n s.heap.get?) = (true, d.vals, d.ks.map (PyData.keyHash w.params)) := e
    unfold obsK at e
    simp only [Prod.mk.injEq] at e
    obtain ⟨e1, e2, e3⟩ := e
    obtain ⟨c1, c2⟩ := He.ba e1
    refine ⟨_, He.frG_in, c1, e2, e3, fun T hT => ?_⟩
    obtain ⟨c3, c4⟩ := He.ba (List.all_eq_true.mp c2 T hT)
    refine ⟨?_, Option.isNone_iff_eq_none.mp c4⟩
    cases hg : s.heap.get? T with
    | none => rw [hg] at c3; cases c3
    | some o => rw [hg] at c3; exact congrArg some (isTab_ok c3)
  keeps := fun w h h' ⟨K, k1, c, f, e, t⟩ k => ⟨K, PySem.W.Frag.In.keeps k1 k, c, f, e, fun T hT => ⟨k _ _ (t T hT).1, (t T hT).2⟩⟩
def obT (d : Dat) (s : PySem.W.SharedT) : Al := obsM d (HandSHeadRun.getT s)
theorem obT_eq (d : Dat) (s : PySem.W.SharedT) : obT d s = (hookM d).obs s.abs := by
  have e : HandSHeadRun.getT s = s.abs.heap.get? := funext (HandSHeadRun.getT_eq s)
  show obsM d (HandSHeadRun.getT s) = obsM d s.abs.heap.get?
  rw [e]
/-! ### the facts by their places -/
theorem bit {l : List Bool} (c : l.all id = true) (i : Nat) {b : Bool} (h : l[i]? = some b) : b = true := List.all_eq_true.mp c b (List.mem_of_getElem? h)
theorem dec {l : List Bool} (c : l.all id = true) (i : Nat) {p : Prop} {_ : Decidable p} (h : l[i]? = some (decide p)) : p := of_decide_eq_true (bit c i h)
theorem fnv_at {K : PySem.W.Frag} {as : List Addr} {vs : List FnV} (e : as.map (fnV K) = vs) (i : Nat) {a : Addr} {v : FnV} (h : as[i]? = some a) (h2 : vs[i]? = some v) : fnV K a = v := by
  have z : (as.map (fnV K))[i]? = vs[i]? := by rw [e]
  rw [List.getElem?_map, h, h2] at z
  exact Option.some.inj z
theorem allT {K : PySem.W.Frag} {v : Value} {cs : List String} {f : String → Value} (h : (cs.all fun c => decide (PySem.W.kitOne K v (f c) = some false)) = true) (c : String) (hc : c ∈ cs) : PySem.W.kitOne K v (f c) = some false := of_decide_eq_true (List.all_eq_true.mp h c hc)
theorem allS {K : PySem.W.Frag} {v : Value} {cs : List String} {f : String → Value} (h : (cs.all fun c => decide (PySem.W.kitOne K (f c) v = some false)) = true) (c : String) (hc : c ∈ cs) : PySem.W.kitOne K (f c) v = some false := of_decide_eq_true (List.all_eq_true.mp h c hc)
end Hk

set_option maxHeartbeats 400000
/-! lambda makers, records; a law's end over the hook -/
namespace Hk
open PySem PySem.Spec PyProof.Rows L2 MR
def tabC (K : PySem.W.Frag) (x : Str) : Addr := match codeTab K x with
  | some p => p.1
  | none => 0
def tabP (K : PySem.W.Frag) (x : Str) : Addr := match codeTab K x with
  | some p => p.2
  | none => 0
/-- the first field of a record (property, classmethod) -/
def recA (K : PySem.W.Frag) (a : Addr) (T : String) : Addr := match PySem.W.recIn K a T with
  | some (.ref g :: _) => g
  | _ => 0
def recB (K : PySem.W.Frag) (a : Addr) (T : String) : Bool := match PySem.W.recIn K a T with
  | some (.ref _ :: _) => true
  | _ => false
theorem recB_ok {K : PySem.W.Frag} {a : Addr} {T : String} (h : recB K a T = true) : ∃ rest, PySem.W.recIn K a T = some (.ref (recA K a T) :: rest) := by
  unfold recB at h
  unfold recA
  split at h
  · rename_i g r e
    exact ⟨r, by rw [e]⟩
  · cases h
theorem code_tab {K : PySem.W.Frag} {x : Str} {a : Addr} {oc : Value} {od : Option Addr} {sl : Array (Option Value)} {fd : FuncData} {cd : Addr} (hx : PySem.W.nsIn K mainGlobals x = some (some (.ref a))) (l : K.lookup a = some ⟨oc, od, .func fd, sl⟩) (hc : fd.code = .ref cd)
    (h : (codeTab K x).isSome = true) : tabC K x = cd ∧ ∃ (to : Obj) (tv : Array Value), K.lookup cd = some to ∧ to.data = .fields tv ∧ tv[11]? = some (.ref (tabP K x)) := by
  obtain ⟨p, hp⟩ := Option.isSome_iff_exists.mp h
  have eC : tabC K x = p.1 := by unfold tabC; rw [hp]
  have eP : tabP K x = p.2 := by unfold tabP; rw [hp]
  unfold codeTab at hp
  rw [hx] at hp
  simp only [l, hc] at hp
  split at hp
  · rename_i vs _ lv
    split at hp
    · rename_i P lp
      cases hp
      exact ⟨eC, _, vs, lv, rfl, by rw [eP]; exact lp⟩
    · cases hp
  · cases hp
theorem lam_ok2 {K : PySem.W.Frag} {a : Addr} {x nm q : Str} {st : Stmt} (hx : PySem.W.nsIn K mainGlobals x = some (some (.ref a))) (e : fnV K a = fv nm q st) (c : plainB K a q = true) (h : (codeTab K x).isSome = true) :
    ∃ (oc : Value) (od : Option Addr) (kv dc pm : Value) (an : Option Addr) (ct : Value) (sl : Array (Option Value)) (to : Obj) (tv : Array Value),
      K.lookup a = some ⟨oc, od, .func (PySem.W.fnOf nm q (defArgs st) (defBody st) (defScope st) .none kv dc pm an (.ref (tabC K x)) ct), sl⟩ ∧ PySem.W.codeIn K (.ref (tabC K x)) q = true ∧ PySem.W.keepIn K (.ref a) = true ∧
      K.lookup (tabC K x) = some to ∧ to.data = .fields tv ∧ tv[11]? = some (.ref (tabP K x)) := by
  obtain ⟨oc, od, kv, dc, pm, an, cd, ct, sl, l, k, kp⟩ := lam_ok e c
  obtain ⟨e2, to, tv, t1, t2, t3⟩ := code_tab hx l rfl h
  subst e2
  exact ⟨oc, od, kv, dc, pm, an, ct, sl, to, tv, l, k, kp, t1, t2, t3⟩
theorem walk_ofHE {l : PySem.W.OpenLaw} {n k : Nat} {q : Program} {loose : List Str} {XP : (Str → Option Value) → Heap → Prop} {YP : World → Heap → Prop} {d : PySem.DefRec} {x : Str}
    (hn : l.most = some n) (hn2 : n ≤ sizeLine) (hdf : d.params.defaults = []) (room : Room k callerA) (him : importsNone q = true)
    (F : ∀ (w : World) (mg : Str → Option Value) (fa : Addr) (h : Heap), YP w h → h.Ns mainGlobals mg → mg d.name = some (.ref fa) →
      ∃ (K : PySem.W.Frag) (cs : List (Addr × Addr)) (fd : FuncData) (sp : Sp), K.In h ∧ (∀ c ∈ cs, PySem.W.CodeHd h c.1 c.2 ∧ h.get? c.2 = some { cls := .none, data := .fields #[] }) ∧ (∀ c ∈ cs, K.lookup c.2 = none) ∧
        (∀ (s : Shared) (u : Value), BindsTo s fd ⟨[u], []⟩ [(x, u)]) ∧ (∀ base : Heap, K.In base → base.Ns mainGlobals mg → (∀ p ∈ cs, LamX.TabB base mg p.1 p.2) → (∃ o, base.get? sysModules = some o) → FnG l.prog w K mg base k fa fd [x] sp) ∧
        ∀ (H : Hp) (a : Addr) (ns : List Int), ns.length ≤ n → (∀ p ∈ cs, H p.2 = some (.tbl #[])) → SqL K H a (ns.map V.int) → sp [.ref a] H (fun v _ => v = .bl true) fun _ _ _ => False) :
    PySem.W.WalkO q loose XP YP l.row.toRowW d [] (fun f vs => PySem.call f vs) :=
  Att.attach_call hn hdf fun w s0 s1 mg mb fa o pm cd doc a vs ns G Y ho hd hcd hmg hobj hints hlen hg => by
    obtain ⟨K, cs, fd, sp, X, tt, nT, bind, FF, hsp⟩ := F w mg fa _ Y G.T.g hmg
    exact law_callTG X G.T.g G.T.b G.T.builtins G.T.nolimit (let ⟨mm, h1, _⟩ := (G.T.seer him).mods; ⟨mm, h1⟩) hg (fun p hp => (tt p hp).2) nT (fun p hp => (tt p hp).1) G.T.bmain hobj hints (Nat.le_trans hlen hn2) room FF bind fun H hO hS => hsp H a ns hlen hO hS
end Hk

/-! printed by gen3.py: the defs of the text, mirrored -/
namespace K86
open PySem L2 MR
section
def top (i : Nat) : Stmt := PySem.Challenge.pw_openlimit_k86_texts_refused.main.body.getD i (.Pass ⟨0, 0, 0, 0⟩)
def cls (i j : Nat) : Stmt := match top i with
  | .ClassDef _ _ _ body .. => body.getD j (.Pass ⟨0, 0, 0, 0⟩)
  | s => s
abbrev s_is_sign : Stmt := top 19
abbrev LV_is_sign : Nat := 1
abbrev s_is_alphabet : Stmt := top 20
abbrev LV_is_alphabet : Nat := 2
abbrev s_is_integer : Stmt := top 18
abbrev LV_is_integer : Nat := 1
abbrev s_is_letter : Stmt := top 21
abbrev LV_is_letter : Nat := 2
abbrev s_is_recipe_row : Stmt := top 53
abbrev LV_is_recipe_row : Nat := 3
abbrev s_is_recipe_in : Stmt := top 54
abbrev LV_is_recipe_in : Nat := 4
abbrev s_signs_in : Stmt := top 71
abbrev LV_signs_in : Nat := 2
abbrev s_rows_text : Stmt := top 72
abbrev LV_rows_text : Nat := 1
abbrev s_recipe_text : Stmt := top 73
abbrev LV_recipe_text : Nat := 5
abbrev s__law_stream : Stmt := top 92
abbrev LV__law_stream : Nat := 1
abbrev s__law_error : Stmt := top 96
abbrev LV__law_error : Nat := 1
abbrev s_are_ascending : Stmt := top 22
abbrev LV_are_ascending : Nat := 1
abbrev s_are_states : Stmt := top 23
abbrev LV_are_states : Nat := 2
abbrev s_is_step : Stmt := top 24
abbrev LV_is_step : Nat := 3
abbrev s_is_machine : Stmt := top 25
abbrev LV_is_machine : Nat := 4
abbrev s_require_machine : Stmt := top 26
abbrev LV_require_machine : Nat := 5
abbrev s_numbers_text : Stmt := top 64
abbrev LV_numbers_text : Nat := 1
abbrev s_step_text : Stmt := top 65
abbrev LV_step_text : Nat := 1
abbrev s_machine_text : Stmt := top 66
abbrev LV_machine_text : Nat := 6
abbrev s_lines_of : Stmt := top 67
abbrev LV_lines_of : Nat := 1
abbrev s_number_of : Stmt := top 62
abbrev LV_number_of : Nat := 1
abbrev s_parsed_step : Stmt := top 68
abbrev LV_parsed_step : Nat := 2
abbrev s_numbers_of : Stmt := top 63
abbrev LV_numbers_of : Nat := 2
abbrev s_parsed_head : Stmt := top 69
abbrev LV_parsed_head : Nat := 3
abbrev s_parse_machine : Stmt := top 70
abbrev LV_parse_machine : Nat := 7
abbrev s_parsed_row : Stmt := top 74
abbrev LV_parsed_row : Nat := 2
abbrev s_parse_recipe : Stmt := top 75
abbrev LV_parse_recipe : Nat := 5
abbrev s_is_pattern : Stmt := top 41
abbrev LV_is_pattern : Nat := 1
abbrev s_is_name : Stmt := top 76
abbrev LV_is_name : Nat := 2
abbrev s_set_words : Stmt := top 80
abbrev LV_set_words : Nat := 3
abbrev s_name_words : Stmt := top 81
abbrev LV_name_words : Nat := 3
abbrev s_is_rule : Stmt := top 77
abbrev LV_is_rule : Nat := 1
abbrev s_is_path : Stmt := top 78
abbrev LV_is_path : Nat := 2
abbrev s_rewrite_words : Stmt := top 82
abbrev LV_rewrite_words : Nat := 3
abbrev s_is_cap : Stmt := top 79
abbrev LV_is_cap : Nat := 2
abbrev s_promise_words : Stmt := top 83
abbrev LV_promise_words : Nat := 3
abbrev s_drop_words : Stmt := top 84
abbrev LV_drop_words : Nat := 2
abbrev s_edit_words : Stmt := top 86
abbrev LV_edit_words : Nat := 4
abbrev s_edit_text : Stmt := top 87
abbrev LV_edit_text : Nat := 5
abbrev s_parsed_parts : Stmt := top 88
abbrev LV_parsed_parts : Nat := 3
abbrev s_parsed_edit : Stmt := top 89
abbrev LV_parsed_edit : Nat := 4
abbrev s_parse_edit : Stmt := top 90
abbrev LV_parse_edit : Nat := 5
abbrev s__law_draw : Stmt := top 93
abbrev LV__law_draw : Nat := 1
abbrev s__law_pick : Stmt := top 94
abbrev LV__law_pick : Nat := 2
abbrev s__law_other : Stmt := top 95
abbrev LV__law_other : Nat := 2
abbrev s_require_pattern : Stmt := top 40
abbrev LV_require_pattern : Nat := 1
abbrev s_Pattern_check : Stmt := cls 33 1
abbrev LV_Pattern_check : Nat := 1
abbrev s_Pattern___init__ : Stmt := cls 33 0
abbrev LV_Pattern___init__ : Nat := 2
abbrev s_Letter___init__ : Stmt := cls 34 0
abbrev LV_Letter___init__ : Nat := 3
abbrev s__law_no_edit : Stmt := top 97
abbrev LV__law_no_edit : Nat := 5
abbrev s__law_right : Stmt := top 98
abbrev LV__law_right : Nat := 10
abbrev s_law : Stmt := top 99
abbrev LV_law : Nat := 13
abbrev LM_check : Nat := 1
def sub_LimitError (c : Str) : Option Bool := if c = "LimitError" then some true else if c = "InvalidMachine" then some true else if c = "InvalidRecipe" then some true else if c = "InvalidPattern" then some true else if c = "InvalidOperation" then some true else if c = "ParseError" then some true else none
def is_InvalidMachine (c : Str) : Option Bool := if c = "LimitError" then some false else if c = "InvalidMachine" then some true else if c = "InvalidRecipe" then some false else if c = "InvalidPattern" then some false else if c = "InvalidOperation" then some false else if c = "ParseError" then some false else none
def is_InvalidOperation (c : Str) : Option Bool := if c = "LimitError" then some false else if c = "InvalidMachine" then some false else if c = "InvalidRecipe" then some false else if c = "InvalidPattern" then some false else if c = "InvalidOperation" then some true else if c = "ParseError" then some false else none
def is_InvalidRecipe (c : Str) : Option Bool := if c = "LimitError" then some false else if c = "InvalidMachine" then some false else if c = "InvalidRecipe" then some true else if c = "InvalidPattern" then some false else if c = "InvalidOperation" then some false else if c = "ParseError" then some false else none
def is_ParseError (c : Str) : Option Bool := if c = "LimitError" then some false else if c = "InvalidMachine" then some false else if c = "InvalidRecipe" then some false else if c = "InvalidPattern" then some false else if c = "InvalidOperation" then some false else if c = "ParseError" then some true else none
def isConc (c : Str) : Bool := c = "Letter"
abbrev isOwn : Str → Bool := isConc
def isYs (c : Str) : Bool := c = "Pattern"
def isSub (y d : Str) : Option Bool := if y = "Pattern" ∧ d = "Letter" then some true else none
def kd_KINDS : List (Str × MV) := [("set", (.tup [(.int 2), (.gl "set_words")])), ("remove", (.tup [(.int 1), (.gl "name_words")])), ("rename", (.tup [(.int 2), (.gl "name_words")])), ("rewrite", (.tup [(.int 4), (.gl "rewrite_words")])), ("promise", (.tup [(.int 4), (.gl "promise_words")])), ("drop", (.tup [(.int 1), (.gl "drop_words")]))]
/-- what is written of the module -/
structure TxtP (K : PySem.W.Frag) (mg : Str → Option Value) : Prop where
  n_abs : mg "abs" = none
  n_all : mg "all" = none
  n_any : mg "any" = none
  n_bool : mg "bool" = none
  n_enumerate : mg "enumerate" = none
  n_int : mg "int" = none
  n_isinstance : mg "isinstance" = none
  n_len : mg "len" = none
  n_max : mg "max" = none
  n_min : mg "min" = none
  n_range : mg "range" = none
  n_repr : mg "repr" = none
  n_set : mg "set" = none
  n_sorted : mg "sorted" = none
  n_str : mg "str" = none
  n_sum : mg "sum" = none
  n_tuple : mg "tuple" = none
  n_zip : mg "zip" = none
  c_BACK : ∃ u, mg "BACK" = some u ∧ RelV (.str "back") u
  c_DIGITS : ∃ u, mg "DIGITS" = some u ∧ RelV (.str "0123456789") u
  c_LETTER : ∃ u, mg "LETTER" = some u ∧ RelV (.str "letter") u
  c_LETTERS : ∃ u, mg "LETTERS" = some u ∧ RelV (.str "abcdefghijklmnopqrstuvwxyz") u
  c_MAX_COST : ∃ u, mg "MAX_COST" = some u ∧ RelV (.int 3) u
  c_MAX_DEPTH : ∃ u, mg "MAX_DEPTH" = some u ∧ RelV (.int 10) u
  c_MAX_DIGITS : ∃ u, mg "MAX_DIGITS" = some u ∧ RelV (.int 6) u
  c_MAX_LETTERS : ∃ u, mg "MAX_LETTERS" = some u ∧ RelV (.int 4) u
  c_MAX_NAME : ∃ u, mg "MAX_NAME" = some u ∧ RelV (.int 8) u
  c_MAX_NODES : ∃ u, mg "MAX_NODES" = some u ∧ RelV (.int 40) u
  c_MAX_PLACES : ∃ u, mg "MAX_PLACES" = some u ∧ RelV (.int 7) u
  c_MAX_ROWS : ∃ u, mg "MAX_ROWS" = some u ∧ RelV (.int 400) u
  c_MAX_STATES : ∃ u, mg "MAX_STATES" = some u ∧ RelV (.int 8) u
  c_MAX_STEPS : ∃ u, mg "MAX_STEPS" = some u ∧ RelV (.int 60) u
  c_MOST_CAP : ∃ u, mg "MOST_CAP" = some u ∧ RelV (.int 30) u
  c_MOST_INDEX : ∃ u, mg "MOST_INDEX" = some u ∧ RelV (.int 99) u
  c_NOTHING : ∃ u, mg "NOTHING" = some u ∧ RelV (.str "-") u
  c_PUMP : ∃ u, mg "PUMP" = some u ∧ RelV (.str "pump") u
  c_SIGNS : ∃ u, mg "SIGNS" = some u ∧ RelV (.str "abcdefghijklmnopqrstuvwxyz") u
  c_THEN : ∃ u, mg "THEN" = some u ∧ RelV (.str "then") u
  g_Pattern : ∃ C, mg "Pattern" = some (.ref C)
  x_LimitError : ∃ C, ExF K mg "LimitError" C [.type "ValueError", .type "Exception", .type "BaseException", .type "object"] "ValueError.__new__"
  x_InvalidMachine : ∃ C, ExF K mg "InvalidMachine" C [.type "ValueError", .type "Exception", .type "BaseException", .type "object"] "ValueError.__new__"
  x_InvalidRecipe : ∃ C, ExF K mg "InvalidRecipe" C [.type "ValueError", .type "Exception", .type "BaseException", .type "object"] "ValueError.__new__"
  x_InvalidPattern : ∃ C, ExF K mg "InvalidPattern" C [.type "ValueError", .type "Exception", .type "BaseException", .type "object"] "ValueError.__new__"
  x_InvalidOperation : ∃ C, ExF K mg "InvalidOperation" C [.type "ValueError", .type "Exception", .type "BaseException", .type "object"] "ValueError.__new__"
  x_ParseError : ∃ C, ExF K mg "ParseError" C [.type "ValueError", .type "Exception", .type "BaseException", .type "object"] "ValueError.__new__"
  sub_LimitError : ∀ {Cx : Addr}, mg "LimitError" = some (.ref Cx) → ∀ c b C, sub_LimitError c = some b → mg c = some (.ref C) → PySem.W.exmOne K (.ref C) (.ref Cx) = some b
  is_InvalidMachine : ∀ {Y : Addr}, mg "InvalidMachine" = some (.ref Y) → ∀ c b C, is_InvalidMachine c = some b → mg c = some (.ref C) → ExcC K C ∧ PySem.W.kitOne K (.ref C) (.ref Y) = some b
  is_InvalidOperation : ∀ {Y : Addr}, mg "InvalidOperation" = some (.ref Y) → ∀ c b C, is_InvalidOperation c = some b → mg c = some (.ref C) → ExcC K C ∧ PySem.W.kitOne K (.ref C) (.ref Y) = some b
  is_InvalidRecipe : ∀ {Y : Addr}, mg "InvalidRecipe" = some (.ref Y) → ∀ c b C, is_InvalidRecipe c = some b → mg c = some (.ref C) → ExcC K C ∧ PySem.W.kitOne K (.ref C) (.ref Y) = some b
  is_ParseError : ∀ {Y : Addr}, mg "ParseError" = some (.ref Y) → ∀ c b C, is_ParseError c = some b → mg c = some (.ref C) → ExcC K C ∧ PySem.W.kitOne K (.ref C) (.ref Y) = some b
  fld_own_letters : FldT K mg isConc "own_letters"
  fld_own_levels : FldT K mg isConc "own_levels"
  fld_own_nodes : FldT K mg isConc "own_nodes"
  fld_own_open : FldT K mg isConc "own_open"
  fld_own_pieces : FldT K mg isConc "own_pieces"
  fld_own_places : FldT K mg isConc "own_places"
  fld_own_text : FldT K mg isConc "own_text"
  isT : IsT K mg isOwn isSub isYs
structure Txt2 [Tb] (P : Program) (w : World) (K : PySem.W.Frag) (mg : Str → Option Value) : Prop where
  c_EXACT : ∃ u v, mg "EXACT" = some u ∧ RelV v u ∧ ∀ A H, Rep ⟨K, mg, P, w, Tb.T, Tb.j, Tb.cs⟩ A H v (.tup [(.str "dropfirst"), (.str "droplast"), (.str "emptylimit"), (.str "limitempty"), (.str "nolimit"), (.str "nostar"), (.str "once"), (.str "regroup"), (.str "rejoin"), (.str "spread"), (.str "spreadlast"), (.str "starboth"), (.str "starempty"), (.str "stars"), (.str "turn"), (.str "unfold")])
  c_ROUGH : ∃ u v, mg "ROUGH" = some u ∧ RelV v u ∧ ∀ A H, Rep ⟨K, mg, P, w, Tb.T, Tb.j, Tb.cs⟩ A H v (.tup [(.str "absorb"), (.str "double"), (.str "loosen"), (.str "pairs")])
  k_KINDS : KDc P w K mg "KINDS" kd_KINDS
  one : True
variable [Tb]
section
variable {P : Program} {w : World} {K : PySem.W.Frag} {mg : Str → Option Value} {base : Heap} {f : Addr} {fd : FuncData}
/-! is_sign -/
def b_is_sign : MS := (sRet (mAnd (mCall (gIsK isOwn isSub isYs) (aCons (mVar 0) (aCons (mC (.ty "str")) aNil))) (mAnd (m2 gEq (mCall gLen (aCons (mVar 0) aNil)) (mC (.int 1))) (m2 gIn (mVar 0) (mC (.str "abcdefghijklmnopqrstuvwxyz"))))))
def f_is_sign : FM := defM 1 b_is_sign
theorem ok_is_sign (nc : Tb.cs = none) (nj : Tb.j = JP.no) (T : TxtP K mg) (T2 : Txt2 P w K mg) (F : Fun K "is_sign" "is_sign" s_is_sign f fd) (hx : mg "is_sign" = some (.ref f)) (hb : Binds K fd ["value"] []) : FnM P w K mg base LV_is_sign "is_sign" 1 f_is_sign := by
  obtain ⟨u_SIGNS, g_SIGNS, r_SIGNS⟩ := T.c_SIGNS
  exact fn_mirror nc (N := ["value"]) (ps := ["value"]) (k := 0) F ⟨rfl, rfl, rfl, by decide +kernel, rfl, by decide +kernel, by decide +kernel⟩ hx hb fun cdv A outer s H E gd hr tk => by
    have nd : (["value"] : List Str).Nodup := by decide +kernel
    have lt := lets_of tk
    exact (pms_one (pms_ret (pm_and (pm_callB call_isAll (oIsK T.isT) T.n_isinstance (by decide +kernel) (pma_cons (pm_var 0) (pma_cons (pm_ty T.n_str (by decide +kernel)) pma_nil))) (pm_and (pm_cmp (op_eqD hr.units) o2Eq (pm_callB call_len oLen T.n_len (by decide +kernel) (pma_cons (pm_var 0) pma_nil)) pm_int) (pm_one (pm_cmp opIn o2In (pm_var 0) (pm_glob g_SIGNS r_SIGNS (fun _ _ => .str _))))))))
/-! is_alphabet -/
def b_is_alphabet : MS := (sSeq (sIf (mOrT (mNotT (mB (mCall (gIsK isOwn isSub isYs) (aCons (mVar 0) (aCons (mC (.ty "str")) aNil))))) (mOrT (mNotT (mB (mChain gLe gLe (mC (.int 1)) (mCall gLen (aCons (mVar 0) aNil)) (mC (.int 4))))) (mNotT (mB (mCall gAll (aCons (mLc (iAll (mVar 0)) [1] (.nm 1) tYesM (mFn 1 f_is_sign (aCons (mVar 1) aNil))) aNil)))))) (sRet (mC (.bl false))) sNext)
  (sRet (mCall gAll (aCons (mLc (iZipM (aCons (mVar 0) (aCons (mSl gSlice (mVar 0) (oSome (mC (.int 1))) oNone) aNil))) [2, 3] (.tp [2, 3]) tYesM (m2 gLtD (mVar 2) (mVar 3))) aNil))))
def f_is_alphabet : FM := defM 4 b_is_alphabet
theorem ok_is_alphabet (nc : Tb.cs = none) (nj : Tb.j = JP.no) (T : TxtP K mg) (T2 : Txt2 P w K mg) (F_is_sign : FnM P w K mg base LV_is_sign "is_sign" 1 f_is_sign) (F : Fun K "is_alphabet" "is_alphabet" s_is_alphabet f fd) (hx : mg "is_alphabet" = some (.ref f)) (hb : Binds K fd ["value"] []) : FnM P w K mg base LV_is_alphabet "is_alphabet" 1 f_is_alphabet := by
  obtain ⟨u_MAX_LETTERS, g_MAX_LETTERS, r_MAX_LETTERS⟩ := T.c_MAX_LETTERS
  exact fn_mirror nc (N := ["value", "sign", "one", "other"]) (ps := ["value"]) (k := 1) F ⟨rfl, rfl, rfl, by decide +kernel, rfl, by decide +kernel, by decide +kernel⟩ hx hb fun cdv A outer s H E gd hr tk => by
    have nd : (["value", "sign", "one", "other"] : List Str).Nodup := by decide +kernel
    have lt := lets_of tk
    exact (pms_cons (pms_if (PW.pt (pmw_or (pmt_not (pmt_val (pm_callB call_isAll (oIsK T.isT) T.n_isinstance (by decide +kernel) (pma_cons (pm_var 0) (pma_cons (pm_ty T.n_str (by decide +kernel)) pma_nil))))) (pmw_or (pmt_not (pmt_chain opLe opLe o2Le o2Le pm_int (pm_callB call_len oLen T.n_len (by decide +kernel) (pma_cons (pm_var 0) pma_nil)) (pm_glob g_MAX_LETTERS r_MAX_LETTERS (fun _ _ => .int _)))) (pmw_or1 (pmt_not (pmt_val (pm_callB (cr_all rfl) oAll T.n_all (by decide +kernel) (pma_cons (pm_lc nc (own := [("sign", 1)]) (t := (.nm 1)) nd (pmi_all (pm_var 0)) (blkOk_by (by kernel_rfl)) (fun s H C cl fp => (pg_name (i := 1) nd rfl (.inl rfl) (.inr rfl))) (fun s H C cl fp => pmts_nil) (fun s H C cl fp => (pm_fn_call (F_is_sign.mono (by decide)) hr gd lets0 (pma_cons (pm_var 1) pma_nil)))) pma_nil)))))))) (pms_one (pms_ret pm_bl)) pms_nil)
      (pms_one (pms_ret (pm_callB (cr_all rfl) oAll T.n_all (by decide +kernel) (pma_cons (pm_lc nc (own := [("one", 2), ("other", 3)]) (t := (.tp [2, 3])) nd (pmi_zip T.n_zip (pma_cons (pm_var 0) (pma_cons (pm_sl opSlice oSlice (pm_var 0) (pmo_some pm_int) pmo_none) pma_nil))) (blkOk_by (by kernel_rfl)) (fun s H C cl fp => (pg_tup rfl (pgs_cons (pg_name (i := 2) nd rfl (.inl rfl) (.inr rfl)) (pgs_cons (pg_name (i := 3) nd rfl (.inl rfl) (.inr rfl)) pgs_nil)))) (fun s H C cl fp => pmts_nil) (fun s H C cl fp => (pm_cmp (opLtD hr.units) o2LtD (pm_var 2) (pm_var 3)))) pma_nil)))))
/-! is_integer -/
def b_is_integer : MS := (sRet (mAnd (mCall (gIsK isOwn isSub isYs) (aCons (mVar 0) (aCons (mC (.ty "int")) aNil))) (mAnd (mNot (mCall (gIsK isOwn isSub isYs) (aCons (mVar 0) (aCons (mC (.ty "bool")) aNil)))) (mChain gLe gLe (mVar 1) (mVar 0) (mVar 2)))))
def f_is_integer : FM := defM 3 b_is_integer
theorem ok_is_integer (nc : Tb.cs = none) (nj : Tb.j = JP.no) (T : TxtP K mg) (T2 : Txt2 P w K mg) (F : Fun K "is_integer" "is_integer" s_is_integer f fd) (hx : mg "is_integer" = some (.ref f)) (hb : Binds K fd ["value", "low", "high"] []) : FnM P w K mg base LV_is_integer "is_integer" 3 f_is_integer := by
  exact fn_mirror nc (N := ["value", "low", "high"]) (ps := ["value", "low", "high"]) (k := 0) F ⟨rfl, rfl, rfl, by decide +kernel, rfl, by decide +kernel, by decide +kernel⟩ hx hb fun cdv A outer s H E gd hr tk => by
    have nd : (["value", "low", "high"] : List Str).Nodup := by decide +kernel
    have lt := lets_of tk
    exact (pms_one (pms_ret (pm_and (pm_callB call_isAll (oIsK T.isT) T.n_isinstance (by decide +kernel) (pma_cons (pm_var 0) (pma_cons (pm_ty T.n_int (by decide +kernel)) pma_nil))) (pm_and (pm_not (pm_callB call_isAll (oIsK T.isT) T.n_isinstance (by decide +kernel) (pma_cons (pm_var 0) (pma_cons (pm_ty T.n_bool (by decide +kernel)) pma_nil)))) (pm_one (pm_chain opLe opLe o2Le o2Le (pm_var 1) (pm_var 0) (pm_var 2)))))))
/-! is_letter -/
def b_is_letter : MS := (sRet (mAnd (mFn 1 f_is_sign (aCons (mVar 1) aNil)) (m2 gIn (mVar 1) (mVar 0))))
def f_is_letter : FM := defM 2 b_is_letter
theorem ok_is_letter (nc : Tb.cs = none) (nj : Tb.j = JP.no) (T : TxtP K mg) (T2 : Txt2 P w K mg) (F_is_sign : FnM P w K mg base LV_is_sign "is_sign" 1 f_is_sign) (F : Fun K "is_letter" "is_letter" s_is_letter f fd) (hx : mg "is_letter" = some (.ref f)) (hb : Binds K fd ["alphabet", "value"] []) : FnM P w K mg base LV_is_letter "is_letter" 2 f_is_letter := by
  exact fn_mirror nc (N := ["alphabet", "value"]) (ps := ["alphabet", "value"]) (k := 1) F ⟨rfl, rfl, rfl, by decide +kernel, rfl, by decide +kernel, by decide +kernel⟩ hx hb fun cdv A outer s H E gd hr tk => by
    have nd : (["alphabet", "value"] : List Str).Nodup := by decide +kernel
    have lt := lets_of tk
    exact (pms_one (pms_ret (pm_and (pm_fn_call (F_is_sign.mono (by decide)) hr gd lt (pma_cons (pm_var 1) pma_nil)) (pm_one (pm_cmp opIn o2In (pm_var 1) (pm_var 0))))))
/-! is_recipe_row -/
def b_is_recipe_row : MS := (sSeq (sIf (mOrT (mNotT (mB (mCall (gIsK isOwn isSub isYs) (aCons (mVar 2) (aCons (mC (.ty "tuple")) aNil))))) (mOrT (mB (m2 gEqT (mVar 2) (mTup aNil))) (mNotT (mB (mCall (gIsK isOwn isSub isYs) (aCons (m2 gIx (mVar 2) (mC (.int 0))) (aCons (mC (.ty "str")) aNil))))))) (sRet (mC (.bl false))) sNext)
  (sSeq (sAsg (gStar (gN 3) (gN 4)) (mVar 2))
  (sSeq (sIf (mB (m2 gEq (mVar 3) (mC (.str "letter")))) (sRet (mAnd (m2 gEq (mCall gLen (aCons (mVar 4) aNil)) (mC (.int 1))) (mFn 2 f_is_letter (aCons (mVar 0) (aCons (m2 gIx (mVar 4) (mC (.int 0))) aNil))))) sNext)
  (sSeq (sIf (mB (m2 gEq (mVar 3) (mC (.str "then")))) (sRet (mAnd (m2 gEq (mCall gLen (aCons (mVar 4) aNil)) (mC (.int 2))) (mCall gAll (aCons (mLc (iAll (mVar 4)) [5] (.nm 5) tYesM (mFn 3 f_is_integer (aCons (mVar 5) (aCons (mC (.int 0)) (aCons (m2 gSub (mVar 1) (mC (.int 1))) aNil))))) aNil)))) sNext)
  (sRet (mAnd (m2 gEq (mVar 3) (mC (.str "pump"))) (mAnd (m2 gEq (mCall gLen (aCons (mVar 4) aNil)) (mC (.int 1))) (mFn 3 f_is_integer (aCons (m2 gIx (mVar 4) (mC (.int 0))) (aCons (mC (.int 0)) (aCons (m2 gSub (mVar 1) (mC (.int 1))) aNil)))))))))))
def f_is_recipe_row : FM := defM 6 b_is_recipe_row
theorem ok_is_recipe_row (nc : Tb.cs = none) (nj : Tb.j = JP.no) (T : TxtP K mg) (T2 : Txt2 P w K mg) (F_is_integer : FnM P w K mg base LV_is_integer "is_integer" 3 f_is_integer) (F_is_letter : FnM P w K mg base LV_is_letter "is_letter" 2 f_is_letter) (F : Fun K "is_recipe_row" "is_recipe_row" s_is_recipe_row f fd) (hx : mg "is_recipe_row" = some (.ref f)) (hb : Binds K fd ["alphabet", "place", "row"] []) : FnM P w K mg base LV_is_recipe_row "is_recipe_row" 3 f_is_recipe_row := by
  obtain ⟨u_LETTER, g_LETTER, r_LETTER⟩ := T.c_LETTER
  obtain ⟨u_PUMP, g_PUMP, r_PUMP⟩ := T.c_PUMP
  obtain ⟨u_THEN, g_THEN, r_THEN⟩ := T.c_THEN
  exact fn_mirror nc (N := ["alphabet", "place", "row", "kind", "parts", "part"]) (ps := ["alphabet", "place", "row"]) (k := 2) F ⟨rfl, rfl, rfl, by decide +kernel, rfl, by decide +kernel, by decide +kernel⟩ hx hb fun cdv A outer s H E gd hr tk => by
    have nd : (["alphabet", "place", "row", "kind", "parts", "part"] : List Str).Nodup := by decide +kernel
    have lt := lets_of tk
    exact (pms_cons (pms_if (PW.pt (pmw_or (pmt_not (pmt_val (pm_callB call_isAll (oIsK T.isT) T.n_isinstance (by decide +kernel) (pma_cons (pm_var 2) (pma_cons (pm_ty T.n_tuple (by decide +kernel)) pma_nil))))) (pmw_or (pmt_cmp (op_eqDT hr.units) o2EqT (pm_var 2) (pm_tup pma_nil)) (pmw_or1 (pmt_not (pmt_val (pm_callB call_isAll (oIsK T.isT) T.n_isinstance (by decide +kernel) (pma_cons (pm_ix ix_seq o2Ix (pm_var 2) pm_int) (pma_cons (pm_ty T.n_str (by decide +kernel)) pma_nil))))))))) (pms_one (pms_ret pm_bl)) pms_nil)
      (pms_cons (pms_asg (pm_var 2) (pmg_star (pmg_name 3 nd) (pmg_name 4 nd)))
      (pms_cons (pms_if (pmt_cmp (op_eqD hr.units) o2Eq (pm_var 3) (pm_glob g_LETTER r_LETTER (fun _ _ => .str _))) (pms_one (pms_ret (pm_and (pm_cmp (op_eqD hr.units) o2Eq (pm_callB call_len oLen T.n_len (by decide +kernel) (pma_cons (pm_var 4) pma_nil)) pm_int) (pm_one (pm_fn_call (F_is_letter.mono (by decide)) hr gd lt (pma_cons (pm_var 0) (pma_cons (pm_ix ix_seq o2Ix (pm_var 4) pm_int) pma_nil))))))) pms_nil)
      (pms_cons (pms_if (pmt_cmp (op_eqD hr.units) o2Eq (pm_var 3) (pm_glob g_THEN r_THEN (fun _ _ => .str _))) (pms_one (pms_ret (pm_and (pm_cmp (op_eqD hr.units) o2Eq (pm_callB call_len oLen T.n_len (by decide +kernel) (pma_cons (pm_var 4) pma_nil)) pm_int) (pm_one (pm_callB (cr_all rfl) oAll T.n_all (by decide +kernel) (pma_cons (pm_lc nc (own := [("part", 5)]) (t := (.nm 5)) nd (pmi_all (pm_var 4)) (blkOk_by (by kernel_rfl)) (fun s H C cl fp => (pg_name (i := 5) nd rfl (.inl rfl) (.inr rfl))) (fun s H C cl fp => pmts_nil) (fun s H C cl fp => (pm_fn_call (F_is_integer.mono (by decide)) hr gd lets0 (pma_cons (pm_var 5) (pma_cons pm_int (pma_cons (pm_bin op_sub o2Sub (pm_var 1) pm_int) pma_nil)))))) pma_nil)))))) pms_nil)
      (pms_one (pms_ret (pm_and (pm_cmp (op_eqD hr.units) o2Eq (pm_var 3) (pm_glob g_PUMP r_PUMP (fun _ _ => .str _))) (pm_and (pm_cmp (op_eqD hr.units) o2Eq (pm_callB call_len oLen T.n_len (by decide +kernel) (pma_cons (pm_var 4) pma_nil)) pm_int) (pm_one (pm_fn_call (F_is_integer.mono (by decide)) hr gd lt (pma_cons (pm_ix ix_seq o2Ix (pm_var 4) pm_int) (pma_cons pm_int (pma_cons (pm_bin op_sub o2Sub (pm_var 1) pm_int) pma_nil)))))))))))))
/-! is_recipe_in -/
def b_is_recipe_in : MS := (sSeq (sIf (mOrT (mNotT (mB (mCall (gIsK isOwn isSub isYs) (aCons (mVar 1) (aCons (mC (.ty "tuple")) aNil))))) (mNotT (mB (mChain gLe gLe (mC (.int 1)) (mCall gLen (aCons (mVar 1) aNil)) (mC (.int 400)))))) (sRet (mC (.bl false))) sNext)
  (sRet (mCall gAll (aCons (mLc (iEnumM (aCons (mVar 1) aNil)) [2, 3] (.tp [2, 3]) tYesM (mFn 3 f_is_recipe_row (aCons (mVar 0) (aCons (mVar 2) (aCons (mVar 3) aNil))))) aNil))))
def f_is_recipe_in : FM := defM 4 b_is_recipe_in
theorem ok_is_recipe_in (nc : Tb.cs = none) (nj : Tb.j = JP.no) (T : TxtP K mg) (T2 : Txt2 P w K mg) (F_is_recipe_row : FnM P w K mg base LV_is_recipe_row "is_recipe_row" 3 f_is_recipe_row) (F : Fun K "is_recipe_in" "is_recipe_in" s_is_recipe_in f fd) (hx : mg "is_recipe_in" = some (.ref f)) (hb : Binds K fd ["alphabet", "value"] []) : FnM P w K mg base LV_is_recipe_in "is_recipe_in" 2 f_is_recipe_in := by
  obtain ⟨u_MAX_ROWS, g_MAX_ROWS, r_MAX_ROWS⟩ := T.c_MAX_ROWS
  exact fn_mirror nc (N := ["alphabet", "value", "place", "row"]) (ps := ["alphabet", "value"]) (k := 3) F ⟨rfl, rfl, rfl, by decide +kernel, rfl, by decide +kernel, by decide +kernel⟩ hx hb fun cdv A outer s H E gd hr tk => by
    have nd : (["alphabet", "value", "place", "row"] : List Str).Nodup := by decide +kernel
    have lt := lets_of tk
    exact (pms_cons (pms_if (PW.pt (pmw_or (pmt_not (pmt_val (pm_callB call_isAll (oIsK T.isT) T.n_isinstance (by decide +kernel) (pma_cons (pm_var 1) (pma_cons (pm_ty T.n_tuple (by decide +kernel)) pma_nil))))) (pmw_or1 (pmt_not (pmt_chain opLe opLe o2Le o2Le pm_int (pm_callB call_len oLen T.n_len (by decide +kernel) (pma_cons (pm_var 1) pma_nil)) (pm_glob g_MAX_ROWS r_MAX_ROWS (fun _ _ => .int _))))))) (pms_one (pms_ret pm_bl)) pms_nil)
      (pms_one (pms_ret (pm_callB (cr_all rfl) oAll T.n_all (by decide +kernel) (pma_cons (pm_lc nc (own := [("place", 2), ("row", 3)]) (t := (.tp [2, 3])) nd (pmi_enum T.n_enumerate (pma_cons (pm_var 1) pma_nil)) (blkOk_by (by kernel_rfl)) (fun s H C cl fp => (pg_tup rfl (pgs_cons (pg_name (i := 2) nd rfl (.inl rfl) (.inr rfl)) (pgs_cons (pg_name (i := 3) nd rfl (.inl rfl) (.inr rfl)) pgs_nil)))) (fun s H C cl fp => pmts_nil) (fun s H C cl fp => (pm_fn_call (F_is_recipe_row.mono (by decide)) hr gd lets0 (pma_cons (pm_var 0) (pma_cons (pm_var 2) (pma_cons (pm_var 3) pma_nil)))))) pma_nil)))))
/-! signs_in -/
def b_signs_in : MS := (sSeq (sSet 1 (mLstN aNil))
  (sSeq (sFor (iAll (mIf (mB (mCall (gIsK isOwn isSub isYs) (aCons (mVar 0) (aCons (mC (.ty "tuple")) aNil)))) (mVar 0) (mTup aNil))) (gN 2) (sIf (mAndT (mB (mCall (gIsK isOwn isSub isYs) (aCons (mVar 2) (aCons (mC (.ty "tuple")) aNil)))) (mAndT (mB (m2 gEq (mCall gLen (aCons (mVar 2) aNil)) (mC (.int 2)))) (mAndT (mB (m2 gEq (m2 gIx (mVar 2) (mC (.int 0))) (mC (.str "letter")))) (mB (mFn 1 f_is_sign (aCons (m2 gIx (mVar 2) (mC (.int 1))) aNil)))))) (sExpr (mMethT isLst gAppend (mVar 1) (aCons (m2 gIx (mVar 2) (mC (.int 1))) aNil))) sNext))
  (sRet (mMethT isStr gJoin (mC (.str "")) (aCons (mCall gSortSet (aCons (mVar 1) aNil)) aNil)))))
def f_signs_in : FM := defM 3 b_signs_in
theorem ok_signs_in (nc : Tb.cs = none) (nj : Tb.j = JP.no) (T : TxtP K mg) (T2 : Txt2 P w K mg) (F_is_sign : FnM P w K mg base LV_is_sign "is_sign" 1 f_is_sign) (F : Fun K "signs_in" "signs_in" s_signs_in f fd) (hx : mg "signs_in" = some (.ref f)) (hb : Binds K fd ["value"] []) : FnM P w K mg base LV_signs_in "signs_in" 1 f_signs_in := by
  exact fn_mirror nc (N := ["value", "found", "row"]) (ps := ["value"]) (k := 1) F ⟨rfl, rfl, rfl, by decide +kernel, rfl, by decide +kernel, by decide +kernel⟩ hx hb fun cdv A outer s H E gd hr tk => by
    have nd : (["value", "found", "row"] : List Str).Nodup := by decide +kernel
    have lt := lets_of tk
    exact (pms_cons (pms_set 1 nd (pm_lstN pma_nil))
      (pms_cons (pms_for (passes_of rfl) (pmi_all (pm_if (pmt_val (pm_callB call_isAll (oIsK T.isT) T.n_isinstance (by decide +kernel) (pma_cons (pm_var 0) (pma_cons (pm_ty T.n_tuple (by decide +kernel)) pma_nil)))) (pm_var 0) (pm_tup pma_nil))) (pmg_name 2 nd) (pms_one (pms_if (PW.pt (pmw_and (pmt_val (pm_callB call_isAll (oIsK T.isT) T.n_isinstance (by decide +kernel) (pma_cons (pm_var 2) (pma_cons (pm_ty T.n_tuple (by decide +kernel)) pma_nil)))) (pmw_and (pmt_cmp (op_eqD hr.units) o2Eq (pm_callB call_len oLen T.n_len (by decide +kernel) (pma_cons (pm_var 2) pma_nil)) pm_int) (pmw_and (pmt_cmp (op_eqD hr.units) o2Eq (pm_ix ix_seq o2Ix (pm_var 2) pm_int) pm_str) (pmw_and1 (pmt_val (pm_fn_call (F_is_sign.mono (by decide)) hr gd lt (pma_cons (pm_ix ix_seq o2Ix (pm_var 2) pm_int) pma_nil)))))))) (pms_one (pms_expr (pm_bm PySem.F.plainAttrs_list PySem.F.slot_list_append PySem.F.type_list_append mt_append oIsLst oAppend (pm_var 1) (pma_cons (pm_ix ix_seq o2Ix (pm_var 2) pm_int) pma_nil)))) pms_nil)))
      (pms_one (pms_ret (pm_bm PySem.F.plainAttrs_str PySem.F.slot_str_join PySem.F.type_str_join mt_join oIsStr oJoin pm_str (pma_cons (pm_sortset rfl T.n_sorted T.n_set (pma_cons (pm_var 1) pma_nil)) pma_nil))))))
/-! rows_text -/
def b_rows_text : MS := (sRet (mMethT isStr gJoin (mC (.str "\n")) (aCons (mLc (iAll (mVar 0)) [1] (.nm 1) tYesM (mMethT isStr gJoin (mC (.str " ")) (aCons (mLc (iAll (mVar 1)) [2] (.nm 2) tYesM (mCall gStr (aCons (mVar 2) aNil))) aNil))) aNil)))
def f_rows_text : FM := defM 3 b_rows_text
theorem ok_rows_text (nc : Tb.cs = none) (nj : Tb.j = JP.no) (T : TxtP K mg) (T2 : Txt2 P w K mg) (F : Fun K "rows_text" "rows_text" s_rows_text f fd) (hx : mg "rows_text" = some (.ref f)) (hb : Binds K fd ["recipe"] []) : FnM P w K mg base LV_rows_text "rows_text" 1 f_rows_text := by
  exact fn_mirror nc (N := ["recipe", "row", "part"]) (ps := ["recipe"]) (k := 0) F ⟨rfl, rfl, rfl, by decide +kernel, rfl, by decide +kernel, by decide +kernel⟩ hx hb fun cdv A outer s H E gd hr tk => by
    have nd : (["recipe", "row", "part"] : List Str).Nodup := by decide +kernel
    have lt := lets_of tk
    exact (pms_one (pms_ret (pm_bm PySem.F.plainAttrs_str PySem.F.slot_str_join PySem.F.type_str_join mt_join oIsStr oJoin pm_str (pma_cons (pm_lc nc (own := [("row", 1)]) (t := (.nm 1)) nd (pmi_all (pm_var 0)) (blkOk_by (by kernel_rfl)) (fun s H C cl fp => (pg_name (i := 1) nd rfl (.inl rfl) (.inr rfl))) (fun s H C cl fp => pmts_nil) (fun s H C cl fp => (pm_bm PySem.F.plainAttrs_str PySem.F.slot_str_join PySem.F.type_str_join mt_join oIsStr oJoin pm_str (pma_cons (pm_lc nc (own := [("part", 2)]) (t := (.nm 2)) nd (pmi_all (pm_var 1)) (blkOk_by (by kernel_rfl)) (fun s H C cl fp => (pg_name (i := 2) nd rfl (.inl rfl) (.inr rfl))) (fun s H C cl fp => pmts_nil) (fun s H C cl fp => (pm_callTy opStr oStr T.n_str (by decide +kernel) (pma_cons (pm_var 2) pma_nil)))) pma_nil)))) pma_nil))))
/-! recipe_text -/
def b_recipe_text : MS := (sSeq (sSet 1 (mFn 1 f_signs_in (aCons (mVar 0) aNil)))
  (sSeq (sIf (mOrT (mNotT (mB (mFn 1 f_is_alphabet (aCons (mVar 1) aNil)))) (mNotT (mB (mFn 2 f_is_recipe_in (aCons (mVar 1) (aCons (mVar 0) aNil)))))) (sRaise "InvalidRecipe") sNext)
  (sRet (mFn 1 f_rows_text (aCons (mVar 0) aNil)))))
def f_recipe_text : FM := defM 2 b_recipe_text
theorem ok_recipe_text (nc : Tb.cs = none) (nj : Tb.j = JP.no) (T : TxtP K mg) (T2 : Txt2 P w K mg) (F_is_alphabet : FnM P w K mg base LV_is_alphabet "is_alphabet" 1 f_is_alphabet) (F_is_recipe_in : FnM P w K mg base LV_is_recipe_in "is_recipe_in" 2 f_is_recipe_in) (F_signs_in : FnM P w K mg base LV_signs_in "signs_in" 1 f_signs_in) (F_rows_text : FnM P w K mg base LV_rows_text "rows_text" 1 f_rows_text) (F : Fun K "recipe_text" "recipe_text" s_recipe_text f fd) (hx : mg "recipe_text" = some (.ref f)) (hb : Binds K fd ["recipe"] []) : FnM P w K mg base LV_recipe_text "recipe_text" 1 f_recipe_text := by
  obtain ⟨C_InvalidRecipe, e_InvalidRecipe⟩ := T.x_InvalidRecipe
  exact fn_mirror nc (N := ["recipe", "alphabet"]) (ps := ["recipe"]) (k := 4) F ⟨rfl, rfl, rfl, by decide +kernel, rfl, by decide +kernel, by decide +kernel⟩ hx hb fun cdv A outer s H E gd hr tk => by
    have nd : (["recipe", "alphabet"] : List Str).Nodup := by decide +kernel
    have lt := lets_of tk
    exact (pms_cons (pms_set 1 nd (pm_fn_call (F_signs_in.mono (by decide)) hr gd lt (pma_cons (pm_var 0) pma_nil)))
      (pms_cons (pms_if (PW.pt (pmw_or (pmt_not (pmt_val (pm_fn_call (F_is_alphabet.mono (by decide)) hr gd lt (pma_cons (pm_var 1) pma_nil)))) (pmw_or1 (pmt_not (pmt_val (pm_fn_call (F_is_recipe_in.mono (by decide)) hr gd lt (pma_cons (pm_var 1) (pma_cons (pm_var 0) pma_nil)))))))) (pms_one (pms_raiseT tk PySem.F.excBase_ValueError e_InvalidRecipe)) pms_nil)
      (pms_one (pms_ret (pm_fn_call (F_rows_text.mono (by decide)) hr gd lt (pma_cons (pm_var 0) pma_nil))))))
/-! _law_stream -/
def b__law_stream : MS := (sSeq (sSet 2 (m2 gAdd (m2 gMulT (mC (.int 7)) (mVar 1)) (mC (.int 3))))
  (sSeq (sIf (mB (m2 gLtD (mVar 1) (mCall gLen (aCons (mVar 0) aNil)))) (sSet 2 (m2 gIx (mVar 0) (mVar 1))) sNext)
  (sSeq (sSet 3 (m2 gMod (mCall gAbs (aCons (mVar 2) aNil)) (m2 gPow (m2 gPow (mC (.int 10)) (mC (.int 60))) (mC (.int 12)))))
  (sSeq (sSet 4 (m2 gMod (m2 gAdd (m2 gAdd (m2 gAdd (m2 gMulT (m2 gMod (mVar 3) (mC (.int 2147483629))) (mC (.int 48271))) (m2 gMulT (mC (.int 977)) (mVar 1))) (m2 gMulT (mC (.int 2)) (mCall gInt (aCons (m2 gLtD (mVar 2) (mC (.int 0))) aNil)))) (mC (.int 11))) (mC (.int 2147483647))))
  (sRet (mLstN (aCons (mCall gMax (aCons (mC (.int 0)) (aCons (m2 gSub (mVar 3) (m2 gPow (mC (.int 10)) (mC (.int 18)))) aNil))) (aCons (mVar 4) (aCons (mC (.int 0)) aNil)))))))))
def f__law_stream : FM := defM 5 b__law_stream
theorem ok__law_stream (nc : Tb.cs = none) (nj : Tb.j = JP.no) (T : TxtP K mg) (T2 : Txt2 P w K mg) (F : Fun K "_law_stream" "_law_stream" s__law_stream f fd) (hx : mg "_law_stream" = some (.ref f)) (hb : Binds K fd ["script", "at"] []) : FnM P w K mg base LV__law_stream "_law_stream" 2 f__law_stream := by
  exact fn_mirror nc (N := ["script", "at", "cell", "great", "mixed"]) (ps := ["script", "at"]) (k := 0) F ⟨rfl, rfl, rfl, by decide +kernel, rfl, by decide +kernel, by decide +kernel⟩ hx hb fun cdv A outer s H E gd hr tk => by
    have nd : (["script", "at", "cell", "great", "mixed"] : List Str).Nodup := by decide +kernel
    have lt := lets_of tk
    exact (pms_cons (pms_set 2 nd (pm_bin opAdd o2Add (pm_bin opMulT o2MulT pm_int (pm_var 1)) pm_int))
      (pms_cons (pms_if (pmt_cmp (opLtD hr.units) o2LtD (pm_var 1) (pm_callB call_len oLen T.n_len (by decide +kernel) (pma_cons (pm_var 0) pma_nil))) (pms_one (pms_set 2 nd (pm_ix ix_seq o2Ix (pm_var 0) (pm_var 1)))) pms_nil)
      (pms_cons (pms_set 3 nd (pm_bin op_mod o2Mod (pm_callB call_abs oAbs T.n_abs (by decide +kernel) (pma_cons (pm_var 2) pma_nil)) (pm_bin opPow o2Pow (pm_bin opPow o2Pow pm_int pm_int) pm_int)))
      (pms_cons (pms_set 4 nd (pm_bin op_mod o2Mod (pm_bin opAdd o2Add (pm_bin opAdd o2Add (pm_bin opAdd o2Add (pm_bin opMulT o2MulT (pm_bin op_mod o2Mod (pm_var 3) pm_int) pm_int) (pm_bin opMulT o2MulT pm_int (pm_var 1))) (pm_bin opMulT o2MulT pm_int (pm_callTy opInt oInt T.n_int (by decide +kernel) (pma_cons (pm_cmp (opLtD hr.units) o2LtD (pm_var 2) pm_int) pma_nil)))) pm_int) pm_int))
      (pms_one (pms_ret (pm_lstN (pma_cons (pm_callB (call_max2 rfl) oMax T.n_max (by decide +kernel) (pma_cons pm_int (pma_cons (pm_bin op_sub o2Sub (pm_var 3) (pm_bin opPow o2Pow pm_int pm_int)) pma_nil))) (pma_cons (pm_var 4) (pma_cons pm_int pma_nil))))))))))
/-! _law_error -/
def b__law_error (r : Sto → Res MV) : MS := (sSeq (sTryAs (sExpr (mGot r)) 1 sub_LimitError (fun c => (sSeq (sSet 2 (mLstN (aCons (mIsE 1 (is_InvalidMachine c.c)) (aCons (mIsE 1 (is_InvalidRecipe c.c)) (aCons (mIsE 1 (is_InvalidOperation c.c)) aNil)))))
  (sSeq (sExpr (mMethT isLst gAppend (mVar 2) (aCons (mIsE 1 (is_ParseError c.c)) aNil)))
  (sRet (mIf (mB (m2 gEq (mMethT isLst gCountB (mVar 2) (aCons (mC (.bl true)) aNil)) (mC (.int 1)))) (m2 gIx (mLst (aCons (mC (.str "machine")) (aCons (mC (.str "recipe")) (aCons (mC (.str "operation")) (aCons (mC (.str "parse")) aNil))))) (mMethT isLst gIndexB (mVar 2) (aCons (mC (.bl true)) aNil))) (mC (.str "other"))))))))
  (sRet (mC .non)))
def l__law_error : (Sto → Res MV) → Sto → Res MV := fun r => defL 3 (b__law_error r)
theorem ok__law_error (nc : Tb.cs = none) (nj : Tb.j = JP.no) (T : TxtP K mg) (T2 : Txt2 P w K mg) (F : Fun K "_law_error" "_law_error" s__law_error f fd) (hx : mg "_law_error" = some (.ref f)) (hb : Binds K fd ["call"] []) : FnL P w K mg base LV__law_error "_law_error" l__law_error := by
  obtain ⟨C_LimitError, e_LimitError⟩ := T.x_LimitError
  obtain ⟨C_InvalidMachine, e_InvalidMachine⟩ := T.x_InvalidMachine
  obtain ⟨C_InvalidRecipe, e_InvalidRecipe⟩ := T.x_InvalidRecipe
  obtain ⟨C_InvalidOperation, e_InvalidOperation⟩ := T.x_InvalidOperation
  obtain ⟨C_ParseError, e_ParseError⟩ := T.x_ParseError
  exact fn_got nj (N := ["call", "e", "kinds"]) (a := "call") (k := 0) (b := b__law_error) F ⟨rfl, rfl, rfl, by decide +kernel, rfl, by decide +kernel, by decide +kernel⟩ hx hb rfl (.inl rfl) (by decide) (by decide) fun τ r cdv A outer s H E gd hr tk hcall => by
    have nd : (["call", "e", "kinds"] : List Str).Nodup := by decide +kernel
    have lt := lets_of tk
    exact (pms_cons (pms_tryAs (i := 1) rfl rfl nd rfl rfl ⟨rfl, by decide, .inl e_LimitError.gC⟩ tk (fun W2 pn xe tk2 => (pms_one (pms_expr (hcall _ _ _ _ _ tk2)))) (T.sub_LimitError e_LimitError.gC) (fun τ2 a oe pn c C hcs hC hz hfl => by letI := τ2; exact (pms_cons (pms_set 2 nd (pm_lstN (pma_cons (pm_isE hcs (fun k hk => T.is_InvalidMachine e_InvalidMachine.gC _ k _ hk hC) hz hfl rfl e_InvalidMachine.gC T.n_isinstance) (pma_cons (pm_isE hcs (fun k hk => T.is_InvalidRecipe e_InvalidRecipe.gC _ k _ hk hC) hz hfl rfl e_InvalidRecipe.gC T.n_isinstance) (pma_cons (pm_isE hcs (fun k hk => T.is_InvalidOperation e_InvalidOperation.gC _ k _ hk hC) hz hfl rfl e_InvalidOperation.gC T.n_isinstance) pma_nil)))))
      (pms_cons (pms_expr (pm_bm PySem.F.plainAttrs_list PySem.F.slot_list_append PySem.F.type_list_append mt_append oIsLst oAppend (pm_var 2) (pma_cons (pm_isE hcs (fun k hk => T.is_ParseError e_ParseError.gC _ k _ hk hC) hz hfl rfl e_ParseError.gC T.n_isinstance) pma_nil)))
      (pms_one (pms_ret (pm_if (pmt_cmp (op_eqD hr.units) o2Eq (pm_bm PySem.F.plainAttrs_list PySem.F.slot_list_count PySem.F.type_list_count (mt_countB hr.units) oIsLst oCountB (pm_var 2) (pma_cons pm_bl pma_nil)) pm_int) (pm_ix ix_seq o2Ix (pm_lst (pma_cons pm_str (pma_cons pm_str (pma_cons pm_str (pma_cons pm_str pma_nil))))) (pm_bm PySem.F.plainAttrs_list PySem.F.slot_list_index PySem.F.type_list_index mt_indexB oIsLst oIndexB (pm_var 2) (pma_cons pm_bl pma_nil))) pm_str)))))))
      (pms_one (pms_ret pm_non)))
/-! are_ascending -/
def b_are_ascending : MS := (sRet (mCall gAll (aCons (mLc (iZipM (aCons (mVar 0) (aCons (mSl gSlice (mVar 0) (oSome (mC (.int 1))) oNone) aNil))) [1, 2] (.tp [1, 2]) tYesM (m2 gLtD (mVar 1) (mVar 2))) aNil)))
def f_are_ascending : FM := defM 3 b_are_ascending
theorem ok_are_ascending (nc : Tb.cs = none) (nj : Tb.j = JP.no) (T : TxtP K mg) (T2 : Txt2 P w K mg) (F : Fun K "are_ascending" "are_ascending" s_are_ascending f fd) (hx : mg "are_ascending" = some (.ref f)) (hb : Binds K fd ["items"] []) : FnM P w K mg base LV_are_ascending "are_ascending" 1 f_are_ascending := by
  exact fn_mirror nc (N := ["items", "one", "other"]) (ps := ["items"]) (k := 0) F ⟨rfl, rfl, rfl, by decide +kernel, rfl, by decide +kernel, by decide +kernel⟩ hx hb fun cdv A outer s H E gd hr tk => by
    have nd : (["items", "one", "other"] : List Str).Nodup := by decide +kernel
    have lt := lets_of tk
    exact (pms_one (pms_ret (pm_callB (cr_all rfl) oAll T.n_all (by decide +kernel) (pma_cons (pm_lc nc (own := [("one", 1), ("other", 2)]) (t := (.tp [1, 2])) nd (pmi_zip T.n_zip (pma_cons (pm_var 0) (pma_cons (pm_sl opSlice oSlice (pm_var 0) (pmo_some pm_int) pmo_none) pma_nil))) (blkOk_by (by kernel_rfl)) (fun s H C cl fp => (pg_tup rfl (pgs_cons (pg_name (i := 1) nd rfl (.inl rfl) (.inr rfl)) (pgs_cons (pg_name (i := 2) nd rfl (.inl rfl) (.inr rfl)) pgs_nil)))) (fun s H C cl fp => pmts_nil) (fun s H C cl fp => (pm_cmp (opLtD hr.units) o2LtD (pm_var 1) (pm_var 2)))) pma_nil))))
/-! are_states -/
def b_are_states : MS := (sSeq (sIf (mOrT (mNotT (mB (mCall (gIsK isOwn isSub isYs) (aCons (mVar 1) (aCons (mC (.ty "tuple")) aNil))))) (mNotT (mB (mCall gAll (aCons (mLc (iAll (mVar 1)) [2] (.nm 2) tYesM (mFn 3 f_is_integer (aCons (mVar 2) (aCons (mC (.int 0)) (aCons (m2 gSub (mVar 0) (mC (.int 1))) aNil))))) aNil))))) (sRet (mC (.bl false))) sNext)
  (sRet (mFn 1 f_are_ascending (aCons (mVar 1) aNil))))
def f_are_states : FM := defM 3 b_are_states
theorem ok_are_states (nc : Tb.cs = none) (nj : Tb.j = JP.no) (T : TxtP K mg) (T2 : Txt2 P w K mg) (F_is_integer : FnM P w K mg base LV_is_integer "is_integer" 3 f_is_integer) (F_are_ascending : FnM P w K mg base LV_are_ascending "are_ascending" 1 f_are_ascending) (F : Fun K "are_states" "are_states" s_are_states f fd) (hx : mg "are_states" = some (.ref f)) (hb : Binds K fd ["size", "value"] []) : FnM P w K mg base LV_are_states "are_states" 2 f_are_states := by
  exact fn_mirror nc (N := ["size", "value", "state"]) (ps := ["size", "value"]) (k := 1) F ⟨rfl, rfl, rfl, by decide +kernel, rfl, by decide +kernel, by decide +kernel⟩ hx hb fun cdv A outer s H E gd hr tk => by
    have nd : (["size", "value", "state"] : List Str).Nodup := by decide +kernel
    have lt := lets_of tk
    exact (pms_cons (pms_if (PW.pt (pmw_or (pmt_not (pmt_val (pm_callB call_isAll (oIsK T.isT) T.n_isinstance (by decide +kernel) (pma_cons (pm_var 1) (pma_cons (pm_ty T.n_tuple (by decide +kernel)) pma_nil))))) (pmw_or1 (pmt_not (pmt_val (pm_callB (cr_all rfl) oAll T.n_all (by decide +kernel) (pma_cons (pm_lc nc (own := [("state", 2)]) (t := (.nm 2)) nd (pmi_all (pm_var 1)) (blkOk_by (by kernel_rfl)) (fun s H C cl fp => (pg_name (i := 2) nd rfl (.inl rfl) (.inr rfl))) (fun s H C cl fp => pmts_nil) (fun s H C cl fp => (pm_fn_call (F_is_integer.mono (by decide)) hr gd lets0 (pma_cons (pm_var 2) (pma_cons pm_int (pma_cons (pm_bin op_sub o2Sub (pm_var 0) pm_int) pma_nil)))))) pma_nil))))))) (pms_one (pms_ret pm_bl)) pms_nil)
      (pms_one (pms_ret (pm_fn_call (F_are_ascending.mono (by decide)) hr gd lt (pma_cons (pm_var 1) pma_nil)))))
/-! is_step -/
def b_is_step : MS := (sSeq (sIf (mOrT (mNotT (mB (mCall (gIsK isOwn isSub isYs) (aCons (mVar 2) (aCons (mC (.ty "tuple")) aNil))))) (mB (m2 gNe (mCall gLen (aCons (mVar 2) aNil)) (mC (.int 5))))) (sRet (mC (.bl false))) sNext)
  (sSeq (sAsg (gTL 5 (gConsM (gN 3) (gConsM (gN 4) (gConsM (gN 5) (gConsM (gN 6) (gConsM (gN 7) gNilM)))))) (mVar 2))
  (sSeq (sIf (mOrT (mNotT (mB (mFn 3 f_is_integer (aCons (mVar 3) (aCons (mC (.int 0)) (aCons (m2 gSub (mVar 1) (mC (.int 1))) aNil)))))) (mNotT (mB (mFn 3 f_is_integer (aCons (mVar 7) (aCons (mC (.int 0)) (aCons (m2 gSub (mVar 1) (mC (.int 1))) aNil))))))) (sRet (mC (.bl false))) sNext)
  (sRet (mAnd (mFn 2 f_is_letter (aCons (mVar 0) (aCons (mVar 4) aNil))) (mAnd (mFn 3 f_is_integer (aCons (mVar 5) (aCons (mC (.int 0)) (aCons (mC (.int 1)) aNil)))) (mFn 3 f_is_integer (aCons (mVar 6) (aCons (mC (.int 0)) (aCons (mC (.int 3)) aNil))))))))))
def f_is_step : FM := defM 8 b_is_step
theorem ok_is_step (nc : Tb.cs = none) (nj : Tb.j = JP.no) (T : TxtP K mg) (T2 : Txt2 P w K mg) (F_is_integer : FnM P w K mg base LV_is_integer "is_integer" 3 f_is_integer) (F_is_letter : FnM P w K mg base LV_is_letter "is_letter" 2 f_is_letter) (F : Fun K "is_step" "is_step" s_is_step f fd) (hx : mg "is_step" = some (.ref f)) (hb : Binds K fd ["alphabet", "size", "value"] []) : FnM P w K mg base LV_is_step "is_step" 3 f_is_step := by
  obtain ⟨u_MAX_COST, g_MAX_COST, r_MAX_COST⟩ := T.c_MAX_COST
  exact fn_mirror nc (N := ["alphabet", "size", "value", "state", "letter", "restart", "cost", "later"]) (ps := ["alphabet", "size", "value"]) (k := 2) F ⟨rfl, rfl, rfl, by decide +kernel, rfl, by decide +kernel, by decide +kernel⟩ hx hb fun cdv A outer s H E gd hr tk => by
    have nd : (["alphabet", "size", "value", "state", "letter", "restart", "cost", "later"] : List Str).Nodup := by decide +kernel
    have lt := lets_of tk
    exact (pms_cons (pms_if (PW.pt (pmw_or (pmt_not (pmt_val (pm_callB call_isAll (oIsK T.isT) T.n_isinstance (by decide +kernel) (pma_cons (pm_var 2) (pma_cons (pm_ty T.n_tuple (by decide +kernel)) pma_nil))))) (pmw_or1 (pmt_cmp (op_neD hr.units) o2Ne (pm_callB call_len oLen T.n_len (by decide +kernel) (pma_cons (pm_var 2) pma_nil)) pm_int)))) (pms_one (pms_ret pm_bl)) pms_nil)
      (pms_cons (pms_asg (pm_var 2) (pmg_tupL (pmgs_cons (pmg_name 3 nd) (pmgs_cons (pmg_name 4 nd) (pmgs_cons (pmg_name 5 nd) (pmgs_cons (pmg_name 6 nd) (pmgs_cons (pmg_name 7 nd) pmgs_nil)))))))
      (pms_cons (pms_if (PW.pt (pmw_or (pmt_not (pmt_val (pm_fn_call (F_is_integer.mono (by decide)) hr gd lt (pma_cons (pm_var 3) (pma_cons pm_int (pma_cons (pm_bin op_sub o2Sub (pm_var 1) pm_int) pma_nil)))))) (pmw_or1 (pmt_not (pmt_val (pm_fn_call (F_is_integer.mono (by decide)) hr gd lt (pma_cons (pm_var 7) (pma_cons pm_int (pma_cons (pm_bin op_sub o2Sub (pm_var 1) pm_int) pma_nil))))))))) (pms_one (pms_ret pm_bl)) pms_nil)
      (pms_one (pms_ret (pm_and (pm_fn_call (F_is_letter.mono (by decide)) hr gd lt (pma_cons (pm_var 0) (pma_cons (pm_var 4) pma_nil))) (pm_and (pm_fn_call (F_is_integer.mono (by decide)) hr gd lt (pma_cons (pm_var 5) (pma_cons pm_int (pma_cons pm_int pma_nil)))) (pm_one (pm_fn_call (F_is_integer.mono (by decide)) hr gd lt (pma_cons (pm_var 6) (pma_cons pm_int (pma_cons (pm_glob g_MAX_COST r_MAX_COST (fun _ _ => .int _)) pma_nil))))))))))))
/-! is_machine -/
def b_is_machine : MS := (sSeq (sIf (mOrT (mNotT (mB (mCall (gIsK isOwn isSub isYs) (aCons (mVar 0) (aCons (mC (.ty "tuple")) aNil))))) (mB (m2 gNe (mCall gLen (aCons (mVar 0) aNil)) (mC (.int 5))))) (sRet (mC (.bl false))) sNext)
  (sSeq (sAsg (gTL 5 (gConsM (gN 1) (gConsM (gN 2) (gConsM (gN 3) (gConsM (gN 4) (gConsM (gN 5) gNilM)))))) (mVar 0))
  (sSeq (sIf (mOrT (mNotT (mB (mFn 1 f_is_alphabet (aCons (mVar 1) aNil)))) (mNotT (mB (mFn 3 f_is_integer (aCons (mVar 2) (aCons (mC (.int 1)) (aCons (mC (.int 8)) aNil))))))) (sRet (mC (.bl false))) sNext)
  (sSeq (sIf (mOrT (mNotT (mB (mFn 2 f_are_states (aCons (mVar 2) (aCons (mVar 3) aNil))))) (mNotT (mB (mFn 2 f_are_states (aCons (mVar 2) (aCons (mVar 4) aNil)))))) (sRet (mC (.bl false))) sNext)
  (sSeq (sIf (mOrT (mNotT (mB (mCall (gIsK isOwn isSub isYs) (aCons (mVar 5) (aCons (mC (.ty "tuple")) aNil))))) (mB (m2 gGt (mCall gLen (aCons (mVar 5) aNil)) (mC (.int 60))))) (sRet (mC (.bl false))) sNext)
  (sRet (mAnd (mCall gAll (aCons (mLc (iAll (mVar 5)) [6] (.nm 6) tYesM (mFn 3 f_is_step (aCons (mVar 1) (aCons (mVar 2) (aCons (mVar 6) aNil))))) aNil)) (mFn 1 f_are_ascending (aCons (mVar 5) aNil)))))))))
def f_is_machine : FM := defM 7 b_is_machine
theorem ok_is_machine (nc : Tb.cs = none) (nj : Tb.j = JP.no) (T : TxtP K mg) (T2 : Txt2 P w K mg) (F_is_alphabet : FnM P w K mg base LV_is_alphabet "is_alphabet" 1 f_is_alphabet) (F_is_integer : FnM P w K mg base LV_is_integer "is_integer" 3 f_is_integer) (F_are_ascending : FnM P w K mg base LV_are_ascending "are_ascending" 1 f_are_ascending) (F_are_states : FnM P w K mg base LV_are_states "are_states" 2 f_are_states) (F_is_step : FnM P w K mg base LV_is_step "is_step" 3 f_is_step) (F : Fun K "is_machine" "is_machine" s_is_machine f fd) (hx : mg "is_machine" = some (.ref f)) (hb : Binds K fd ["value"] []) : FnM P w K mg base LV_is_machine "is_machine" 1 f_is_machine := by
  obtain ⟨u_MAX_STATES, g_MAX_STATES, r_MAX_STATES⟩ := T.c_MAX_STATES
  obtain ⟨u_MAX_STEPS, g_MAX_STEPS, r_MAX_STEPS⟩ := T.c_MAX_STEPS
  exact fn_mirror nc (N := ["value", "alphabet", "size", "starts", "finals", "steps", "step"]) (ps := ["value"]) (k := 3) F ⟨rfl, rfl, rfl, by decide +kernel, rfl, by decide +kernel, by decide +kernel⟩ hx hb fun cdv A outer s H E gd hr tk => by
    have nd : (["value", "alphabet", "size", "starts", "finals", "steps", "step"] : List Str).Nodup := by decide +kernel
    have lt := lets_of tk
    exact (pms_cons (pms_if (PW.pt (pmw_or (pmt_not (pmt_val (pm_callB call_isAll (oIsK T.isT) T.n_isinstance (by decide +kernel) (pma_cons (pm_var 0) (pma_cons (pm_ty T.n_tuple (by decide +kernel)) pma_nil))))) (pmw_or1 (pmt_cmp (op_neD hr.units) o2Ne (pm_callB call_len oLen T.n_len (by decide +kernel) (pma_cons (pm_var 0) pma_nil)) pm_int)))) (pms_one (pms_ret pm_bl)) pms_nil)
      (pms_cons (pms_asg (pm_var 0) (pmg_tupL (pmgs_cons (pmg_name 1 nd) (pmgs_cons (pmg_name 2 nd) (pmgs_cons (pmg_name 3 nd) (pmgs_cons (pmg_name 4 nd) (pmgs_cons (pmg_name 5 nd) pmgs_nil)))))))
      (pms_cons (pms_if (PW.pt (pmw_or (pmt_not (pmt_val (pm_fn_call (F_is_alphabet.mono (by decide)) hr gd lt (pma_cons (pm_var 1) pma_nil)))) (pmw_or1 (pmt_not (pmt_val (pm_fn_call (F_is_integer.mono (by decide)) hr gd lt (pma_cons (pm_var 2) (pma_cons pm_int (pma_cons (pm_glob g_MAX_STATES r_MAX_STATES (fun _ _ => .int _)) pma_nil))))))))) (pms_one (pms_ret pm_bl)) pms_nil)
      (pms_cons (pms_if (PW.pt (pmw_or (pmt_not (pmt_val (pm_fn_call (F_are_states.mono (by decide)) hr gd lt (pma_cons (pm_var 2) (pma_cons (pm_var 3) pma_nil))))) (pmw_or1 (pmt_not (pmt_val (pm_fn_call (F_are_states.mono (by decide)) hr gd lt (pma_cons (pm_var 2) (pma_cons (pm_var 4) pma_nil)))))))) (pms_one (pms_ret pm_bl)) pms_nil)
      (pms_cons (pms_if (PW.pt (pmw_or (pmt_not (pmt_val (pm_callB call_isAll (oIsK T.isT) T.n_isinstance (by decide +kernel) (pma_cons (pm_var 5) (pma_cons (pm_ty T.n_tuple (by decide +kernel)) pma_nil))))) (pmw_or1 (pmt_cmp opGt o2Gt (pm_callB call_len oLen T.n_len (by decide +kernel) (pma_cons (pm_var 5) pma_nil)) (pm_glob g_MAX_STEPS r_MAX_STEPS (fun _ _ => .int _)))))) (pms_one (pms_ret pm_bl)) pms_nil)
      (pms_one (pms_ret (pm_and (pm_callB (cr_all rfl) oAll T.n_all (by decide +kernel) (pma_cons (pm_lc nc (own := [("step", 6)]) (t := (.nm 6)) nd (pmi_all (pm_var 5)) (blkOk_by (by kernel_rfl)) (fun s H C cl fp => (pg_name (i := 6) nd rfl (.inl rfl) (.inr rfl))) (fun s H C cl fp => pmts_nil) (fun s H C cl fp => (pm_fn_call (F_is_step.mono (by decide)) hr gd lets0 (pma_cons (pm_var 1) (pma_cons (pm_var 2) (pma_cons (pm_var 6) pma_nil)))))) pma_nil)) (pm_one (pm_fn_call (F_are_ascending.mono (by decide)) hr gd lt (pma_cons (pm_var 5) pma_nil)))))))))))
/-! require_machine -/
def b_require_machine : MS := (sIf (mNotT (mB (mFn 1 f_is_machine (aCons (mVar 0) aNil)))) (sRaise "InvalidMachine") sNext)
def f_require_machine : FM := defM 1 b_require_machine
theorem ok_require_machine (nc : Tb.cs = none) (nj : Tb.j = JP.no) (T : TxtP K mg) (T2 : Txt2 P w K mg) (F_is_machine : FnM P w K mg base LV_is_machine "is_machine" 1 f_is_machine) (F : Fun K "require_machine" "require_machine" s_require_machine f fd) (hx : mg "require_machine" = some (.ref f)) (hb : Binds K fd ["machine"] []) : FnM P w K mg base LV_require_machine "require_machine" 1 f_require_machine := by
  obtain ⟨C_InvalidMachine, e_InvalidMachine⟩ := T.x_InvalidMachine
  exact fn_mirror nc (N := ["machine"]) (ps := ["machine"]) (k := 4) F ⟨rfl, rfl, rfl, by decide +kernel, rfl, by decide +kernel, by decide +kernel⟩ hx hb fun cdv A outer s H E gd hr tk => by
    have nd : (["machine"] : List Str).Nodup := by decide +kernel
    have lt := lets_of tk
    exact (pms_one (pms_if (pmt_not (pmt_val (pm_fn_call (F_is_machine.mono (by decide)) hr gd lt (pma_cons (pm_var 0) pma_nil)))) (pms_one (pms_raiseT tk PySem.F.excBase_ValueError e_InvalidMachine)) pms_nil))
/-! numbers_text -/
def b_numbers_text : MS := (sRet (mIf (mB (m2 gNeT (mVar 0) (mTup aNil))) (mMethT isStr gJoin (mVar 1) (aCons (mLc (iAll (mVar 0)) [2] (.nm 2) tYesM (mCall gStr (aCons (mVar 2) aNil))) aNil)) (mC (.str "-"))))
def f_numbers_text : FM := defM 3 b_numbers_text
theorem ok_numbers_text (nc : Tb.cs = none) (nj : Tb.j = JP.no) (T : TxtP K mg) (T2 : Txt2 P w K mg) (F : Fun K "numbers_text" "numbers_text" s_numbers_text f fd) (hx : mg "numbers_text" = some (.ref f)) (hb : Binds K fd ["numbers", "separator"] []) : FnM P w K mg base LV_numbers_text "numbers_text" 2 f_numbers_text := by
  obtain ⟨u_NOTHING, g_NOTHING, r_NOTHING⟩ := T.c_NOTHING
  exact fn_mirror nc (N := ["numbers", "separator", "number"]) (ps := ["numbers", "separator"]) (k := 0) F ⟨rfl, rfl, rfl, by decide +kernel, rfl, by decide +kernel, by decide +kernel⟩ hx hb fun cdv A outer s H E gd hr tk => by
    have nd : (["numbers", "separator", "number"] : List Str).Nodup := by decide +kernel
    have lt := lets_of tk
    exact (pms_one (pms_ret (pm_if (pmt_cmp (op_neDT hr.units) o2NeT (pm_var 0) (pm_tup pma_nil)) (pm_bm PySem.F.plainAttrs_str PySem.F.slot_str_join PySem.F.type_str_join mt_join oIsStr oJoin (pm_var 1) (pma_cons (pm_lc nc (own := [("number", 2)]) (t := (.nm 2)) nd (pmi_all (pm_var 0)) (blkOk_by (by kernel_rfl)) (fun s H C cl fp => (pg_name (i := 2) nd rfl (.inl rfl) (.inr rfl))) (fun s H C cl fp => pmts_nil) (fun s H C cl fp => (pm_callTy opStr oStr T.n_str (by decide +kernel) (pma_cons (pm_var 2) pma_nil)))) pma_nil)) (pm_glob g_NOTHING r_NOTHING (fun _ _ => .str _)))))
/-! step_text -/
def b_step_text : MS := (sSeq (sAsg (gTL 5 (gConsM (gN 1) (gConsM (gN 2) (gConsM (gN 3) (gConsM (gN 4) (gConsM (gN 5) gNilM)))))) (mVar 0))
  (sSeq (sSet 6 (mIf (mB (m2 gEq (mVar 3) (mC (.int 1)))) (mC (.str "=")) (mC (.str "+"))))
  (sRet (mJs [(mFmt (mVar 1)), (mC (.str " ")), (mFmt (mVar 2)), (mC (.str " ")), (mFmt (mVar 6)), (mFmt (mVar 4)), (mC (.str " ")), (mFmt (mVar 5))]))))
def f_step_text : FM := defM 7 b_step_text
theorem ok_step_text (nc : Tb.cs = none) (nj : Tb.j = JP.no) (T : TxtP K mg) (T2 : Txt2 P w K mg) (F : Fun K "step_text" "step_text" s_step_text f fd) (hx : mg "step_text" = some (.ref f)) (hb : Binds K fd ["step"] []) : FnM P w K mg base LV_step_text "step_text" 1 f_step_text := by
  exact fn_mirror nc (N := ["step", "state", "letter", "restart", "cost", "later", "sign"]) (ps := ["step"]) (k := 0) F ⟨rfl, rfl, rfl, by decide +kernel, rfl, by decide +kernel, by decide +kernel⟩ hx hb fun cdv A outer s H E gd hr tk => by
    have nd : (["step", "state", "letter", "restart", "cost", "later", "sign"] : List Str).Nodup := by decide +kernel
    have lt := lets_of tk
    exact (pms_cons (pms_asg (pm_var 0) (pmg_tupL (pmgs_cons (pmg_name 1 nd) (pmgs_cons (pmg_name 2 nd) (pmgs_cons (pmg_name 3 nd) (pmgs_cons (pmg_name 4 nd) (pmgs_cons (pmg_name 5 nd) pmgs_nil)))))))
      (pms_cons (pms_set 6 nd (pm_if (pmt_cmp (op_eqD hr.units) o2Eq (pm_var 3) pm_int) pm_str pm_str))
      (pms_one (pms_ret (pm_joined (.cons (pm_fmt (pm_var 1)) (.cons pm_str (.cons (pm_fmt (pm_var 2)) (.cons pm_str (.cons (pm_fmt (pm_var 6)) (.cons (pm_fmt (pm_var 4)) (.cons pm_str (.cons (pm_fmt (pm_var 5)) .nil)))))))))))))
/-! machine_text -/
def b_machine_text : MS := (sSeq (sExpr (mFn 1 f_require_machine (aCons (mVar 0) aNil)))
  (sSeq (sAsg (gTL 5 (gConsM (gN 1) (gConsM (gN 2) (gConsM (gN 3) (gConsM (gN 4) (gConsM (gN 5) gNilM)))))) (mVar 0))
  (sSeq (sSet 6 (mLst (aCons (mC (.str "machine")) (aCons (mVar 1) (aCons (mCall gStr (aCons (mVar 2) aNil)) (aCons (mC (.str "starts")) (aCons (mFn 2 f_numbers_text (aCons (mVar 3) (aCons (mC (.str ",")) aNil))) (aCons (mC (.str "finals")) (aCons (mFn 2 f_numbers_text (aCons (mVar 4) (aCons (mC (.str ",")) aNil))) aNil)))))))))
  (sRet (mMethT isStr gJoin (mC (.str "\n")) (aCons (m2 gAdd (mLst (aCons (mMethT isStr gJoin (mC (.str " ")) (aCons (mVar 6) aNil)) aNil)) (mLc (iAll (mVar 5)) [7] (.nm 7) tYesM (mFn 1 f_step_text (aCons (mVar 7) aNil)))) aNil))))))
def f_machine_text : FM := defM 8 b_machine_text
theorem ok_machine_text (nc : Tb.cs = none) (nj : Tb.j = JP.no) (T : TxtP K mg) (T2 : Txt2 P w K mg) (F_require_machine : FnM P w K mg base LV_require_machine "require_machine" 1 f_require_machine) (F_numbers_text : FnM P w K mg base LV_numbers_text "numbers_text" 2 f_numbers_text) (F_step_text : FnM P w K mg base LV_step_text "step_text" 1 f_step_text) (F : Fun K "machine_text" "machine_text" s_machine_text f fd) (hx : mg "machine_text" = some (.ref f)) (hb : Binds K fd ["machine"] []) : FnM P w K mg base LV_machine_text "machine_text" 1 f_machine_text := by
  exact fn_mirror nc (N := ["machine", "alphabet", "size", "starts", "finals", "steps", "words", "step"]) (ps := ["machine"]) (k := 5) F ⟨rfl, rfl, rfl, by decide +kernel, rfl, by decide +kernel, by decide +kernel⟩ hx hb fun cdv A outer s H E gd hr tk => by
    have nd : (["machine", "alphabet", "size", "starts", "finals", "steps", "words", "step"] : List Str).Nodup := by decide +kernel
    have lt := lets_of tk
    exact (pms_cons (pms_expr (pm_fn_call (F_require_machine.mono (by decide)) hr gd lt (pma_cons (pm_var 0) pma_nil)))
      (pms_cons (pms_asg (pm_var 0) (pmg_tupL (pmgs_cons (pmg_name 1 nd) (pmgs_cons (pmg_name 2 nd) (pmgs_cons (pmg_name 3 nd) (pmgs_cons (pmg_name 4 nd) (pmgs_cons (pmg_name 5 nd) pmgs_nil)))))))
      (pms_cons (pms_set 6 nd (pm_lst (pma_cons pm_str (pma_cons (pm_var 1) (pma_cons (pm_callTy opStr oStr T.n_str (by decide +kernel) (pma_cons (pm_var 2) pma_nil)) (pma_cons pm_str (pma_cons (pm_fn_call (F_numbers_text.mono (by decide)) hr gd lt (pma_cons (pm_var 3) (pma_cons pm_str pma_nil))) (pma_cons pm_str (pma_cons (pm_fn_call (F_numbers_text.mono (by decide)) hr gd lt (pma_cons (pm_var 4) (pma_cons pm_str pma_nil))) pma_nil)))))))))
      (pms_one (pms_ret (pm_bm PySem.F.plainAttrs_str PySem.F.slot_str_join PySem.F.type_str_join mt_join oIsStr oJoin pm_str (pma_cons (pm_bin opAdd o2Add (pm_lst (pma_cons (pm_bm PySem.F.plainAttrs_str PySem.F.slot_str_join PySem.F.type_str_join mt_join oIsStr oJoin pm_str (pma_cons (pm_var 6) pma_nil)) pma_nil)) (pm_lc nc (own := [("step", 7)]) (t := (.nm 7)) nd (pmi_all (pm_var 5)) (blkOk_by (by kernel_rfl)) (fun s H C cl fp => (pg_name (i := 7) nd rfl (.inl rfl) (.inr rfl))) (fun s H C cl fp => pmts_nil) (fun s H C cl fp => (pm_fn_call (F_step_text.mono (by decide)) hr gd lets0 (pma_cons (pm_var 7) pma_nil))))) pma_nil)))))))
/-! lines_of -/
def b_lines_of : MS := (sSeq (sIf (mNotT (mB (mCall (gIsK isOwn isSub isYs) (aCons (mVar 0) (aCons (mC (.ty "str")) aNil))))) (sRaise "ParseError") sNext)
  (sRet (mLc (iAll (mMethT isStr gSplit (mVar 0) (aCons (mC (.str "\n")) aNil))) [1] (.nm 1) tYesM (mMethT isStr gSplit (mVar 1) (aCons (mC (.str " ")) aNil)))))
def f_lines_of : FM := defM 2 b_lines_of
theorem ok_lines_of (nc : Tb.cs = none) (nj : Tb.j = JP.no) (T : TxtP K mg) (T2 : Txt2 P w K mg) (F : Fun K "lines_of" "lines_of" s_lines_of f fd) (hx : mg "lines_of" = some (.ref f)) (hb : Binds K fd ["text"] []) : FnM P w K mg base LV_lines_of "lines_of" 1 f_lines_of := by
  obtain ⟨C_ParseError, e_ParseError⟩ := T.x_ParseError
  exact fn_mirror nc (N := ["text", "line"]) (ps := ["text"]) (k := 0) F ⟨rfl, rfl, rfl, by decide +kernel, rfl, by decide +kernel, by decide +kernel⟩ hx hb fun cdv A outer s H E gd hr tk => by
    have nd : (["text", "line"] : List Str).Nodup := by decide +kernel
    have lt := lets_of tk
    exact (pms_cons (pms_if (pmt_not (pmt_val (pm_callB call_isAll (oIsK T.isT) T.n_isinstance (by decide +kernel) (pma_cons (pm_var 0) (pma_cons (pm_ty T.n_str (by decide +kernel)) pma_nil))))) (pms_one (pms_raiseT tk PySem.F.excBase_ValueError e_ParseError)) pms_nil)
      (pms_one (pms_ret (pm_lc nc (own := [("line", 1)]) (t := (.nm 1)) nd (pmi_all (pm_bm PySem.F.plainAttrs_str PySem.F.slot_str_split PySem.F.type_str_split mt_split oIsStr oSplit (pm_var 0) (pma_cons pm_str pma_nil))) (blkOk_by (by kernel_rfl)) (fun s H C cl fp => (pg_name (i := 1) nd rfl (.inl rfl) (.inr rfl))) (fun s H C cl fp => pmts_nil) (fun s H C cl fp => (pm_bm PySem.F.plainAttrs_str PySem.F.slot_str_split PySem.F.type_str_split mt_split oIsStr oSplit (pm_var 1) (pma_cons pm_str pma_nil)))))))
/-! number_of -/
def b_number_of : MS := (sSeq (sIf (mOrT (mNotT (mB (mChain gLe gLe (mC (.int 1)) (mCall gLen (aCons (mVar 0) aNil)) (mC (.int 6))))) (mNotT (mB (mCall gAll (aCons (mLc (iAll (mVar 0)) [1] (.nm 1) tYesM (m2 gIn (mVar 1) (mC (.str "0123456789")))) aNil))))) (sRaise "ParseError") sNext)
  (sSeq (sIf (mAndT (mB (m2 gNe (mVar 0) (mC (.str "0")))) (mB (m2 gEq (m2 gIx (mVar 0) (mC (.int 0))) (mC (.str "0"))))) (sRaise "ParseError") sNext)
  (sRet (mCall gInt (aCons (mVar 0) aNil)))))
def f_number_of : FM := defM 2 b_number_of
theorem ok_number_of (nc : Tb.cs = none) (nj : Tb.j = JP.no) (T : TxtP K mg) (T2 : Txt2 P w K mg) (F : Fun K "number_of" "number_of" s_number_of f fd) (hx : mg "number_of" = some (.ref f)) (hb : Binds K fd ["text"] []) : FnM P w K mg base LV_number_of "number_of" 1 f_number_of := by
  obtain ⟨u_DIGITS, g_DIGITS, r_DIGITS⟩ := T.c_DIGITS
  obtain ⟨u_MAX_DIGITS, g_MAX_DIGITS, r_MAX_DIGITS⟩ := T.c_MAX_DIGITS
  obtain ⟨C_ParseError, e_ParseError⟩ := T.x_ParseError
  exact fn_mirror nc (N := ["text", "sign"]) (ps := ["text"]) (k := 0) F ⟨rfl, rfl, rfl, by decide +kernel, rfl, by decide +kernel, by decide +kernel⟩ hx hb fun cdv A outer s H E gd hr tk => by
    have nd : (["text", "sign"] : List Str).Nodup := by decide +kernel
    have lt := lets_of tk
    exact (pms_cons (pms_if (PW.pt (pmw_or (pmt_not (pmt_chain opLe opLe o2Le o2Le pm_int (pm_callB call_len oLen T.n_len (by decide +kernel) (pma_cons (pm_var 0) pma_nil)) (pm_glob g_MAX_DIGITS r_MAX_DIGITS (fun _ _ => .int _)))) (pmw_or1 (pmt_not (pmt_val (pm_callB (cr_all rfl) oAll T.n_all (by decide +kernel) (pma_cons (pm_lc nc (own := [("sign", 1)]) (t := (.nm 1)) nd (pmi_all (pm_var 0)) (blkOk_by (by kernel_rfl)) (fun s H C cl fp => (pg_name (i := 1) nd rfl (.inl rfl) (.inr rfl))) (fun s H C cl fp => pmts_nil) (fun s H C cl fp => (pm_cmp opIn o2In (pm_var 1) (pm_glob g_DIGITS r_DIGITS (fun _ _ => .str _))))) pma_nil))))))) (pms_one (pms_raiseT tk PySem.F.excBase_ValueError e_ParseError)) pms_nil)
      (pms_cons (pms_if (PW.pt (pmw_and (pmt_cmp (op_neD hr.units) o2Ne (pm_var 0) pm_str) (pmw_and1 (pmt_cmp (op_eqD hr.units) o2Eq (pm_ix ix_seq o2Ix (pm_var 0) pm_int) pm_str)))) (pms_one (pms_raiseT tk PySem.F.excBase_ValueError e_ParseError)) pms_nil)
      (pms_one (pms_ret (pm_callTy opInt oInt T.n_int (by decide +kernel) (pma_cons (pm_var 0) pma_nil))))))
/-! parsed_step -/
def b_parsed_step : MS := (sSeq (sIf (mOrT (mB (m2 gNe (mCall gLen (aCons (mVar 0) aNil)) (mC (.int 4)))) (mB (m2 gNotIn (mSl gSlice (m2 gIx (mVar 0) (mC (.int 2))) oNone (oSome (mC (.int 1)))) (mTup (aCons (mC (.str "+")) (aCons (mC (.str "=")) aNil)))))) (sRaise "ParseError") sNext)
  (sSeq (sAsg (gTL 4 (gConsM (gN 1) (gConsM (gN 2) (gConsM (gN 3) (gConsM (gN 4) gNilM))))) (mVar 0))
  (sRet (mTup (aCons (mFn 1 f_number_of (aCons (mVar 1) aNil)) (aCons (mVar 2) (aCons (mCall gInt (aCons (m2 gEq (m2 gIx (mVar 3) (mC (.int 0))) (mC (.str "="))) aNil)) (aCons (mFn 1 f_number_of (aCons (mSl gSlice (mVar 3) (oSome (mC (.int 1))) oNone) aNil)) (aCons (mFn 1 f_number_of (aCons (mVar 4) aNil)) aNil)))))))))
def f_parsed_step : FM := defM 5 b_parsed_step
theorem ok_parsed_step (nc : Tb.cs = none) (nj : Tb.j = JP.no) (T : TxtP K mg) (T2 : Txt2 P w K mg) (F_number_of : FnM P w K mg base LV_number_of "number_of" 1 f_number_of) (F : Fun K "parsed_step" "parsed_step" s_parsed_step f fd) (hx : mg "parsed_step" = some (.ref f)) (hb : Binds K fd ["words"] []) : FnM P w K mg base LV_parsed_step "parsed_step" 1 f_parsed_step := by
  obtain ⟨C_ParseError, e_ParseError⟩ := T.x_ParseError
  exact fn_mirror nc (N := ["words", "state", "letter", "price", "later"]) (ps := ["words"]) (k := 1) F ⟨rfl, rfl, rfl, by decide +kernel, rfl, by decide +kernel, by decide +kernel⟩ hx hb fun cdv A outer s H E gd hr tk => by
    have nd : (["words", "state", "letter", "price", "later"] : List Str).Nodup := by decide +kernel
    have lt := lets_of tk
    exact (pms_cons (pms_if (PW.pt (pmw_or (pmt_cmp (op_neD hr.units) o2Ne (pm_callB call_len oLen T.n_len (by decide +kernel) (pma_cons (pm_var 0) pma_nil)) pm_int) (pmw_or1 (pmt_cmp opNotIn o2NotIn (pm_sl opSlice oSlice (pm_ix ix_seq o2Ix (pm_var 0) pm_int) pmo_none (pmo_some pm_int)) (pm_tup (pma_cons pm_str (pma_cons pm_str pma_nil))))))) (pms_one (pms_raiseT tk PySem.F.excBase_ValueError e_ParseError)) pms_nil)
      (pms_cons (pms_asg (pm_var 0) (pmg_tupL (pmgs_cons (pmg_name 1 nd) (pmgs_cons (pmg_name 2 nd) (pmgs_cons (pmg_name 3 nd) (pmgs_cons (pmg_name 4 nd) pmgs_nil))))))
      (pms_one (pms_ret (pm_tup (pma_cons (pm_fn_call (F_number_of.mono (by decide)) hr gd lt (pma_cons (pm_var 1) pma_nil)) (pma_cons (pm_var 2) (pma_cons (pm_callTy opInt oInt T.n_int (by decide +kernel) (pma_cons (pm_cmp (op_eqD hr.units) o2Eq (pm_ix ix_seq o2Ix (pm_var 3) pm_int) pm_str) pma_nil)) (pma_cons (pm_fn_call (F_number_of.mono (by decide)) hr gd lt (pma_cons (pm_sl opSlice oSlice (pm_var 3) (pmo_some pm_int) pmo_none) pma_nil)) (pma_cons (pm_fn_call (F_number_of.mono (by decide)) hr gd lt (pma_cons (pm_var 4) pma_nil)) pma_nil))))))))))
/-! numbers_of -/
def b_numbers_of : MS := (sSeq (sIf (mB (m2 gEq (mVar 0) (mC (.str "-")))) (sRet (mTup aNil)) sNext)
  (sRet (mCall gTuple (aCons (mLcX (iAll (mMethT isStr gSplit (mVar 0) (aCons (mVar 1) aNil))) [2] (.nm 2) tYesM (mFn 1 f_number_of (aCons (mVar 2) aNil))) aNil))))
def f_numbers_of : FM := defM 3 b_numbers_of
theorem ok_numbers_of (nc : Tb.cs = none) (nj : Tb.j = JP.no) (T : TxtP K mg) (T2 : Txt2 P w K mg) (F_number_of : FnM P w K mg base LV_number_of "number_of" 1 f_number_of) (F : Fun K "numbers_of" "numbers_of" s_numbers_of f fd) (hx : mg "numbers_of" = some (.ref f)) (hb : Binds K fd ["text", "separator"] []) : FnM P w K mg base LV_numbers_of "numbers_of" 2 f_numbers_of := by
  obtain ⟨u_NOTHING, g_NOTHING, r_NOTHING⟩ := T.c_NOTHING
  exact fn_mirror nc (N := ["text", "separator", "part"]) (ps := ["text", "separator"]) (k := 1) F ⟨rfl, rfl, rfl, by decide +kernel, rfl, by decide +kernel, by decide +kernel⟩ hx hb fun cdv A outer s H E gd hr tk => by
    have nd : (["text", "separator", "part"] : List Str).Nodup := by decide +kernel
    have lt := lets_of tk
    exact (pms_cons (pms_if (pmt_cmp (op_eqD hr.units) o2Eq (pm_var 0) (pm_glob g_NOTHING r_NOTHING (fun _ _ => .str _))) (pms_one (pms_ret (pm_tup pma_nil))) pms_nil)
      (pms_one (pms_ret (pm_callTy call_tuple_of oTuple T.n_tuple (by decide +kernel) (pma_cons (pm_lcX nc (own := [("part", 2)]) (t := (.nm 2)) tk rfl rfl nd (pmi_all (pm_bm PySem.F.plainAttrs_str PySem.F.slot_str_split PySem.F.type_str_split mt_split oIsStr oSplit (pm_var 0) (pma_cons (pm_var 1) pma_nil))) (blkOk_by (by kernel_rfl)) (fun s H C cl fp => (pg_name (i := 2) nd rfl (.inl rfl) (.inr rfl))) (fun s H C cl fp W => pmts_nil') (fun s H C cl fp W l => (pm_fn_call (F_number_of.mono (by decide)) hr gd l (pma_cons (pm_var 2) pma_nil)))) pma_nil)))))
/-! parsed_head -/
def b_parsed_head : MS := (sSeq (sIf (mOrT (mB (m2 gNe (mCall gLen (aCons (mVar 0) aNil)) (mC (.int 7)))) (mB (m2 gNe (mLst (aCons (m2 gIx (mVar 0) (mC (.int 0))) (aCons (m2 gIx (mVar 0) (mC (.int 3))) (aCons (m2 gIx (mVar 0) (mC (.int 5))) aNil)))) (mLst (aCons (mC (.str "machine")) (aCons (mC (.str "starts")) (aCons (mC (.str "finals")) aNil))))))) (sRaise "ParseError") sNext)
  (sRet (mTup (aCons (m2 gIx (mVar 0) (mC (.int 1))) (aCons (mFn 1 f_number_of (aCons (m2 gIx (mVar 0) (mC (.int 2))) aNil)) (aCons (mFn 2 f_numbers_of (aCons (m2 gIx (mVar 0) (mC (.int 4))) (aCons (mC (.str ",")) aNil))) (aCons (mFn 2 f_numbers_of (aCons (m2 gIx (mVar 0) (mC (.int 6))) (aCons (mC (.str ",")) aNil))) aNil)))))))
def f_parsed_head : FM := defM 1 b_parsed_head
theorem ok_parsed_head (nc : Tb.cs = none) (nj : Tb.j = JP.no) (T : TxtP K mg) (T2 : Txt2 P w K mg) (F_number_of : FnM P w K mg base LV_number_of "number_of" 1 f_number_of) (F_numbers_of : FnM P w K mg base LV_numbers_of "numbers_of" 2 f_numbers_of) (F : Fun K "parsed_head" "parsed_head" s_parsed_head f fd) (hx : mg "parsed_head" = some (.ref f)) (hb : Binds K fd ["words"] []) : FnM P w K mg base LV_parsed_head "parsed_head" 1 f_parsed_head := by
  obtain ⟨C_ParseError, e_ParseError⟩ := T.x_ParseError
  exact fn_mirror nc (N := ["words"]) (ps := ["words"]) (k := 2) F ⟨rfl, rfl, rfl, by decide +kernel, rfl, by decide +kernel, by decide +kernel⟩ hx hb fun cdv A outer s H E gd hr tk => by
    have nd : (["words"] : List Str).Nodup := by decide +kernel
    have lt := lets_of tk
    exact (pms_cons (pms_if (PW.pt (pmw_or (pmt_cmp (op_neD hr.units) o2Ne (pm_callB call_len oLen T.n_len (by decide +kernel) (pma_cons (pm_var 0) pma_nil)) pm_int) (pmw_or1 (pmt_cmp (op_neD hr.units) o2Ne (pm_lst (pma_cons (pm_ix ix_seq o2Ix (pm_var 0) pm_int) (pma_cons (pm_ix ix_seq o2Ix (pm_var 0) pm_int) (pma_cons (pm_ix ix_seq o2Ix (pm_var 0) pm_int) pma_nil)))) (pm_lst (pma_cons pm_str (pma_cons pm_str (pma_cons pm_str pma_nil)))))))) (pms_one (pms_raiseT tk PySem.F.excBase_ValueError e_ParseError)) pms_nil)
      (pms_one (pms_ret (pm_tup (pma_cons (pm_ix ix_seq o2Ix (pm_var 0) pm_int) (pma_cons (pm_fn_call (F_number_of.mono (by decide)) hr gd lt (pma_cons (pm_ix ix_seq o2Ix (pm_var 0) pm_int) pma_nil)) (pma_cons (pm_fn_call (F_numbers_of.mono (by decide)) hr gd lt (pma_cons (pm_ix ix_seq o2Ix (pm_var 0) pm_int) (pma_cons pm_str pma_nil))) (pma_cons (pm_fn_call (F_numbers_of.mono (by decide)) hr gd lt (pma_cons (pm_ix ix_seq o2Ix (pm_var 0) pm_int) (pma_cons pm_str pma_nil))) pma_nil))))))))
/-! parse_machine -/
def b_parse_machine : MS := (sSeq (sAsg (gStar (gN 1) (gN 2)) (mFn 1 f_lines_of (aCons (mVar 0) aNil)))
  (sSeq (sSet 3 (m2 gAdd (mFn 1 f_parsed_head (aCons (mVar 1) aNil)) (mTup (aCons (mCall gTuple (aCons (mLcX (iAll (mVar 2)) [4] (.nm 4) tYesM (mFn 1 f_parsed_step (aCons (mVar 4) aNil))) aNil)) aNil))))
  (sSeq (sIf (mOrT (mNotT (mB (mFn 1 f_is_machine (aCons (mVar 3) aNil)))) (mB (m2 gNe (mFn 1 f_machine_text (aCons (mVar 3) aNil)) (mVar 0)))) (sRaise "ParseError") sNext)
  (sRet (mVar 3)))))
def f_parse_machine : FM := defM 5 b_parse_machine
theorem ok_parse_machine (nc : Tb.cs = none) (nj : Tb.j = JP.no) (T : TxtP K mg) (T2 : Txt2 P w K mg) (F_is_machine : FnM P w K mg base LV_is_machine "is_machine" 1 f_is_machine) (F_machine_text : FnM P w K mg base LV_machine_text "machine_text" 1 f_machine_text) (F_lines_of : FnM P w K mg base LV_lines_of "lines_of" 1 f_lines_of) (F_parsed_step : FnM P w K mg base LV_parsed_step "parsed_step" 1 f_parsed_step) (F_parsed_head : FnM P w K mg base LV_parsed_head "parsed_head" 1 f_parsed_head) (F : Fun K "parse_machine" "parse_machine" s_parse_machine f fd) (hx : mg "parse_machine" = some (.ref f)) (hb : Binds K fd ["text"] []) : FnM P w K mg base LV_parse_machine "parse_machine" 1 f_parse_machine := by
  obtain ⟨C_ParseError, e_ParseError⟩ := T.x_ParseError
  exact fn_mirror nc (N := ["text", "first", "rows", "machine", "words"]) (ps := ["text"]) (k := 6) F ⟨rfl, rfl, rfl, by decide +kernel, rfl, by decide +kernel, by decide +kernel⟩ hx hb fun cdv A outer s H E gd hr tk => by
    have nd : (["text", "first", "rows", "machine", "words"] : List Str).Nodup := by decide +kernel
    have lt := lets_of tk
    exact (pms_cons (pms_asg (pm_fn_call (F_lines_of.mono (by decide)) hr gd lt (pma_cons (pm_var 0) pma_nil)) (pmg_star (pmg_name 1 nd) (pmg_name 2 nd)))
      (pms_cons (pms_set 3 nd (pm_bin opAdd o2Add (pm_fn_call (F_parsed_head.mono (by decide)) hr gd lt (pma_cons (pm_var 1) pma_nil)) (pm_tup (pma_cons (pm_callTy call_tuple_of oTuple T.n_tuple (by decide +kernel) (pma_cons (pm_lcX nc (own := [("words", 4)]) (t := (.nm 4)) tk rfl rfl nd (pmi_all (pm_var 2)) (blkOk_by (by kernel_rfl)) (fun s H C cl fp => (pg_name (i := 4) nd rfl (.inl rfl) (.inr rfl))) (fun s H C cl fp W => pmts_nil') (fun s H C cl fp W l => (pm_fn_call (F_parsed_step.mono (by decide)) hr gd l (pma_cons (pm_var 4) pma_nil)))) pma_nil)) pma_nil))))
      (pms_cons (pms_if (PW.pt (pmw_or (pmt_not (pmt_val (pm_fn_call (F_is_machine.mono (by decide)) hr gd lt (pma_cons (pm_var 3) pma_nil)))) (pmw_or1 (pmt_cmp (op_neD hr.units) o2Ne (pm_fn_call (F_machine_text.mono (by decide)) hr gd lt (pma_cons (pm_var 3) pma_nil)) (pm_var 0))))) (pms_one (pms_raiseT tk PySem.F.excBase_ValueError e_ParseError)) pms_nil)
      (pms_one (pms_ret (pm_var 3))))))
/-! parsed_row -/
def b_parsed_row : MS := (sSeq (sAsg (gStar (gN 1) (gN 2)) (mVar 0))
  (sSeq (sIf (mB (m2 gEq (mVar 1) (mC (.str "letter")))) (sRet (mTup (aCons (mVar 1) (aStar (mVar 2) aNil)))) sNext)
  (sSeq (sSet 3 (mLcX (iAll (mVar 2)) [4] (.nm 4) tYesM (mFn 1 f_number_of (aCons (mVar 4) aNil))))
  (sRet (mTup (aCons (mVar 1) (aStar (mVar 3) aNil)))))))
def f_parsed_row : FM := defM 5 b_parsed_row
theorem ok_parsed_row (nc : Tb.cs = none) (nj : Tb.j = JP.no) (T : TxtP K mg) (T2 : Txt2 P w K mg) (F_number_of : FnM P w K mg base LV_number_of "number_of" 1 f_number_of) (F : Fun K "parsed_row" "parsed_row" s_parsed_row f fd) (hx : mg "parsed_row" = some (.ref f)) (hb : Binds K fd ["words"] []) : FnM P w K mg base LV_parsed_row "parsed_row" 1 f_parsed_row := by
  exact fn_mirror nc (N := ["words", "word", "parts", "numbers", "part"]) (ps := ["words"]) (k := 1) F ⟨rfl, rfl, rfl, by decide +kernel, rfl, by decide +kernel, by decide +kernel⟩ hx hb fun cdv A outer s H E gd hr tk => by
    have nd : (["words", "word", "parts", "numbers", "part"] : List Str).Nodup := by decide +kernel
    have lt := lets_of tk
    exact (pms_cons (pms_asg (pm_var 0) (pmg_star (pmg_name 1 nd) (pmg_name 2 nd)))
      (pms_cons (pms_if (pmt_cmp (op_eqD hr.units) o2Eq (pm_var 1) pm_str) (pms_one (pms_ret (pm_tup (pma_cons (pm_var 1) (pma_star (pm_var 2) pma_nil))))) pms_nil)
      (pms_cons (pms_setLcX nc (i := 3) (own := [("part", 4)]) (t := (.nm 4)) tk rfl rfl nd (pmi_all (pm_var 2)) (blkOk_by (by kernel_rfl)) (fun s H C cl fp => (pg_name (i := 4) nd rfl (.inl rfl) (.inr rfl))) (fun s H C cl fp W => pmts_nil') (fun s H C cl fp W l => (pm_fn_call (F_number_of.mono (by decide)) hr gd l (pma_cons (pm_var 4) pma_nil))))
      (pms_one (pms_ret (pm_tup (pma_cons (pm_var 1) (pma_star (pm_var 3) pma_nil))))))))
/-! parse_recipe -/
def b_parse_recipe : MS := (sSeq (sIf (mNotT (mB (mFn 1 f_is_alphabet (aCons (mVar 0) aNil)))) (sRaise "InvalidMachine") sNext)
  (sSeq (sSet 2 (mCall gTuple (aCons (mLcX (iAll (mFn 1 f_lines_of (aCons (mVar 1) aNil))) [3] (.nm 3) tYesM (mFn 1 f_parsed_row (aCons (mVar 3) aNil))) aNil)))
  (sSeq (sIf (mNotT (mB (mFn 2 f_is_recipe_in (aCons (mVar 0) (aCons (mVar 2) aNil))))) (sRaise "ParseError") sNext)
  (sRet (mVar 2)))))
def f_parse_recipe : FM := defM 4 b_parse_recipe
theorem ok_parse_recipe (nc : Tb.cs = none) (nj : Tb.j = JP.no) (T : TxtP K mg) (T2 : Txt2 P w K mg) (F_is_alphabet : FnM P w K mg base LV_is_alphabet "is_alphabet" 1 f_is_alphabet) (F_is_recipe_in : FnM P w K mg base LV_is_recipe_in "is_recipe_in" 2 f_is_recipe_in) (F_lines_of : FnM P w K mg base LV_lines_of "lines_of" 1 f_lines_of) (F_parsed_row : FnM P w K mg base LV_parsed_row "parsed_row" 1 f_parsed_row) (F : Fun K "parse_recipe" "parse_recipe" s_parse_recipe f fd) (hx : mg "parse_recipe" = some (.ref f)) (hb : Binds K fd ["alphabet", "text"] []) : FnM P w K mg base LV_parse_recipe "parse_recipe" 2 f_parse_recipe := by
  obtain ⟨C_InvalidMachine, e_InvalidMachine⟩ := T.x_InvalidMachine
  obtain ⟨C_ParseError, e_ParseError⟩ := T.x_ParseError
  exact fn_mirror nc (N := ["alphabet", "text", "recipe", "words"]) (ps := ["alphabet", "text"]) (k := 4) F ⟨rfl, rfl, rfl, by decide +kernel, rfl, by decide +kernel, by decide +kernel⟩ hx hb fun cdv A outer s H E gd hr tk => by
    have nd : (["alphabet", "text", "recipe", "words"] : List Str).Nodup := by decide +kernel
    have lt := lets_of tk
    exact (pms_cons (pms_if (pmt_not (pmt_val (pm_fn_call (F_is_alphabet.mono (by decide)) hr gd lt (pma_cons (pm_var 0) pma_nil)))) (pms_one (pms_raiseT tk PySem.F.excBase_ValueError e_InvalidMachine)) pms_nil)
      (pms_cons (pms_set 2 nd (pm_callTy call_tuple_of oTuple T.n_tuple (by decide +kernel) (pma_cons (pm_lcX nc (own := [("words", 3)]) (t := (.nm 3)) tk rfl rfl nd (pmi_all (pm_fn_call (F_lines_of.mono (by decide)) hr gd lt (pma_cons (pm_var 1) pma_nil))) (blkOk_by (by kernel_rfl)) (fun s H C cl fp => (pg_name (i := 3) nd rfl (.inl rfl) (.inr rfl))) (fun s H C cl fp W => pmts_nil') (fun s H C cl fp W l => (pm_fn_call (F_parsed_row.mono (by decide)) hr gd l (pma_cons (pm_var 3) pma_nil)))) pma_nil)))
      (pms_cons (pms_if (pmt_not (pmt_val (pm_fn_call (F_is_recipe_in.mono (by decide)) hr gd lt (pma_cons (pm_var 0) (pma_cons (pm_var 2) pma_nil))))) (pms_one (pms_raiseT tk PySem.F.excBase_ValueError e_ParseError)) pms_nil)
      (pms_one (pms_ret (pm_var 2))))))
/-! is_pattern -/
def b_is_pattern : MS := (sRet (mCall (gIsK isOwn isSub isYs) (aCons (mVar 0) (aCons (mC (.gl "Pattern")) aNil))))
def f_is_pattern : FM := defM 1 b_is_pattern
theorem ok_is_pattern (nc : Tb.cs = none) (nj : Tb.j = JP.no) (T : TxtP K mg) (T2 : Txt2 P w K mg) (F : Fun K "is_pattern" "is_pattern" s_is_pattern f fd) (hx : mg "is_pattern" = some (.ref f)) (hb : Binds K fd ["value"] []) : FnM P w K mg base LV_is_pattern "is_pattern" 1 f_is_pattern := by
  exact fn_mirror nc (N := ["value"]) (ps := ["value"]) (k := 0) F ⟨rfl, rfl, rfl, by decide +kernel, rfl, by decide +kernel, by decide +kernel⟩ hx hb fun cdv A outer s H E gd hr tk => by
    have nd : (["value"] : List Str).Nodup := by decide +kernel
    have lt := lets_of tk
    exact (pms_one (pms_ret (pm_callB call_isAll (oIsK T.isT) T.n_isinstance (by decide +kernel) (pma_cons (pm_var 0) (pma_cons (pm_fn (T.g_Pattern).choose_spec) pma_nil)))))
/-! is_name -/
def b_is_name : MS := (sRet (mAnd (mCall (gIsK isOwn isSub isYs) (aCons (mVar 0) (aCons (mC (.ty "str")) aNil))) (mAnd (mChain gLe gLe (mC (.int 1)) (mCall gLen (aCons (mVar 0) aNil)) (mC (.int 8))) (mCall gAll (aCons (mLc (iAll (mVar 0)) [1] (.nm 1) tYesM (mFn 1 f_is_sign (aCons (mVar 1) aNil))) aNil)))))
def f_is_name : FM := defM 2 b_is_name
theorem ok_is_name (nc : Tb.cs = none) (nj : Tb.j = JP.no) (T : TxtP K mg) (T2 : Txt2 P w K mg) (F_is_sign : FnM P w K mg base LV_is_sign "is_sign" 1 f_is_sign) (F : Fun K "is_name" "is_name" s_is_name f fd) (hx : mg "is_name" = some (.ref f)) (hb : Binds K fd ["value"] []) : FnM P w K mg base LV_is_name "is_name" 1 f_is_name := by
  obtain ⟨u_MAX_NAME, g_MAX_NAME, r_MAX_NAME⟩ := T.c_MAX_NAME
  exact fn_mirror nc (N := ["value", "sign"]) (ps := ["value"]) (k := 1) F ⟨rfl, rfl, rfl, by decide +kernel, rfl, by decide +kernel, by decide +kernel⟩ hx hb fun cdv A outer s H E gd hr tk => by
    have nd : (["value", "sign"] : List Str).Nodup := by decide +kernel
    have lt := lets_of tk
    exact (pms_one (pms_ret (pm_and (pm_callB call_isAll (oIsK T.isT) T.n_isinstance (by decide +kernel) (pma_cons (pm_var 0) (pma_cons (pm_ty T.n_str (by decide +kernel)) pma_nil))) (pm_and (pm_chain opLe opLe o2Le o2Le pm_int (pm_callB call_len oLen T.n_len (by decide +kernel) (pma_cons (pm_var 0) pma_nil)) (pm_glob g_MAX_NAME r_MAX_NAME (fun _ _ => .int _))) (pm_one (pm_callB (cr_all rfl) oAll T.n_all (by decide +kernel) (pma_cons (pm_lc nc (own := [("sign", 1)]) (t := (.nm 1)) nd (pmi_all (pm_var 0)) (blkOk_by (by kernel_rfl)) (fun s H C cl fp => (pg_name (i := 1) nd rfl (.inl rfl) (.inr rfl))) (fun s H C cl fp => pmts_nil) (fun s H C cl fp => (pm_fn_call (F_is_sign.mono (by decide)) hr gd lets0 (pma_cons (pm_var 1) pma_nil)))) pma_nil)))))))
/-! set_words -/
def b_set_words : MS := (sSeq (sAsg (gTL 2 (gConsM (gN 1) (gConsM (gN 2) gNilM))) (mVar 0))
  (sRet (mIf (mAndT (mB (mFn 1 f_is_name (aCons (mVar 1) aNil))) (mB (mFn 1 f_is_pattern (aCons (mVar 2) aNil)))) (mLst (aCons (mVar 1) (aCons (mCall gStr (aCons (mVar 2) aNil)) aNil))) (mC .non))))
def f_set_words : FM := defM 3 b_set_words
theorem ok_set_words (nc : Tb.cs = none) (nj : Tb.j = JP.no) (T : TxtP K mg) (T2 : Txt2 P w K mg) (F_is_pattern : FnM P w K mg base LV_is_pattern "is_pattern" 1 f_is_pattern) (F_is_name : FnM P w K mg base LV_is_name "is_name" 1 f_is_name) (F : Fun K "set_words" "set_words" s_set_words f fd) (hx : mg "set_words" = some (.ref f)) (hb : Binds K fd ["parts"] []) : FnM P w K mg base LV_set_words "set_words" 1 f_set_words := by
  exact fn_mirror nc (N := ["parts", "name", "pattern"]) (ps := ["parts"]) (k := 2) F ⟨rfl, rfl, rfl, by decide +kernel, rfl, by decide +kernel, by decide +kernel⟩ hx hb fun cdv A outer s H E gd hr tk => by
    have nd : (["parts", "name", "pattern"] : List Str).Nodup := by decide +kernel
    have lt := lets_of tk
    exact (pms_cons (pms_asg (pm_var 0) (pmg_tupL (pmgs_cons (pmg_name 1 nd) (pmgs_cons (pmg_name 2 nd) pmgs_nil))))
      (pms_one (pms_ret (pm_if (PW.pt (pmw_and (pmt_val (pm_fn_call (F_is_name.mono (by decide)) hr gd lt (pma_cons (pm_var 1) pma_nil))) (pmw_and1 (pmt_val (pm_fn_call (F_is_pattern.mono (by decide)) hr gd lt (pma_cons (pm_var 2) pma_nil)))))) (pm_lst (pma_cons (pm_var 1) (pma_cons (pm_callTy opStr oStr T.n_str (by decide +kernel) (pma_cons (pm_var 2) pma_nil)) pma_nil))) pm_non))))
/-! name_words -/
def b_name_words : MS := (sRet (mIf (mB (mCall gAll (aCons (mLc (iAll (mVar 0)) [1] (.nm 1) tYesM (mFn 1 f_is_name (aCons (mVar 1) aNil))) aNil))) (mVar 0) (mC .non)))
def f_name_words : FM := defM 2 b_name_words
theorem ok_name_words (nc : Tb.cs = none) (nj : Tb.j = JP.no) (T : TxtP K mg) (T2 : Txt2 P w K mg) (F_is_name : FnM P w K mg base LV_is_name "is_name" 1 f_is_name) (F : Fun K "name_words" "name_words" s_name_words f fd) (hx : mg "name_words" = some (.ref f)) (hb : Binds K fd ["parts"] []) : FnM P w K mg base LV_name_words "name_words" 1 f_name_words := by
  exact fn_mirror nc (N := ["parts", "part"]) (ps := ["parts"]) (k := 2) F ⟨rfl, rfl, rfl, by decide +kernel, rfl, by decide +kernel, by decide +kernel⟩ hx hb fun cdv A outer s H E gd hr tk => by
    have nd : (["parts", "part"] : List Str).Nodup := by decide +kernel
    have lt := lets_of tk
    exact (pms_one (pms_ret (pm_if (pmt_val (pm_callB (cr_all rfl) oAll T.n_all (by decide +kernel) (pma_cons (pm_lc nc (own := [("part", 1)]) (t := (.nm 1)) nd (pmi_all (pm_var 0)) (blkOk_by (by kernel_rfl)) (fun s H C cl fp => (pg_name (i := 1) nd rfl (.inl rfl) (.inr rfl))) (fun s H C cl fp => pmts_nil) (fun s H C cl fp => (pm_fn_call (F_is_name.mono (by decide)) hr gd lets0 (pma_cons (pm_var 1) pma_nil)))) pma_nil))) (pm_var 0) pm_non)))
/-! is_rule -/
def b_is_rule : MS := (sRet (mAnd (mCall (gIsK isOwn isSub isYs) (aCons (mVar 0) (aCons (mC (.ty "str")) aNil))) (mOr (m2 gIn (mVar 0) (mC (.tup [(.str "dropfirst"), (.str "droplast"), (.str "emptylimit"), (.str "limitempty"), (.str "nolimit"), (.str "nostar"), (.str "once"), (.str "regroup"), (.str "rejoin"), (.str "spread"), (.str "spreadlast"), (.str "starboth"), (.str "starempty"), (.str "stars"), (.str "turn"), (.str "unfold")]))) (m2 gIn (mVar 0) (mC (.tup [(.str "absorb"), (.str "double"), (.str "loosen"), (.str "pairs")]))))))
def f_is_rule : FM := defM 1 b_is_rule
theorem ok_is_rule (nc : Tb.cs = none) (nj : Tb.j = JP.no) (T : TxtP K mg) (T2 : Txt2 P w K mg) (F : Fun K "is_rule" "is_rule" s_is_rule f fd) (hx : mg "is_rule" = some (.ref f)) (hb : Binds K fd ["value"] []) : FnM P w K mg base LV_is_rule "is_rule" 1 f_is_rule := by
  obtain ⟨u_EXACT, v_EXACT, g_EXACT, r_EXACT, q_EXACT⟩ := T2.c_EXACT
  obtain ⟨u_ROUGH, v_ROUGH, g_ROUGH, r_ROUGH, q_ROUGH⟩ := T2.c_ROUGH
  exact fn_mirror nc (N := ["value"]) (ps := ["value"]) (k := 0) F ⟨rfl, rfl, rfl, by decide +kernel, rfl, by decide +kernel, by decide +kernel⟩ hx hb fun cdv A outer s H E gd hr tk => by
    have nd : (["value"] : List Str).Nodup := by decide +kernel
    have lt := lets_of tk
    exact (pms_one (pms_ret (pm_and (pm_callB call_isAll (oIsK T.isT) T.n_isinstance (by decide +kernel) (pma_cons (pm_var 0) (pma_cons (pm_ty T.n_str (by decide +kernel)) pma_nil))) (pm_one (pm_or (pm_cmp opIn o2In (pm_var 0) (pm_glob g_EXACT r_EXACT q_EXACT)) (pm_one (pm_cmp opIn o2In (pm_var 0) (pm_glob g_ROUGH r_ROUGH q_ROUGH))))))))
/-! is_path -/
def b_is_path : MS := (sRet (mAnd (mCall (gIsK isOwn isSub isYs) (aCons (mVar 0) (aCons (mC (.ty "tuple")) aNil))) (mCall gAll (aCons (mLc (iAll (mVar 0)) [1] (.nm 1) tYesM (mFn 3 f_is_integer (aCons (mVar 1) (aCons (mC (.int 0)) (aCons (mC (.int 1)) aNil))))) aNil))))
def f_is_path : FM := defM 2 b_is_path
theorem ok_is_path (nc : Tb.cs = none) (nj : Tb.j = JP.no) (T : TxtP K mg) (T2 : Txt2 P w K mg) (F_is_integer : FnM P w K mg base LV_is_integer "is_integer" 3 f_is_integer) (F : Fun K "is_path" "is_path" s_is_path f fd) (hx : mg "is_path" = some (.ref f)) (hb : Binds K fd ["value"] []) : FnM P w K mg base LV_is_path "is_path" 1 f_is_path := by
  exact fn_mirror nc (N := ["value", "index"]) (ps := ["value"]) (k := 1) F ⟨rfl, rfl, rfl, by decide +kernel, rfl, by decide +kernel, by decide +kernel⟩ hx hb fun cdv A outer s H E gd hr tk => by
    have nd : (["value", "index"] : List Str).Nodup := by decide +kernel
    have lt := lets_of tk
    exact (pms_one (pms_ret (pm_and (pm_callB call_isAll (oIsK T.isT) T.n_isinstance (by decide +kernel) (pma_cons (pm_var 0) (pma_cons (pm_ty T.n_tuple (by decide +kernel)) pma_nil))) (pm_one (pm_callB (cr_all rfl) oAll T.n_all (by decide +kernel) (pma_cons (pm_lc nc (own := [("index", 1)]) (t := (.nm 1)) nd (pmi_all (pm_var 0)) (blkOk_by (by kernel_rfl)) (fun s H C cl fp => (pg_name (i := 1) nd rfl (.inl rfl) (.inr rfl))) (fun s H C cl fp => pmts_nil) (fun s H C cl fp => (pm_fn_call (F_is_integer.mono (by decide)) hr gd lets0 (pma_cons (pm_var 1) (pma_cons pm_int (pma_cons pm_int pma_nil)))))) pma_nil))))))
/-! rewrite_words -/
def b_rewrite_words : MS := (sSeq (sAsg (gTL 4 (gConsM (gN 1) (gConsM (gN 2) (gConsM (gN 3) (gConsM (gN 4) gNilM))))) (mVar 0))
  (sSeq (sIf (mOrT (mNotT (mB (mFn 1 f_is_name (aCons (mVar 1) aNil)))) (mOrT (mNotT (mB (mFn 1 f_is_rule (aCons (mVar 2) aNil)))) (mOrT (mNotT (mB (mFn 1 f_is_path (aCons (mVar 3) aNil)))) (mNotT (mB (mCall (gIsK isOwn isSub isYs) (aCons (mVar 4) (aCons (mC (.ty "bool")) aNil)))))))) (sRet (mC .non)) sNext)
  (sRet (m2 gAdd (mLst (aCons (mVar 1) (aCons (mVar 2) (aCons (mFn 2 f_numbers_text (aCons (mVar 3) (aCons (mC (.str ".")) aNil))) aNil)))) mBad))))
def f_rewrite_words : FM := defM 5 b_rewrite_words
theorem ok_rewrite_words (nc : Tb.cs = none) (nj : Tb.j = JP.no) (T : TxtP K mg) (T2 : Txt2 P w K mg) (F_numbers_text : FnM P w K mg base LV_numbers_text "numbers_text" 2 f_numbers_text) (F_is_name : FnM P w K mg base LV_is_name "is_name" 1 f_is_name) (F_is_rule : FnM P w K mg base LV_is_rule "is_rule" 1 f_is_rule) (F_is_path : FnM P w K mg base LV_is_path "is_path" 1 f_is_path) (F : Fun K "rewrite_words" "rewrite_words" s_rewrite_words f fd) (hx : mg "rewrite_words" = some (.ref f)) (hb : Binds K fd ["parts"] []) : FnM P w K mg base LV_rewrite_words "rewrite_words" 1 f_rewrite_words := by
  exact fn_mirror nc (N := ["parts", "name", "rule", "path", "back"]) (ps := ["parts"]) (k := 2) F ⟨rfl, rfl, rfl, by decide +kernel, rfl, by decide +kernel, by decide +kernel⟩ hx hb fun cdv A outer s H E gd hr tk => by
    have nd : (["parts", "name", "rule", "path", "back"] : List Str).Nodup := by decide +kernel
    have lt := lets_of tk
    exact (pms_cons (pms_asg (pm_var 0) (pmg_tupL (pmgs_cons (pmg_name 1 nd) (pmgs_cons (pmg_name 2 nd) (pmgs_cons (pmg_name 3 nd) (pmgs_cons (pmg_name 4 nd) pmgs_nil))))))
      (pms_cons (pms_if (PW.pt (pmw_or (pmt_not (pmt_val (pm_fn_call (F_is_name.mono (by decide)) hr gd lt (pma_cons (pm_var 1) pma_nil)))) (pmw_or (pmt_not (pmt_val (pm_fn_call (F_is_rule.mono (by decide)) hr gd lt (pma_cons (pm_var 2) pma_nil)))) (pmw_or (pmt_not (pmt_val (pm_fn_call (F_is_path.mono (by decide)) hr gd lt (pma_cons (pm_var 3) pma_nil)))) (pmw_or1 (pmt_not (pmt_val (pm_callB call_isAll (oIsK T.isT) T.n_isinstance (by decide +kernel) (pma_cons (pm_var 4) (pma_cons (pm_ty T.n_bool (by decide +kernel)) pma_nil)))))))))) (pms_one (pms_ret pm_non)) pms_nil)
      (pms_one (pms_ret (pm_bin opAdd o2Add (pm_lst (pma_cons (pm_var 1) (pma_cons (pm_var 2) (pma_cons (pm_fn_call (F_numbers_text.mono (by decide)) hr gd lt (pma_cons (pm_var 3) (pma_cons pm_str pma_nil))) pma_nil)))) pm_bad)))))
/-! is_cap -/
def b_is_cap : MS := (sRet (mFn 3 f_is_integer (aCons (mVar 0) (aCons (mC (.int 0)) (aCons (mC (.int 30)) aNil)))))
def f_is_cap : FM := defM 1 b_is_cap
theorem ok_is_cap (nc : Tb.cs = none) (nj : Tb.j = JP.no) (T : TxtP K mg) (T2 : Txt2 P w K mg) (F_is_integer : FnM P w K mg base LV_is_integer "is_integer" 3 f_is_integer) (F : Fun K "is_cap" "is_cap" s_is_cap f fd) (hx : mg "is_cap" = some (.ref f)) (hb : Binds K fd ["value"] []) : FnM P w K mg base LV_is_cap "is_cap" 1 f_is_cap := by
  obtain ⟨u_MOST_CAP, g_MOST_CAP, r_MOST_CAP⟩ := T.c_MOST_CAP
  exact fn_mirror nc (N := ["value"]) (ps := ["value"]) (k := 1) F ⟨rfl, rfl, rfl, by decide +kernel, rfl, by decide +kernel, by decide +kernel⟩ hx hb fun cdv A outer s H E gd hr tk => by
    have nd : (["value"] : List Str).Nodup := by decide +kernel
    have lt := lets_of tk
    exact (pms_one (pms_ret (pm_fn_call (F_is_integer.mono (by decide)) hr gd lt (pma_cons (pm_var 0) (pma_cons pm_int (pma_cons (pm_glob g_MOST_CAP r_MOST_CAP (fun _ _ => .int _)) pma_nil))))))
/-! promise_words -/
def b_promise_words : MS := (sSeq (sAsg (gTL 4 (gConsM (gN 1) (gConsM (gN 2) (gConsM (gN 3) (gConsM (gN 4) gNilM))))) (mVar 0))
  (sSeq (sIf (mOrT (mNotT (mB (mFn 1 f_is_name (aCons (mVar 1) aNil)))) (mOrT (mNotT (mB (mFn 1 f_is_name (aCons (mVar 2) aNil)))) (mOrT (mNotT (mB (mFn 1 f_is_cap (aCons (mVar 3) aNil)))) (mAndT (mB (m2 gIsNot (mVar 4) (mC .non))) (mNotT (mB (mFn 1 f_is_cap (aCons (mVar 4) aNil)))))))) (sRet (mC .non)) sNext)
  (sRet (mLst (aCons (mVar 1) (aCons (mVar 2) (aCons (mCall gStr (aCons (mVar 3) aNil)) (aCons (mIf (mB (m2 gIs (mVar 4) (mC .non))) (mC (.str "-")) (mCall gStr (aCons (mVar 4) aNil))) aNil))))))))
def f_promise_words : FM := defM 5 b_promise_words
theorem ok_promise_words (nc : Tb.cs = none) (nj : Tb.j = JP.no) (T : TxtP K mg) (T2 : Txt2 P w K mg) (F_is_name : FnM P w K mg base LV_is_name "is_name" 1 f_is_name) (F_is_cap : FnM P w K mg base LV_is_cap "is_cap" 1 f_is_cap) (F : Fun K "promise_words" "promise_words" s_promise_words f fd) (hx : mg "promise_words" = some (.ref f)) (hb : Binds K fd ["parts"] []) : FnM P w K mg base LV_promise_words "promise_words" 1 f_promise_words := by
  obtain ⟨u_NOTHING, g_NOTHING, r_NOTHING⟩ := T.c_NOTHING
  exact fn_mirror nc (N := ["parts", "first", "second", "cap", "top"]) (ps := ["parts"]) (k := 2) F ⟨rfl, rfl, rfl, by decide +kernel, rfl, by decide +kernel, by decide +kernel⟩ hx hb fun cdv A outer s H E gd hr tk => by
    have nd : (["parts", "first", "second", "cap", "top"] : List Str).Nodup := by decide +kernel
    have lt := lets_of tk
    exact (pms_cons (pms_asg (pm_var 0) (pmg_tupL (pmgs_cons (pmg_name 1 nd) (pmgs_cons (pmg_name 2 nd) (pmgs_cons (pmg_name 3 nd) (pmgs_cons (pmg_name 4 nd) pmgs_nil))))))
      (pms_cons (pms_if (PW.pt (pmw_or (pmt_not (pmt_val (pm_fn_call (F_is_name.mono (by decide)) hr gd lt (pma_cons (pm_var 1) pma_nil)))) (pmw_or (pmt_not (pmt_val (pm_fn_call (F_is_name.mono (by decide)) hr gd lt (pma_cons (pm_var 2) pma_nil)))) (pmw_or (pmt_not (pmt_val (pm_fn_call (F_is_cap.mono (by decide)) hr gd lt (pma_cons (pm_var 3) pma_nil)))) (pmw_or1 (PW.pt (pmw_and (pmt_cmp op_notN o2IsNot (pm_var 4) pm_non) (pmw_and1 (pmt_not (pmt_val (pm_fn_call (F_is_cap.mono (by decide)) hr gd lt (pma_cons (pm_var 4) pma_nil)))))))))))) (pms_one (pms_ret pm_non)) pms_nil)
      (pms_one (pms_ret (pm_lst (pma_cons (pm_var 1) (pma_cons (pm_var 2) (pma_cons (pm_callTy opStr oStr T.n_str (by decide +kernel) (pma_cons (pm_var 3) pma_nil)) (pma_cons (pm_if (pmt_cmp op_isN o2Is (pm_var 4) pm_non) (pm_glob g_NOTHING r_NOTHING (fun _ _ => .str _)) (pm_callTy opStr oStr T.n_str (by decide +kernel) (pma_cons (pm_var 4) pma_nil))) pma_nil)))))))))
/-! drop_words -/
def b_drop_words : MS := (sRet (mIf (mB (mFn 3 f_is_integer (aCons (m2 gIx (mVar 0) (mC (.int 0))) (aCons (mC (.int 0)) (aCons (mC (.int 99)) aNil))))) (mLst (aCons (mCall gStr (aCons (m2 gIx (mVar 0) (mC (.int 0))) aNil)) aNil)) (mC .non)))
def f_drop_words : FM := defM 1 b_drop_words
theorem ok_drop_words (nc : Tb.cs = none) (nj : Tb.j = JP.no) (T : TxtP K mg) (T2 : Txt2 P w K mg) (F_is_integer : FnM P w K mg base LV_is_integer "is_integer" 3 f_is_integer) (F : Fun K "drop_words" "drop_words" s_drop_words f fd) (hx : mg "drop_words" = some (.ref f)) (hb : Binds K fd ["parts"] []) : FnM P w K mg base LV_drop_words "drop_words" 1 f_drop_words := by
  obtain ⟨u_MOST_INDEX, g_MOST_INDEX, r_MOST_INDEX⟩ := T.c_MOST_INDEX
  exact fn_mirror nc (N := ["parts"]) (ps := ["parts"]) (k := 1) F ⟨rfl, rfl, rfl, by decide +kernel, rfl, by decide +kernel, by decide +kernel⟩ hx hb fun cdv A outer s H E gd hr tk => by
    have nd : (["parts"] : List Str).Nodup := by decide +kernel
    have lt := lets_of tk
    exact (pms_one (pms_ret (pm_if (pmt_val (pm_fn_call (F_is_integer.mono (by decide)) hr gd lt (pma_cons (pm_ix ix_seq o2Ix (pm_var 0) pm_int) (pma_cons pm_int (pma_cons (pm_glob g_MOST_INDEX r_MOST_INDEX (fun _ _ => .int _)) pma_nil))))) (pm_lst (pma_cons (pm_callTy opStr oStr T.n_str (by decide +kernel) (pma_cons (pm_ix ix_seq o2Ix (pm_var 0) pm_int) pma_nil)) pma_nil)) pm_non)))
def tb_glob (x : Str) : Option FM := if x = "set_words" then some (arity 1 f_set_words) else if x = "name_words" then some (arity 1 f_name_words) else if x = "rewrite_words" then some (arity 1 f_rewrite_words) else if x = "promise_words" then some (arity 1 f_promise_words) else if x = "drop_words" then some (arity 1 f_drop_words) else none
abbrev LG : Nat := 3
/-! edit_words -/
def b_edit_words : MS := (sSeq (sIf (mOrT (mNotT (mB (mCall (gIsK isOwn isSub isYs) (aCons (mVar 0) (aCons (mC (.ty "tuple")) aNil))))) (mOrT (mB (m2 gEqT (mVar 0) (mTup aNil))) (mOrT (mNotT (mB (mCall (gIsK isOwn isSub isYs) (aCons (m2 gIx (mVar 0) (mC (.int 0))) (aCons (mC (.ty "str")) aNil))))) (mB (m2 (gInKd "KINDS" true kd_KINDS) (m2 gIx (mVar 0) (mC (.int 0))) (mC (.gl "KINDS"))))))) (sRet (mC .non)) sNext)
  (sSeq (sAsg (gStar (gN 1) (gN 2)) (mVar 0))
  (sSeq (sAsg (gTL 2 (gConsM (gN 3) (gConsM (gN 4) gNilM))) (mIxK kd_KINDS (mVar 1)))
  (sSeq (sSet 5 (mIf (mB (m2 gEq (mCall gLen (aCons (mVar 2) aNil)) (mVar 3))) (mCallV tb_glob 4 (aCons (mVar 2) aNil)) (mC .non)))
  (sRet (mIf (mB (m2 gIs (mVar 5) (mC .non))) (mC .non) (mLst (aCons (mVar 1) (aStar (mVar 5) aNil)))))))))
def f_edit_words : FM := defM 6 b_edit_words
theorem ok_edit_words (nc : Tb.cs = none) (nj : Tb.j = JP.no) (T : TxtP K mg) (T2 : Txt2 P w K mg) (GT : GlT P w K mg base LG tb_glob) (F : Fun K "edit_words" "edit_words" s_edit_words f fd) (hx : mg "edit_words" = some (.ref f)) (hb : Binds K fd ["edit"] []) : FnM P w K mg base LV_edit_words "edit_words" 1 f_edit_words := by
  exact fn_mirror nc (N := ["edit", "word", "parts", "many", "words_of", "words"]) (ps := ["edit"]) (k := 3) F ⟨rfl, rfl, rfl, by decide +kernel, rfl, by decide +kernel, by decide +kernel⟩ hx hb fun cdv A outer s H E gd hr tk => by
    have nd : (["edit", "word", "parts", "many", "words_of", "words"] : List Str).Nodup := by decide +kernel
    have lt := lets_of tk
    exact (pms_cons (pms_if (PW.pt (pmw_or (pmt_not (pmt_val (pm_callB call_isAll (oIsK T.isT) T.n_isinstance (by decide +kernel) (pma_cons (pm_var 0) (pma_cons (pm_ty T.n_tuple (by decide +kernel)) pma_nil))))) (pmw_or (pmt_cmp (op_eqDT hr.units) o2EqT (pm_var 0) (pm_tup pma_nil)) (pmw_or (pmt_not (pmt_val (pm_callB call_isAll (oIsK T.isT) T.n_isinstance (by decide +kernel) (pma_cons (pm_ix ix_seq o2Ix (pm_var 0) pm_int) (pma_cons (pm_ty T.n_str (by decide +kernel)) pma_nil))))) (pmw_or1 (pmt_ninK T2.k_KINDS (pm_ix ix_seq o2Ix (pm_var 0) pm_int))))))) (pms_one (pms_ret pm_non)) pms_nil)
      (pms_cons (pms_asg (pm_var 0) (pmg_star (pmg_name 1 nd) (pmg_name 2 nd)))
      (pms_cons (pms_asg (pm_ixK T2.k_KINDS (pm_var 1)) (pmg_tupL (pmgs_cons (pmg_name 3 nd) (pmgs_cons (pmg_name 4 nd) pmgs_nil))))
      (pms_cons (pms_set 5 nd (pm_if (pmt_cmp (op_eqD hr.units) o2Eq (pm_callB call_len oLen T.n_len (by decide +kernel) (pma_cons (pm_var 2) pma_nil)) (pm_var 3)) (pm_callV GT 4 (hr.mono (by decide)) gd lt (pma_cons (pm_var 2) pma_nil)) pm_non))
      (pms_one (pms_ret (pm_if (pmt_cmp op_isN o2Is (pm_var 5) pm_non) pm_non (pm_lst (pma_cons (pm_var 1) (pma_star (pm_var 5) pma_nil))))))))))
/-! edit_text -/
def b_edit_text : MS := (sSeq (sSet 1 (mFn 1 f_edit_words (aCons (mVar 0) aNil)))
  (sSeq (sIf (mB (m2 gIs (mVar 1) (mC .non))) (sRaise "InvalidOperation") sNext)
  (sRet (mMethT isStr gJoin (mC (.str " ")) (aCons (mVar 1) aNil)))))
def f_edit_text : FM := defM 2 b_edit_text
theorem ok_edit_text (nc : Tb.cs = none) (nj : Tb.j = JP.no) (T : TxtP K mg) (T2 : Txt2 P w K mg) (F_edit_words : FnM P w K mg base LV_edit_words "edit_words" 1 f_edit_words) (F : Fun K "edit_text" "edit_text" s_edit_text f fd) (hx : mg "edit_text" = some (.ref f)) (hb : Binds K fd ["edit"] []) : FnM P w K mg base LV_edit_text "edit_text" 1 f_edit_text := by
  obtain ⟨C_InvalidOperation, e_InvalidOperation⟩ := T.x_InvalidOperation
  exact fn_mirror nc (N := ["edit", "words"]) (ps := ["edit"]) (k := 4) F ⟨rfl, rfl, rfl, by decide +kernel, rfl, by decide +kernel, by decide +kernel⟩ hx hb fun cdv A outer s H E gd hr tk => by
    have nd : (["edit", "words"] : List Str).Nodup := by decide +kernel
    have lt := lets_of tk
    exact (pms_cons (pms_set 1 nd (pm_fn_call (F_edit_words.mono (by decide)) hr gd lt (pma_cons (pm_var 0) pma_nil)))
      (pms_cons (pms_if (pmt_cmp op_isN o2Is (pm_var 1) pm_non) (pms_one (pms_raiseT tk PySem.F.excBase_ValueError e_InvalidOperation)) pms_nil)
      (pms_one (pms_ret (pm_bm PySem.F.plainAttrs_str PySem.F.slot_str_join PySem.F.type_str_join mt_join oIsStr oJoin pm_str (pma_cons (pm_var 1) pma_nil))))))
/-! parsed_parts -/
def b_parsed_parts : MS := (sSeq (sIf (mAndT (mB (m2 gEq (mVar 0) (mC (.str "set")))) (mB (m2 gEq (mCall gLen (aCons (mVar 1) aNil)) (mC (.int 2))))) (sRet (mLst (aCons (m2 gIx (mVar 1) (mC (.int 0))) (aCons mBad aNil)))) sNext)
  (sSeq (sIf (mAndT (mB (m2 gEq (mVar 0) (mC (.str "rewrite")))) (mAndT (mB (m2 gEq (mCall gLen (aCons (mVar 1) aNil)) (mC (.int 4)))) (mB (m2 gEq (m2 gIx (mVar 1) (mC (.int 3))) (mC (.str "back")))))) (sRet (m2 gAdd (mSl gSlice (mVar 1) oNone (oSome (mC (.int 2)))) (mLst (aCons (mFn 2 f_numbers_of (aCons (m2 gIx (mVar 1) (mC (.int 2))) (aCons (mC (.str ".")) aNil))) (aCons (mC (.bl true)) aNil))))) sNext)
  (sSeq (sIf (mAndT (mB (m2 gEq (mVar 0) (mC (.str "rewrite")))) (mB (m2 gEq (mCall gLen (aCons (mVar 1) aNil)) (mC (.int 3))))) (sRet (m2 gAdd (mSl gSlice (mVar 1) oNone (oSome (mC (.int 2)))) (mLst (aCons (mFn 2 f_numbers_of (aCons (m2 gIx (mVar 1) (mC (.int 2))) (aCons (mC (.str ".")) aNil))) (aCons (mC (.bl false)) aNil))))) sNext)
  (sSeq (sIf (mAndT (mB (m2 gEq (mVar 0) (mC (.str "promise")))) (mB (m2 gEq (mCall gLen (aCons (mVar 1) aNil)) (mC (.int 4))))) (sRet (m2 gAdd (mSl gSlice (mVar 1) oNone (oSome (mC (.int 2)))) (mLst (aCons (mFn 1 f_number_of (aCons (m2 gIx (mVar 1) (mC (.int 2))) aNil)) (aCons (mIf (mB (m2 gEq (m2 gIx (mVar 1) (mC (.int 3))) (mC (.str "-")))) (mC .non) (mFn 1 f_number_of (aCons (m2 gIx (mVar 1) (mC (.int 3))) aNil))) aNil))))) sNext)
  (sSeq (sIf (mAndT (mB (m2 gEq (mVar 0) (mC (.str "drop")))) (mB (m2 gEq (mCall gLen (aCons (mVar 1) aNil)) (mC (.int 1))))) (sRet (mLst (aCons (mFn 1 f_number_of (aCons (m2 gIx (mVar 1) (mC (.int 0))) aNil)) aNil))) sNext)
  (sRet (mVar 1)))))))
def f_parsed_parts : FM := defM 2 b_parsed_parts
theorem ok_parsed_parts (nc : Tb.cs = none) (nj : Tb.j = JP.no) (T : TxtP K mg) (T2 : Txt2 P w K mg) (F_number_of : FnM P w K mg base LV_number_of "number_of" 1 f_number_of) (F_numbers_of : FnM P w K mg base LV_numbers_of "numbers_of" 2 f_numbers_of) (F : Fun K "parsed_parts" "parsed_parts" s_parsed_parts f fd) (hx : mg "parsed_parts" = some (.ref f)) (hb : Binds K fd ["word", "parts"] []) : FnM P w K mg base LV_parsed_parts "parsed_parts" 2 f_parsed_parts := by
  obtain ⟨u_BACK, g_BACK, r_BACK⟩ := T.c_BACK
  obtain ⟨u_NOTHING, g_NOTHING, r_NOTHING⟩ := T.c_NOTHING
  exact fn_mirror nc (N := ["word", "parts"]) (ps := ["word", "parts"]) (k := 2) F ⟨rfl, rfl, rfl, by decide +kernel, rfl, by decide +kernel, by decide +kernel⟩ hx hb fun cdv A outer s H E gd hr tk => by
    have nd : (["word", "parts"] : List Str).Nodup := by decide +kernel
    have lt := lets_of tk
    exact (pms_cons (pms_if (PW.pt (pmw_and (pmt_cmp (op_eqD hr.units) o2Eq (pm_var 0) pm_str) (pmw_and1 (pmt_cmp (op_eqD hr.units) o2Eq (pm_callB call_len oLen T.n_len (by decide +kernel) (pma_cons (pm_var 1) pma_nil)) pm_int)))) (pms_one (pms_ret (pm_lst (pma_cons (pm_ix ix_seq o2Ix (pm_var 1) pm_int) (pma_cons pm_bad pma_nil))))) pms_nil)
      (pms_cons (pms_if (PW.pt (pmw_and (pmt_cmp (op_eqD hr.units) o2Eq (pm_var 0) pm_str) (pmw_and (pmt_cmp (op_eqD hr.units) o2Eq (pm_callB call_len oLen T.n_len (by decide +kernel) (pma_cons (pm_var 1) pma_nil)) pm_int) (pmw_and1 (pmt_cmp (op_eqD hr.units) o2Eq (pm_ix ix_seq o2Ix (pm_var 1) pm_int) (pm_glob g_BACK r_BACK (fun _ _ => .str _))))))) (pms_one (pms_ret (pm_bin opAdd o2Add (pm_sl opSlice oSlice (pm_var 1) pmo_none (pmo_some pm_int)) (pm_lst (pma_cons (pm_fn_call (F_numbers_of.mono (by decide)) hr gd lt (pma_cons (pm_ix ix_seq o2Ix (pm_var 1) pm_int) (pma_cons pm_str pma_nil))) (pma_cons pm_bl pma_nil)))))) pms_nil)
      (pms_cons (pms_if (PW.pt (pmw_and (pmt_cmp (op_eqD hr.units) o2Eq (pm_var 0) pm_str) (pmw_and1 (pmt_cmp (op_eqD hr.units) o2Eq (pm_callB call_len oLen T.n_len (by decide +kernel) (pma_cons (pm_var 1) pma_nil)) pm_int)))) (pms_one (pms_ret (pm_bin opAdd o2Add (pm_sl opSlice oSlice (pm_var 1) pmo_none (pmo_some pm_int)) (pm_lst (pma_cons (pm_fn_call (F_numbers_of.mono (by decide)) hr gd lt (pma_cons (pm_ix ix_seq o2Ix (pm_var 1) pm_int) (pma_cons pm_str pma_nil))) (pma_cons pm_bl pma_nil)))))) pms_nil)
      (pms_cons (pms_if (PW.pt (pmw_and (pmt_cmp (op_eqD hr.units) o2Eq (pm_var 0) pm_str) (pmw_and1 (pmt_cmp (op_eqD hr.units) o2Eq (pm_callB call_len oLen T.n_len (by decide +kernel) (pma_cons (pm_var 1) pma_nil)) pm_int)))) (pms_one (pms_ret (pm_bin opAdd o2Add (pm_sl opSlice oSlice (pm_var 1) pmo_none (pmo_some pm_int)) (pm_lst (pma_cons (pm_fn_call (F_number_of.mono (by decide)) hr gd lt (pma_cons (pm_ix ix_seq o2Ix (pm_var 1) pm_int) pma_nil)) (pma_cons (pm_if (pmt_cmp (op_eqD hr.units) o2Eq (pm_ix ix_seq o2Ix (pm_var 1) pm_int) (pm_glob g_NOTHING r_NOTHING (fun _ _ => .str _))) pm_non (pm_fn_call (F_number_of.mono (by decide)) hr gd lt (pma_cons (pm_ix ix_seq o2Ix (pm_var 1) pm_int) pma_nil))) pma_nil)))))) pms_nil)
      (pms_cons (pms_if (PW.pt (pmw_and (pmt_cmp (op_eqD hr.units) o2Eq (pm_var 0) pm_str) (pmw_and1 (pmt_cmp (op_eqD hr.units) o2Eq (pm_callB call_len oLen T.n_len (by decide +kernel) (pma_cons (pm_var 1) pma_nil)) pm_int)))) (pms_one (pms_ret (pm_lst (pma_cons (pm_fn_call (F_number_of.mono (by decide)) hr gd lt (pma_cons (pm_ix ix_seq o2Ix (pm_var 1) pm_int) pma_nil)) pma_nil)))) pms_nil)
      (pms_one (pms_ret (pm_var 1))))))))
/-! parsed_edit -/
def b_parsed_edit : MS := (sSeq (sAsg (gStar (gN 1) (gN 2)) (mVar 0))
  (sSeq (sSet 3 (mFn 2 f_parsed_parts (aCons (mVar 1) (aCons (mVar 2) aNil))))
  (sRet (mTup (aCons (mVar 1) (aStar (mVar 3) aNil))))))
def f_parsed_edit : FM := defM 4 b_parsed_edit
theorem ok_parsed_edit (nc : Tb.cs = none) (nj : Tb.j = JP.no) (T : TxtP K mg) (T2 : Txt2 P w K mg) (F_parsed_parts : FnM P w K mg base LV_parsed_parts "parsed_parts" 2 f_parsed_parts) (F : Fun K "parsed_edit" "parsed_edit" s_parsed_edit f fd) (hx : mg "parsed_edit" = some (.ref f)) (hb : Binds K fd ["words"] []) : FnM P w K mg base LV_parsed_edit "parsed_edit" 1 f_parsed_edit := by
  exact fn_mirror nc (N := ["words", "word", "parts", "found"]) (ps := ["words"]) (k := 3) F ⟨rfl, rfl, rfl, by decide +kernel, rfl, by decide +kernel, by decide +kernel⟩ hx hb fun cdv A outer s H E gd hr tk => by
    have nd : (["words", "word", "parts", "found"] : List Str).Nodup := by decide +kernel
    have lt := lets_of tk
    exact (pms_cons (pms_asg (pm_var 0) (pmg_star (pmg_name 1 nd) (pmg_name 2 nd)))
      (pms_cons (pms_set 3 nd (pm_fn_call (F_parsed_parts.mono (by decide)) hr gd lt (pma_cons (pm_var 1) (pma_cons (pm_var 2) pma_nil))))
      (pms_one (pms_ret (pm_tup (pma_cons (pm_var 1) (pma_star (pm_var 3) pma_nil)))))))
/-! parse_edit -/
def b_parse_edit : MS := (sSeq (sIf (mNotT (mB (mCall (gIsK isOwn isSub isYs) (aCons (mVar 0) (aCons (mC (.ty "str")) aNil))))) (sRaise "ParseError") sNext)
  (sSeq (sSet 1 (mFn 1 f_parsed_edit (aCons (mMethT isStr gSplit (mVar 0) (aCons (mC (.str " ")) aNil)) aNil)))
  (sSeq (sIf (mB (m2 gIs (mFn 1 f_edit_words (aCons (mVar 1) aNil)) (mC .non))) (sRaise "ParseError") sNext)
  (sRet (mVar 1)))))
def f_parse_edit : FM := defM 2 b_parse_edit
theorem ok_parse_edit (nc : Tb.cs = none) (nj : Tb.j = JP.no) (T : TxtP K mg) (T2 : Txt2 P w K mg) (F_edit_words : FnM P w K mg base LV_edit_words "edit_words" 1 f_edit_words) (F_parsed_edit : FnM P w K mg base LV_parsed_edit "parsed_edit" 1 f_parsed_edit) (F : Fun K "parse_edit" "parse_edit" s_parse_edit f fd) (hx : mg "parse_edit" = some (.ref f)) (hb : Binds K fd ["text"] []) : FnM P w K mg base LV_parse_edit "parse_edit" 1 f_parse_edit := by
  obtain ⟨C_ParseError, e_ParseError⟩ := T.x_ParseError
  exact fn_mirror nc (N := ["text", "edit"]) (ps := ["text"]) (k := 4) F ⟨rfl, rfl, rfl, by decide +kernel, rfl, by decide +kernel, by decide +kernel⟩ hx hb fun cdv A outer s H E gd hr tk => by
    have nd : (["text", "edit"] : List Str).Nodup := by decide +kernel
    have lt := lets_of tk
    exact (pms_cons (pms_if (pmt_not (pmt_val (pm_callB call_isAll (oIsK T.isT) T.n_isinstance (by decide +kernel) (pma_cons (pm_var 0) (pma_cons (pm_ty T.n_str (by decide +kernel)) pma_nil))))) (pms_one (pms_raiseT tk PySem.F.excBase_ValueError e_ParseError)) pms_nil)
      (pms_cons (pms_set 1 nd (pm_fn_call (F_parsed_edit.mono (by decide)) hr gd lt (pma_cons (pm_bm PySem.F.plainAttrs_str PySem.F.slot_str_split PySem.F.type_str_split mt_split oIsStr oSplit (pm_var 0) (pma_cons pm_str pma_nil)) pma_nil)))
      (pms_cons (pms_if (pmt_cmp op_isN o2Is (pm_fn_call (F_edit_words.mono (by decide)) hr gd lt (pma_cons (pm_var 1) pma_nil)) pm_non) (pms_one (pms_raiseT tk PySem.F.excBase_ValueError e_ParseError)) pms_nil)
      (pms_one (pms_ret (pm_var 1))))))
/-! _law_draw -/
def b__law_draw : MS := (sSeq (sIf (mB (m2 gGt (m2 gIx (mVar 0) (mC (.int 0))) (mC (.int 0)))) (sSeq (sSet 2 (m2 gMod (m2 gIx (mVar 0) (mC (.int 0))) (mVar 1)))
  (sSeq (sSetIxG (mVar 0) (mC (.int 0)) (m2 gDiv (m2 gIx (mVar 0) (mC (.int 0))) (mVar 1)))
  (sRet (mVar 2)))) sNext)
  (sSeq (sSetIxG (mVar 0) (mC (.int 2)) (m2 gAdd (m2 gIx (mVar 0) (mC (.int 2))) (mC (.int 1))))
  (sSeq (sSet 3 (m2 gMod (m2 gAdd (m2 gIx (mVar 0) (mC (.int 1))) (m2 gMulT (mC (.int 1000003)) (m2 gIx (mVar 0) (mC (.int 2))))) (mC (.int 2305843009213693951))))
  (sSeq (sSet 4 (m2 gMod (m2 gAdd (m2 gMulT (m2 gMod (m2 gMulT (mVar 3) (mVar 3)) (mC (.int 2305843009213693921))) (mVar 3)) (m2 gMulT (mC (.int 8191)) (m2 gIx (mVar 0) (mC (.int 2))))) (mC (.int 2305843009213693907))))
  (sRet (m2 gMod (m2 gDiv (mVar 4) (mC (.int 4096))) (mVar 1)))))))
def f__law_draw : FM := defM 5 b__law_draw
theorem ok__law_draw (nc : Tb.cs = none) (nj : Tb.j = JP.no) (T : TxtP K mg) (T2 : Txt2 P w K mg) (F : Fun K "_law_draw" "_law_draw" s__law_draw f fd) (hx : mg "_law_draw" = some (.ref f)) (hb : Binds K fd ["stream", "total"] []) : FnM P w K mg base LV__law_draw "_law_draw" 2 f__law_draw := by
  exact fn_mirror nc (N := ["stream", "total", "found", "one", "two"]) (ps := ["stream", "total"]) (k := 0) F ⟨rfl, rfl, rfl, by decide +kernel, rfl, by decide +kernel, by decide +kernel⟩ hx hb fun cdv A outer s H E gd hr tk => by
    have nd : (["stream", "total", "found", "one", "two"] : List Str).Nodup := by decide +kernel
    have lt := lets_of tk
    exact (pms_cons (pms_if (pmt_cmp opGt o2Gt (pm_ix ix_seq o2Ix (pm_var 0) pm_int) pm_int) (pms_cons (pms_set 2 nd (pm_bin op_mod o2Mod (pm_ix ix_seq o2Ix (pm_var 0) pm_int) (pm_var 1)))
      (pms_cons (pms_setixG hr.units (pm_bin op_fdivW o2Div (pm_ix ix_seq o2Ix (pm_var 0) pm_int) (pm_var 1)) (pm_var 0) pm_int)
      (pms_one (pms_ret (pm_var 2))))) pms_nil)
      (pms_cons (pms_setixG hr.units (pm_bin opAdd o2Add (pm_ix ix_seq o2Ix (pm_var 0) pm_int) pm_int) (pm_var 0) pm_int)
      (pms_cons (pms_set 3 nd (pm_bin op_mod o2Mod (pm_bin opAdd o2Add (pm_ix ix_seq o2Ix (pm_var 0) pm_int) (pm_bin opMulT o2MulT pm_int (pm_ix ix_seq o2Ix (pm_var 0) pm_int))) pm_int))
      (pms_cons (pms_set 4 nd (pm_bin op_mod o2Mod (pm_bin opAdd o2Add (pm_bin opMulT o2MulT (pm_bin op_mod o2Mod (pm_bin opMulT o2MulT (pm_var 3) (pm_var 3)) pm_int) (pm_var 3)) (pm_bin opMulT o2MulT pm_int (pm_ix ix_seq o2Ix (pm_var 0) pm_int))) pm_int))
      (pms_one (pms_ret (pm_bin op_mod o2Mod (pm_bin op_fdivW o2Div (pm_var 4) pm_int) (pm_var 1))))))))
/-! _law_pick -/
def b__law_pick : MS := (sRet (m2 gIx (mVar 1) (mFn 2 f__law_draw (aCons (mVar 0) (aCons (mCall gLen (aCons (mVar 1) aNil)) aNil)))))
def f__law_pick : FM := defM 2 b__law_pick
theorem ok__law_pick (nc : Tb.cs = none) (nj : Tb.j = JP.no) (T : TxtP K mg) (T2 : Txt2 P w K mg) (F__law_draw : FnM P w K mg base LV__law_draw "_law_draw" 2 f__law_draw) (F : Fun K "_law_pick" "_law_pick" s__law_pick f fd) (hx : mg "_law_pick" = some (.ref f)) (hb : Binds K fd ["stream", "items"] []) : FnM P w K mg base LV__law_pick "_law_pick" 2 f__law_pick := by
  exact fn_mirror nc (N := ["stream", "items"]) (ps := ["stream", "items"]) (k := 1) F ⟨rfl, rfl, rfl, by decide +kernel, rfl, by decide +kernel, by decide +kernel⟩ hx hb fun cdv A outer s H E gd hr tk => by
    have nd : (["stream", "items"] : List Str).Nodup := by decide +kernel
    have lt := lets_of tk
    exact (pms_one (pms_ret (pm_ix ix_seq o2Ix (pm_var 1) (pm_fn_call (F__law_draw.mono (by decide)) hr gd lt (pma_cons (pm_var 0) (pma_cons (pm_callB call_len oLen T.n_len (by decide +kernel) (pma_cons (pm_var 1) pma_nil)) pma_nil))))))
/-! _law_other -/
def b__law_other : MS := (sSeq (sSet 1 (mLst (aCons (mC .non) (aCons (mC (.bl true)) (aCons (m1 gNeg (mC (.int 1))) (aCons (mC (.int 0)) (aCons (mC (.int 1)) (aCons (mC (.str "")) (aCons (mC (.str "a")) (aCons (mC (.str "ab")) (aCons (mTup aNil) (aCons (mLst aNil) (aCons mDict0 (aCons (mTup (aCons (mC (.int 0)) aNil)) (aCons (mTup (aCons (mC (.str "a")) aNil)) (aCons (m2 gPow (mC (.int 10)) (mC (.int 39))) aNil))))))))))))))))
  (sSeq (sSet 1 (m2 gAdd (mVar 1) (mLst (aCons (mC (.str "never")) (aCons (mTup (aCons (mC .non) aNil)) (aCons (mTup (aCons (mTup aNil) aNil)) (aCons (mLst (aCons (mTup aNil) aNil)) (aCons (mDisp (pCons (mC (.int 0)) (mC (.int 1)) pNil)) aNil))))))))
  (sRet (m2 gIx (mVar 1) (mFn 2 f__law_draw (aCons (mVar 0) (aCons (mCall gLen (aCons (mVar 1) aNil)) aNil)))))))
def f__law_other : FM := defM 2 b__law_other
theorem ok__law_other (nc : Tb.cs = none) (nj : Tb.j = JP.no) (T : TxtP K mg) (T2 : Txt2 P w K mg) (F__law_draw : FnM P w K mg base LV__law_draw "_law_draw" 2 f__law_draw) (F : Fun K "_law_other" "_law_other" s__law_other f fd) (hx : mg "_law_other" = some (.ref f)) (hb : Binds K fd ["stream"] []) : FnM P w K mg base LV__law_other "_law_other" 1 f__law_other := by
  exact fn_mirror nc (N := ["stream", "some"]) (ps := ["stream"]) (k := 1) F ⟨rfl, rfl, rfl, by decide +kernel, rfl, by decide +kernel, by decide +kernel⟩ hx hb fun cdv A outer s H E gd hr tk => by
    have nd : (["stream", "some"] : List Str).Nodup := by decide +kernel
    have lt := lets_of tk
    exact (pms_cons (pms_set 1 nd (pm_lst (pma_cons pm_non (pma_cons pm_bl (pma_cons (pm_un un_neg o1Neg pm_int) (pma_cons pm_int (pma_cons pm_int (pma_cons pm_str (pma_cons pm_str (pma_cons pm_str (pma_cons (pm_tup pma_nil) (pma_cons (pm_lst pma_nil) (pma_cons pm_dict0 (pma_cons (pm_tup (pma_cons pm_int pma_nil)) (pma_cons (pm_tup (pma_cons pm_str pma_nil)) (pma_cons (pm_bin opPow o2Pow pm_int pm_int) pma_nil))))))))))))))))
      (pms_cons (pms_set 1 nd (pm_bin opAdd o2Add (pm_var 1) (pm_lst (pma_cons pm_str (pma_cons (pm_tup (pma_cons pm_non pma_nil)) (pma_cons (pm_tup (pma_cons (pm_tup pma_nil) pma_nil)) (pma_cons (pm_lst (pma_cons (pm_tup pma_nil) pma_nil)) (pma_cons (pm_disp (pmp_cons (W := W0) pm_int pm_int pmp_nil)) pma_nil))))))))
      (pms_one (pms_ret (pm_ix ix_seq o2Ix (pm_var 1) (pm_fn_call (F__law_draw.mono (by decide)) hr gd lt (pma_cons (pm_var 0) (pma_cons (pm_callB call_len oLen T.n_len (by decide +kernel) (pma_cons (pm_var 1) pma_nil)) pma_nil))))))))
/-! require_pattern -/
def b_require_pattern : MS := (sIf (mNotT (mB (mCall (gIsK isOwn isSub isYs) (aCons (mVar 0) (aCons (mC (.gl "Pattern")) aNil))))) (sRaise "InvalidPattern") sNext)
def f_require_pattern : FM := defM 1 b_require_pattern
theorem ok_require_pattern (nc : Tb.cs = none) (nj : Tb.j = JP.no) (T : TxtP K mg) (T2 : Txt2 P w K mg) (F : Fun K "require_pattern" "require_pattern" s_require_pattern f fd) (hx : mg "require_pattern" = some (.ref f)) (hb : Binds K fd ["value"] []) : FnM P w K mg base LV_require_pattern "require_pattern" 1 f_require_pattern := by
  obtain ⟨C_InvalidPattern, e_InvalidPattern⟩ := T.x_InvalidPattern
  exact fn_mirror nc (N := ["value"]) (ps := ["value"]) (k := 0) F ⟨rfl, rfl, rfl, by decide +kernel, rfl, by decide +kernel, by decide +kernel⟩ hx hb fun cdv A outer s H E gd hr tk => by
    have nd : (["value"] : List Str).Nodup := by decide +kernel
    have lt := lets_of tk
    exact (pms_one (pms_if (pmt_not (pmt_val (pm_callB call_isAll (oIsK T.isT) T.n_isinstance (by decide +kernel) (pma_cons (pm_var 0) (pma_cons (pm_fn (T.g_Pattern).choose_spec) pma_nil))))) (pms_one (pms_raiseT tk PySem.F.excBase_ValueError e_InvalidPattern)) pms_nil))
/-! Pattern.check -/
def b_Pattern_check : MS := (sSeq (sIf (mB (m2 gGt (mCall gLen (aCons (mFld isConc "own_letters" (mVar 0)) aNil)) (mC (.int 4)))) (sRaise "InvalidOperation") sNext)
  (sSeq (sIf (mB (m2 gGt (mFld isConc "own_places" (mVar 0)) (mC (.int 7)))) sBad sNext)
  (sSeq (sIf (mB (m2 gGt (mFld isConc "own_nodes" (mVar 0)) (mC (.int 40)))) sBad sNext)
  (sIf (mB (m2 gGt (mFld isConc "own_levels" (mVar 0)) (mC (.int 10)))) sBad sNext))))
def f_Pattern_check : FM := arity 1 (defM 1 b_Pattern_check)
theorem ok_Pattern_check (nc : Tb.cs = none) (nj : Tb.j = JP.no) (T : TxtP K mg) (T2 : Txt2 P w K mg) (F : Fun K "check" "Pattern.check" s_Pattern_check f fd) (hb : Binds K fd ["self"] []) : FnA P w K mg base LV_Pattern_check f f_Pattern_check := by
  obtain ⟨u_MAX_DEPTH, g_MAX_DEPTH, r_MAX_DEPTH⟩ := T.c_MAX_DEPTH
  obtain ⟨u_MAX_NODES, g_MAX_NODES, r_MAX_NODES⟩ := T.c_MAX_NODES
  obtain ⟨u_MAX_PLACES, g_MAX_PLACES, r_MAX_PLACES⟩ := T.c_MAX_PLACES
  obtain ⟨C_InvalidOperation, e_InvalidOperation⟩ := T.x_InvalidOperation
  exact FnA.of (fn_mirrorG nc (N := ["self"]) (ps := ["self"]) (k := 0) F ⟨rfl, rfl, rfl, by decide +kernel, rfl, by decide +kernel, by decide +kernel⟩ (fun cdv A outer s H E gd hr tk => by
    have nd : (["self"] : List Str).Nodup := by decide +kernel
    have lt := lets_of tk
    exact (pms_cons (pms_if (pmt_cmp opGt o2Gt (pm_callB call_len oLen T.n_len (by decide +kernel) (pma_cons (pm_fld T.fld_own_letters (pm_var 0)) pma_nil)) pm_int) (pms_one (pms_raiseT tk PySem.F.excBase_ValueError e_InvalidOperation)) pms_nil)
      (pms_cons (pms_if (pmt_cmp opGt o2Gt (pm_fld T.fld_own_places (pm_var 0)) (pm_glob g_MAX_PLACES r_MAX_PLACES (fun _ _ => .int _))) (pms_one pms_bad) pms_nil)
      (pms_cons (pms_if (pmt_cmp opGt o2Gt (pm_fld T.fld_own_nodes (pm_var 0)) (pm_glob g_MAX_NODES r_MAX_NODES (fun _ _ => .int _))) (pms_one pms_bad) pms_nil)
      (pms_one (pms_if (pmt_cmp opGt o2Gt (pm_fld T.fld_own_levels (pm_var 0)) (pm_glob g_MAX_DEPTH r_MAX_DEPTH (fun _ _ => .int _))) (pms_one pms_bad) pms_nil))))))) hb
def tb_check (c : Str) : Option FM := if c = "Letter" then some f_Pattern_check else none
/-! Pattern.__init__ -/
def b_Pattern___init__ : MS := (sSeq (sFor (iAll (mVar 1)) (gN 2) (sExpr (mFn 1 f_require_pattern (aCons (mVar 2) aNil))))
  (sSeq (sFldSet isConc "own_pieces" (mVar 0) (mVar 1))
  (sSeq (sFldSet isConc "own_letters" (mVar 0) (mMethT isStr gJoin (mC (.str "")) (aCons (mSortSc2 (iAll (mVar 1)) [2, 3] (.nm 2) tYesM (iAll (mFld isConc "own_letters" (mVar 2))) [3] (.nm 3) tYesM (mVar 3)) aNil)))
  (sSeq (sFldSet isConc "own_places" (mVar 0) (mCall gSum (aCons (mLc (iAll (mVar 1)) [2] (.nm 2) tYesM (mFld isConc "own_places" (mVar 2))) aNil)))
  (sSeq (sFldSet isConc "own_nodes" (mVar 0) (m2 gAdd (mC (.int 1)) (mCall gSum (aCons (mLc (iAll (mVar 1)) [2] (.nm 2) tYesM (mFld isConc "own_nodes" (mVar 2))) aNil))))
  (sSeq (sFldSet isConc "own_levels" (mVar 0) (m2 gAdd (mC (.int 1)) (mMaxDf 0 (mLc (iAll (mVar 1)) [2] (.nm 2) tYesM (mFld isConc "own_levels" (mVar 2))))))
  (sSeq (sFldSet isConc "own_open" (mVar 0) (mCall gAny (aCons (mLc (iAll (mVar 1)) [2] (.nm 2) tYesM (mFld isConc "own_open" (mVar 2))) aNil)))
  (sExpr (mMth "check" tb_check (mVar 0) aNil)))))))))
def f_Pattern___init__ : FM := defStar 1 4 b_Pattern___init__
theorem ok_Pattern___init__ (nc : Tb.cs = none) (nj : Tb.j = JP.no) (T : TxtP K mg) (T2 : Txt2 P w K mg) (F_require_pattern : FnM P w K mg base LV_require_pattern "require_pattern" 1 f_require_pattern) (M_check : MthT P w K mg base LM_check "check" tb_check) (F : Fun K "__init__" "Pattern.__init__" s_Pattern___init__ f fd) (hb : ∀ us rest : List Value, us.length = 1 → bindArgs fd ⟨us ++ rest, []⟩ = (newTuple rest >>= fun t => pure (((["self"] : List Str)).zip us ++ [(("pieces" : Str), t)]))) : FnA P w K mg base LV_Pattern___init__ f f_Pattern___init__ := by
  exact fn_star_mirror nc (N := ["self", "pieces", "piece", "letter"]) (ps := ["self"]) (pv := "pieces") (k := 1) F ⟨rfl, rfl, rfl, by decide +kernel, rfl, by decide +kernel, by decide +kernel⟩ hb fun cdv A outer s H E gd hr tk => by
    have nd : (["self", "pieces", "piece", "letter"] : List Str).Nodup := by decide +kernel
    have lt := lets_of tk
    exact (pms_cons (pms_for (passes_of rfl) (pmi_all (pm_var 1)) (pmg_name 2 nd) (pms_one (pms_expr (pm_fn_call (F_require_pattern.mono (by decide)) hr gd lt (pma_cons (pm_var 2) pma_nil)))))
      (pms_cons (pms_fld T.fld_own_pieces (pm_var 1) (pm_var 0))
      (pms_cons (pms_fld T.fld_own_letters (pm_bm PySem.F.plainAttrs_str PySem.F.slot_str_join PySem.F.type_str_join mt_join oIsStr oJoin pm_str (pma_cons (pm_sortsc2 nc (own := [("piece", 2), ("letter", 3)]) (own2 := [3]) (t1 := .nm 2) (t2 := .nm 3) T.n_sorted nd (pmi_all (pm_var 1)) (blkOk_by (by kernel_rfl)) (by decide) (fun _ _ _ _ _ => pg_name (i := 2) nd rfl (.inl rfl) (.inr rfl)) (fun _ _ _ _ _ => pmts_nil') (fun _ _ _ _ _ => (pmi_all (pm_fld T.fld_own_letters (pm_var 2)))) (fun _ _ _ _ _ => pg_name (i := 3) nd rfl (.inl rfl) (.inr rfl)) (fun _ _ _ _ _ => pmts_nil') (fun _ _ _ _ _ => (pm_var 3))) pma_nil)) (pm_var 0))
      (pms_cons (pms_fld T.fld_own_places (pm_callB (cr_sum rfl) oSum T.n_sum (by decide +kernel) (pma_cons (pm_lc nc (own := [("piece", 2)]) (t := (.nm 2)) nd (pmi_all (pm_var 1)) (blkOk_by (by kernel_rfl)) (fun s H C cl fp => (pg_name (i := 2) nd rfl (.inl rfl) (.inr rfl))) (fun s H C cl fp => pmts_nil) (fun s H C cl fp => (pm_fld T.fld_own_places (pm_var 2)))) pma_nil)) (pm_var 0))
      (pms_cons (pms_fld T.fld_own_nodes (pm_bin opAdd o2Add pm_int (pm_callB (cr_sum rfl) oSum T.n_sum (by decide +kernel) (pma_cons (pm_lc nc (own := [("piece", 2)]) (t := (.nm 2)) nd (pmi_all (pm_var 1)) (blkOk_by (by kernel_rfl)) (fun s H C cl fp => (pg_name (i := 2) nd rfl (.inl rfl) (.inr rfl))) (fun s H C cl fp => pmts_nil) (fun s H C cl fp => (pm_fld T.fld_own_nodes (pm_var 2)))) pma_nil))) (pm_var 0))
      (pms_cons (pms_fld T.fld_own_levels (pm_bin opAdd o2Add pm_int (pm_maxDf hr.units T.n_max (pm_lc nc (own := [("piece", 2)]) (t := (.nm 2)) nd (pmi_all (pm_var 1)) (blkOk_by (by kernel_rfl)) (fun s H C cl fp => (pg_name (i := 2) nd rfl (.inl rfl) (.inr rfl))) (fun s H C cl fp => pmts_nil) (fun s H C cl fp => (pm_fld T.fld_own_levels (pm_var 2)))))) (pm_var 0))
      (pms_cons (pms_fld T.fld_own_open (pm_callB (cr_any rfl) oAny T.n_any (by decide +kernel) (pma_cons (pm_lc nc (own := [("piece", 2)]) (t := (.nm 2)) nd (pmi_all (pm_var 1)) (blkOk_by (by kernel_rfl)) (fun s H C cl fp => (pg_name (i := 2) nd rfl (.inl rfl) (.inr rfl))) (fun s H C cl fp => pmts_nil) (fun s H C cl fp => (pm_fld T.fld_own_open (pm_var 2)))) pma_nil)) (pm_var 0))
      (pms_one (pms_expr (pm_mth0 (k := LM_check) M_check (hr.mono (by decide)) gd lt (pm_var 0)))))))))))
def ts_Letter___init__ (c : Str) : Option FM := if c = "Letter" then some f_Pattern___init__ else none
/-! Letter.__init__ -/
def b_Letter___init__ : MS := (sSeq (sIf (mOrT (mNotT (mB (mCall (gIsK isOwn isSub isYs) (aCons (mVar 1) (aCons (mC (.ty "str")) aNil))))) (mOrT (mB (m2 gNe (mCall gLen (aCons (mVar 1) aNil)) (mC (.int 1)))) (mB (m2 gNotIn (mVar 1) (mC (.str "abcdefghijklmnopqrstuvwxyz")))))) (sRaise "InvalidPattern") sNext)
  (sSeq (sExpr (mSup ts_Letter___init__ aNil))
  (sSeq (sFldSet isConc "own_letters" (mVar 0) (mVar 1))
  (sSeq (sFldSet isConc "own_places" (mVar 0) (mC (.int 1)))
  (sFldSet isConc "own_text" (mVar 0) (mVar 1))))))
def f_Letter___init__ : FM := arity 2 (defM 2 b_Letter___init__)
theorem ok_Letter___init__ (nc : Tb.cs = none) (nj : Tb.j = JP.no) (T : TxtP K mg) (T2 : Txt2 P w K mg) {cc cda Dc : Addr} (F : FunK P K mg "__init__" "Letter.__init__" s_Letter___init__ f cc cda Dc) (S_ : SupT P w K mg base LV_Pattern___init__ Dc "__init__" ts_Letter___init__) (hb : ∀ (kV doc pm : Value) (an : Option Addr) (ct : Value) (us : List Value), us.length = 2 → bindArgs (PySem.W.ksFn "__init__" "Letter.__init__" (defArgs s_Letter___init__) (defBody s_Letter___init__) (defScope s_Letter___init__) .none kV doc pm an (.ref cda) ct cc) ⟨us, []⟩ = pure ((["self", "sign"] : List Str).zip us)) : FnA P w K mg base LV_Letter___init__ f f_Letter___init__ := by
  obtain ⟨u_LETTERS, g_LETTERS, r_LETTERS⟩ := T.c_LETTERS
  obtain ⟨C_InvalidPattern, e_InvalidPattern⟩ := T.x_InvalidPattern
  exact fn_class nc (N := ["self", "sign"]) (ps := ["self", "sign"]) (k := 2) F (kScope_by (by kernel_rfl)) hb fun A outer s H E gd hr tk => by
    have nd : (["self", "sign"] : List Str).Nodup := by decide +kernel
    have lt := lets_of tk
    have hK := InK.of (A := A) (outer := outer) (s := s) (H := H) (E := E) (P := P) (w := w) (base := base) (N := ["self", "sign"]) F (by rfl) (by rfl) (by rfl) rfl rfl (sf := "self")
    exact (pmf_cons (pmf1_of (pms_if (PW.pt (pmw_or (pmt_not (pmt_val (pm_callB call_isAll (oIsK T.isT) T.n_isinstance (by decide +kernel) (pma_cons (pm_var 1) (pma_cons (pm_ty T.n_str (by decide +kernel)) pma_nil))))) (pmw_or (pmt_cmp (op_neD hr.units) o2Ne (pm_callB call_len oLen T.n_len (by decide +kernel) (pma_cons (pm_var 1) pma_nil)) pm_int) (pmw_or1 (pmt_cmp opNotIn o2NotIn (pm_var 1) (pm_glob g_LETTERS r_LETTERS (fun _ _ => .str _))))))) (pms_one (pms_raiseT tk PySem.F.excBase_ValueError e_InvalidPattern)) pms_nil))
      (pmf_cons (pmf_sup0 hK S_ (hr.mono (by decide)) gd lt)
      (pmf_of (pms_cons (pms_fld T.fld_own_letters (pm_var 1) (pm_var 0))
      (pms_cons (pms_fld T.fld_own_places pm_int (pm_var 0))
      (pms_one (pms_fld T.fld_own_text (pm_var 1) (pm_var 0))))))))
/-! _law_no_edit -/
def b__law_no_edit : MS := (sSeq (sSet 1 (mFn 2 f__law_pick (aCons (mVar 0) (aCons (mLst (aCons (mC (.str "")) (aCons (mC (.str "P")) (aCons (mC (.str "abcdefghi")) (aCons (mC (.str "a b")) (aCons (mC .non) (aCons (mC (.int 0)) (aCons (mTup (aCons (mC (.str "p")) aNil)) (aCons (mLst (aCons (mC (.str "p")) aNil)) (aCons (mC (.str "p1")) (aCons (mC (.bl true)) aNil))))))))))) aNil))))
  (sSeq (sSet 2 (mFn 2 f__law_pick (aCons (mVar 0) (aCons (mLst (aCons (mC (.str "")) (aCons (mC (.str "Turn")) (aCons (mC (.str "none")) (aCons (mC .non) (aCons (mC (.int 0)) (aCons (mTup (aCons (mC (.str "turn")) aNil)) (aCons (mLst (aCons (mC (.str "turn")) aNil)) (aCons (mC (.str "undo")) (aCons (mC (.bl true)) aNil)))))))))) aNil))))
  (sSeq (sSet 3 (mFn 2 f__law_pick (aCons (mVar 0) (aCons (mLst (aCons (mC .non) (aCons (mC (.int 0)) (aCons (mLst (aCons (mC (.int 0)) aNil)) (aCons (mTup (aCons (mC (.int 2)) aNil)) (aCons (mTup (aCons (m1 gNeg (mC (.int 1))) aNil)) (aCons (mTup (aCons (mC (.bl true)) aNil)) (aCons (mTup (aCons (mC (.str "0")) aNil)) (aCons (mC (.str "0")) (aCons (mTup (aCons (mC (.int 0)) (aCons (mC .non) aNil))) (aCons (mTup (aCons (mTup aNil) aNil)) aNil))))))))))) aNil))))
  (sSeq (sSet 4 (mFn 2 f__law_pick (aCons (mVar 0) (aCons (mLst (aCons (m1 gNeg (mC (.int 1))) (aCons (mC (.int 31)) (aCons (mC .non) (aCons (mC (.bl true)) (aCons (mC (.str "1")) (aCons (mTup (aCons (mC (.int 1)) aNil)) (aCons (mLst aNil) (aCons (m2 gPow (mC (.int 10)) (mC (.int 39))) aNil))))))))) aNil))))
  (sSeq (sSet 5 (mFn 2 f__law_pick (aCons (mVar 0) (aCons (mLst (aCons (m1 gNeg (mC (.int 1))) (aCons (mC (.int 31)) (aCons (mC (.bl false)) (aCons (mC (.str "1")) (aCons (mTup (aCons (mC (.int 1)) aNil)) (aCons (mLst aNil) (aCons (m2 gPow (mC (.int 10)) (mC (.int 39))) (aCons mDict0 aNil))))))))) aNil))))
  (sSeq (sSet 6 (mFn 2 f__law_pick (aCons (mVar 0) (aCons (mLst (aCons (mC .non) (aCons (mC (.int 0)) (aCons (mC (.int 1)) (aCons (mC (.str "back")) (aCons (mTup aNil) (aCons (mLst aNil) aNil))))))) aNil))))
  (sSeq (sPar 7 8 (aCons (mFn 2 f__law_pick (aCons (mVar 0) (aCons (mLst (aCons (mC (.str "a")) (aCons (mC .non) (aCons (mTup aNil) (aCons (mC (.int 0)) (aCons (mLst (aCons (mC (.str "a")) aNil)) aNil)))))) aNil))) (aCons (mFn 2 f__law_pick (aCons (mVar 0) (aCons (mLst (aCons (m1 gNeg (mC (.int 1))) (aCons (mC (.int 100)) (aCons (mC .non) (aCons (mC (.bl true)) (aCons (mC (.str "0")) (aCons (mTup (aCons (mC (.int 0)) aNil)) aNil))))))) aNil))) aNil)))
  (sSeq (sSet 9 (mLst (aCons (mTup (aCons (mC (.str "set")) (aCons (mVar 1) (aCons (mOwn (mNewG true "Letter" f_Letter___init__ (aCons (mC (.str "a")) aNil))) aNil)))) (aCons (mTup (aCons (mC (.str "set")) (aCons (mC (.str "p")) (aCons (mVar 7) aNil)))) (aCons (mTup (aCons (mC (.str "set")) (aCons (mC (.str "p")) aNil))) (aCons (mTup (aCons (mC (.str "drop")) aNil)) (aCons (mTup (aCons (mC (.str "remove")) (aCons (mVar 1) aNil))) aNil)))))))
  (sSeq (sSet 9 (m2 gAdd (mVar 9) (mLst (aCons (mTup (aCons (mC (.str "rename")) (aCons (mVar 1) (aCons (mC (.str "q")) aNil)))) (aCons (mTup (aCons (mC (.str "rename")) (aCons (mC (.str "p")) (aCons (mVar 1) aNil)))) (aCons (mTup (aCons (mC (.str "rewrite")) (aCons (mVar 1) (aCons (mC (.str "turn")) (aCons (mTup aNil) (aCons (mC (.bl false)) aNil)))))) aNil))))))
  (sSeq (sSet 9 (m2 gAdd (mVar 9) (mLst (aCons (mTup (aCons (mC (.str "rewrite")) (aCons (mC (.str "p")) (aCons (mVar 2) (aCons (mTup aNil) (aCons (mC (.bl false)) aNil)))))) (aCons (mTup (aCons (mC (.str "rewrite")) (aCons (mC (.str "p")) (aCons (mC (.str "turn")) (aCons (mVar 3) (aCons (mC (.bl true)) aNil)))))) aNil)))))
  (sSeq (sSet 9 (m2 gAdd (mVar 9) (mLst (aCons (mTup (aCons (mC (.str "rewrite")) (aCons (mC (.str "p")) (aCons (mC (.str "turn")) (aCons (mTup aNil) (aCons (mVar 6) aNil)))))) (aCons (mTup (aCons (mC (.str "promise")) (aCons (mVar 1) (aCons (mC (.str "q")) (aCons (mC (.int 0)) (aCons (mC (.int 0)) aNil)))))) (aCons (mTup (aCons (mC (.str "promise")) (aCons (mC (.str "p")) (aCons (mVar 1) (aCons (mC (.int 0)) (aCons (mC (.int 0)) aNil)))))) aNil))))))
  (sSeq (sSet 9 (m2 gAdd (mVar 9) (mLst (aCons (mTup (aCons (mC (.str "promise")) (aCons (mC (.str "p")) (aCons (mC (.str "q")) (aCons (mVar 4) (aCons (mC (.int 0)) aNil)))))) (aCons (mTup (aCons (mC (.str "undo")) (aCons (mC (.int 1)) aNil))) (aCons (mTup (aCons (mC (.str "promise")) (aCons (mC (.str "p")) (aCons (mC (.str "q")) (aCons (mC (.int 0)) (aCons (mVar 5) aNil)))))) aNil))))))
  (sSeq (sSet 9 (m2 gAdd (mVar 9) (mLst (aCons (mTup (aCons (mC (.str "drop")) (aCons (mVar 8) aNil))) (aCons (mLst (aCons (mC (.str "remove")) (aCons (mC (.str "p")) aNil))) (aCons (mTup (aCons (mC (.str "remove")) (aCons (mC (.str "p")) (aCons (mC (.int 0)) aNil)))) (aCons (mTup (aCons (mC (.str "rewrite")) (aCons (mC (.str "p")) (aCons (mC (.str "turn")) (aCons (mTup aNil) aNil))))) (aCons (mTup (aCons (mC .non) (aCons (mC (.str "p")) aNil))) aNil))))))))
  (sRet (mFn 2 f__law_pick (aCons (mVar 0) (aCons (mVar 9) aNil)))))))))))))))))
def f__law_no_edit : FM := defM 10 b__law_no_edit
theorem ok__law_no_edit (nc : Tb.cs = none) (nj : Tb.j = JP.no) (T : TxtP K mg) (T2 : Txt2 P w K mg) (F__law_pick : FnM P w K mg base LV__law_pick "_law_pick" 2 f__law_pick) (N_Letter : MakT P w K mg base LV_Letter___init__ "Letter" f_Letter___init__) (F : Fun K "_law_no_edit" "_law_no_edit" s__law_no_edit f fd) (hx : mg "_law_no_edit" = some (.ref f)) (hb : Binds K fd ["stream"] []) : FnM P w K mg base LV__law_no_edit "_law_no_edit" 1 f__law_no_edit := by
  exact fn_mirror nc (N := ["stream", "name", "rule", "path", "cap_like", "top_like", "flag", "thing", "place", "some"]) (ps := ["stream"]) (k := 4) F ⟨rfl, rfl, rfl, by decide +kernel, rfl, by decide +kernel, by decide +kernel⟩ hx hb fun cdv A outer s H E gd hr tk => by
    have nd : (["stream", "name", "rule", "path", "cap_like", "top_like", "flag", "thing", "place", "some"] : List Str).Nodup := by decide +kernel
    have lt := lets_of tk
    exact (pms_cons (pms_set 1 nd (pm_fn_call (F__law_pick.mono (by decide)) hr gd lt (pma_cons (pm_var 0) (pma_cons (pm_lst (pma_cons pm_str (pma_cons pm_str (pma_cons pm_str (pma_cons pm_str (pma_cons pm_non (pma_cons pm_int (pma_cons (pm_tup (pma_cons pm_str pma_nil)) (pma_cons (pm_lst (pma_cons pm_str pma_nil)) (pma_cons pm_str (pma_cons pm_bl pma_nil))))))))))) pma_nil))))
      (pms_cons (pms_set 2 nd (pm_fn_call (F__law_pick.mono (by decide)) hr gd lt (pma_cons (pm_var 0) (pma_cons (pm_lst (pma_cons pm_str (pma_cons pm_str (pma_cons pm_str (pma_cons pm_non (pma_cons pm_int (pma_cons (pm_tup (pma_cons pm_str pma_nil)) (pma_cons (pm_lst (pma_cons pm_str pma_nil)) (pma_cons pm_str (pma_cons pm_bl pma_nil)))))))))) pma_nil))))
      (pms_cons (pms_set 3 nd (pm_fn_call (F__law_pick.mono (by decide)) hr gd lt (pma_cons (pm_var 0) (pma_cons (pm_lst (pma_cons pm_non (pma_cons pm_int (pma_cons (pm_lst (pma_cons pm_int pma_nil)) (pma_cons (pm_tup (pma_cons pm_int pma_nil)) (pma_cons (pm_tup (pma_cons (pm_un un_neg o1Neg pm_int) pma_nil)) (pma_cons (pm_tup (pma_cons pm_bl pma_nil)) (pma_cons (pm_tup (pma_cons pm_str pma_nil)) (pma_cons pm_str (pma_cons (pm_tup (pma_cons pm_int (pma_cons pm_non pma_nil))) (pma_cons (pm_tup (pma_cons (pm_tup pma_nil) pma_nil)) pma_nil))))))))))) pma_nil))))
      (pms_cons (pms_set 4 nd (pm_fn_call (F__law_pick.mono (by decide)) hr gd lt (pma_cons (pm_var 0) (pma_cons (pm_lst (pma_cons (pm_un un_neg o1Neg pm_int) (pma_cons pm_int (pma_cons pm_non (pma_cons pm_bl (pma_cons pm_str (pma_cons (pm_tup (pma_cons pm_int pma_nil)) (pma_cons (pm_lst pma_nil) (pma_cons (pm_bin opPow o2Pow pm_int pm_int) pma_nil))))))))) pma_nil))))
      (pms_cons (pms_set 5 nd (pm_fn_call (F__law_pick.mono (by decide)) hr gd lt (pma_cons (pm_var 0) (pma_cons (pm_lst (pma_cons (pm_un un_neg o1Neg pm_int) (pma_cons pm_int (pma_cons pm_bl (pma_cons pm_str (pma_cons (pm_tup (pma_cons pm_int pma_nil)) (pma_cons (pm_lst pma_nil) (pma_cons (pm_bin opPow o2Pow pm_int pm_int) (pma_cons pm_dict0 pma_nil))))))))) pma_nil))))
      (pms_cons (pms_set 6 nd (pm_fn_call (F__law_pick.mono (by decide)) hr gd lt (pma_cons (pm_var 0) (pma_cons (pm_lst (pma_cons pm_non (pma_cons pm_int (pma_cons pm_int (pma_cons pm_str (pma_cons (pm_tup pma_nil) (pma_cons (pm_lst pma_nil) pma_nil))))))) pma_nil))))
      (pms_cons (pms_par 7 8 nd (pma_cons (pm_fn_call (F__law_pick.mono (by decide)) hr gd lt (pma_cons (pm_var 0) (pma_cons (pm_lst (pma_cons pm_str (pma_cons pm_non (pma_cons (pm_tup pma_nil) (pma_cons pm_int (pma_cons (pm_lst (pma_cons pm_str pma_nil)) pma_nil)))))) pma_nil))) (pma_cons (pm_fn_call (F__law_pick.mono (by decide)) hr gd lt (pma_cons (pm_var 0) (pma_cons (pm_lst (pma_cons (pm_un un_neg o1Neg pm_int) (pma_cons pm_int (pma_cons pm_non (pma_cons pm_bl (pma_cons pm_str (pma_cons (pm_tup (pma_cons pm_int pma_nil)) pma_nil))))))) pma_nil))) pma_nil)))
      (pms_cons (pms_set 9 nd (pm_lst (pma_cons (pm_tup (pma_cons pm_str (pma_cons (pm_var 1) (pma_cons (pm_own nc nj (pm_new (b := true) (k := LV_Letter___init__) N_Letter (hr.mono (by decide)) gd lt (pma_cons pm_str pma_nil))) pma_nil)))) (pma_cons (pm_tup (pma_cons pm_str (pma_cons pm_str (pma_cons (pm_var 7) pma_nil)))) (pma_cons (pm_tup (pma_cons pm_str (pma_cons pm_str pma_nil))) (pma_cons (pm_tup (pma_cons pm_str pma_nil)) (pma_cons (pm_tup (pma_cons pm_str (pma_cons (pm_var 1) pma_nil))) pma_nil)))))))
      (pms_cons (pms_set 9 nd (pm_bin opAdd o2Add (pm_var 9) (pm_lst (pma_cons (pm_tup (pma_cons pm_str (pma_cons (pm_var 1) (pma_cons pm_str pma_nil)))) (pma_cons (pm_tup (pma_cons pm_str (pma_cons pm_str (pma_cons (pm_var 1) pma_nil)))) (pma_cons (pm_tup (pma_cons pm_str (pma_cons (pm_var 1) (pma_cons pm_str (pma_cons (pm_tup pma_nil) (pma_cons pm_bl pma_nil)))))) pma_nil))))))
      (pms_cons (pms_set 9 nd (pm_bin opAdd o2Add (pm_var 9) (pm_lst (pma_cons (pm_tup (pma_cons pm_str (pma_cons pm_str (pma_cons (pm_var 2) (pma_cons (pm_tup pma_nil) (pma_cons pm_bl pma_nil)))))) (pma_cons (pm_tup (pma_cons pm_str (pma_cons pm_str (pma_cons pm_str (pma_cons (pm_var 3) (pma_cons pm_bl pma_nil)))))) pma_nil)))))
      (pms_cons (pms_set 9 nd (pm_bin opAdd o2Add (pm_var 9) (pm_lst (pma_cons (pm_tup (pma_cons pm_str (pma_cons pm_str (pma_cons pm_str (pma_cons (pm_tup pma_nil) (pma_cons (pm_var 6) pma_nil)))))) (pma_cons (pm_tup (pma_cons pm_str (pma_cons (pm_var 1) (pma_cons pm_str (pma_cons pm_int (pma_cons pm_int pma_nil)))))) (pma_cons (pm_tup (pma_cons pm_str (pma_cons pm_str (pma_cons (pm_var 1) (pma_cons pm_int (pma_cons pm_int pma_nil)))))) pma_nil))))))
      (pms_cons (pms_set 9 nd (pm_bin opAdd o2Add (pm_var 9) (pm_lst (pma_cons (pm_tup (pma_cons pm_str (pma_cons pm_str (pma_cons pm_str (pma_cons (pm_var 4) (pma_cons pm_int pma_nil)))))) (pma_cons (pm_tup (pma_cons pm_str (pma_cons pm_int pma_nil))) (pma_cons (pm_tup (pma_cons pm_str (pma_cons pm_str (pma_cons pm_str (pma_cons pm_int (pma_cons (pm_var 5) pma_nil)))))) pma_nil))))))
      (pms_cons (pms_set 9 nd (pm_bin opAdd o2Add (pm_var 9) (pm_lst (pma_cons (pm_tup (pma_cons pm_str (pma_cons (pm_var 8) pma_nil))) (pma_cons (pm_lst (pma_cons pm_str (pma_cons pm_str pma_nil))) (pma_cons (pm_tup (pma_cons pm_str (pma_cons pm_str (pma_cons pm_int pma_nil)))) (pma_cons (pm_tup (pma_cons pm_str (pma_cons pm_str (pma_cons pm_str (pma_cons (pm_tup pma_nil) pma_nil))))) (pma_cons (pm_tup (pma_cons pm_non (pma_cons pm_str pma_nil))) pma_nil))))))))
      (pms_one (pms_ret (pm_fn_call (F__law_pick.mono (by decide)) hr gd lt (pma_cons (pm_var 0) (pma_cons (pm_var 9) pma_nil))))))))))))))))))
/-! _law_right -/
def b__law_right : MS := (sSeq (sAsg (gTL 2 (gConsM (gN 1) (gConsM (gN 2) gNilM))) (mTup (aCons (mFn 1 f__law_other (aCons (mVar 0) aNil)) (aCons (mFn 1 f__law_no_edit (aCons (mVar 0) aNil)) aNil))))
  (sSeq (sSet 3 (mLst (aCons (mC .non) (aCons (mTup aNil) (aCons (mC (.int 0)) (aCons (mC (.str "machine")) (aCons (mLst aNil) (aCons (mTup (aCons (mC (.str "a")) (aCons (mC (.int 1)) (aCons (mTup aNil) (aCons (mTup aNil) aNil))))) (aCons (mTup (aCons (mC (.str "a")) (aCons (mC (.int 0)) (aCons (mTup aNil) (aCons (mTup aNil) (aCons (mTup aNil) aNil)))))) (aCons (mLst (aCons (mC (.str "a")) (aCons (mC (.int 1)) (aCons (mTup aNil) (aCons (mTup aNil) (aCons (mTup aNil) aNil)))))) (aCons mDict0 aNil)))))))))))
  (sSeq (sSet 4 (mFn 2 f__law_pick (aCons (mVar 0) (aCons (mVar 3) aNil))))
  (sSeq (sSet 3 (mLst (aCons (mC .non) (aCons (mTup aNil) (aCons (mC (.int 0)) (aCons (mLst (aCons (mTup (aCons (mC (.str "letter")) (aCons (mC (.str "a")) aNil))) aNil)) (aCons (mTup (aCons (mTup (aCons (mC (.str "letter")) (aCons (mC (.str "A")) aNil))) aNil)) (aCons (mTup (aCons (mTup (aCons (mC (.str "pump")) (aCons (mC (.int 0)) aNil))) aNil)) (aCons (mTup (aCons (mTup (aCons (mC (.str "letter")) (aCons (mC (.str "a")) (aCons (mC (.int 0)) aNil)))) aNil)) aNil)))))))))
  (sSeq (sSet 5 (mFn 2 f__law_pick (aCons (mVar 0) (aCons (mVar 3) aNil))))
  (sSeq (sSet 6 (mFn 2 f__law_pick (aCons (mVar 0) (aCons (mLst (aCons (mC .non) (aCons (mC (.str "")) (aCons (mC (.str "ba")) (aCons (mC (.str "aa")) (aCons (mC (.str "abcde")) (aCons (mC (.str "A")) (aCons (mTup (aCons (mC (.str "a")) aNil)) (aCons (mC (.int 0)) (aCons (mLst (aCons (mC (.str "a")) aNil)) aNil)))))))))) aNil))))
  (sSeq (sSet 7 (mFn 2 f__law_pick (aCons (mVar 0) (aCons (mLst (aCons (mC .non) (aCons (mC (.int 0)) (aCons (mTup aNil) (aCons (mLst aNil) (aCons mDict0 (aCons (mC (.bl true)) (aCons (mTup (aCons (mC (.str "letter a")) aNil)) (aCons (mLst (aCons (mC (.str "letter a")) aNil)) (aCons (m2 gPow (mC (.int 10)) (mC (.int 39))) aNil)))))))))) aNil))))
  (sSeq (sSet 8 (mCall gReprE (aCons (mTup (aCons (mVar 1) (aCons (mVar 4) (aCons (mVar 5) (aCons (mVar 6) (aCons (mVar 7) aNil)))))) aNil)))
  (sSeq (sSet 9 (mLstN (aCons (mOwn (mLam l__law_error (mFn 1 f_machine_text (aCons (mVar 4) aNil)))) aNil)))
  (sSeq (sExpr (mMethT isLst gAppend (mVar 9) (aCons (mOwn (mLam l__law_error (mFn 1 f_recipe_text (aCons (mVar 5) aNil)))) aNil)))
  (sSeq (sExpr (mMethT isLst gAppend (mVar 9) (aCons (mOwn (mLam l__law_error (mFn 1 f_edit_text (aCons (mVar 2) aNil)))) aNil)))
  (sSeq (sExpr (mMethT isLst gAppend (mVar 9) (aCons (mOwn (mLam l__law_error (mFn 1 f_parse_machine (aCons (mVar 7) aNil)))) aNil)))
  (sSeq (sExpr (mMethT isLst gAppend (mVar 9) (aCons (mOwn (mLam l__law_error (mFn 1 f_parse_edit (aCons (mVar 7) aNil)))) aNil)))
  (sSeq (sExpr (mMethT isLst gAppend (mVar 9) (aCons (mOwn (mLam l__law_error (mFn 2 f_parse_recipe (aCons (mC (.str "a")) (aCons (mVar 7) aNil))))) aNil)))
  (sSeq (sExpr (mMethT isLst gAppend (mVar 9) (aCons (mOwn (mLam l__law_error (mFn 2 f_parse_recipe (aCons (mVar 6) (aCons (mVar 7) aNil))))) aNil)))
  (sSeq (sExpr (mMethT isLst gAppend (mVar 9) (aCons (mOwn (mLam l__law_error (mFn 2 f_parse_recipe (aCons (mVar 6) (aCons (mC (.str "letter a")) aNil))))) aNil)))
  (sSeq (sIf (mB (m2 gNe (mVar 9) (mLst (aCons (mC (.str "machine")) (aCons (mC (.str "recipe")) (aCons (mC (.str "operation")) (aCons (mC (.str "parse")) (aCons (mC (.str "parse")) (aCons (mC (.str "parse")) (aCons (mC (.str "machine")) (aCons (mC (.str "machine")) aNil))))))))))) (sRet (mC (.bl false))) sNext)
  (sSeq (sSet 9 (mLstN (aCons (mOwn (mLam l__law_error (mFn 1 f_machine_text (aCons (mVar 1) aNil)))) aNil)))
  (sSeq (sExpr (mMethT isLst gAppend (mVar 9) (aCons (mOwn (mLam l__law_error (mFn 1 f_recipe_text (aCons (mVar 1) aNil)))) aNil)))
  (sSeq (sExpr (mMethT isLst gAppend (mVar 9) (aCons (mOwn (mLam l__law_error (mFn 1 f_edit_text (aCons (mVar 1) aNil)))) aNil)))
  (sSeq (sExpr (mMethT isLst gAppend (mVar 9) (aCons (mOwn (mLam l__law_error (mFn 1 f_parse_machine (aCons (mVar 1) aNil)))) aNil)))
  (sSeq (sExpr (mMethT isLst gAppend (mVar 9) (aCons (mOwn (mLam l__law_error (mFn 1 f_parse_edit (aCons (mVar 1) aNil)))) aNil)))
  (sSeq (sIf (mB (m2 gNe (mVar 9) (mLst (aCons (mC (.str "machine")) (aCons (mC (.str "recipe")) (aCons (mC (.str "operation")) (aCons (mC (.str "parse")) (aCons (mC (.str "parse")) aNil)))))))) (sRet (mC (.bl false))) sNext)
  (sRet (m2 gEq (mCall gReprE (aCons (mTup (aCons (mVar 1) (aCons (mVar 4) (aCons (mVar 5) (aCons (mVar 6) (aCons (mVar 7) aNil)))))) aNil)) (mVar 8))))))))))))))))))))))))))
def f__law_right : FM := defM 10 b__law_right
theorem ok__law_right (nc : Tb.cs = none) (nj : Tb.j = JP.no) (T : TxtP K mg) (T2 : Txt2 P w K mg) (F_recipe_text : FnM P w K mg base LV_recipe_text "recipe_text" 1 f_recipe_text) (L__law_error : FnL P w K mg base LV__law_error "_law_error" l__law_error) (F_machine_text : FnM P w K mg base LV_machine_text "machine_text" 1 f_machine_text) (F_parse_machine : FnM P w K mg base LV_parse_machine "parse_machine" 1 f_parse_machine) (F_parse_recipe : FnM P w K mg base LV_parse_recipe "parse_recipe" 2 f_parse_recipe) (F_edit_text : FnM P w K mg base LV_edit_text "edit_text" 1 f_edit_text) (F_parse_edit : FnM P w K mg base LV_parse_edit "parse_edit" 1 f_parse_edit) (F__law_pick : FnM P w K mg base LV__law_pick "_law_pick" 2 f__law_pick) (F__law_other : FnM P w K mg base LV__law_other "_law_other" 1 f__law_other) (F__law_no_edit : FnM P w K mg base LV__law_no_edit "_law_no_edit" 1 f__law_no_edit) (SY : ∃ o, base.get? sysModules = some o) {c Pt : Addr} (F : FunC K "_law_right" "_law_right" s__law_right f fd (.ref c)) (TB : LamX.TabB base mg c Pt) (hT : (Pt, ("_law_right.<locals>.<lambda>" : Str)) ∈ Tb.T) (hU : ∀ p ∈ Tb.T, p.1 = Pt → p.2 = ("_law_right.<locals>.<lambda>" : Str)) (hx : mg "_law_right" = some (.ref f)) (hb : Binds K fd ["stream"] []) : FnM P w K mg base LV__law_right "_law_right" 1 f__law_right := by
  exact fn_mirrorC nc (N := ["stream", "other", "edit", "some", "wrong", "rows", "signs", "text", "before", "found"]) (ps := ["stream"]) (k := 9) F ⟨rfl, rfl, rfl, by decide +kernel, rfl, by decide +kernel, by decide +kernel⟩ hx hb fun A outer s H E gd hr tk => by
    have nd : (["stream", "other", "edit", "some", "wrong", "rows", "signs", "text", "before", "found"] : List Str).Nodup := by decide +kernel
    have lt := lets_of tk
    exact (pms_cons (pms_asg (pm_tup (pma_cons (pm_fn_call (F__law_other.mono (by decide)) hr gd lt (pma_cons (pm_var 0) pma_nil)) (pma_cons (pm_fn_call (F__law_no_edit.mono (by decide)) hr gd lt (pma_cons (pm_var 0) pma_nil)) pma_nil))) (pmg_tupL (pmgs_cons (pmg_name 1 nd) (pmgs_cons (pmg_name 2 nd) pmgs_nil))))
      (pms_cons (pms_set 3 nd (pm_lst (pma_cons pm_non (pma_cons (pm_tup pma_nil) (pma_cons pm_int (pma_cons pm_str (pma_cons (pm_lst pma_nil) (pma_cons (pm_tup (pma_cons pm_str (pma_cons pm_int (pma_cons (pm_tup pma_nil) (pma_cons (pm_tup pma_nil) pma_nil))))) (pma_cons (pm_tup (pma_cons pm_str (pma_cons pm_int (pma_cons (pm_tup pma_nil) (pma_cons (pm_tup pma_nil) (pma_cons (pm_tup pma_nil) pma_nil)))))) (pma_cons (pm_lst (pma_cons pm_str (pma_cons pm_int (pma_cons (pm_tup pma_nil) (pma_cons (pm_tup pma_nil) (pma_cons (pm_tup pma_nil) pma_nil)))))) (pma_cons pm_dict0 pma_nil)))))))))))
      (pms_cons (pms_set 4 nd (pm_fn_call (F__law_pick.mono (by decide)) hr gd lt (pma_cons (pm_var 0) (pma_cons (pm_var 3) pma_nil))))
      (pms_cons (pms_set 3 nd (pm_lst (pma_cons pm_non (pma_cons (pm_tup pma_nil) (pma_cons pm_int (pma_cons (pm_lst (pma_cons (pm_tup (pma_cons pm_str (pma_cons pm_str pma_nil))) pma_nil)) (pma_cons (pm_tup (pma_cons (pm_tup (pma_cons pm_str (pma_cons pm_str pma_nil))) pma_nil)) (pma_cons (pm_tup (pma_cons (pm_tup (pma_cons pm_str (pma_cons pm_int pma_nil))) pma_nil)) (pma_cons (pm_tup (pma_cons (pm_tup (pma_cons pm_str (pma_cons pm_str (pma_cons pm_int pma_nil)))) pma_nil)) pma_nil)))))))))
      (pms_cons (pms_set 5 nd (pm_fn_call (F__law_pick.mono (by decide)) hr gd lt (pma_cons (pm_var 0) (pma_cons (pm_var 3) pma_nil))))
      (pms_cons (pms_set 6 nd (pm_fn_call (F__law_pick.mono (by decide)) hr gd lt (pma_cons (pm_var 0) (pma_cons (pm_lst (pma_cons pm_non (pma_cons pm_str (pma_cons pm_str (pma_cons pm_str (pma_cons pm_str (pma_cons pm_str (pma_cons (pm_tup (pma_cons pm_str pma_nil)) (pma_cons pm_int (pma_cons (pm_lst (pma_cons pm_str pma_nil)) pma_nil)))))))))) pma_nil))))
      (pms_cons (pms_set 7 nd (pm_fn_call (F__law_pick.mono (by decide)) hr gd lt (pma_cons (pm_var 0) (pma_cons (pm_lst (pma_cons pm_non (pma_cons pm_int (pma_cons (pm_tup pma_nil) (pma_cons (pm_lst pma_nil) (pma_cons pm_dict0 (pma_cons pm_bl (pma_cons (pm_tup (pma_cons pm_str pma_nil)) (pma_cons (pm_lst (pma_cons pm_str pma_nil)) (pma_cons (pm_bin opPow o2Pow pm_int pm_int) pma_nil)))))))))) pma_nil))))
      (pms_cons (pms_set 8 nd (pm_callB (call_reprE gd hr.units SY) oReprE T.n_repr (by decide +kernel) (pma_cons (pm_tup (pma_cons (pm_var 1) (pma_cons (pm_var 4) (pma_cons (pm_var 5) (pma_cons (pm_var 6) (pma_cons (pm_var 7) pma_nil)))))) pma_nil)))
      (pms_cons (pms_set 9 nd (pm_lstN (pma_cons (pm_own nc nj (pm_lam nc (k := LV__law_error) (kb := 7) (kk := 9) L__law_error TB rfl hT hU hr (by decide) (by decide) gd lt (LamX.lamS_by (by kernel_rfl)) (fun A outer s H E f c2 gd hr tk => by have lt := lets_of tk; exact (pm_fn_call (F_machine_text.mono (by decide)) hr gd lt (pma_cons (pm_var 4) pma_nil))))) pma_nil)))
      (pms_cons (pms_expr (pm_bm PySem.F.plainAttrs_list PySem.F.slot_list_append PySem.F.type_list_append mt_append oIsLst oAppend (pm_var 9) (pma_cons (pm_own nc nj (pm_lam nc (k := LV__law_error) (kb := 7) (kk := 9) L__law_error TB rfl hT hU hr (by decide) (by decide) gd lt (LamX.lamS_by (by kernel_rfl)) (fun A outer s H E f c2 gd hr tk => by have lt := lets_of tk; exact (pm_fn_call (F_recipe_text.mono (by decide)) hr gd lt (pma_cons (pm_var 5) pma_nil))))) pma_nil)))
      (pms_cons (pms_expr (pm_bm PySem.F.plainAttrs_list PySem.F.slot_list_append PySem.F.type_list_append mt_append oIsLst oAppend (pm_var 9) (pma_cons (pm_own nc nj (pm_lam nc (k := LV__law_error) (kb := 7) (kk := 9) L__law_error TB rfl hT hU hr (by decide) (by decide) gd lt (LamX.lamS_by (by kernel_rfl)) (fun A outer s H E f c2 gd hr tk => by have lt := lets_of tk; exact (pm_fn_call (F_edit_text.mono (by decide)) hr gd lt (pma_cons (pm_var 2) pma_nil))))) pma_nil)))
      (pms_cons (pms_expr (pm_bm PySem.F.plainAttrs_list PySem.F.slot_list_append PySem.F.type_list_append mt_append oIsLst oAppend (pm_var 9) (pma_cons (pm_own nc nj (pm_lam nc (k := LV__law_error) (kb := 7) (kk := 9) L__law_error TB rfl hT hU hr (by decide) (by decide) gd lt (LamX.lamS_by (by kernel_rfl)) (fun A outer s H E f c2 gd hr tk => by have lt := lets_of tk; exact (pm_fn_call (F_parse_machine.mono (by decide)) hr gd lt (pma_cons (pm_var 7) pma_nil))))) pma_nil)))
      (pms_cons (pms_expr (pm_bm PySem.F.plainAttrs_list PySem.F.slot_list_append PySem.F.type_list_append mt_append oIsLst oAppend (pm_var 9) (pma_cons (pm_own nc nj (pm_lam nc (k := LV__law_error) (kb := 7) (kk := 9) L__law_error TB rfl hT hU hr (by decide) (by decide) gd lt (LamX.lamS_by (by kernel_rfl)) (fun A outer s H E f c2 gd hr tk => by have lt := lets_of tk; exact (pm_fn_call (F_parse_edit.mono (by decide)) hr gd lt (pma_cons (pm_var 7) pma_nil))))) pma_nil)))
      (pms_cons (pms_expr (pm_bm PySem.F.plainAttrs_list PySem.F.slot_list_append PySem.F.type_list_append mt_append oIsLst oAppend (pm_var 9) (pma_cons (pm_own nc nj (pm_lam nc (k := LV__law_error) (kb := 7) (kk := 9) L__law_error TB rfl hT hU hr (by decide) (by decide) gd lt (LamX.lamS_by (by kernel_rfl)) (fun A outer s H E f c2 gd hr tk => by have lt := lets_of tk; exact (pm_fn_call (F_parse_recipe.mono (by decide)) hr gd lt (pma_cons pm_str (pma_cons (pm_var 7) pma_nil)))))) pma_nil)))
      (pms_cons (pms_expr (pm_bm PySem.F.plainAttrs_list PySem.F.slot_list_append PySem.F.type_list_append mt_append oIsLst oAppend (pm_var 9) (pma_cons (pm_own nc nj (pm_lam nc (k := LV__law_error) (kb := 7) (kk := 9) L__law_error TB rfl hT hU hr (by decide) (by decide) gd lt (LamX.lamS_by (by kernel_rfl)) (fun A outer s H E f c2 gd hr tk => by have lt := lets_of tk; exact (pm_fn_call (F_parse_recipe.mono (by decide)) hr gd lt (pma_cons (pm_var 6) (pma_cons (pm_var 7) pma_nil)))))) pma_nil)))
      (pms_cons (pms_expr (pm_bm PySem.F.plainAttrs_list PySem.F.slot_list_append PySem.F.type_list_append mt_append oIsLst oAppend (pm_var 9) (pma_cons (pm_own nc nj (pm_lam nc (k := LV__law_error) (kb := 7) (kk := 9) L__law_error TB rfl hT hU hr (by decide) (by decide) gd lt (LamX.lamS_by (by kernel_rfl)) (fun A outer s H E f c2 gd hr tk => by have lt := lets_of tk; exact (pm_fn_call (F_parse_recipe.mono (by decide)) hr gd lt (pma_cons (pm_var 6) (pma_cons pm_str pma_nil)))))) pma_nil)))
      (pms_cons (pms_if (pmt_cmp (op_neD hr.units) o2Ne (pm_var 9) (pm_lst (pma_cons pm_str (pma_cons pm_str (pma_cons pm_str (pma_cons pm_str (pma_cons pm_str (pma_cons pm_str (pma_cons pm_str (pma_cons pm_str pma_nil)))))))))) (pms_one (pms_ret pm_bl)) pms_nil)
      (pms_cons (pms_set 9 nd (pm_lstN (pma_cons (pm_own nc nj (pm_lam nc (k := LV__law_error) (kb := 7) (kk := 9) L__law_error TB rfl hT hU hr (by decide) (by decide) gd lt (LamX.lamS_by (by kernel_rfl)) (fun A outer s H E f c2 gd hr tk => by have lt := lets_of tk; exact (pm_fn_call (F_machine_text.mono (by decide)) hr gd lt (pma_cons (pm_var 1) pma_nil))))) pma_nil)))
      (pms_cons (pms_expr (pm_bm PySem.F.plainAttrs_list PySem.F.slot_list_append PySem.F.type_list_append mt_append oIsLst oAppend (pm_var 9) (pma_cons (pm_own nc nj (pm_lam nc (k := LV__law_error) (kb := 7) (kk := 9) L__law_error TB rfl hT hU hr (by decide) (by decide) gd lt (LamX.lamS_by (by kernel_rfl)) (fun A outer s H E f c2 gd hr tk => by have lt := lets_of tk; exact (pm_fn_call (F_recipe_text.mono (by decide)) hr gd lt (pma_cons (pm_var 1) pma_nil))))) pma_nil)))
      (pms_cons (pms_expr (pm_bm PySem.F.plainAttrs_list PySem.F.slot_list_append PySem.F.type_list_append mt_append oIsLst oAppend (pm_var 9) (pma_cons (pm_own nc nj (pm_lam nc (k := LV__law_error) (kb := 7) (kk := 9) L__law_error TB rfl hT hU hr (by decide) (by decide) gd lt (LamX.lamS_by (by kernel_rfl)) (fun A outer s H E f c2 gd hr tk => by have lt := lets_of tk; exact (pm_fn_call (F_edit_text.mono (by decide)) hr gd lt (pma_cons (pm_var 1) pma_nil))))) pma_nil)))
      (pms_cons (pms_expr (pm_bm PySem.F.plainAttrs_list PySem.F.slot_list_append PySem.F.type_list_append mt_append oIsLst oAppend (pm_var 9) (pma_cons (pm_own nc nj (pm_lam nc (k := LV__law_error) (kb := 7) (kk := 9) L__law_error TB rfl hT hU hr (by decide) (by decide) gd lt (LamX.lamS_by (by kernel_rfl)) (fun A outer s H E f c2 gd hr tk => by have lt := lets_of tk; exact (pm_fn_call (F_parse_machine.mono (by decide)) hr gd lt (pma_cons (pm_var 1) pma_nil))))) pma_nil)))
      (pms_cons (pms_expr (pm_bm PySem.F.plainAttrs_list PySem.F.slot_list_append PySem.F.type_list_append mt_append oIsLst oAppend (pm_var 9) (pma_cons (pm_own nc nj (pm_lam nc (k := LV__law_error) (kb := 7) (kk := 9) L__law_error TB rfl hT hU hr (by decide) (by decide) gd lt (LamX.lamS_by (by kernel_rfl)) (fun A outer s H E f c2 gd hr tk => by have lt := lets_of tk; exact (pm_fn_call (F_parse_edit.mono (by decide)) hr gd lt (pma_cons (pm_var 1) pma_nil))))) pma_nil)))
      (pms_cons (pms_if (pmt_cmp (op_neD hr.units) o2Ne (pm_var 9) (pm_lst (pma_cons pm_str (pma_cons pm_str (pma_cons pm_str (pma_cons pm_str (pma_cons pm_str pma_nil))))))) (pms_one (pms_ret pm_bl)) pms_nil)
      (pms_one (pms_ret (pm_cmp (op_eqD hr.units) o2Eq (pm_callB (call_reprE gd hr.units SY) oReprE T.n_repr (by decide +kernel) (pma_cons (pm_tup (pma_cons (pm_var 1) (pma_cons (pm_var 4) (pma_cons (pm_var 5) (pma_cons (pm_var 6) (pma_cons (pm_var 7) pma_nil)))))) pma_nil)) (pm_var 8)))))))))))))))))))))))))))
/-! law -/
def b_law : MS := (sSeq (sFor (MR.iRng (aCons (mCall gMax (aCons (mC (.int 1)) (aCons (mCall gMin (aCons (mC (.int 8)) (aCons (mCall gLen (aCons (mVar 0) aNil)) aNil))) aNil))) aNil)) (gN 1) (sSeq (sSet 2 (mFn 2 f__law_stream (aCons (mVar 0) (aCons (mVar 1) aNil))))
  (sFor (MR.iRng (aCons (mC (.int 8)) aNil)) (gN 3) (sIf (mNotT (mB (mFn 1 f__law_right (aCons (mVar 2) aNil)))) (sRet (mC (.bl false))) sNext))))
  (sSeq (sSet 4 (mCall gTuple (aCons (mLc (iAll (mC (.str "abcde"))) [5] (.nm 5) tYesM (mTup (aCons (mC (.str "letter")) (aCons (mVar 5) aNil)))) aNil)))
  (sSeq (sIf (mB (m2 gNe (mOwn (mLam l__law_error (mFn 1 f_recipe_text (aCons (mVar 4) aNil)))) (mC (.str "recipe")))) (sRet (mC (.bl false))) sNext)
  (sRet (m2 gEq (mOwn (mLam l__law_error (mFn 1 f_recipe_text (aCons (m2 gMulT (mTup (aCons (mTup (aCons (mC (.str "letter")) (aCons (mC (.str "a")) aNil))) aNil)) (mC (.int 401))) aNil)))) (mC (.str "recipe")))))))
def f_law : FM := defM 6 b_law
theorem ok_law (nc : Tb.cs = none) (nj : Tb.j = JP.no) (T : TxtP K mg) (T2 : Txt2 P w K mg) (F_recipe_text : FnM P w K mg base LV_recipe_text "recipe_text" 1 f_recipe_text) (F__law_stream : FnM P w K mg base LV__law_stream "_law_stream" 2 f__law_stream) (L__law_error : FnL P w K mg base LV__law_error "_law_error" l__law_error) (F__law_right : FnM P w K mg base LV__law_right "_law_right" 1 f__law_right) {c Pt : Addr} (F : FunC K "law" "law" s_law f fd (.ref c)) (TB : LamX.TabB base mg c Pt) (hT : (Pt, ("law.<locals>.<lambda>" : Str)) ∈ Tb.T) (hU : ∀ p ∈ Tb.T, p.1 = Pt → p.2 = ("law.<locals>.<lambda>" : Str)) : FnG P w K mg base LV_law f fd ["script"] (spM ⟨K, mg, P, w, Tb.T, Tb.j, Tb.cs⟩ 1 f_law) := by
  exact fn_mirrorCG nc (N := ["script", "at", "stream", "turn", "wide", "sign"]) (ps := ["script"]) (k := 12) F ⟨rfl, rfl, rfl, by decide +kernel, rfl, by decide +kernel, by decide +kernel⟩ fun A outer s H E gd hr tk => by
    have nd : (["script", "at", "stream", "turn", "wide", "sign"] : List Str).Nodup := by decide +kernel
    have lt := lets_of tk
    exact (pms_cons (pms_for (passes_of rfl) (pmi_rng T.n_range (pma_cons (pm_callB (call_max2 rfl) oMax T.n_max (by decide +kernel) (pma_cons pm_int (pma_cons (pm_callB (call_min2 rfl) oMin T.n_min (by decide +kernel) (pma_cons pm_int (pma_cons (pm_callB call_len oLen T.n_len (by decide +kernel) (pma_cons (pm_var 0) pma_nil)) pma_nil))) pma_nil))) pma_nil)) (pmg_name 1 nd) (pms_cons (pms_set 2 nd (pm_fn_call (F__law_stream.mono (by decide)) hr gd lt (pma_cons (pm_var 0) (pma_cons (pm_var 1) pma_nil))))
      (pms_one (pms_for (passes_of rfl) (pmi_rng T.n_range (pma_cons pm_int pma_nil)) (pmg_name 3 nd) (pms_one (pms_if (pmt_not (pmt_val (pm_fn_call (F__law_right.mono (by decide)) hr gd lt (pma_cons (pm_var 2) pma_nil)))) (pms_one (pms_ret pm_bl)) pms_nil))))))
      (pms_cons (pms_set 4 nd (pm_callTy call_tuple_of oTuple T.n_tuple (by decide +kernel) (pma_cons (pm_lc nc (own := [("sign", 5)]) (t := (.nm 5)) nd (pmi_all pm_str) (blkOk_by (by kernel_rfl)) (fun s H C cl fp => (pg_name (i := 5) nd rfl (.inl rfl) (.inr rfl))) (fun s H C cl fp => pmts_nil) (fun s H C cl fp => (pm_tup (pma_cons pm_str (pma_cons (pm_var 5) pma_nil))))) pma_nil)))
      (pms_cons (pms_if (pmt_cmp (op_neD hr.units) o2Ne (pm_own nc nj (pm_lam nc (k := LV__law_error) (kb := 10) (kk := 12) L__law_error TB rfl hT hU hr (by decide) (by decide) gd lt (LamX.lamS_by (by kernel_rfl)) (fun A outer s H E f c2 gd hr tk => by have lt := lets_of tk; exact (pm_fn_call (F_recipe_text.mono (by decide)) hr gd lt (pma_cons (pm_var 4) pma_nil))))) pm_str) (pms_one (pms_ret pm_bl)) pms_nil)
      (pms_one (pms_ret (pm_cmp (op_eqD hr.units) o2Eq (pm_own nc nj (pm_lam nc (k := LV__law_error) (kb := 10) (kk := 12) L__law_error TB rfl hT hU hr (by decide) (by decide) gd lt (LamX.lamS_by (by kernel_rfl)) (fun A outer s H E f c2 gd hr tk => by have lt := lets_of tk; exact (pm_fn_call (F_recipe_text.mono (by decide)) hr gd lt (pma_cons (pm_bin opMulT o2MulT (pm_tup (pma_cons (pm_tup (pma_cons pm_str (pma_cons pm_str pma_nil))) pma_nil)) pm_int) pma_nil))))) pm_str))))))
end
end
end K86

/-! k86: what its finitely many calls give, each in a store of its own -/
namespace K86
open PySem L2 TL MR
variable [Tb]
def okV (r : Res MV) (v : MV) : Bool := match r with
  | .ok m _ => MV.beq m v
  | _ => false
theorem okV_is {r : Res MV} {v : MV} (h : okV r v = true) : ∃ st, r = .ok v st := by
  cases r with
  | ok m st => exact ⟨st, by rw [MV.beq_eq _ _ h]⟩
  | exc _ _ => cases h
  | bad => cases h
theorem own_ok {r : Res MV} {v : MV} (h : okV r v = true) (u : v.under 0 = true) (st : Sto) : ownR st r = .ok v st := by
  obtain ⟨s, rfl⟩ := okV_is h
  show (if v.under 0 = true then Res.ok v st else .bad) = _
  rw [if_pos u]
/-- the error of a call -/
def EV (f : FM) (xs : List MV) : Res MV := l__law_error (fun s => f xs s) []
def isE (x : String) (f : FM) (xs : List MV) : Bool := okV (EV f xs) (.str x)
def letR : Res MV := mNewG true "Letter" f_Letter___init__ (aCons (mC (.str "a")) aNil) [] []
def LET : MV := match letR with
  | .ok m _ => m
  | _ => .non
theorem let_ok : (okV letR LET && LET.under 0) = true := by kernel_rfl
def OTH : List MV := [.non, .bl true, .int (-1), .int 0, .int 1, .str "", .str "a", .str "ab", .tup [], .lst [], .dct [] [], .tup [.int 0], .tup [.str "a"], .int (10 ^ 39), .str "never", .tup [.non], .tup [.tup []], .lst [.tup []], .dct [.int 0] [.int 1]]
def NAMES : List MV := [.str "", .str "P", .str "abcdefghi", .str "a b", .non, .int 0, .tup [.str "p"], .lst [.str "p"], .str "p1", .bl true]
def RULES : List MV := [.str "", .str "Turn", .str "none", .non, .int 0, .tup [.str "turn"], .lst [.str "turn"], .str "undo", .bl true]
def PATHS : List MV := [.non, .int 0, .lst [.int 0], .tup [.int 2], .tup [.int (-1)], .tup [.bl true], .tup [.str "0"], .str "0", .tup [.int 0, .non], .tup [.tup []]]
def CAPS : List MV := [.int (-1), .int 31, .non, .bl true, .str "1", .tup [.int 1], .lst [], .int (10 ^ 39)]
def TOPS : List MV := [.int (-1), .int 31, .bl false, .str "1", .tup [.int 1], .lst [], .int (10 ^ 39), .dct [] []]
def FLAGS : List MV := [.non, .int 0, .int 1, .str "back", .tup [], .lst []]
def THINGS : List MV := [.str "a", .non, .tup [], .int 0, .lst [.str "a"]]
def PLACES : List MV := [.int (-1), .int 100, .non, .bl true, .str "0", .tup [.int 0]]
/-- an edit's forms by its parts -/
def SOME (n r p c t f th pl : MV) : List MV :=
  [.tup [.str "set", n, LET], .tup [.str "set", .str "p", th], .tup [.str "set", .str "p"], .tup [.str "drop"], .tup [.str "remove", n],
   .tup [.str "rename", n, .str "q"], .tup [.str "rename", .str "p", n], .tup [.str "rewrite", n, .str "turn", .tup [], .bl false],
   .tup [.str "rewrite", .str "p", r, .tup [], .bl false], .tup [.str "rewrite", .str "p", .str "turn", p, .bl true],
   .tup [.str "rewrite", .str "p", .str "turn", .tup [], f], .tup [.str "promise", n, .str "q", .int 0, .int 0], .tup [.str "promise", .str "p", n, .int 0, .int 0],
   .tup [.str "promise", .str "p", .str "q", c, .int 0], .tup [.str "undo", .int 1], .tup [.str "promise", .str "p", .str "q", .int 0, t],
   .tup [.str "drop", pl], .lst [.str "remove", .str "p"], .tup [.str "remove", .str "p", .int 0], .tup [.str "rewrite", .str "p", .str "turn", .tup []], .tup [.non, .str "p"]]
def BADE (e : MV) : Bool := isE "operation" f_edit_text [e] && e.under 0
theorem oth_ok : (OTH.all fun m => isE "machine" f_machine_text [m] && isE "recipe" f_recipe_text [m] && isE "operation" f_edit_text [m] && isE "parse" f_parse_machine [m] && isE "parse" f_parse_edit [m]) = true := by kernel_rfl
theorem name_ok : (NAMES.all fun n => BADE (.tup [.str "set", n, LET]) && BADE (.tup [.str "remove", n]) && BADE (.tup [.str "rename", n, .str "q"]) && BADE (.tup [.str "rename", .str "p", n]) && BADE (.tup [.str "rewrite", n, .str "turn", .tup [], .bl false]) &&
  BADE (.tup [.str "promise", n, .str "q", .int 0, .int 0]) && BADE (.tup [.str "promise", .str "p", n, .int 0, .int 0])) = true := by kernel_rfl
theorem part_ok : (RULES.all (fun r => BADE (.tup [.str "rewrite", .str "p", r, .tup [], .bl false])) && PATHS.all (fun p => BADE (.tup [.str "rewrite", .str "p", .str "turn", p, .bl true])) && CAPS.all (fun c => BADE (.tup [.str "promise", .str "p", .str "q", c, .int 0])) &&
  TOPS.all (fun t => BADE (.tup [.str "promise", .str "p", .str "q", .int 0, t])) && FLAGS.all (fun f => BADE (.tup [.str "rewrite", .str "p", .str "turn", .tup [], f])) && THINGS.all (fun x => BADE (.tup [.str "set", .str "p", x])) && PLACES.all (fun x => BADE (.tup [.str "drop", x]))) = true := by kernel_rfl
theorem rest_ok : ([.tup [.str "set", .str "p"], .tup [.str "drop"], .tup [.str "undo", .int 1], .lst [.str "remove", .str "p"], .tup [.str "remove", .str "p", .int 0], .tup [.str "rewrite", .str "p", .str "turn", .tup []], .tup [.non, .str "p"]] : List MV).all BADE = true := by kernel_rfl
def WRONG : List MV := [.non, .tup [], .int 0, .str "machine", .lst [], .tup [.str "a", .int 1, .tup [], .tup []], .tup [.str "a", .int 0, .tup [], .tup [], .tup []], .lst [.str "a", .int 1, .tup [], .tup [], .tup []], .dct [] []]
def ROWS : List MV := [.non, .tup [], .int 0, .lst [.tup [.str "letter", .str "a"]], .tup [.tup [.str "letter", .str "A"]], .tup [.tup [.str "pump", .int 0]], .tup [.tup [.str "letter", .str "a", .int 0]]]
def SIGNS : List MV := [.non, .str "", .str "ba", .str "aa", .str "abcde", .str "A", .tup [.str "a"], .int 0, .lst [.str "a"]]
def TEXTS : List MV := [.non, .int 0, .tup [], .lst [], .dct [] [], .bl true, .tup [.str "letter a"], .lst [.str "letter a"], .int (10 ^ 39)]
theorem wrong_ok : WRONG.all (fun m => isE "machine" f_machine_text [m]) = true := by kernel_rfl
theorem rows_ok : ROWS.all (fun m => isE "recipe" f_recipe_text [m]) = true := by kernel_rfl
theorem text_ok : TEXTS.all (fun m => isE "parse" f_parse_machine [m] && isE "parse" f_parse_edit [m] && isE "parse" f_parse_recipe [.str "a", m]) = true := by kernel_rfl
theorem signs_ok : SIGNS.all (fun g => isE "machine" f_parse_recipe [g, .str "letter a"] && TEXTS.all fun m => isE "machine" f_parse_recipe [g, m]) = true := by kernel_rfl
def WIDE : MV := .tup [.tup [.str "letter", .str "a"], .tup [.str "letter", .str "b"], .tup [.str "letter", .str "c"], .tup [.str "letter", .str "d"], .tup [.str "letter", .str "e"]]
theorem wide_ok : isE "recipe" f_recipe_text [WIDE] = true := by kernel_rfl
def MANY : MV := .tup (List.replicate 401 (.tup [.str "letter", .str "a"]))
theorem many_ok : isE "recipe" f_recipe_text [MANY] = true := by kernel_rfl
end K86

/-! k86: the draws -/
namespace K86
open PySem L2 TL MR
variable [Tb]
theorem ld : f__law_draw = lDraw := rfl
theorem ls : f__law_stream = lStream := rfl
theorem draw0 {k : Nat} {st : Sto} (h : Strm k st) {d : Nat} (hd : 0 < d) (hd2 : d < 2 ^ 60) : ∃ (r : Nat) (s2 : Sto), f__law_draw [.obj k, .int d] st = .ok (.int r) s2 ∧ r < d ∧ s2.length = st.length ∧ Strm k s2 := by
  obtain ⟨r, s2, e, h1, h2, h3⟩ := draw_eq h hd hd2 []
  rw [List.append_nil, List.append_nil] at e
  exact ⟨r, s2, by rw [ld]; exact e, h1, h2, h3⟩
theorem gIx_mem {xs : List MV} {r : Nat} (h : r < xs.length) (st : Sto) : ∃ m, m ∈ xs ∧ gIx (.lst xs) (.int r) st = .ok m st := by
  refine ⟨xs[r], List.getElem_mem h, ?_⟩
  have : atI xs (r : Int) = some xs[r] := by
    unfold atI ixN
    rw [if_pos (by omega), if_pos (by omega), Int.toNat_natCast]
    show xs[r]? = some xs[r]
    rw [List.getElem?_eq_getElem h]
  simp [gIx, this]
theorem pick_eq {k : Nat} {st : Sto} (h : Strm k st) {xs : List MV} (hx : 0 < xs.length) (hx2 : xs.length < 2 ^ 60) : ∃ (m : MV) (s2 : Sto), f__law_pick [.obj k, .lst xs] st = .ok m s2 ∧ m ∈ xs ∧ s2.length = st.length ∧ Strm k s2 := by
  obtain ⟨r, s2, e, h1, h2, h3⟩ := draw0 h hx hx2
  obtain ⟨m, hm, e2⟩ := gIx_mem h1 s2
  refine ⟨m, s2, ?_, hm, h2, h3⟩
  simp [f__law_pick, b__law_pick, defM, gLenL, e, e2]
theorem neg1 (st : Sto) : gNeg (.int 1) st = .ok (.int (-1)) st := rfl
theorem p39 (st : Sto) : gPow (.int 10) (.int 39) st = .ok (.int ((10 : Int) ^ 39)) st := by
  show (if (decide ((0 : Int) ≤ 39 ∧ (39 : Int) ≤ 1000 ∧ (10 : Int).natAbs.log2 < 1000)) = true then Res.ok (MV.int ((10 : Int) ^ (39 : Int).toNat)) st else .bad) = _
  rw [if_pos (by decide +kernel)]
  rfl
abbrev oA : MA := (aCons (mC .non) (aCons (mC (.bl true)) (aCons (m1 gNeg (mC (.int 1))) (aCons (mC (.int 0)) (aCons (mC (.int 1)) (aCons (mC (.str "")) (aCons (mC (.str "a")) (aCons (mC (.str "ab")) (aCons (mTup aNil) (aCons (mLst aNil) (aCons mDict0 (aCons (mTup (aCons (mC (.int 0)) aNil)) (aCons (mTup (aCons (mC (.str "a")) aNil)) (aCons (m2 gPow (mC (.int 10)) (mC (.int 39))) aNil))))))))))))))
abbrev oB : MA := (aCons (mC (.str "never")) (aCons (mTup (aCons (mC .non) aNil)) (aCons (mTup (aCons (mTup aNil) aNil)) (aCons (mLst (aCons (mTup aNil) aNil)) (aCons (mDisp (pCons (mC (.int 0)) (mC (.int 1)) pNil)) aNil)))))
theorem other_eq {k : Nat} {st : Sto} (h : Strm k st) : ∃ (m : MV) (s2 : Sto), f__law_other [.obj k] st = .ok m s2 ∧ m ∈ OTH ∧ s2.length = st.length ∧ Strm k s2 := by
  obtain ⟨r, s2, e, h1, h2, h3⟩ := draw0 h (d := 19) (by decide) (by decide)
  obtain ⟨m, hm, e2⟩ := gIx_mem (xs := OTH) h1 s2
  refine ⟨m, s2, ?_, hm, h2, h3⟩
  have ea : ∀ env s, m2 MR.gAdd (mLst oA) (mLst oB) env s = .ok (.lst OTH) s := fun env s => by kernel_rfl
  have ea1 : ∀ env s, (mLst oA) env s = .ok (.lst (OTH.take 14)) s := fun env s => by kernel_rfl
  have ea2 : ∀ env s, (mLst oB) env s = .ok (.lst (OTH.drop 14)) s := fun env s => by kernel_rfl
  have ea3 : ∀ s, MR.gAdd (.lst (OTH.take 14)) (.lst (OTH.drop 14)) s = .ok (.lst OTH) s := fun s => by kernel_rfl
  have e : f__law_draw [.obj k, .int 19] st = .ok (.int r) s2 := e
  have el : gLen [.lst OTH] st = .ok (.int 19) st := rfl
  show defM 2 (sSeq (sSet 1 (mLst oA)) (sSeq (sSet 1 (m2 MR.gAdd (mVar 1) (mLst oB))) (sRet (m2 gIx (mVar 1) (mFn 2 f__law_draw (aCons (mVar 0) (aCons (mCall gLen (aCons (mVar 1) aNil)) aNil))))))) [.obj k] st = _
  simp [-e_lst, defM, ea1, ea2, ea3, el, e, e2]
def EDITS (e : MV) : Prop := BADE e = true
theorem let_new (env : MEnv) (s : Sto) : mOwn (mNewG true "Letter" f_Letter___init__ (aCons (mC (.str "a")) aNil)) env s = .ok LET s := by
  have h := let_ok
  rw [Bool.and_eq_true] at h
  exact own_ok (r := letR) h.1 h.2 s
theorem in_some {n r p c t f th pl : MV} (hn : n ∈ NAMES) (hr : r ∈ RULES) (hp : p ∈ PATHS) (hc : c ∈ CAPS) (ht : t ∈ TOPS) (hf : f ∈ FLAGS) (hth : th ∈ THINGS) (hpl : pl ∈ PLACES) : ∀ e ∈ SOME n r p c t f th pl, BADE e = true := by
  have n1 := List.all_eq_true.mp name_ok n hn
  have p1 := part_ok
  have r1 := List.all_eq_true.mp rest_ok
  simp only [Bool.and_eq_true] at n1 p1
  obtain ⟨⟨⟨⟨⟨⟨a1, a2⟩, a3⟩, a4⟩, a5⟩, a6⟩, a7⟩ := n1
  obtain ⟨⟨⟨⟨⟨⟨q1, q2⟩, q3⟩, q4⟩, q5⟩, q6⟩, q7⟩ := p1
  have q1 := List.all_eq_true.mp q1 r hr
  have q2 := List.all_eq_true.mp q2 p hp
  have q3 := List.all_eq_true.mp q3 c hc
  have q4 := List.all_eq_true.mp q4 t ht
  have q5 := List.all_eq_true.mp q5 f hf
  have q6 := List.all_eq_true.mp q6 th hth
  have q7 := List.all_eq_true.mp q7 pl hpl
  generalize BADE = B at a1 a2 a3 a4 a5 a6 a7 q1 q2 q3 q4 q5 q6 q7 r1 ⊢
  intro e he
  unfold SOME at he
  simp only [List.mem_cons, List.not_mem_nil, or_false] at he
  rcases he with rfl | rfl | rfl | rfl | rfl | rfl | rfl | rfl | rfl | rfl | rfl | rfl | rfl | rfl | rfl | rfl | rfl | rfl | rfl | rfl | rfl <;> first | assumption | exact r1 _ (by simp)
theorem no_edit_eq {k : Nat} {st : Sto} (h : Strm k st) : ∃ (m : MV) (s2 : Sto), f__law_no_edit [.obj k] st = .ok m s2 ∧ BADE m = true ∧ s2.length = st.length ∧ Strm k s2 := by
  obtain ⟨n, s1, e1, m1, l1, h1⟩ := pick_eq h (xs := NAMES) (by decide) (by decide)
  obtain ⟨r, s2, e2, m2, l2, h2⟩ := pick_eq h1 (xs := RULES) (by decide) (by decide)
  obtain ⟨p, s3, e3, m3, l3, h3⟩ := pick_eq h2 (xs := PATHS) (by decide) (by decide)
  obtain ⟨c, s4, e4, m4, l4, h4⟩ := pick_eq h3 (xs := CAPS) (by decide) (by decide)
  obtain ⟨t, s5, e5, m5, l5, h5⟩ := pick_eq h4 (xs := TOPS) (by decide) (by decide)
  obtain ⟨f, s6, e6, m6, l6, h6⟩ := pick_eq h5 (xs := FLAGS) (by decide) (by decide)
  obtain ⟨x, s7, e7, m7, l7, h7⟩ := pick_eq h6 (xs := THINGS) (by decide) (by decide)
  obtain ⟨y, s8, e8, m8, l8, h8⟩ := pick_eq h7 (xs := PLACES) (by decide) (by decide)
  obtain ⟨z, s9, e9, m9, l9, h9⟩ := pick_eq h8 (xs := SOME n r p c t f x y) (by show 0 < 21; decide) (by show 21 < _; decide)
  refine ⟨z, s9, ?_, in_some m1 m2 m3 m4 m5 m6 m7 m8 z m9, by omega, h9⟩
  unfold f__law_no_edit b__law_no_edit defM
  unfold NAMES at e1; unfold RULES at e2; unfold PATHS at e3; unfold CAPS at e4; unfold TOPS at e5; unfold FLAGS at e6; unfold THINGS at e7; unfold PLACES at e8; unfold SOME at e9
  simp only [Int.reducePow] at e4 e5
  simp [MR.gAdd, MR.listOf, let_new, neg1, p39, mDict0, e1, e2, e3, e4, e5, e6, e7, e8, e9]
end K86

/-! k86: a round, the law -/
namespace K86
open PySem L2 TL MR
variable [Tb]
/-- what is shown in few plain signs -/
def shOk (m : MV) : Bool := match toE m with
  | some d => d.showable && decide (d.depth ≤ 2) && decide (d.shown.length ≤ 100) && d.shown.cps.toList.all (fun c => decide (c < 128)) && m.under 0
  | none => false
theorem sh_ok : (OTH.all shOk && WRONG.all shOk && ROWS.all shOk && SIGNS.all shOk && TEXTS.all shOk) = true := by kernel_rfl
theorem shOk_is {m : MV} (h : shOk m = true) : ∃ d, toE m = some d ∧ d.showable = true ∧ d.depth ≤ 2 ∧ Asc 100 d.shown ∧ m.under 0 = true := by
  unfold shOk at h
  cases e : toE m with
  | none => rw [e] at h; cases h
  | some d =>
    rw [e] at h
    simp only [Bool.and_eq_true, decide_eq_true_eq, List.all_eq_true] at h
    exact ⟨d, rfl, h.1.1.1.1, h.1.1.1.2, ⟨h.1.1.2, h.1.2⟩, h.2⟩
theorem repr5 {a b c d e : MV} (ha : shOk a = true) (hb : shOk b = true) (hc : shOk c = true) (hd : shOk d = true) (he : shOk e = true) : ∃ y, Asc 600 y ∧ ∀ st, gReprE [.tup [a, b, c, d, e]] st = .ok (.str y) st := by
  obtain ⟨d1, e1, s1, p1, a1, _⟩ := shOk_is ha
  obtain ⟨d2, e2, s2, p2, a2, _⟩ := shOk_is hb
  obtain ⟨d3, e3, s3, p3, a3, _⟩ := shOk_is hc
  obtain ⟨d4, e4, s4, p4, a4, _⟩ := shOk_is hd
  obtain ⟨d5, e5, s5, p5, a5, _⟩ := shOk_is he
  have G := GoodAll.tuple (GoodAll.cons a1 s1 p1 (GoodAll.cons a2 s2 p2 (GoodAll.cons a3 s3 p3 (GoodAll.cons a4 s4 p4 (GoodAll.cons a5 s5 p5 (GoodAll.nil 100 2))))))
  have A := G.1.mono (m := 600) (by simp)
  refine ⟨(PyData.tuple [d1, d2, d3, d4, d5]).shown, A, fun st => ?_⟩
  have et : topE (.tup [a, b, c, d, e]) st = some (.tuple [d1, d2, d3, d4, d5]) := by simp [topE, toE, toEs, e1, e2, e3, e4, e5]
  have c1 : ((PyData.tuple [d1, d2, d3, d4, d5]).showable = true ∧ (PyData.tuple [d1, d2, d3, d4, d5]).depth ≤ 60) ∧ (PyData.tuple [d1, d2, d3, d4, d5]).shown.length ≤ 16777216 := ⟨⟨G.2.1, by have := G.2.2; omega⟩, by have := A.1; omega⟩
  simp only [gReprE, et, c1, and_self, if_true]
theorem mask_at {env : MEnv} {i : Nat} {m : MV} (hi : env[i]? = some (some m)) (u : m.under 0 = true) : (maskE env)[i]? = some (some m) := by
  unfold maskE
  rw [List.getElem?_map, hi]
  simp [u]
theorem own_call1 (x : String) {f : FM} {i : Nat} {m : MV} (u : m.under 0 = true) (h : isE x f [m] = true) (env : MEnv) (st : Sto) (hi : env[i]? = some (some m)) : mOwn (mLam l__law_error (mFn 1 f (aCons (mVar i) aNil))) env st = .ok (.str x) st := by
  have e : (fun s => mFn 1 f (aCons (mVar i) aNil) (maskE env) s) = fun s => f [m] s := funext fun s => by simp [mask_at hi u]
  show ownR st (l__law_error (fun s => mFn 1 f (aCons (mVar i) aNil) (maskE env) s) []) = _
  rw [e]
  exact own_ok h rfl st
theorem own_call2 (x : String) {f : FM} {i j : Nat} {m n : MV} (u : m.under 0 = true) (v : n.under 0 = true) (h : isE x f [m, n] = true) (env : MEnv) (st : Sto) (hi : env[i]? = some (some m)) (hj : env[j]? = some (some n)) : mOwn (mLam l__law_error (mFn 2 f (aCons (mVar i) (aCons (mVar j) aNil)))) env st = .ok (.str x) st := by
  have e : (fun s => mFn 2 f (aCons (mVar i) (aCons (mVar j) aNil)) (maskE env) s) = fun s => f [m, n] s := funext fun s => by simp [mask_at hi u, mask_at hj v]
  show ownR st (l__law_error (fun s => mFn 2 f (aCons (mVar i) (aCons (mVar j) aNil)) (maskE env) s) []) = _
  rw [e]
  exact own_ok h rfl st
theorem own_callC (x : String) {f : FM} {c : MV} {j : Nat} {n : MV} (v : n.under 0 = true) (h : isE x f [c, n] = true) (env : MEnv) (st : Sto) (hj : env[j]? = some (some n)) : mOwn (mLam l__law_error (mFn 2 f (aCons (mC c) (aCons (mVar j) aNil)))) env st = .ok (.str x) st := by
  have e : (fun s => mFn 2 f (aCons (mC c) (aCons (mVar j) aNil)) (maskE env) s) = fun s => f [c, n] s := funext fun s => by simp [mask_at hj v]
  show ownR st (l__law_error (fun s => mFn 2 f (aCons (mC c) (aCons (mVar j) aNil)) (maskE env) s) []) = _
  rw [e]
  exact own_ok h rfl st
theorem own_callD (x : String) {f : FM} {c : MV} {j : Nat} {n : MV} (v : n.under 0 = true) (h : isE x f [n, c] = true) (env : MEnv) (st : Sto) (hj : env[j]? = some (some n)) : mOwn (mLam l__law_error (mFn 2 f (aCons (mVar j) (aCons (mC c) aNil)))) env st = .ok (.str x) st := by
  have e : (fun s => mFn 2 f (aCons (mVar j) (aCons (mC c) aNil)) (maskE env) s) = fun s => f [n, c] s := funext fun s => by simp [mask_at hj v]
  show ownR st (l__law_error (fun s => mFn 2 f (aCons (mVar j) (aCons (mC c) aNil)) (maskE env) s) []) = _
  rw [e]
  exact own_ok h rfl st
theorem gNe_last (s : Sto) (ss : List Str) (h : gNe (.lst (ss.map fun x => .str x)) (.lst (ss.map fun x => .str x)) [] = .ok (.bl false) []) : gNe (.obj s.length) (.lst (ss.map fun x => .str x)) (s ++ [.lst (ss.map fun x => .str x)]) = .ok (.bl false) (s ++ [.lst (ss.map fun x => .str x)]) := by
  generalize ss.map (fun x => MV.str x) = Y at h
  have e : topD (.obj s.length) (s ++ [.lst Y]) = topD (.lst Y) [] := by simp [topD, toD]
  have e2 : ∀ st : Sto, topD (.lst Y) st = topD (.lst Y) [] := fun _ => rfl
  unfold gNe at h ⊢
  rw [e]
  have e3 := e2 (s ++ [.lst Y])
  generalize topD (.lst Y) (s ++ [.lst Y]) = z at e3 ⊢
  subst e3
  cases q : topD (.lst Y) [] with
  | none => rw [q] at h; cases h
  | some d =>
    rw [q] at h
    simp only at h ⊢
    split at h
    · rename_i z
      rw [if_pos z]
      cases h1 : PyData.eqv d d with
      | true => rfl
      | false => rw [h1] at h; cases h
    · cases h
abbrev T2 : MS := (sSeq (sSet 9 (mLstN (aCons (mOwn (mLam l__law_error (mFn 1 f_machine_text (aCons (mVar 1) aNil)))) aNil)))
  (sSeq (sExpr (mMethT isLst gAppend (mVar 9) (aCons (mOwn (mLam l__law_error (mFn 1 f_recipe_text (aCons (mVar 1) aNil)))) aNil)))
  (sSeq (sExpr (mMethT isLst gAppend (mVar 9) (aCons (mOwn (mLam l__law_error (mFn 1 f_edit_text (aCons (mVar 1) aNil)))) aNil)))
  (sSeq (sExpr (mMethT isLst gAppend (mVar 9) (aCons (mOwn (mLam l__law_error (mFn 1 f_parse_machine (aCons (mVar 1) aNil)))) aNil)))
  (sSeq (sExpr (mMethT isLst gAppend (mVar 9) (aCons (mOwn (mLam l__law_error (mFn 1 f_parse_edit (aCons (mVar 1) aNil)))) aNil)))
  (sSeq (sIf (mB (m2 gNe (mVar 9) (mLst (aCons (mC (.str "machine")) (aCons (mC (.str "recipe")) (aCons (mC (.str "operation")) (aCons (mC (.str "parse")) (aCons (mC (.str "parse")) aNil)))))))) (sRet (mC (.bl false))) sNext)
  (sRet (m2 gEq (mCall gReprE (aCons (mTup (aCons (mVar 1) (aCons (mVar 4) (aCons (mVar 5) (aCons (mVar 6) (aCons (mVar 7) aNil)))))) aNil)) (mVar 8)))))))))
abbrev T1 : MS := (sSeq (sSet 9 (mLstN (aCons (mOwn (mLam l__law_error (mFn 1 f_machine_text (aCons (mVar 4) aNil)))) aNil)))
  (sSeq (sExpr (mMethT isLst gAppend (mVar 9) (aCons (mOwn (mLam l__law_error (mFn 1 f_recipe_text (aCons (mVar 5) aNil)))) aNil)))
  (sSeq (sExpr (mMethT isLst gAppend (mVar 9) (aCons (mOwn (mLam l__law_error (mFn 1 f_edit_text (aCons (mVar 2) aNil)))) aNil)))
  (sSeq (sExpr (mMethT isLst gAppend (mVar 9) (aCons (mOwn (mLam l__law_error (mFn 1 f_parse_machine (aCons (mVar 7) aNil)))) aNil)))
  (sSeq (sExpr (mMethT isLst gAppend (mVar 9) (aCons (mOwn (mLam l__law_error (mFn 1 f_parse_edit (aCons (mVar 7) aNil)))) aNil)))
  (sSeq (sExpr (mMethT isLst gAppend (mVar 9) (aCons (mOwn (mLam l__law_error (mFn 2 f_parse_recipe (aCons (mC (.str "a")) (aCons (mVar 7) aNil))))) aNil)))
  (sSeq (sExpr (mMethT isLst gAppend (mVar 9) (aCons (mOwn (mLam l__law_error (mFn 2 f_parse_recipe (aCons (mVar 6) (aCons (mVar 7) aNil))))) aNil)))
  (sSeq (sExpr (mMethT isLst gAppend (mVar 9) (aCons (mOwn (mLam l__law_error (mFn 2 f_parse_recipe (aCons (mVar 6) (aCons (mC (.str "letter a")) aNil))))) aNil)))
  (sSeq (sIf (mB (m2 gNe (mVar 9) (mLst (aCons (mC (.str "machine")) (aCons (mC (.str "recipe")) (aCons (mC (.str "operation")) (aCons (mC (.str "parse")) (aCons (mC (.str "parse")) (aCons (mC (.str "parse")) (aCons (mC (.str "machine")) (aCons (mC (.str "machine")) aNil))))))))))) (sRet (mC (.bl false))) sNext)
  T2)))))))))
theorem right_is : b__law_right = (sSeq (sAsg (gTL 2 (gConsM (gN 1) (gConsM (gN 2) gNilM))) (mTup (aCons (mFn 1 f__law_other (aCons (mVar 0) aNil)) (aCons (mFn 1 f__law_no_edit (aCons (mVar 0) aNil)) aNil))))
  (sSeq (sSet 3 (mLst (aCons (mC .non) (aCons (mTup aNil) (aCons (mC (.int 0)) (aCons (mC (.str "machine")) (aCons (mLst aNil) (aCons (mTup (aCons (mC (.str "a")) (aCons (mC (.int 1)) (aCons (mTup aNil) (aCons (mTup aNil) aNil))))) (aCons (mTup (aCons (mC (.str "a")) (aCons (mC (.int 0)) (aCons (mTup aNil) (aCons (mTup aNil) (aCons (mTup aNil) aNil)))))) (aCons (mLst (aCons (mC (.str "a")) (aCons (mC (.int 1)) (aCons (mTup aNil) (aCons (mTup aNil) (aCons (mTup aNil) aNil)))))) (aCons mDict0 aNil)))))))))))
  (sSeq (sSet 4 (mFn 2 f__law_pick (aCons (mVar 0) (aCons (mVar 3) aNil))))
  (sSeq (sSet 3 (mLst (aCons (mC .non) (aCons (mTup aNil) (aCons (mC (.int 0)) (aCons (mLst (aCons (mTup (aCons (mC (.str "letter")) (aCons (mC (.str "a")) aNil))) aNil)) (aCons (mTup (aCons (mTup (aCons (mC (.str "letter")) (aCons (mC (.str "A")) aNil))) aNil)) (aCons (mTup (aCons (mTup (aCons (mC (.str "pump")) (aCons (mC (.int 0)) aNil))) aNil)) (aCons (mTup (aCons (mTup (aCons (mC (.str "letter")) (aCons (mC (.str "a")) (aCons (mC (.int 0)) aNil)))) aNil)) aNil)))))))))
  (sSeq (sSet 5 (mFn 2 f__law_pick (aCons (mVar 0) (aCons (mVar 3) aNil))))
  (sSeq (sSet 6 (mFn 2 f__law_pick (aCons (mVar 0) (aCons (mLst (aCons (mC .non) (aCons (mC (.str "")) (aCons (mC (.str "ba")) (aCons (mC (.str "aa")) (aCons (mC (.str "abcde")) (aCons (mC (.str "A")) (aCons (mTup (aCons (mC (.str "a")) aNil)) (aCons (mC (.int 0)) (aCons (mLst (aCons (mC (.str "a")) aNil)) aNil)))))))))) aNil))))
  (sSeq (sSet 7 (mFn 2 f__law_pick (aCons (mVar 0) (aCons (mLst (aCons (mC .non) (aCons (mC (.int 0)) (aCons (mTup aNil) (aCons (mLst aNil) (aCons mDict0 (aCons (mC (.bl true)) (aCons (mTup (aCons (mC (.str "letter a")) aNil)) (aCons (mLst (aCons (mC (.str "letter a")) aNil)) (aCons (m2 gPow (mC (.int 10)) (mC (.int 39))) aNil)))))))))) aNil))))
  (sSeq (sSet 8 (mCall gReprE (aCons (mTup (aCons (mVar 1) (aCons (mVar 4) (aCons (mVar 5) (aCons (mVar 6) (aCons (mVar 7) aNil)))))) aNil)))
  T1)))))))) := rfl
theorem eq_same {N : Nat} {y : Str} (h : Asc N y) (st : Sto) : gEq (.str y) (.str y) st = .ok (.bl true) st := by
  rw [gEq_str h h, decide_eq_true rfl]
section
variable {k : Nat} {o e l w r g t y f9 : MV}
theorem tail2 {ys : Str} (ho : o ∈ OTH) (ha : Asc 600 ys) (hr : ∀ st, gReprE [.tup [o, w, r, g, t]] st = .ok (.str ys) st) (st : Sto) :
    T2 [some (.obj k), some o, some e, some l, some w, some r, some g, some t, some (.str ys), some f9] st = .rt (.bl true) (st ++ [.lst [.str "machine", .str "recipe", .str "operation", .str "parse", .str "parse"]]) := by
  have h := List.all_eq_true.mp oth_ok o ho
  simp only [Bool.and_eq_true] at h
  obtain ⟨⟨⟨⟨h1, h2⟩, h3⟩, h4⟩, h5⟩ := h
  have S := sh_ok
  simp only [Bool.and_eq_true] at S
  obtain ⟨_, _, _, _, _, u⟩ := shOk_is (List.all_eq_true.mp S.1.1.1.1 o ho)
  have c1 := own_call1 "machine" (i := 1) u h1
  have c2 := own_call1 "recipe" (i := 1) u h2
  have c3 := own_call1 "operation" (i := 1) u h3
  have c4 := own_call1 "parse" (i := 1) u h4
  have c5 := own_call1 "parse" (i := 1) u h5
  have n1 := gNe_last st ["machine", "recipe", "operation", "parse", "parse"] (by kernel_rfl)
  simp only [List.map_cons, List.map_nil] at n1
  simp [T2, c1, c2, c3, c4, c5, n1, isLst_last, append_last, hr, eq_same ha]
theorem tail1 {ys : Str} (ho : o ∈ OTH) (he : BADE e = true) (hw : w ∈ WRONG) (hrr : r ∈ ROWS) (hg : g ∈ SIGNS) (ht : t ∈ TEXTS) (ha : Asc 600 ys) (hr : ∀ st, gReprE [.tup [o, w, r, g, t]] st = .ok (.str ys) st) (st : Sto) :
    ∃ s2, T1 [some (.obj k), some o, some e, some l, some w, some r, some g, some t, some (.str ys), none] st = .rt (.bl true) (st ++ s2) := by
  have h1 := List.all_eq_true.mp wrong_ok w hw
  have h2 := List.all_eq_true.mp rows_ok r hrr
  have h3 := List.all_eq_true.mp text_ok t ht
  have h4 := List.all_eq_true.mp signs_ok g hg
  simp only [Bool.and_eq_true] at h3 h4
  have h5 := List.all_eq_true.mp h4.2 t ht
  have S := sh_ok
  simp only [Bool.and_eq_true] at S
  obtain ⟨_, _, _, _, _, uw⟩ := shOk_is (List.all_eq_true.mp S.1.1.1.2 w hw)
  obtain ⟨_, _, _, _, _, ur⟩ := shOk_is (List.all_eq_true.mp S.1.1.2 r hrr)
  obtain ⟨_, _, _, _, _, ug⟩ := shOk_is (List.all_eq_true.mp S.1.2 g hg)
  obtain ⟨_, _, _, _, _, ut⟩ := shOk_is (List.all_eq_true.mp S.2 t ht)
  have c1 := own_call1 "machine" (i := 4) uw h1
  have c2 := own_call1 "recipe" (i := 5) ur h2
  unfold BADE at he
  rw [Bool.and_eq_true] at he
  have c3 := own_call1 "operation" (i := 2) he.2 he.1
  have c4 := own_call1 "parse" (i := 7) ut h3.1.1
  have c5 := own_call1 "parse" (i := 7) ut h3.1.2
  have c6 := own_callC "parse" (j := 7) ut h3.2
  have c7 := own_call2 "machine" (i := 6) (j := 7) ug ut h5
  have c8 := own_callD "machine" (j := 6) ug h4.1
  have n1 := gNe_last st ["machine", "recipe", "operation", "parse", "parse", "parse", "machine", "machine"] (by kernel_rfl)
  simp only [List.map_cons, List.map_nil] at n1
  have t2 := fun f9 => tail2 (k := k) (e := e) (l := l) (f9 := f9) ho ha hr (st ++ [.lst [.str "machine", .str "recipe", .str "operation", .str "parse", .str "parse", .str "parse", .str "machine", .str "machine"]])
  unfold T1
  generalize T2 = T at t2 ⊢
  refine ⟨[.lst [.str "machine", .str "recipe", .str "operation", .str "parse", .str "parse", .str "parse", .str "machine", .str "machine"], .lst [.str "machine", .str "recipe", .str "operation", .str "parse", .str "parse"]], ?_⟩
  simp [c1, c2, c3, c4, c5, c6, c7, c8, n1, isLst_last, append_last, t2]
end
end K86

/-! k86: the law -/
namespace K86
open PySem L2 TL MR
variable [Tb]
theorem right_eq {k : Nat} {st : Sto} (h : Strm k st) : ∃ s2, f__law_right [.obj k] st = .ok (.bl true) s2 ∧ Strm k s2 := by
  obtain ⟨o, s1, e1, m1, l1, h1⟩ := other_eq h
  obtain ⟨e, s2, e2, m2, l2, h2⟩ := no_edit_eq h1
  obtain ⟨w, s3, e3, m3, l3, h3⟩ := pick_eq h2 (xs := WRONG) (by decide) (by decide)
  obtain ⟨r, s4, e4, m4, l4, h4⟩ := pick_eq h3 (xs := ROWS) (by decide) (by decide)
  obtain ⟨g, s5, e5, m5, l5, h5⟩ := pick_eq h4 (xs := SIGNS) (by decide) (by decide)
  obtain ⟨t, s6, e6, m6, l6, h6⟩ := pick_eq h5 (xs := TEXTS) (by decide) (by decide)
  have S := sh_ok
  simp only [Bool.and_eq_true] at S
  obtain ⟨ys, ha, hr⟩ := repr5 (List.all_eq_true.mp S.1.1.1.1 o m1) (List.all_eq_true.mp S.1.1.1.2 w m3) (List.all_eq_true.mp S.1.1.2 r m4) (List.all_eq_true.mp S.1.2 g m5) (List.all_eq_true.mp S.2 t m6)
  have T := fun l => tail1 (k := k) (l := l) m1 m2 m3 m4 m5 m6 ha hr s6
  obtain ⟨s7, T⟩ := T (.lst ROWS)
  refine ⟨s6 ++ s7, ?_, h6.app s7⟩
  unfold f__law_right defM
  rw [right_is]
  generalize T1 = T1' at T ⊢
  unfold WRONG at e3; unfold ROWS at e4 T; unfold SIGNS at e5; unfold TEXTS at e6
  simp only [Int.reducePow] at e6
  simp [p39, mDict0, e1, e2, e3, e4, e5, e6, hr, T]
/-- a loop that keeps P -/
theorem forM_keep {P : MEnv → Sto → Prop} {g : MTg} {body : MS} : ∀ (ys : List MV) (env : MEnv) (st : Sto), (∀ y ∈ ys, ∀ env st, P env st → ∃ env1 st1, g y env st = some (env1, st1) ∧ ∃ env2 st2, body env1 st1 = .nx env2 st2 ∧ P env2 st2) → P env st →
    ∃ env' st', forM g body ys env st = .nx env' st' ∧ P env' st'
  | [], env, st, _, p => ⟨env, st, rfl, p⟩
  | y :: ys, env, st, h, p => by
    obtain ⟨env1, st1, e1, env2, st2, e2, p2⟩ := h y List.mem_cons_self env st p
    obtain ⟨env', st', e3, p3⟩ := forM_keep ys env2 st2 (fun z hz => h z (List.mem_cons_of_mem _ hz)) p2
    exact ⟨env', st', by rw [forM_step e1 e2]; exact e3, p3⟩
theorem stream0 {ns : List Int} {t : Nat} (st : Sto) : ∃ a b c : Int, f__law_stream [.scr ns, .int t] st = .ok (.obj st.length) (st ++ [.lst [.int a, .int b, .int c]]) := by rw [ls]; exact stream_eq st
theorem env6 {env : MEnv} (h : env.length = 6) : ∃ a b c d e f, env = [a, b, c, d, e, f] := by
  match env, h with
  | [a, b, c, d, e, f], _ => exact ⟨a, b, c, d, e, f, rfl⟩
def PI (k : Nat) (ns : List Int) (env : MEnv) (st : Sto) : Prop := Strm k st ∧ ∃ b d e f, env = [some (.scr ns), b, some (.obj k), d, e, f]
def PO (ns : List Int) (env : MEnv) (_ : Sto) : Prop := ∃ b c d e f, env = [some (.scr ns), b, c, d, e, f]
abbrev BI : MS := (sIf (mNotT (mB (mFn 1 f__law_right (aCons (mVar 2) aNil)))) (sRet (mC (.bl false))) sNext)
abbrev BO : MS := (sSeq (sSet 2 (mFn 2 f__law_stream (aCons (mVar 0) (aCons (mVar 1) aNil))))
  (sFor (MR.iRng (aCons (mC (.int 8)) aNil)) (gN 3) BI))
theorem bi_keep {k : Nat} {ns : List Int} (y : MV) (env : MEnv) (st : Sto) (p : PI k ns env st) : ∃ env1 st1, gN 3 y env st = some (env1, st1) ∧ ∃ env2 st2, BI env1 st1 = .nx env2 st2 ∧ PI k ns env2 st2 := by
  obtain ⟨h, b, d, e, f, rfl⟩ := p
  obtain ⟨s2, e2, h2⟩ := right_eq h
  refine ⟨_, _, rfl, [some (.scr ns), b, some (.obj k), some y, e, f], s2, ?_, h2, b, some y, e, f, rfl⟩
  simp [BI, e2]
theorem rng8 (env : MEnv) (st : Sto) : (MR.iRng (aCons (mC (.int 8)) aNil)) env st = .ok (rngL 0 8) st := rfl
theorem rng_nat {n : Nat} {y : MV} (h : y ∈ rngL 0 n) : ∃ t : Nat, y = .int t := by
  unfold rngL at h
  obtain ⟨i, _, rfl⟩ := List.mem_map.mp h
  exact ⟨i, by simp⟩
theorem bo_keep {ns : List Int} (t : Nat) (env : MEnv) (st : Sto) (p : PO ns env st) : ∃ env1 st1, gN 1 (.int t) env st = some (env1, st1) ∧ ∃ env2 st2, BO env1 st1 = .nx env2 st2 ∧ PO ns env2 st2 := by
  obtain ⟨b, c, d, e, f, rfl⟩ := p
  obtain ⟨x, y, z, e1⟩ := stream0 (ns := ns) (t := t) st
  have hs : Strm st.length (st ++ [.lst [.int x, .int y, .int z]]) := ⟨x, y, z, by simp⟩
  obtain ⟨env', st', e2, p2⟩ := forM_keep (P := PI st.length ns) (g := gN 3) (body := BI) (rngL 0 8) [some (.scr ns), some (.int t), some (.obj st.length), d, e, f] _ (fun y _ env st p => bi_keep y env st p) ⟨hs, some (.int t), d, e, f, rfl⟩
  obtain ⟨_, b', d', e', f', rfl⟩ := p2
  refine ⟨_, _, rfl, _, st', ?_, b', some (.obj st.length), d', e', f', rfl⟩
  unfold BO
  generalize BI = B at e2 ⊢
  simp [ e1, rng8, e2]
theorem wideE : ∀ (env : MEnv) (st : Sto), env.length = 6 → (mLc (iAll (mC (.str "abcde"))) [5] (.nm 5) tYesM (mTup (aCons (mC (.str "letter")) (aCons (mVar 5) aNil)))) env st = .ok (.lst [.tup [.str "letter", .str "a"], .tup [.str "letter", .str "b"], .tup [.str "letter", .str "c"], .tup [.str "letter", .str "d"], .tup [.str "letter", .str "e"]]) st := fun env st h => by
  obtain ⟨a, b, c, d, e, f, rfl⟩ := env6 h
  kernel_rfl
theorem many_eq (env : MEnv) (st : Sto) : m2 gMulT (mTup (aCons (mTup (aCons (mC (.str "letter")) (aCons (mC (.str "a")) aNil))) aNil)) (mC (.int 401)) env st = .ok MANY st := by kernel_rfl
theorem rec_asc : Asc 6 (Str.ofString "recipe") := asc_lit
theorem law_true : ∀ ns : List Int, ns.length ≤ 63 → ∃ st, f_law [.scr ns] [] = .ok (.bl true) st := fun ns hns => by
  obtain ⟨env', st', e2, p2⟩ := forM_keep (P := PO ns) (g := gN 1) (body := BO) (rngL 0 (max 1 (min 8 ns.length))) [some (.scr ns), none, none, none, none, none] [] (fun y hy env st p => by
    obtain ⟨t, rfl⟩ := rng_nat hy
    exact bo_keep t env st p) ⟨_, _, _, _, _, rfl⟩
  obtain ⟨b, c, d, e, f, rfl⟩ := p2
  refine ⟨st', ?_⟩
  have hi : (MR.iRng (aCons (mCall gMax (aCons (mC (.int 1)) (aCons (mCall gMin (aCons (mC (.int 8)) (aCons (mCall gLen (aCons (mVar 0) aNil)) aNil))) aNil))) aNil)) [some (.scr ns), none, none, none, none, none] [] = .ok (rngL 0 (max 1 (min 8 ns.length))) [] := by
    have q : ∀ n : Int, n = ((max 1 (min 8 ns.length) : Nat) : Int) → (if -1000000000 ≤ n ∧ n ≤ 1000000000 then Res.ok (rngL 0 n.toNat) ([] : Sto) else .bad) = .ok (rngL 0 (max 1 (min 8 ns.length))) [] := fun n hn => by
      subst hn
      rw [if_pos (by omega), Int.toNat_natCast]
    show (if -1000000000 ≤ (if (if (ns.length : Int) < 8 then (ns.length : Int) else 8) > 1 then (if (ns.length : Int) < 8 then (ns.length : Int) else 8) else 1) ∧ (if (if (ns.length : Int) < 8 then (ns.length : Int) else 8) > 1 then (if (ns.length : Int) < 8 then (ns.length : Int) else 8) else 1) ≤ 1000000000 then Res.ok (rngL 0 (if (if (ns.length : Int) < 8 then (ns.length : Int) else 8) > 1 then (if (ns.length : Int) < 8 then (ns.length : Int) else 8) else 1).toNat) ([] : Sto) else .bad) = _
    exact q _ (by split <;> split <;> omega)
  have w1 := wideE [some (.scr ns), b, c, d, e, f] st' rfl
  have w2 : ∀ env st, env[4]? = some (some WIDE) → mOwn (mLam l__law_error (mFn 1 f_recipe_text (aCons (mVar 4) aNil))) env st = .ok (.str "recipe") st := fun env st h => own_call1 "recipe" (by kernel_rfl) wide_ok env st h
  have w3 : ∀ env st, mOwn (mLam l__law_error (mFn 1 f_recipe_text (aCons (m2 gMulT (mTup (aCons (mTup (aCons (mC (.str "letter")) (aCons (mC (.str "a")) aNil))) aNil)) (mC (.int 401))) aNil))) env st = .ok (.str "recipe") st := fun env st => by
    have q : (fun s => mFn 1 f_recipe_text (aCons (m2 gMulT (mTup (aCons (mTup (aCons (mC (.str "letter")) (aCons (mC (.str "a")) aNil))) aNil)) (mC (.int 401))) aNil) (maskE env) s) = fun s => f_recipe_text [MANY] s := funext fun s => by
      have := many_eq (maskE env) s
      generalize m2 gMulT (mTup (aCons (mTup (aCons (mC (.str "letter")) (aCons (mC (.str "a")) aNil))) aNil)) (mC (.int 401)) = M at this ⊢
      simp [this]
    show ownR st (l__law_error (fun s => mFn 1 f_recipe_text (aCons (m2 gMulT (mTup (aCons (mTup (aCons (mC (.str "letter")) (aCons (mC (.str "a")) aNil))) aNil)) (mC (.int 401))) aNil) (maskE env) s) []) = _
    rw [q]
    exact own_ok many_ok rfl st
  have g1 : ∀ st, gNe (.str "recipe") (.str "recipe") st = .ok (.bl false) st := fun st => gNe_same rec_asc st
  have g2 : ∀ st, gEq (.str "recipe") (.str "recipe") st = .ok (.bl true) st := fun st => eq_same rec_asc st
  unfold f_law b_law defM
  change (match (sSeq (sFor (MR.iRng (aCons (mCall gMax (aCons (mC (.int 1)) (aCons (mCall gMin (aCons (mC (.int 8)) (aCons (mCall gLen (aCons (mVar 0) aNil)) aNil))) aNil))) aNil)) (gN 1) BO)
    (sSeq (sSet 4 (mCall gTuple (aCons (mLc (iAll (mC (.str "abcde"))) [5] (.nm 5) tYesM (mTup (aCons (mC (.str "letter")) (aCons (mVar 5) aNil)))) aNil)))
  (sSeq (sIf (mB (m2 gNe (mOwn (mLam l__law_error (mFn 1 f_recipe_text (aCons (mVar 4) aNil)))) (mC (.str "recipe")))) (sRet (mC (.bl false))) sNext)
  (sRet (m2 gEq (mOwn (mLam l__law_error (mFn 1 f_recipe_text (aCons (m2 gMulT (mTup (aCons (mTup (aCons (mC (.str "letter")) (aCons (mC (.str "a")) aNil))) aNil)) (mC (.int 401))) aNil)))) (mC (.str "recipe"))))))) [some (.scr ns), none, none, none, none, none] [] with
    | .nx _ st' => Res.ok MV.non st' | .rt m st' => .ok m st' | .exc c _ st' => .exc c st' | _ => .bad) = _
  generalize BO = B at e2 ⊢
  generalize (mLc (iAll (mC (.str "abcde"))) [5] (.nm 5) tYesM (mTup (aCons (mC (.str "letter")) (aCons (mVar 5) aNil)))) = L at w1 ⊢
  generalize (MR.iRng (aCons (mCall gMax (aCons (mC (.int 1)) (aCons (mCall gMin (aCons (mC (.int 8)) (aCons (mCall gLen (aCons (mVar 0) aNil)) aNil))) aNil))) aNil)) = R at hi ⊢
  have w2' := w2 [some (.scr ns), b, c, d, some WIDE, f] st' rfl
  have w3' := w3 [some (.scr ns), b, c, d, some WIDE, f] st'
  unfold WIDE at w2' w3'
  simp only [s_seq, s_for, hi, bindE_ok, e2, s_set, e_call, e_cons, e_nil, w1, bind_ok, gTuple, it_lst, noExc_ok, List.set_cons_succ, List.set_cons_zero, s_if, e_B, e_2, w2', e_C, g1, e_toB, if_false, s_next, s_ret, w3', g2, Bool.false_eq_true]
end K86

/-! printed by gen3.py: the defs of the text, mirrored -/
namespace K86
open PySem L2 MR
set_option maxHeartbeats 8000000 in
theorem law_mk {P : Program} {w : World} {K : PySem.W.Frag} {h : Heap} {mg : Str → Option Value} {fa : Addr} (X : K.In h) (G : h.Ns mainGlobals mg) (hfa : mg "law" = some (.ref fa))
    {f_is_sign_ f_is_alphabet_ f_is_integer_ f_is_letter_ f_is_recipe_row_ f_is_recipe_in_ f_signs_in_ f_rows_text_ f_recipe_text_ f__law_stream_ f__law_error_ f_are_ascending_ f_are_states_ f_is_step_ f_is_machine_ f_require_machine_ f_numbers_text_ f_step_text_ f_machine_text_ f_lines_of_ f_number_of_ f_parsed_step_ f_numbers_of_ f_parsed_head_ f_parse_machine_ f_parsed_row_ f_parse_recipe_ f_is_pattern_ f_is_name_ f_set_words_ f_name_words_ f_is_rule_ f_is_path_ f_rewrite_words_ f_is_cap_ f_promise_words_ f_drop_words_ f_edit_words_ f_edit_text_ f_parsed_parts_ f_parsed_edit_ f_parse_edit_ f__law_draw_ f__law_pick_ f__law_other_ f_require_pattern_ f_Pattern_check_ f_Pattern___init___ f_Letter___init___ f__law_no_edit_ f__law_right_ f_law_ : Addr} {C_LimitError C_InvalidMachine C_InvalidRecipe C_InvalidPattern C_InvalidOperation C_ParseError : Addr} {A_Letter A_Pattern : Addr}
    {z_BACK : Str} {t_BACK : Tok}
    {z_DIGITS : Str} {t_DIGITS : Tok}
    {tu_EXACT : Addr} {vs_EXACT : Array Value} {tn_EXACT : Nat} {td_EXACT : Option Addr} {ts_EXACT : Array (Option Value)}
    {z_LETTER : Str} {t_LETTER : Tok}
    {z_LETTERS : Str} {t_LETTERS : Tok}
    {t_MAX_COST : Tok}
    {t_MAX_DEPTH : Tok}
    {t_MAX_DIGITS : Tok}
    {t_MAX_LETTERS : Tok}
    {t_MAX_NAME : Tok}
    {t_MAX_NODES : Tok}
    {t_MAX_PLACES : Tok}
    {t_MAX_ROWS : Tok}
    {t_MAX_STATES : Tok}
    {t_MAX_STEPS : Tok}
    {t_MOST_CAP : Tok}
    {t_MOST_INDEX : Tok}
    {z_NOTHING : Str} {t_NOTHING : Tok}
    {z_PUMP : Str} {t_PUMP : Tok}
    {tu_ROUGH : Addr} {vs_ROUGH : Array Value} {tn_ROUGH : Nat} {td_ROUGH : Option Addr} {ts_ROUGH : Array (Option Value)}
    {z_SIGNS : Str} {t_SIGNS : Tok}
    {z_THEN : Str} {t_THEN : Tok}
    {cd_is_sign : Value} {oc_is_sign kv_is_sign dc_is_sign pm_is_sign ct_is_sign : Value} {od_is_sign an_is_sign : Option Addr} {sl_is_sign : Array (Option Value)}
    {cd_is_alphabet : Value} {oc_is_alphabet kv_is_alphabet dc_is_alphabet pm_is_alphabet ct_is_alphabet : Value} {od_is_alphabet an_is_alphabet : Option Addr} {sl_is_alphabet : Array (Option Value)}
    {cd_is_integer : Value} {oc_is_integer kv_is_integer dc_is_integer pm_is_integer ct_is_integer : Value} {od_is_integer an_is_integer : Option Addr} {sl_is_integer : Array (Option Value)}
    {cd_is_letter : Value} {oc_is_letter kv_is_letter dc_is_letter pm_is_letter ct_is_letter : Value} {od_is_letter an_is_letter : Option Addr} {sl_is_letter : Array (Option Value)}
    {cd_is_recipe_row : Value} {oc_is_recipe_row kv_is_recipe_row dc_is_recipe_row pm_is_recipe_row ct_is_recipe_row : Value} {od_is_recipe_row an_is_recipe_row : Option Addr} {sl_is_recipe_row : Array (Option Value)}
    {cd_is_recipe_in : Value} {oc_is_recipe_in kv_is_recipe_in dc_is_recipe_in pm_is_recipe_in ct_is_recipe_in : Value} {od_is_recipe_in an_is_recipe_in : Option Addr} {sl_is_recipe_in : Array (Option Value)}
    {cd_signs_in : Value} {oc_signs_in kv_signs_in dc_signs_in pm_signs_in ct_signs_in : Value} {od_signs_in an_signs_in : Option Addr} {sl_signs_in : Array (Option Value)}
    {cd_rows_text : Value} {oc_rows_text kv_rows_text dc_rows_text pm_rows_text ct_rows_text : Value} {od_rows_text an_rows_text : Option Addr} {sl_rows_text : Array (Option Value)}
    {cd_recipe_text : Value} {oc_recipe_text kv_recipe_text dc_recipe_text pm_recipe_text ct_recipe_text : Value} {od_recipe_text an_recipe_text : Option Addr} {sl_recipe_text : Array (Option Value)}
    {cd__law_stream : Value} {oc__law_stream kv__law_stream dc__law_stream pm__law_stream ct__law_stream : Value} {od__law_stream an__law_stream : Option Addr} {sl__law_stream : Array (Option Value)}
    {cd__law_error : Value} {oc__law_error kv__law_error dc__law_error pm__law_error ct__law_error : Value} {od__law_error an__law_error : Option Addr} {sl__law_error : Array (Option Value)}
    {cd_are_ascending : Value} {oc_are_ascending kv_are_ascending dc_are_ascending pm_are_ascending ct_are_ascending : Value} {od_are_ascending an_are_ascending : Option Addr} {sl_are_ascending : Array (Option Value)}
    {cd_are_states : Value} {oc_are_states kv_are_states dc_are_states pm_are_states ct_are_states : Value} {od_are_states an_are_states : Option Addr} {sl_are_states : Array (Option Value)}
    {cd_is_step : Value} {oc_is_step kv_is_step dc_is_step pm_is_step ct_is_step : Value} {od_is_step an_is_step : Option Addr} {sl_is_step : Array (Option Value)}
    {cd_is_machine : Value} {oc_is_machine kv_is_machine dc_is_machine pm_is_machine ct_is_machine : Value} {od_is_machine an_is_machine : Option Addr} {sl_is_machine : Array (Option Value)}
    {cd_require_machine : Value} {oc_require_machine kv_require_machine dc_require_machine pm_require_machine ct_require_machine : Value} {od_require_machine an_require_machine : Option Addr} {sl_require_machine : Array (Option Value)}
    {cd_numbers_text : Value} {oc_numbers_text kv_numbers_text dc_numbers_text pm_numbers_text ct_numbers_text : Value} {od_numbers_text an_numbers_text : Option Addr} {sl_numbers_text : Array (Option Value)}
    {cd_step_text : Value} {oc_step_text kv_step_text dc_step_text pm_step_text ct_step_text : Value} {od_step_text an_step_text : Option Addr} {sl_step_text : Array (Option Value)}
    {cd_machine_text : Value} {oc_machine_text kv_machine_text dc_machine_text pm_machine_text ct_machine_text : Value} {od_machine_text an_machine_text : Option Addr} {sl_machine_text : Array (Option Value)}
    {cd_lines_of : Value} {oc_lines_of kv_lines_of dc_lines_of pm_lines_of ct_lines_of : Value} {od_lines_of an_lines_of : Option Addr} {sl_lines_of : Array (Option Value)}
    {cd_number_of : Value} {oc_number_of kv_number_of dc_number_of pm_number_of ct_number_of : Value} {od_number_of an_number_of : Option Addr} {sl_number_of : Array (Option Value)}
    {cd_parsed_step : Value} {oc_parsed_step kv_parsed_step dc_parsed_step pm_parsed_step ct_parsed_step : Value} {od_parsed_step an_parsed_step : Option Addr} {sl_parsed_step : Array (Option Value)}
    {cd_numbers_of : Value} {oc_numbers_of kv_numbers_of dc_numbers_of pm_numbers_of ct_numbers_of : Value} {od_numbers_of an_numbers_of : Option Addr} {sl_numbers_of : Array (Option Value)}
    {cd_parsed_head : Value} {oc_parsed_head kv_parsed_head dc_parsed_head pm_parsed_head ct_parsed_head : Value} {od_parsed_head an_parsed_head : Option Addr} {sl_parsed_head : Array (Option Value)}
    {cd_parse_machine : Value} {oc_parse_machine kv_parse_machine dc_parse_machine pm_parse_machine ct_parse_machine : Value} {od_parse_machine an_parse_machine : Option Addr} {sl_parse_machine : Array (Option Value)}
    {cd_parsed_row : Value} {oc_parsed_row kv_parsed_row dc_parsed_row pm_parsed_row ct_parsed_row : Value} {od_parsed_row an_parsed_row : Option Addr} {sl_parsed_row : Array (Option Value)}
    {cd_parse_recipe : Value} {oc_parse_recipe kv_parse_recipe dc_parse_recipe pm_parse_recipe ct_parse_recipe : Value} {od_parse_recipe an_parse_recipe : Option Addr} {sl_parse_recipe : Array (Option Value)}
    {cd_is_pattern : Value} {oc_is_pattern kv_is_pattern dc_is_pattern pm_is_pattern ct_is_pattern : Value} {od_is_pattern an_is_pattern : Option Addr} {sl_is_pattern : Array (Option Value)}
    {cd_is_name : Value} {oc_is_name kv_is_name dc_is_name pm_is_name ct_is_name : Value} {od_is_name an_is_name : Option Addr} {sl_is_name : Array (Option Value)}
    {cd_set_words : Value} {oc_set_words kv_set_words dc_set_words pm_set_words ct_set_words : Value} {od_set_words an_set_words : Option Addr} {sl_set_words : Array (Option Value)}
    {cd_name_words : Value} {oc_name_words kv_name_words dc_name_words pm_name_words ct_name_words : Value} {od_name_words an_name_words : Option Addr} {sl_name_words : Array (Option Value)}
    {cd_is_rule : Value} {oc_is_rule kv_is_rule dc_is_rule pm_is_rule ct_is_rule : Value} {od_is_rule an_is_rule : Option Addr} {sl_is_rule : Array (Option Value)}
    {cd_is_path : Value} {oc_is_path kv_is_path dc_is_path pm_is_path ct_is_path : Value} {od_is_path an_is_path : Option Addr} {sl_is_path : Array (Option Value)}
    {cd_rewrite_words : Value} {oc_rewrite_words kv_rewrite_words dc_rewrite_words pm_rewrite_words ct_rewrite_words : Value} {od_rewrite_words an_rewrite_words : Option Addr} {sl_rewrite_words : Array (Option Value)}
    {cd_is_cap : Value} {oc_is_cap kv_is_cap dc_is_cap pm_is_cap ct_is_cap : Value} {od_is_cap an_is_cap : Option Addr} {sl_is_cap : Array (Option Value)}
    {cd_promise_words : Value} {oc_promise_words kv_promise_words dc_promise_words pm_promise_words ct_promise_words : Value} {od_promise_words an_promise_words : Option Addr} {sl_promise_words : Array (Option Value)}
    {cd_drop_words : Value} {oc_drop_words kv_drop_words dc_drop_words pm_drop_words ct_drop_words : Value} {od_drop_words an_drop_words : Option Addr} {sl_drop_words : Array (Option Value)}
    {cd_edit_words : Value} {oc_edit_words kv_edit_words dc_edit_words pm_edit_words ct_edit_words : Value} {od_edit_words an_edit_words : Option Addr} {sl_edit_words : Array (Option Value)}
    {cd_edit_text : Value} {oc_edit_text kv_edit_text dc_edit_text pm_edit_text ct_edit_text : Value} {od_edit_text an_edit_text : Option Addr} {sl_edit_text : Array (Option Value)}
    {cd_parsed_parts : Value} {oc_parsed_parts kv_parsed_parts dc_parsed_parts pm_parsed_parts ct_parsed_parts : Value} {od_parsed_parts an_parsed_parts : Option Addr} {sl_parsed_parts : Array (Option Value)}
    {cd_parsed_edit : Value} {oc_parsed_edit kv_parsed_edit dc_parsed_edit pm_parsed_edit ct_parsed_edit : Value} {od_parsed_edit an_parsed_edit : Option Addr} {sl_parsed_edit : Array (Option Value)}
    {cd_parse_edit : Value} {oc_parse_edit kv_parse_edit dc_parse_edit pm_parse_edit ct_parse_edit : Value} {od_parse_edit an_parse_edit : Option Addr} {sl_parse_edit : Array (Option Value)}
    {cd__law_draw : Value} {oc__law_draw kv__law_draw dc__law_draw pm__law_draw ct__law_draw : Value} {od__law_draw an__law_draw : Option Addr} {sl__law_draw : Array (Option Value)}
    {cd__law_pick : Value} {oc__law_pick kv__law_pick dc__law_pick pm__law_pick ct__law_pick : Value} {od__law_pick an__law_pick : Option Addr} {sl__law_pick : Array (Option Value)}
    {cd__law_other : Value} {oc__law_other kv__law_other dc__law_other pm__law_other ct__law_other : Value} {od__law_other an__law_other : Option Addr} {sl__law_other : Array (Option Value)}
    {cd_require_pattern : Value} {oc_require_pattern kv_require_pattern dc_require_pattern pm_require_pattern ct_require_pattern : Value} {od_require_pattern an_require_pattern : Option Addr} {sl_require_pattern : Array (Option Value)}
    {cd_Pattern_check : Value} {oc_Pattern_check kv_Pattern_check dc_Pattern_check pm_Pattern_check ct_Pattern_check : Value} {od_Pattern_check an_Pattern_check : Option Addr} {sl_Pattern_check : Array (Option Value)}
    {cd_Pattern___init__ : Value} {oc_Pattern___init__ kv_Pattern___init__ dc_Pattern___init__ pm_Pattern___init__ ct_Pattern___init__ : Value} {od_Pattern___init__ an_Pattern___init__ : Option Addr} {sl_Pattern___init__ : Array (Option Value)}
    {cc_Letter___init__ cda_Letter___init__ : Addr} {fo_Letter___init__ : Obj} {fv_Letter___init__ : Array Value} {ff_Letter___init__ : Str} {ft_Letter___init__ : Tok} {oc_Letter___init__ kv_Letter___init__ dc_Letter___init__ pm_Letter___init__ ct_Letter___init__ : Value} {od_Letter___init__ an_Letter___init__ : Option Addr} {sl_Letter___init__ : Array (Option Value)}
    {cd__law_no_edit : Value} {oc__law_no_edit kv__law_no_edit dc__law_no_edit pm__law_no_edit ct__law_no_edit : Value} {od__law_no_edit an__law_no_edit : Option Addr} {sl__law_no_edit : Array (Option Value)}
    {cd__law_right pt__law_right : Addr} {oc__law_right kv__law_right dc__law_right pm__law_right ct__law_right : Value} {od__law_right an__law_right : Option Addr} {sl__law_right : Array (Option Value)}
    {cd_law pt_law : Addr} {oc_law kv_law dc_law pm_law ct_law : Value} {od_law an_law : Option Addr} {sl_law : Array (Option Value)}
    {ka_KINDS kn_KINDS : Nat} {kh_KINDS_0 : Int} {kt_KINDS_0 k2_KINDS_0 : Tok} {kp_KINDS_0 : Addr} {kd_KINDS_0 : Option Addr} {km_KINDS_0 : Nat} {ks_KINDS_0 : Array (Option Value)} {kh_KINDS_1 : Int} {kt_KINDS_1 k2_KINDS_1 : Tok} {kp_KINDS_1 : Addr} {kd_KINDS_1 : Option Addr} {km_KINDS_1 : Nat} {ks_KINDS_1 : Array (Option Value)} {kh_KINDS_2 : Int} {kt_KINDS_2 k2_KINDS_2 : Tok} {kp_KINDS_2 : Addr} {kd_KINDS_2 : Option Addr} {km_KINDS_2 : Nat} {ks_KINDS_2 : Array (Option Value)} {kh_KINDS_3 : Int} {kt_KINDS_3 k2_KINDS_3 : Tok} {kp_KINDS_3 : Addr} {kd_KINDS_3 : Option Addr} {km_KINDS_3 : Nat} {ks_KINDS_3 : Array (Option Value)} {kh_KINDS_4 : Int} {kt_KINDS_4 k2_KINDS_4 : Tok} {kp_KINDS_4 : Addr} {kd_KINDS_4 : Option Addr} {km_KINDS_4 : Nat} {ks_KINDS_4 : Array (Option Value)} {kh_KINDS_5 : Int} {kt_KINDS_5 k2_KINDS_5 : Tok} {kp_KINDS_5 : Addr} {kd_KINDS_5 : Option Addr} {km_KINDS_5 : Nat} {ks_KINDS_5 : Array (Option Value)}
    {to__law_right : Obj} {tv__law_right : Array Value}
    {to_law : Obj} {tv_law : Array Value}
    (x_LimitError : ExK K "LimitError" C_LimitError [.type "ValueError", .type "Exception", .type "BaseException", .type "object"] "ValueError.__new__")
    (x_InvalidMachine : ExK K "InvalidMachine" C_InvalidMachine [.type "ValueError", .type "Exception", .type "BaseException", .type "object"] "ValueError.__new__")
    (x_InvalidRecipe : ExK K "InvalidRecipe" C_InvalidRecipe [.type "ValueError", .type "Exception", .type "BaseException", .type "object"] "ValueError.__new__")
    (x_InvalidPattern : ExK K "InvalidPattern" C_InvalidPattern [.type "ValueError", .type "Exception", .type "BaseException", .type "object"] "ValueError.__new__")
    (x_InvalidOperation : ExK K "InvalidOperation" C_InvalidOperation [.type "ValueError", .type "Exception", .type "BaseException", .type "object"] "ValueError.__new__")
    (x_ParseError : ExK K "ParseError" C_ParseError [.type "ValueError", .type "Exception", .type "BaseException", .type "object"] "ValueError.__new__")
    (s_InvalidMachine_LimitError : PySem.W.subIn K (.ref C_LimitError) (.ref C_InvalidMachine) = some false)
    (d_InvalidMachine_LimitError : C_LimitError ≠ C_InvalidMachine)
    (s_InvalidMachine_InvalidMachine : PySem.W.subIn K (.ref C_InvalidMachine) (.ref C_InvalidMachine) = some true)
    (s_InvalidMachine_InvalidRecipe : PySem.W.subIn K (.ref C_InvalidRecipe) (.ref C_InvalidMachine) = some false)
    (d_InvalidMachine_InvalidRecipe : C_InvalidRecipe ≠ C_InvalidMachine)
    (s_InvalidMachine_InvalidPattern : PySem.W.subIn K (.ref C_InvalidPattern) (.ref C_InvalidMachine) = some false)
    (d_InvalidMachine_InvalidPattern : C_InvalidPattern ≠ C_InvalidMachine)
    (s_InvalidMachine_InvalidOperation : PySem.W.subIn K (.ref C_InvalidOperation) (.ref C_InvalidMachine) = some false)
    (d_InvalidMachine_InvalidOperation : C_InvalidOperation ≠ C_InvalidMachine)
    (s_InvalidMachine_ParseError : PySem.W.subIn K (.ref C_ParseError) (.ref C_InvalidMachine) = some false)
    (d_InvalidMachine_ParseError : C_ParseError ≠ C_InvalidMachine)
    (s_InvalidOperation_LimitError : PySem.W.subIn K (.ref C_LimitError) (.ref C_InvalidOperation) = some false)
    (d_InvalidOperation_LimitError : C_LimitError ≠ C_InvalidOperation)
    (s_InvalidOperation_InvalidMachine : PySem.W.subIn K (.ref C_InvalidMachine) (.ref C_InvalidOperation) = some false)
    (d_InvalidOperation_InvalidMachine : C_InvalidMachine ≠ C_InvalidOperation)
    (s_InvalidOperation_InvalidRecipe : PySem.W.subIn K (.ref C_InvalidRecipe) (.ref C_InvalidOperation) = some false)
    (d_InvalidOperation_InvalidRecipe : C_InvalidRecipe ≠ C_InvalidOperation)
    (s_InvalidOperation_InvalidPattern : PySem.W.subIn K (.ref C_InvalidPattern) (.ref C_InvalidOperation) = some false)
    (d_InvalidOperation_InvalidPattern : C_InvalidPattern ≠ C_InvalidOperation)
    (s_InvalidOperation_InvalidOperation : PySem.W.subIn K (.ref C_InvalidOperation) (.ref C_InvalidOperation) = some true)
    (s_InvalidOperation_ParseError : PySem.W.subIn K (.ref C_ParseError) (.ref C_InvalidOperation) = some false)
    (d_InvalidOperation_ParseError : C_ParseError ≠ C_InvalidOperation)
    (s_InvalidRecipe_LimitError : PySem.W.subIn K (.ref C_LimitError) (.ref C_InvalidRecipe) = some false)
    (d_InvalidRecipe_LimitError : C_LimitError ≠ C_InvalidRecipe)
    (s_InvalidRecipe_InvalidMachine : PySem.W.subIn K (.ref C_InvalidMachine) (.ref C_InvalidRecipe) = some false)
    (d_InvalidRecipe_InvalidMachine : C_InvalidMachine ≠ C_InvalidRecipe)
    (s_InvalidRecipe_InvalidRecipe : PySem.W.subIn K (.ref C_InvalidRecipe) (.ref C_InvalidRecipe) = some true)
    (s_InvalidRecipe_InvalidPattern : PySem.W.subIn K (.ref C_InvalidPattern) (.ref C_InvalidRecipe) = some false)
    (d_InvalidRecipe_InvalidPattern : C_InvalidPattern ≠ C_InvalidRecipe)
    (s_InvalidRecipe_InvalidOperation : PySem.W.subIn K (.ref C_InvalidOperation) (.ref C_InvalidRecipe) = some false)
    (d_InvalidRecipe_InvalidOperation : C_InvalidOperation ≠ C_InvalidRecipe)
    (s_InvalidRecipe_ParseError : PySem.W.subIn K (.ref C_ParseError) (.ref C_InvalidRecipe) = some false)
    (d_InvalidRecipe_ParseError : C_ParseError ≠ C_InvalidRecipe)
    (s_LimitError_LimitError : PySem.W.subIn K (.ref C_LimitError) (.ref C_LimitError) = some true)
    (s_LimitError_InvalidMachine : PySem.W.subIn K (.ref C_InvalidMachine) (.ref C_LimitError) = some true)
    (s_LimitError_InvalidRecipe : PySem.W.subIn K (.ref C_InvalidRecipe) (.ref C_LimitError) = some true)
    (s_LimitError_InvalidPattern : PySem.W.subIn K (.ref C_InvalidPattern) (.ref C_LimitError) = some true)
    (s_LimitError_InvalidOperation : PySem.W.subIn K (.ref C_InvalidOperation) (.ref C_LimitError) = some true)
    (s_LimitError_ParseError : PySem.W.subIn K (.ref C_ParseError) (.ref C_LimitError) = some true)
    (s_ParseError_LimitError : PySem.W.subIn K (.ref C_LimitError) (.ref C_ParseError) = some false)
    (d_ParseError_LimitError : C_LimitError ≠ C_ParseError)
    (s_ParseError_InvalidMachine : PySem.W.subIn K (.ref C_InvalidMachine) (.ref C_ParseError) = some false)
    (d_ParseError_InvalidMachine : C_InvalidMachine ≠ C_ParseError)
    (s_ParseError_InvalidRecipe : PySem.W.subIn K (.ref C_InvalidRecipe) (.ref C_ParseError) = some false)
    (d_ParseError_InvalidRecipe : C_InvalidRecipe ≠ C_ParseError)
    (s_ParseError_InvalidPattern : PySem.W.subIn K (.ref C_InvalidPattern) (.ref C_ParseError) = some false)
    (d_ParseError_InvalidPattern : C_InvalidPattern ≠ C_ParseError)
    (s_ParseError_InvalidOperation : PySem.W.subIn K (.ref C_InvalidOperation) (.ref C_ParseError) = some false)
    (d_ParseError_InvalidOperation : C_InvalidOperation ≠ C_ParseError)
    (s_ParseError_ParseError : PySem.W.subIn K (.ref C_ParseError) (.ref C_ParseError) = some true)
    (g_Letter : PySem.W.nsIn K mainGlobals "Letter" = some (some (.ref A_Letter)))
    (g_Pattern : PySem.W.nsIn K mainGlobals "Pattern" = some (some (.ref A_Pattern)))
    (cl_Letter : Cls K A_Letter)
    (in_Letter : InsK K A_Letter)
    (mk_Letter : Mk K A_Letter f_Letter___init___)
    (nf_Letter_own_letters : NoAttr K A_Letter "own_letters")
    (nf_Letter_own_levels : NoAttr K A_Letter "own_levels")
    (nf_Letter_own_nodes : NoAttr K A_Letter "own_nodes")
    (nf_Letter_own_open : NoAttr K A_Letter "own_open")
    (nf_Letter_own_pieces : NoAttr K A_Letter "own_pieces")
    (nf_Letter_own_places : NoAttr K A_Letter "own_places")
    (nf_Letter_own_text : NoAttr K A_Letter "own_text")
    (me_Letter_check : Meth K A_Letter "check" f_Pattern_check_)
    (kt_Letter : ∀ c, c ∈ clL → PySem.W.kitOne K (.ref A_Letter) (.type c) = some false)
    (ks_Letter_Pattern : PySem.W.kitOne K (.ref A_Letter) (.ref A_Pattern) = some true)
    (kz_Pattern : ∀ t, t ∈ tyL → PySem.W.kitOne K (.type t) (.ref A_Pattern) = some false)
    (n_abs : PySem.W.nsIn K mainGlobals "abs" = some none)
    (n_all : PySem.W.nsIn K mainGlobals "all" = some none)
    (n_any : PySem.W.nsIn K mainGlobals "any" = some none)
    (n_bool : PySem.W.nsIn K mainGlobals "bool" = some none)
    (n_enumerate : PySem.W.nsIn K mainGlobals "enumerate" = some none)
    (n_int : PySem.W.nsIn K mainGlobals "int" = some none)
    (n_isinstance : PySem.W.nsIn K mainGlobals "isinstance" = some none)
    (n_len : PySem.W.nsIn K mainGlobals "len" = some none)
    (n_max : PySem.W.nsIn K mainGlobals "max" = some none)
    (n_min : PySem.W.nsIn K mainGlobals "min" = some none)
    (n_range : PySem.W.nsIn K mainGlobals "range" = some none)
    (n_repr : PySem.W.nsIn K mainGlobals "repr" = some none)
    (n_set : PySem.W.nsIn K mainGlobals "set" = some none)
    (n_sorted : PySem.W.nsIn K mainGlobals "sorted" = some none)
    (n_str : PySem.W.nsIn K mainGlobals "str" = some none)
    (n_sum : PySem.W.nsIn K mainGlobals "sum" = some none)
    (n_tuple : PySem.W.nsIn K mainGlobals "tuple" = some none)
    (n_zip : PySem.W.nsIn K mainGlobals "zip" = some none)
    (c_BACK : PySem.W.nsIn K mainGlobals "BACK" = some (some (.str z_BACK t_BACK)))
    (v_BACK : z_BACK = "back")
    (c_DIGITS : PySem.W.nsIn K mainGlobals "DIGITS" = some (some (.str z_DIGITS t_DIGITS)))
    (v_DIGITS : z_DIGITS = "0123456789")
    (c_EXACT : PySem.W.nsIn K mainGlobals "EXACT" = some (some (.ref tu_EXACT)))
    (l_EXACT : K.lookup tu_EXACT = some ⟨.type "tuple", td_EXACT, .seq vs_EXACT tn_EXACT, ts_EXACT⟩)
    (v_EXACT : (strsB vs_EXACT.toList ["dropfirst", "droplast", "emptylimit", "limitempty", "nolimit", "nostar", "once", "regroup", "rejoin", "spread", "spreadlast", "starboth", "starempty", "stars", "turn", "unfold"] && decide (vs_EXACT.size ≤ 1000)) = true)
    (c_LETTER : PySem.W.nsIn K mainGlobals "LETTER" = some (some (.str z_LETTER t_LETTER)))
    (v_LETTER : z_LETTER = "letter")
    (c_LETTERS : PySem.W.nsIn K mainGlobals "LETTERS" = some (some (.str z_LETTERS t_LETTERS)))
    (v_LETTERS : z_LETTERS = "abcdefghijklmnopqrstuvwxyz")
    (c_MAX_COST : PySem.W.nsIn K mainGlobals "MAX_COST" = some (some (.int 3 t_MAX_COST)))
    (c_MAX_DEPTH : PySem.W.nsIn K mainGlobals "MAX_DEPTH" = some (some (.int 10 t_MAX_DEPTH)))
    (c_MAX_DIGITS : PySem.W.nsIn K mainGlobals "MAX_DIGITS" = some (some (.int 6 t_MAX_DIGITS)))
    (c_MAX_LETTERS : PySem.W.nsIn K mainGlobals "MAX_LETTERS" = some (some (.int 4 t_MAX_LETTERS)))
    (c_MAX_NAME : PySem.W.nsIn K mainGlobals "MAX_NAME" = some (some (.int 8 t_MAX_NAME)))
    (c_MAX_NODES : PySem.W.nsIn K mainGlobals "MAX_NODES" = some (some (.int 40 t_MAX_NODES)))
    (c_MAX_PLACES : PySem.W.nsIn K mainGlobals "MAX_PLACES" = some (some (.int 7 t_MAX_PLACES)))
    (c_MAX_ROWS : PySem.W.nsIn K mainGlobals "MAX_ROWS" = some (some (.int 400 t_MAX_ROWS)))
    (c_MAX_STATES : PySem.W.nsIn K mainGlobals "MAX_STATES" = some (some (.int 8 t_MAX_STATES)))
    (c_MAX_STEPS : PySem.W.nsIn K mainGlobals "MAX_STEPS" = some (some (.int 60 t_MAX_STEPS)))
    (c_MOST_CAP : PySem.W.nsIn K mainGlobals "MOST_CAP" = some (some (.int 30 t_MOST_CAP)))
    (c_MOST_INDEX : PySem.W.nsIn K mainGlobals "MOST_INDEX" = some (some (.int 99 t_MOST_INDEX)))
    (c_NOTHING : PySem.W.nsIn K mainGlobals "NOTHING" = some (some (.str z_NOTHING t_NOTHING)))
    (v_NOTHING : z_NOTHING = "-")
    (c_PUMP : PySem.W.nsIn K mainGlobals "PUMP" = some (some (.str z_PUMP t_PUMP)))
    (v_PUMP : z_PUMP = "pump")
    (c_ROUGH : PySem.W.nsIn K mainGlobals "ROUGH" = some (some (.ref tu_ROUGH)))
    (l_ROUGH : K.lookup tu_ROUGH = some ⟨.type "tuple", td_ROUGH, .seq vs_ROUGH tn_ROUGH, ts_ROUGH⟩)
    (v_ROUGH : (strsB vs_ROUGH.toList ["absorb", "double", "loosen", "pairs"] && decide (vs_ROUGH.size ≤ 1000)) = true)
    (c_SIGNS : PySem.W.nsIn K mainGlobals "SIGNS" = some (some (.str z_SIGNS t_SIGNS)))
    (v_SIGNS : z_SIGNS = "abcdefghijklmnopqrstuvwxyz")
    (c_THEN : PySem.W.nsIn K mainGlobals "THEN" = some (some (.str z_THEN t_THEN)))
    (v_THEN : z_THEN = "then")
    (a_is_sign : PySem.W.nsIn K mainGlobals "is_sign" = some (some (.ref f_is_sign_)))
    (l_is_sign : K.lookup f_is_sign_ = some ⟨oc_is_sign, od_is_sign, .func (PySem.W.fnOf "is_sign" "is_sign" (defArgs s_is_sign) (defBody s_is_sign) (defScope s_is_sign) .none kv_is_sign dc_is_sign pm_is_sign an_is_sign cd_is_sign ct_is_sign), sl_is_sign⟩)
    (q_is_sign : PySem.W.codeIn K cd_is_sign "is_sign" = true)
    (k_is_sign : PySem.W.keepIn K (.ref f_is_sign_) = true)
    (a_is_alphabet : PySem.W.nsIn K mainGlobals "is_alphabet" = some (some (.ref f_is_alphabet_)))
    (l_is_alphabet : K.lookup f_is_alphabet_ = some ⟨oc_is_alphabet, od_is_alphabet, .func (PySem.W.fnOf "is_alphabet" "is_alphabet" (defArgs s_is_alphabet) (defBody s_is_alphabet) (defScope s_is_alphabet) .none kv_is_alphabet dc_is_alphabet pm_is_alphabet an_is_alphabet cd_is_alphabet ct_is_alphabet), sl_is_alphabet⟩)
    (q_is_alphabet : PySem.W.codeIn K cd_is_alphabet "is_alphabet" = true)
    (k_is_alphabet : PySem.W.keepIn K (.ref f_is_alphabet_) = true)
    (a_is_integer : PySem.W.nsIn K mainGlobals "is_integer" = some (some (.ref f_is_integer_)))
    (l_is_integer : K.lookup f_is_integer_ = some ⟨oc_is_integer, od_is_integer, .func (PySem.W.fnOf "is_integer" "is_integer" (defArgs s_is_integer) (defBody s_is_integer) (defScope s_is_integer) .none kv_is_integer dc_is_integer pm_is_integer an_is_integer cd_is_integer ct_is_integer), sl_is_integer⟩)
    (q_is_integer : PySem.W.codeIn K cd_is_integer "is_integer" = true)
    (k_is_integer : PySem.W.keepIn K (.ref f_is_integer_) = true)
    (a_is_letter : PySem.W.nsIn K mainGlobals "is_letter" = some (some (.ref f_is_letter_)))
    (l_is_letter : K.lookup f_is_letter_ = some ⟨oc_is_letter, od_is_letter, .func (PySem.W.fnOf "is_letter" "is_letter" (defArgs s_is_letter) (defBody s_is_letter) (defScope s_is_letter) .none kv_is_letter dc_is_letter pm_is_letter an_is_letter cd_is_letter ct_is_letter), sl_is_letter⟩)
    (q_is_letter : PySem.W.codeIn K cd_is_letter "is_letter" = true)
    (k_is_letter : PySem.W.keepIn K (.ref f_is_letter_) = true)
    (a_is_recipe_row : PySem.W.nsIn K mainGlobals "is_recipe_row" = some (some (.ref f_is_recipe_row_)))
    (l_is_recipe_row : K.lookup f_is_recipe_row_ = some ⟨oc_is_recipe_row, od_is_recipe_row, .func (PySem.W.fnOf "is_recipe_row" "is_recipe_row" (defArgs s_is_recipe_row) (defBody s_is_recipe_row) (defScope s_is_recipe_row) .none kv_is_recipe_row dc_is_recipe_row pm_is_recipe_row an_is_recipe_row cd_is_recipe_row ct_is_recipe_row), sl_is_recipe_row⟩)
    (q_is_recipe_row : PySem.W.codeIn K cd_is_recipe_row "is_recipe_row" = true)
    (k_is_recipe_row : PySem.W.keepIn K (.ref f_is_recipe_row_) = true)
    (a_is_recipe_in : PySem.W.nsIn K mainGlobals "is_recipe_in" = some (some (.ref f_is_recipe_in_)))
    (l_is_recipe_in : K.lookup f_is_recipe_in_ = some ⟨oc_is_recipe_in, od_is_recipe_in, .func (PySem.W.fnOf "is_recipe_in" "is_recipe_in" (defArgs s_is_recipe_in) (defBody s_is_recipe_in) (defScope s_is_recipe_in) .none kv_is_recipe_in dc_is_recipe_in pm_is_recipe_in an_is_recipe_in cd_is_recipe_in ct_is_recipe_in), sl_is_recipe_in⟩)
    (q_is_recipe_in : PySem.W.codeIn K cd_is_recipe_in "is_recipe_in" = true)
    (k_is_recipe_in : PySem.W.keepIn K (.ref f_is_recipe_in_) = true)
    (a_signs_in : PySem.W.nsIn K mainGlobals "signs_in" = some (some (.ref f_signs_in_)))
    (l_signs_in : K.lookup f_signs_in_ = some ⟨oc_signs_in, od_signs_in, .func (PySem.W.fnOf "signs_in" "signs_in" (defArgs s_signs_in) (defBody s_signs_in) (defScope s_signs_in) .none kv_signs_in dc_signs_in pm_signs_in an_signs_in cd_signs_in ct_signs_in), sl_signs_in⟩)
    (q_signs_in : PySem.W.codeIn K cd_signs_in "signs_in" = true)
    (k_signs_in : PySem.W.keepIn K (.ref f_signs_in_) = true)
    (a_rows_text : PySem.W.nsIn K mainGlobals "rows_text" = some (some (.ref f_rows_text_)))
    (l_rows_text : K.lookup f_rows_text_ = some ⟨oc_rows_text, od_rows_text, .func (PySem.W.fnOf "rows_text" "rows_text" (defArgs s_rows_text) (defBody s_rows_text) (defScope s_rows_text) .none kv_rows_text dc_rows_text pm_rows_text an_rows_text cd_rows_text ct_rows_text), sl_rows_text⟩)
    (q_rows_text : PySem.W.codeIn K cd_rows_text "rows_text" = true)
    (k_rows_text : PySem.W.keepIn K (.ref f_rows_text_) = true)
    (a_recipe_text : PySem.W.nsIn K mainGlobals "recipe_text" = some (some (.ref f_recipe_text_)))
    (l_recipe_text : K.lookup f_recipe_text_ = some ⟨oc_recipe_text, od_recipe_text, .func (PySem.W.fnOf "recipe_text" "recipe_text" (defArgs s_recipe_text) (defBody s_recipe_text) (defScope s_recipe_text) .none kv_recipe_text dc_recipe_text pm_recipe_text an_recipe_text cd_recipe_text ct_recipe_text), sl_recipe_text⟩)
    (q_recipe_text : PySem.W.codeIn K cd_recipe_text "recipe_text" = true)
    (k_recipe_text : PySem.W.keepIn K (.ref f_recipe_text_) = true)
    (a__law_stream : PySem.W.nsIn K mainGlobals "_law_stream" = some (some (.ref f__law_stream_)))
    (l__law_stream : K.lookup f__law_stream_ = some ⟨oc__law_stream, od__law_stream, .func (PySem.W.fnOf "_law_stream" "_law_stream" (defArgs s__law_stream) (defBody s__law_stream) (defScope s__law_stream) .none kv__law_stream dc__law_stream pm__law_stream an__law_stream cd__law_stream ct__law_stream), sl__law_stream⟩)
    (q__law_stream : PySem.W.codeIn K cd__law_stream "_law_stream" = true)
    (k__law_stream : PySem.W.keepIn K (.ref f__law_stream_) = true)
    (a__law_error : PySem.W.nsIn K mainGlobals "_law_error" = some (some (.ref f__law_error_)))
    (l__law_error : K.lookup f__law_error_ = some ⟨oc__law_error, od__law_error, .func (PySem.W.fnOf "_law_error" "_law_error" (defArgs s__law_error) (defBody s__law_error) (defScope s__law_error) .none kv__law_error dc__law_error pm__law_error an__law_error cd__law_error ct__law_error), sl__law_error⟩)
    (q__law_error : PySem.W.codeIn K cd__law_error "_law_error" = true)
    (k__law_error : PySem.W.keepIn K (.ref f__law_error_) = true)
    (a_are_ascending : PySem.W.nsIn K mainGlobals "are_ascending" = some (some (.ref f_are_ascending_)))
    (l_are_ascending : K.lookup f_are_ascending_ = some ⟨oc_are_ascending, od_are_ascending, .func (PySem.W.fnOf "are_ascending" "are_ascending" (defArgs s_are_ascending) (defBody s_are_ascending) (defScope s_are_ascending) .none kv_are_ascending dc_are_ascending pm_are_ascending an_are_ascending cd_are_ascending ct_are_ascending), sl_are_ascending⟩)
    (q_are_ascending : PySem.W.codeIn K cd_are_ascending "are_ascending" = true)
    (k_are_ascending : PySem.W.keepIn K (.ref f_are_ascending_) = true)
    (a_are_states : PySem.W.nsIn K mainGlobals "are_states" = some (some (.ref f_are_states_)))
    (l_are_states : K.lookup f_are_states_ = some ⟨oc_are_states, od_are_states, .func (PySem.W.fnOf "are_states" "are_states" (defArgs s_are_states) (defBody s_are_states) (defScope s_are_states) .none kv_are_states dc_are_states pm_are_states an_are_states cd_are_states ct_are_states), sl_are_states⟩)
    (q_are_states : PySem.W.codeIn K cd_are_states "are_states" = true)
    (k_are_states : PySem.W.keepIn K (.ref f_are_states_) = true)
    (a_is_step : PySem.W.nsIn K mainGlobals "is_step" = some (some (.ref f_is_step_)))
    (l_is_step : K.lookup f_is_step_ = some ⟨oc_is_step, od_is_step, .func (PySem.W.fnOf "is_step" "is_step" (defArgs s_is_step) (defBody s_is_step) (defScope s_is_step) .none kv_is_step dc_is_step pm_is_step an_is_step cd_is_step ct_is_step), sl_is_step⟩)
    (q_is_step : PySem.W.codeIn K cd_is_step "is_step" = true)
    (k_is_step : PySem.W.keepIn K (.ref f_is_step_) = true)
    (a_is_machine : PySem.W.nsIn K mainGlobals "is_machine" = some (some (.ref f_is_machine_)))
    (l_is_machine : K.lookup f_is_machine_ = some ⟨oc_is_machine, od_is_machine, .func (PySem.W.fnOf "is_machine" "is_machine" (defArgs s_is_machine) (defBody s_is_machine) (defScope s_is_machine) .none kv_is_machine dc_is_machine pm_is_machine an_is_machine cd_is_machine ct_is_machine), sl_is_machine⟩)
    (q_is_machine : PySem.W.codeIn K cd_is_machine "is_machine" = true)
    (k_is_machine : PySem.W.keepIn K (.ref f_is_machine_) = true)
    (a_require_machine : PySem.W.nsIn K mainGlobals "require_machine" = some (some (.ref f_require_machine_)))
    (l_require_machine : K.lookup f_require_machine_ = some ⟨oc_require_machine, od_require_machine, .func (PySem.W.fnOf "require_machine" "require_machine" (defArgs s_require_machine) (defBody s_require_machine) (defScope s_require_machine) .none kv_require_machine dc_require_machine pm_require_machine an_require_machine cd_require_machine ct_require_machine), sl_require_machine⟩)
    (q_require_machine : PySem.W.codeIn K cd_require_machine "require_machine" = true)
    (k_require_machine : PySem.W.keepIn K (.ref f_require_machine_) = true)
    (a_numbers_text : PySem.W.nsIn K mainGlobals "numbers_text" = some (some (.ref f_numbers_text_)))
    (l_numbers_text : K.lookup f_numbers_text_ = some ⟨oc_numbers_text, od_numbers_text, .func (PySem.W.fnOf "numbers_text" "numbers_text" (defArgs s_numbers_text) (defBody s_numbers_text) (defScope s_numbers_text) .none kv_numbers_text dc_numbers_text pm_numbers_text an_numbers_text cd_numbers_text ct_numbers_text), sl_numbers_text⟩)
    (q_numbers_text : PySem.W.codeIn K cd_numbers_text "numbers_text" = true)
    (k_numbers_text : PySem.W.keepIn K (.ref f_numbers_text_) = true)
    (a_step_text : PySem.W.nsIn K mainGlobals "step_text" = some (some (.ref f_step_text_)))
    (l_step_text : K.lookup f_step_text_ = some ⟨oc_step_text, od_step_text, .func (PySem.W.fnOf "step_text" "step_text" (defArgs s_step_text) (defBody s_step_text) (defScope s_step_text) .none kv_step_text dc_step_text pm_step_text an_step_text cd_step_text ct_step_text), sl_step_text⟩)
    (q_step_text : PySem.W.codeIn K cd_step_text "step_text" = true)
    (k_step_text : PySem.W.keepIn K (.ref f_step_text_) = true)
    (a_machine_text : PySem.W.nsIn K mainGlobals "machine_text" = some (some (.ref f_machine_text_)))
    (l_machine_text : K.lookup f_machine_text_ = some ⟨oc_machine_text, od_machine_text, .func (PySem.W.fnOf "machine_text" "machine_text" (defArgs s_machine_text) (defBody s_machine_text) (defScope s_machine_text) .none kv_machine_text dc_machine_text pm_machine_text an_machine_text cd_machine_text ct_machine_text), sl_machine_text⟩)
    (q_machine_text : PySem.W.codeIn K cd_machine_text "machine_text" = true)
    (k_machine_text : PySem.W.keepIn K (.ref f_machine_text_) = true)
    (a_lines_of : PySem.W.nsIn K mainGlobals "lines_of" = some (some (.ref f_lines_of_)))
    (l_lines_of : K.lookup f_lines_of_ = some ⟨oc_lines_of, od_lines_of, .func (PySem.W.fnOf "lines_of" "lines_of" (defArgs s_lines_of) (defBody s_lines_of) (defScope s_lines_of) .none kv_lines_of dc_lines_of pm_lines_of an_lines_of cd_lines_of ct_lines_of), sl_lines_of⟩)
    (q_lines_of : PySem.W.codeIn K cd_lines_of "lines_of" = true)
    (k_lines_of : PySem.W.keepIn K (.ref f_lines_of_) = true)
    (a_number_of : PySem.W.nsIn K mainGlobals "number_of" = some (some (.ref f_number_of_)))
    (l_number_of : K.lookup f_number_of_ = some ⟨oc_number_of, od_number_of, .func (PySem.W.fnOf "number_of" "number_of" (defArgs s_number_of) (defBody s_number_of) (defScope s_number_of) .none kv_number_of dc_number_of pm_number_of an_number_of cd_number_of ct_number_of), sl_number_of⟩)
    (q_number_of : PySem.W.codeIn K cd_number_of "number_of" = true)
    (k_number_of : PySem.W.keepIn K (.ref f_number_of_) = true)
    (a_parsed_step : PySem.W.nsIn K mainGlobals "parsed_step" = some (some (.ref f_parsed_step_)))
    (l_parsed_step : K.lookup f_parsed_step_ = some ⟨oc_parsed_step, od_parsed_step, .func (PySem.W.fnOf "parsed_step" "parsed_step" (defArgs s_parsed_step) (defBody s_parsed_step) (defScope s_parsed_step) .none kv_parsed_step dc_parsed_step pm_parsed_step an_parsed_step cd_parsed_step ct_parsed_step), sl_parsed_step⟩)
    (q_parsed_step : PySem.W.codeIn K cd_parsed_step "parsed_step" = true)
    (k_parsed_step : PySem.W.keepIn K (.ref f_parsed_step_) = true)
    (a_numbers_of : PySem.W.nsIn K mainGlobals "numbers_of" = some (some (.ref f_numbers_of_)))
    (l_numbers_of : K.lookup f_numbers_of_ = some ⟨oc_numbers_of, od_numbers_of, .func (PySem.W.fnOf "numbers_of" "numbers_of" (defArgs s_numbers_of) (defBody s_numbers_of) (defScope s_numbers_of) .none kv_numbers_of dc_numbers_of pm_numbers_of an_numbers_of cd_numbers_of ct_numbers_of), sl_numbers_of⟩)
    (q_numbers_of : PySem.W.codeIn K cd_numbers_of "numbers_of" = true)
    (k_numbers_of : PySem.W.keepIn K (.ref f_numbers_of_) = true)
    (a_parsed_head : PySem.W.nsIn K mainGlobals "parsed_head" = some (some (.ref f_parsed_head_)))
    (l_parsed_head : K.lookup f_parsed_head_ = some ⟨oc_parsed_head, od_parsed_head, .func (PySem.W.fnOf "parsed_head" "parsed_head" (defArgs s_parsed_head) (defBody s_parsed_head) (defScope s_parsed_head) .none kv_parsed_head dc_parsed_head pm_parsed_head an_parsed_head cd_parsed_head ct_parsed_head), sl_parsed_head⟩)
    (q_parsed_head : PySem.W.codeIn K cd_parsed_head "parsed_head" = true)
    (k_parsed_head : PySem.W.keepIn K (.ref f_parsed_head_) = true)
    (a_parse_machine : PySem.W.nsIn K mainGlobals "parse_machine" = some (some (.ref f_parse_machine_)))
    (l_parse_machine : K.lookup f_parse_machine_ = some ⟨oc_parse_machine, od_parse_machine, .func (PySem.W.fnOf "parse_machine" "parse_machine" (defArgs s_parse_machine) (defBody s_parse_machine) (defScope s_parse_machine) .none kv_parse_machine dc_parse_machine pm_parse_machine an_parse_machine cd_parse_machine ct_parse_machine), sl_parse_machine⟩)
    (q_parse_machine : PySem.W.codeIn K cd_parse_machine "parse_machine" = true)
    (k_parse_machine : PySem.W.keepIn K (.ref f_parse_machine_) = true)
    (a_parsed_row : PySem.W.nsIn K mainGlobals "parsed_row" = some (some (.ref f_parsed_row_)))
    (l_parsed_row : K.lookup f_parsed_row_ = some ⟨oc_parsed_row, od_parsed_row, .func (PySem.W.fnOf "parsed_row" "parsed_row" (defArgs s_parsed_row) (defBody s_parsed_row) (defScope s_parsed_row) .none kv_parsed_row dc_parsed_row pm_parsed_row an_parsed_row cd_parsed_row ct_parsed_row), sl_parsed_row⟩)
    (q_parsed_row : PySem.W.codeIn K cd_parsed_row "parsed_row" = true)
    (k_parsed_row : PySem.W.keepIn K (.ref f_parsed_row_) = true)
    (a_parse_recipe : PySem.W.nsIn K mainGlobals "parse_recipe" = some (some (.ref f_parse_recipe_)))
    (l_parse_recipe : K.lookup f_parse_recipe_ = some ⟨oc_parse_recipe, od_parse_recipe, .func (PySem.W.fnOf "parse_recipe" "parse_recipe" (defArgs s_parse_recipe) (defBody s_parse_recipe) (defScope s_parse_recipe) .none kv_parse_recipe dc_parse_recipe pm_parse_recipe an_parse_recipe cd_parse_recipe ct_parse_recipe), sl_parse_recipe⟩)
    (q_parse_recipe : PySem.W.codeIn K cd_parse_recipe "parse_recipe" = true)
    (k_parse_recipe : PySem.W.keepIn K (.ref f_parse_recipe_) = true)
    (a_is_pattern : PySem.W.nsIn K mainGlobals "is_pattern" = some (some (.ref f_is_pattern_)))
    (l_is_pattern : K.lookup f_is_pattern_ = some ⟨oc_is_pattern, od_is_pattern, .func (PySem.W.fnOf "is_pattern" "is_pattern" (defArgs s_is_pattern) (defBody s_is_pattern) (defScope s_is_pattern) .none kv_is_pattern dc_is_pattern pm_is_pattern an_is_pattern cd_is_pattern ct_is_pattern), sl_is_pattern⟩)
    (q_is_pattern : PySem.W.codeIn K cd_is_pattern "is_pattern" = true)
    (k_is_pattern : PySem.W.keepIn K (.ref f_is_pattern_) = true)
    (a_is_name : PySem.W.nsIn K mainGlobals "is_name" = some (some (.ref f_is_name_)))
    (l_is_name : K.lookup f_is_name_ = some ⟨oc_is_name, od_is_name, .func (PySem.W.fnOf "is_name" "is_name" (defArgs s_is_name) (defBody s_is_name) (defScope s_is_name) .none kv_is_name dc_is_name pm_is_name an_is_name cd_is_name ct_is_name), sl_is_name⟩)
    (q_is_name : PySem.W.codeIn K cd_is_name "is_name" = true)
    (k_is_name : PySem.W.keepIn K (.ref f_is_name_) = true)
    (a_set_words : PySem.W.nsIn K mainGlobals "set_words" = some (some (.ref f_set_words_)))
    (l_set_words : K.lookup f_set_words_ = some ⟨oc_set_words, od_set_words, .func (PySem.W.fnOf "set_words" "set_words" (defArgs s_set_words) (defBody s_set_words) (defScope s_set_words) .none kv_set_words dc_set_words pm_set_words an_set_words cd_set_words ct_set_words), sl_set_words⟩)
    (q_set_words : PySem.W.codeIn K cd_set_words "set_words" = true)
    (k_set_words : PySem.W.keepIn K (.ref f_set_words_) = true)
    (a_name_words : PySem.W.nsIn K mainGlobals "name_words" = some (some (.ref f_name_words_)))
    (l_name_words : K.lookup f_name_words_ = some ⟨oc_name_words, od_name_words, .func (PySem.W.fnOf "name_words" "name_words" (defArgs s_name_words) (defBody s_name_words) (defScope s_name_words) .none kv_name_words dc_name_words pm_name_words an_name_words cd_name_words ct_name_words), sl_name_words⟩)
    (q_name_words : PySem.W.codeIn K cd_name_words "name_words" = true)
    (k_name_words : PySem.W.keepIn K (.ref f_name_words_) = true)
    (a_is_rule : PySem.W.nsIn K mainGlobals "is_rule" = some (some (.ref f_is_rule_)))
    (l_is_rule : K.lookup f_is_rule_ = some ⟨oc_is_rule, od_is_rule, .func (PySem.W.fnOf "is_rule" "is_rule" (defArgs s_is_rule) (defBody s_is_rule) (defScope s_is_rule) .none kv_is_rule dc_is_rule pm_is_rule an_is_rule cd_is_rule ct_is_rule), sl_is_rule⟩)
    (q_is_rule : PySem.W.codeIn K cd_is_rule "is_rule" = true)
    (k_is_rule : PySem.W.keepIn K (.ref f_is_rule_) = true)
    (a_is_path : PySem.W.nsIn K mainGlobals "is_path" = some (some (.ref f_is_path_)))
    (l_is_path : K.lookup f_is_path_ = some ⟨oc_is_path, od_is_path, .func (PySem.W.fnOf "is_path" "is_path" (defArgs s_is_path) (defBody s_is_path) (defScope s_is_path) .none kv_is_path dc_is_path pm_is_path an_is_path cd_is_path ct_is_path), sl_is_path⟩)
    (q_is_path : PySem.W.codeIn K cd_is_path "is_path" = true)
    (k_is_path : PySem.W.keepIn K (.ref f_is_path_) = true)
    (a_rewrite_words : PySem.W.nsIn K mainGlobals "rewrite_words" = some (some (.ref f_rewrite_words_)))
    (l_rewrite_words : K.lookup f_rewrite_words_ = some ⟨oc_rewrite_words, od_rewrite_words, .func (PySem.W.fnOf "rewrite_words" "rewrite_words" (defArgs s_rewrite_words) (defBody s_rewrite_words) (defScope s_rewrite_words) .none kv_rewrite_words dc_rewrite_words pm_rewrite_words an_rewrite_words cd_rewrite_words ct_rewrite_words), sl_rewrite_words⟩)
    (q_rewrite_words : PySem.W.codeIn K cd_rewrite_words "rewrite_words" = true)
    (k_rewrite_words : PySem.W.keepIn K (.ref f_rewrite_words_) = true)
    (a_is_cap : PySem.W.nsIn K mainGlobals "is_cap" = some (some (.ref f_is_cap_)))
    (l_is_cap : K.lookup f_is_cap_ = some ⟨oc_is_cap, od_is_cap, .func (PySem.W.fnOf "is_cap" "is_cap" (defArgs s_is_cap) (defBody s_is_cap) (defScope s_is_cap) .none kv_is_cap dc_is_cap pm_is_cap an_is_cap cd_is_cap ct_is_cap), sl_is_cap⟩)
    (q_is_cap : PySem.W.codeIn K cd_is_cap "is_cap" = true)
    (k_is_cap : PySem.W.keepIn K (.ref f_is_cap_) = true)
    (a_promise_words : PySem.W.nsIn K mainGlobals "promise_words" = some (some (.ref f_promise_words_)))
    (l_promise_words : K.lookup f_promise_words_ = some ⟨oc_promise_words, od_promise_words, .func (PySem.W.fnOf "promise_words" "promise_words" (defArgs s_promise_words) (defBody s_promise_words) (defScope s_promise_words) .none kv_promise_words dc_promise_words pm_promise_words an_promise_words cd_promise_words ct_promise_words), sl_promise_words⟩)
    (q_promise_words : PySem.W.codeIn K cd_promise_words "promise_words" = true)
    (k_promise_words : PySem.W.keepIn K (.ref f_promise_words_) = true)
    (a_drop_words : PySem.W.nsIn K mainGlobals "drop_words" = some (some (.ref f_drop_words_)))
    (l_drop_words : K.lookup f_drop_words_ = some ⟨oc_drop_words, od_drop_words, .func (PySem.W.fnOf "drop_words" "drop_words" (defArgs s_drop_words) (defBody s_drop_words) (defScope s_drop_words) .none kv_drop_words dc_drop_words pm_drop_words an_drop_words cd_drop_words ct_drop_words), sl_drop_words⟩)
    (q_drop_words : PySem.W.codeIn K cd_drop_words "drop_words" = true)
    (k_drop_words : PySem.W.keepIn K (.ref f_drop_words_) = true)
    (a_edit_words : PySem.W.nsIn K mainGlobals "edit_words" = some (some (.ref f_edit_words_)))
    (l_edit_words : K.lookup f_edit_words_ = some ⟨oc_edit_words, od_edit_words, .func (PySem.W.fnOf "edit_words" "edit_words" (defArgs s_edit_words) (defBody s_edit_words) (defScope s_edit_words) .none kv_edit_words dc_edit_words pm_edit_words an_edit_words cd_edit_words ct_edit_words), sl_edit_words⟩)
    (q_edit_words : PySem.W.codeIn K cd_edit_words "edit_words" = true)
    (k_edit_words : PySem.W.keepIn K (.ref f_edit_words_) = true)
    (a_edit_text : PySem.W.nsIn K mainGlobals "edit_text" = some (some (.ref f_edit_text_)))
    (l_edit_text : K.lookup f_edit_text_ = some ⟨oc_edit_text, od_edit_text, .func (PySem.W.fnOf "edit_text" "edit_text" (defArgs s_edit_text) (defBody s_edit_text) (defScope s_edit_text) .none kv_edit_text dc_edit_text pm_edit_text an_edit_text cd_edit_text ct_edit_text), sl_edit_text⟩)
    (q_edit_text : PySem.W.codeIn K cd_edit_text "edit_text" = true)
    (k_edit_text : PySem.W.keepIn K (.ref f_edit_text_) = true)
    (a_parsed_parts : PySem.W.nsIn K mainGlobals "parsed_parts" = some (some (.ref f_parsed_parts_)))
    (l_parsed_parts : K.lookup f_parsed_parts_ = some ⟨oc_parsed_parts, od_parsed_parts, .func (PySem.W.fnOf "parsed_parts" "parsed_parts" (defArgs s_parsed_parts) (defBody s_parsed_parts) (defScope s_parsed_parts) .none kv_parsed_parts dc_parsed_parts pm_parsed_parts an_parsed_parts cd_parsed_parts ct_parsed_parts), sl_parsed_parts⟩)
    (q_parsed_parts : PySem.W.codeIn K cd_parsed_parts "parsed_parts" = true)
    (k_parsed_parts : PySem.W.keepIn K (.ref f_parsed_parts_) = true)
    (a_parsed_edit : PySem.W.nsIn K mainGlobals "parsed_edit" = some (some (.ref f_parsed_edit_)))
    (l_parsed_edit : K.lookup f_parsed_edit_ = some ⟨oc_parsed_edit, od_parsed_edit, .func (PySem.W.fnOf "parsed_edit" "parsed_edit" (defArgs s_parsed_edit) (defBody s_parsed_edit) (defScope s_parsed_edit) .none kv_parsed_edit dc_parsed_edit pm_parsed_edit an_parsed_edit cd_parsed_edit ct_parsed_edit), sl_parsed_edit⟩)
    (q_parsed_edit : PySem.W.codeIn K cd_parsed_edit "parsed_edit" = true)
    (k_parsed_edit : PySem.W.keepIn K (.ref f_parsed_edit_) = true)
    (a_parse_edit : PySem.W.nsIn K mainGlobals "parse_edit" = some (some (.ref f_parse_edit_)))
    (l_parse_edit : K.lookup f_parse_edit_ = some ⟨oc_parse_edit, od_parse_edit, .func (PySem.W.fnOf "parse_edit" "parse_edit" (defArgs s_parse_edit) (defBody s_parse_edit) (defScope s_parse_edit) .none kv_parse_edit dc_parse_edit pm_parse_edit an_parse_edit cd_parse_edit ct_parse_edit), sl_parse_edit⟩)
    (q_parse_edit : PySem.W.codeIn K cd_parse_edit "parse_edit" = true)
    (k_parse_edit : PySem.W.keepIn K (.ref f_parse_edit_) = true)
    (a__law_draw : PySem.W.nsIn K mainGlobals "_law_draw" = some (some (.ref f__law_draw_)))
    (l__law_draw : K.lookup f__law_draw_ = some ⟨oc__law_draw, od__law_draw, .func (PySem.W.fnOf "_law_draw" "_law_draw" (defArgs s__law_draw) (defBody s__law_draw) (defScope s__law_draw) .none kv__law_draw dc__law_draw pm__law_draw an__law_draw cd__law_draw ct__law_draw), sl__law_draw⟩)
    (q__law_draw : PySem.W.codeIn K cd__law_draw "_law_draw" = true)
    (k__law_draw : PySem.W.keepIn K (.ref f__law_draw_) = true)
    (a__law_pick : PySem.W.nsIn K mainGlobals "_law_pick" = some (some (.ref f__law_pick_)))
    (l__law_pick : K.lookup f__law_pick_ = some ⟨oc__law_pick, od__law_pick, .func (PySem.W.fnOf "_law_pick" "_law_pick" (defArgs s__law_pick) (defBody s__law_pick) (defScope s__law_pick) .none kv__law_pick dc__law_pick pm__law_pick an__law_pick cd__law_pick ct__law_pick), sl__law_pick⟩)
    (q__law_pick : PySem.W.codeIn K cd__law_pick "_law_pick" = true)
    (k__law_pick : PySem.W.keepIn K (.ref f__law_pick_) = true)
    (a__law_other : PySem.W.nsIn K mainGlobals "_law_other" = some (some (.ref f__law_other_)))
    (l__law_other : K.lookup f__law_other_ = some ⟨oc__law_other, od__law_other, .func (PySem.W.fnOf "_law_other" "_law_other" (defArgs s__law_other) (defBody s__law_other) (defScope s__law_other) .none kv__law_other dc__law_other pm__law_other an__law_other cd__law_other ct__law_other), sl__law_other⟩)
    (q__law_other : PySem.W.codeIn K cd__law_other "_law_other" = true)
    (k__law_other : PySem.W.keepIn K (.ref f__law_other_) = true)
    (a_require_pattern : PySem.W.nsIn K mainGlobals "require_pattern" = some (some (.ref f_require_pattern_)))
    (l_require_pattern : K.lookup f_require_pattern_ = some ⟨oc_require_pattern, od_require_pattern, .func (PySem.W.fnOf "require_pattern" "require_pattern" (defArgs s_require_pattern) (defBody s_require_pattern) (defScope s_require_pattern) .none kv_require_pattern dc_require_pattern pm_require_pattern an_require_pattern cd_require_pattern ct_require_pattern), sl_require_pattern⟩)
    (q_require_pattern : PySem.W.codeIn K cd_require_pattern "require_pattern" = true)
    (k_require_pattern : PySem.W.keepIn K (.ref f_require_pattern_) = true)
    (l_Pattern_check : K.lookup f_Pattern_check_ = some ⟨oc_Pattern_check, od_Pattern_check, .func (PySem.W.fnOf "check" "Pattern.check" (defArgs s_Pattern_check) (defBody s_Pattern_check) (defScope s_Pattern_check) .none kv_Pattern_check dc_Pattern_check pm_Pattern_check an_Pattern_check cd_Pattern_check ct_Pattern_check), sl_Pattern_check⟩)
    (q_Pattern_check : PySem.W.codeIn K cd_Pattern_check "Pattern.check" = true)
    (k_Pattern_check : PySem.W.keepIn K (.ref f_Pattern_check_) = true)
    (l_Pattern___init__ : K.lookup f_Pattern___init___ = some ⟨oc_Pattern___init__, od_Pattern___init__, .func (PySem.W.fnOf "__init__" "Pattern.__init__" (defArgs s_Pattern___init__) (defBody s_Pattern___init__) (defScope s_Pattern___init__) .none kv_Pattern___init__ dc_Pattern___init__ pm_Pattern___init__ an_Pattern___init__ cd_Pattern___init__ ct_Pattern___init__), sl_Pattern___init__⟩)
    (q_Pattern___init__ : PySem.W.codeIn K cd_Pattern___init__ "Pattern.__init__" = true)
    (k_Pattern___init__ : PySem.W.keepIn K (.ref f_Pattern___init___) = true)
    (l_Letter___init__ : K.lookup f_Letter___init___ = some ⟨oc_Letter___init__, od_Letter___init__, .func (PySem.W.ksFn "__init__" "Letter.__init__" (defArgs s_Letter___init__) (defBody s_Letter___init__) (defScope s_Letter___init__) .none kv_Letter___init__ dc_Letter___init__ pm_Letter___init__ an_Letter___init__ (.ref cda_Letter___init__) ct_Letter___init__ cc_Letter___init__), sl_Letter___init__⟩)
    (q_Letter___init__ : PySem.W.codeIn K (.ref cda_Letter___init__) "Letter.__init__" = true)
    (fo1_Letter___init__ : K.lookup cda_Letter___init__ = some fo_Letter___init__)
    (fo2_Letter___init__ : fo_Letter___init__.data = .fields fv_Letter___init__)
    (fo3_Letter___init__ : fv_Letter___init__[2]? = some (.str ff_Letter___init__ ft_Letter___init__))
    (fo4_Letter___init__ : ((P.main.file : Str) == ff_Letter___init__) = true)
    (ce_Letter___init__ : ∃ o : Obj, K.lookup cc_Letter___init__ = some o ∧ o.data = .cell (some (.ref A_Letter)))
    (ci_Letter___init__ : ∃ cd, PySem.W.clsIn K A_Letter = some cd)
    (tp_Letter___init__ : (P.main.scope.names.lookup ("super" : Str)).isSome = false)
    (ns_Letter___init__ : PySem.W.nsIn K mainGlobals "super" = some none)
    (th_Letter___init__ : PySem.W.nsIn K cStatics "thirdparty.any" = some none)
    (sm_Letter___init___Letter : PySem.W.mroIn K A_Letter (.ref A_Letter) = some true ∧ PySem.W.ks_superIn K A_Letter A_Letter "__init__" = some (some (.ref f_Pattern___init___)) ∧ PySem.W.typeIn K (.ref f_Pattern___init___) = some (.type "function") ∧ PySem.W.fnIn K f_Pattern___init___ = true)
    (a__law_no_edit : PySem.W.nsIn K mainGlobals "_law_no_edit" = some (some (.ref f__law_no_edit_)))
    (l__law_no_edit : K.lookup f__law_no_edit_ = some ⟨oc__law_no_edit, od__law_no_edit, .func (PySem.W.fnOf "_law_no_edit" "_law_no_edit" (defArgs s__law_no_edit) (defBody s__law_no_edit) (defScope s__law_no_edit) .none kv__law_no_edit dc__law_no_edit pm__law_no_edit an__law_no_edit cd__law_no_edit ct__law_no_edit), sl__law_no_edit⟩)
    (q__law_no_edit : PySem.W.codeIn K cd__law_no_edit "_law_no_edit" = true)
    (k__law_no_edit : PySem.W.keepIn K (.ref f__law_no_edit_) = true)
    (a__law_right : PySem.W.nsIn K mainGlobals "_law_right" = some (some (.ref f__law_right_)))
    (l__law_right : K.lookup f__law_right_ = some ⟨oc__law_right, od__law_right, .func (PySem.W.fnOf "_law_right" "_law_right" (defArgs s__law_right) (defBody s__law_right) (defScope s__law_right) .none kv__law_right dc__law_right pm__law_right an__law_right (.ref cd__law_right) ct__law_right), sl__law_right⟩)
    (q__law_right : PySem.W.codeIn K (.ref cd__law_right) "_law_right" = true)
    (k__law_right : PySem.W.keepIn K (.ref f__law_right_) = true)
    (a_law : PySem.W.nsIn K mainGlobals "law" = some (some (.ref f_law_)))
    (l_law : K.lookup f_law_ = some ⟨oc_law, od_law, .func (PySem.W.fnOf "law" "law" (defArgs s_law) (defBody s_law) (defScope s_law) .none kv_law dc_law pm_law an_law (.ref cd_law) ct_law), sl_law⟩)
    (q_law : PySem.W.codeIn K (.ref cd_law) "law" = true)
    (k_law : PySem.W.keepIn K (.ref f_law_) = true)
    (a_KINDS : PySem.W.nsIn K mainGlobals "KINDS" = some (some (.ref ka_KINDS)))
    (l_KINDS : K.lookup ka_KINDS = some ⟨.type "dict", none, .dict (List.toArray [⟨kh_KINDS_0, .str "set" kt_KINDS_0, .ref kp_KINDS_0⟩, ⟨kh_KINDS_1, .str "remove" kt_KINDS_1, .ref kp_KINDS_1⟩, ⟨kh_KINDS_2, .str "rename" kt_KINDS_2, .ref kp_KINDS_2⟩, ⟨kh_KINDS_3, .str "rewrite" kt_KINDS_3, .ref kp_KINDS_3⟩, ⟨kh_KINDS_4, .str "promise" kt_KINDS_4, .ref kp_KINDS_4⟩, ⟨kh_KINDS_5, .str "drop" kt_KINDS_5, .ref kp_KINDS_5⟩]) kn_KINDS, #[]⟩)
    (y_KINDS : PySem.W.KeysLit w.params [⟨kh_KINDS_0, .str "set" kt_KINDS_0, .ref kp_KINDS_0⟩, ⟨kh_KINDS_1, .str "remove" kt_KINDS_1, .ref kp_KINDS_1⟩, ⟨kh_KINDS_2, .str "rename" kt_KINDS_2, .ref kp_KINDS_2⟩, ⟨kh_KINDS_3, .str "rewrite" kt_KINDS_3, .ref kp_KINDS_3⟩, ⟨kh_KINDS_4, .str "promise" kt_KINDS_4, .ref kp_KINDS_4⟩, ⟨kh_KINDS_5, .str "drop" kt_KINDS_5, .ref kp_KINDS_5⟩])
    (e_KINDS_0 : K.lookup kp_KINDS_0 = some ⟨.type "tuple", kd_KINDS_0, .seq #[.int 2 k2_KINDS_0, .ref f_set_words_] km_KINDS_0, ks_KINDS_0⟩)
    (e_KINDS_1 : K.lookup kp_KINDS_1 = some ⟨.type "tuple", kd_KINDS_1, .seq #[.int 1 k2_KINDS_1, .ref f_name_words_] km_KINDS_1, ks_KINDS_1⟩)
    (e_KINDS_2 : K.lookup kp_KINDS_2 = some ⟨.type "tuple", kd_KINDS_2, .seq #[.int 2 k2_KINDS_2, .ref f_name_words_] km_KINDS_2, ks_KINDS_2⟩)
    (e_KINDS_3 : K.lookup kp_KINDS_3 = some ⟨.type "tuple", kd_KINDS_3, .seq #[.int 4 k2_KINDS_3, .ref f_rewrite_words_] km_KINDS_3, ks_KINDS_3⟩)
    (e_KINDS_4 : K.lookup kp_KINDS_4 = some ⟨.type "tuple", kd_KINDS_4, .seq #[.int 4 k2_KINDS_4, .ref f_promise_words_] km_KINDS_4, ks_KINDS_4⟩)
    (e_KINDS_5 : K.lookup kp_KINDS_5 = some ⟨.type "tuple", kd_KINDS_5, .seq #[.int 1 k2_KINDS_5, .ref f_drop_words_] km_KINDS_5, ks_KINDS_5⟩)
    (o_KINDS : (ka_KINDS == sysModules) = false)
    (t1__law_right : K.lookup cd__law_right = some to__law_right)
    (t2__law_right : to__law_right.data = .fields tv__law_right)
    (t3__law_right : tv__law_right[11]? = some (.ref pt__law_right))
    (t1_law : K.lookup cd_law = some to_law)
    (t2_law : to_law.data = .fields tv_law)
    (t3_law : tv_law[11]? = some (.ref pt_law))
    (htb : tabsOf K ["_law_right", "law"] = [(pt__law_right, ("_law_right.<locals>.<lambda>" : Str)), (pt_law, ("law.<locals>.<lambda>" : Str))] ∧ csOf K ["_law_right", "law"] = [(cd__law_right, pt__law_right), (cd_law, pt_law)])
    (hpd : [pt__law_right, pt_law].Nodup)
    (hlaw : ∀ ns : List Int, ns.length ≤ 63 → ∃ st, f_law [.scr ns] [] = .ok (.bl true) st) :
    ∃ fd : FuncData, (∀ (s : Shared) (u : Value), BindsTo s fd ⟨[u], []⟩ [("script", u)]) ∧ ∀ base : Heap, K.In base → base.Ns mainGlobals mg → (∀ p ∈ csOf K ["_law_right", "law"], LamX.TabB base mg p.1 p.2) → (∃ o, base.get? sysModules = some o) → FnG P w K mg base LV_law fa fd ["script"] (@spLaw (⟨tabsOf K ["_law_right", "law"], JP.no, none⟩ : Tb) K) := by
  have e := hfa.symm.trans (PySem.W.mg_of X G a_law)
  cases e
  letI : Tb := (⟨tabsOf K ["_law_right", "law"], JP.no, none⟩ : Tb)
  have nc : Tb.cs = none := rfl
  have nj : Tb.j = JP.no := rfl
  have T : TxtP K mg := {
    n_abs := PySem.W.mg_none_of X G n_abs
    n_all := PySem.W.mg_none_of X G n_all
    n_any := PySem.W.mg_none_of X G n_any
    n_bool := PySem.W.mg_none_of X G n_bool
    n_enumerate := PySem.W.mg_none_of X G n_enumerate
    n_int := PySem.W.mg_none_of X G n_int
    n_isinstance := PySem.W.mg_none_of X G n_isinstance
    n_len := PySem.W.mg_none_of X G n_len
    n_max := PySem.W.mg_none_of X G n_max
    n_min := PySem.W.mg_none_of X G n_min
    n_range := PySem.W.mg_none_of X G n_range
    n_repr := PySem.W.mg_none_of X G n_repr
    n_set := PySem.W.mg_none_of X G n_set
    n_sorted := PySem.W.mg_none_of X G n_sorted
    n_str := PySem.W.mg_none_of X G n_str
    n_sum := PySem.W.mg_none_of X G n_sum
    n_tuple := PySem.W.mg_none_of X G n_tuple
    n_zip := PySem.W.mg_none_of X G n_zip
    c_BACK := ⟨_, PySem.W.mg_of X G c_BACK, rel_txt v_BACK⟩
    c_DIGITS := ⟨_, PySem.W.mg_of X G c_DIGITS, rel_txt v_DIGITS⟩
    c_LETTER := ⟨_, PySem.W.mg_of X G c_LETTER, rel_txt v_LETTER⟩
    c_LETTERS := ⟨_, PySem.W.mg_of X G c_LETTERS, rel_txt v_LETTERS⟩
    c_MAX_COST := ⟨_, PySem.W.mg_of X G c_MAX_COST, rel_num⟩
    c_MAX_DEPTH := ⟨_, PySem.W.mg_of X G c_MAX_DEPTH, rel_num⟩
    c_MAX_DIGITS := ⟨_, PySem.W.mg_of X G c_MAX_DIGITS, rel_num⟩
    c_MAX_LETTERS := ⟨_, PySem.W.mg_of X G c_MAX_LETTERS, rel_num⟩
    c_MAX_NAME := ⟨_, PySem.W.mg_of X G c_MAX_NAME, rel_num⟩
    c_MAX_NODES := ⟨_, PySem.W.mg_of X G c_MAX_NODES, rel_num⟩
    c_MAX_PLACES := ⟨_, PySem.W.mg_of X G c_MAX_PLACES, rel_num⟩
    c_MAX_ROWS := ⟨_, PySem.W.mg_of X G c_MAX_ROWS, rel_num⟩
    c_MAX_STATES := ⟨_, PySem.W.mg_of X G c_MAX_STATES, rel_num⟩
    c_MAX_STEPS := ⟨_, PySem.W.mg_of X G c_MAX_STEPS, rel_num⟩
    c_MOST_CAP := ⟨_, PySem.W.mg_of X G c_MOST_CAP, rel_num⟩
    c_MOST_INDEX := ⟨_, PySem.W.mg_of X G c_MOST_INDEX, rel_num⟩
    c_NOTHING := ⟨_, PySem.W.mg_of X G c_NOTHING, rel_txt v_NOTHING⟩
    c_PUMP := ⟨_, PySem.W.mg_of X G c_PUMP, rel_txt v_PUMP⟩
    c_SIGNS := ⟨_, PySem.W.mg_of X G c_SIGNS, rel_txt v_SIGNS⟩
    c_THEN := ⟨_, PySem.W.mg_of X G c_THEN, rel_txt v_THEN⟩
    g_Pattern := ⟨_, PySem.W.mg_of X G g_Pattern⟩
    x_LimitError := ⟨_, x_LimitError.f X G⟩
    x_InvalidMachine := ⟨_, x_InvalidMachine.f X G⟩
    x_InvalidRecipe := ⟨_, x_InvalidRecipe.f X G⟩
    x_InvalidPattern := ⟨_, x_InvalidPattern.f X G⟩
    x_InvalidOperation := ⟨_, x_InvalidOperation.f X G⟩
    x_ParseError := ⟨_, x_ParseError.f X G⟩
    sub_LimitError := fun hC c b C hb hc => by
      cases hC.symm.trans (PySem.W.mg_of X G x_LimitError.gC)
      unfold sub_LimitError at hb
      split at hb
      · rename_i e; subst e; cases hb; cases hc.symm.trans (PySem.W.mg_of X G x_LimitError.gC); exact x_LimitError.exm s_LimitError_LimitError
      split at hb
      · rename_i e; subst e; cases hb; cases hc.symm.trans (PySem.W.mg_of X G x_InvalidMachine.gC); exact x_LimitError.exm s_LimitError_InvalidMachine
      split at hb
      · rename_i e; subst e; cases hb; cases hc.symm.trans (PySem.W.mg_of X G x_InvalidRecipe.gC); exact x_LimitError.exm s_LimitError_InvalidRecipe
      split at hb
      · rename_i e; subst e; cases hb; cases hc.symm.trans (PySem.W.mg_of X G x_InvalidPattern.gC); exact x_LimitError.exm s_LimitError_InvalidPattern
      split at hb
      · rename_i e; subst e; cases hb; cases hc.symm.trans (PySem.W.mg_of X G x_InvalidOperation.gC); exact x_LimitError.exm s_LimitError_InvalidOperation
      split at hb
      · rename_i e; subst e; cases hb; cases hc.symm.trans (PySem.W.mg_of X G x_ParseError.gC); exact x_LimitError.exm s_LimitError_ParseError
      cases hb
    is_InvalidMachine := fun hC c b C hb hc => by
      cases hC.symm.trans (PySem.W.mg_of X G x_InvalidMachine.gC)
      unfold is_InvalidMachine at hb
      split at hb
      · rename_i e; subst e; cases hb; cases hc.symm.trans (PySem.W.mg_of X G x_LimitError.gC); exact ⟨x_LimitError.c, x_InvalidMachine.kit s_InvalidMachine_LimitError (fun z => absurd z d_InvalidMachine_LimitError)⟩
      split at hb
      · rename_i e; subst e; cases hb; cases hc.symm.trans (PySem.W.mg_of X G x_InvalidMachine.gC); exact ⟨x_InvalidMachine.c, x_InvalidMachine.kit s_InvalidMachine_InvalidMachine (fun _ => rfl)⟩
      split at hb
      · rename_i e; subst e; cases hb; cases hc.symm.trans (PySem.W.mg_of X G x_InvalidRecipe.gC); exact ⟨x_InvalidRecipe.c, x_InvalidMachine.kit s_InvalidMachine_InvalidRecipe (fun z => absurd z d_InvalidMachine_InvalidRecipe)⟩
      split at hb
      · rename_i e; subst e; cases hb; cases hc.symm.trans (PySem.W.mg_of X G x_InvalidPattern.gC); exact ⟨x_InvalidPattern.c, x_InvalidMachine.kit s_InvalidMachine_InvalidPattern (fun z => absurd z d_InvalidMachine_InvalidPattern)⟩
      split at hb
      · rename_i e; subst e; cases hb; cases hc.symm.trans (PySem.W.mg_of X G x_InvalidOperation.gC); exact ⟨x_InvalidOperation.c, x_InvalidMachine.kit s_InvalidMachine_InvalidOperation (fun z => absurd z d_InvalidMachine_InvalidOperation)⟩
      split at hb
      · rename_i e; subst e; cases hb; cases hc.symm.trans (PySem.W.mg_of X G x_ParseError.gC); exact ⟨x_ParseError.c, x_InvalidMachine.kit s_InvalidMachine_ParseError (fun z => absurd z d_InvalidMachine_ParseError)⟩
      cases hb
    is_InvalidOperation := fun hC c b C hb hc => by
      cases hC.symm.trans (PySem.W.mg_of X G x_InvalidOperation.gC)
      unfold is_InvalidOperation at hb
      split at hb
      · rename_i e; subst e; cases hb; cases hc.symm.trans (PySem.W.mg_of X G x_LimitError.gC); exact ⟨x_LimitError.c, x_InvalidOperation.kit s_InvalidOperation_LimitError (fun z => absurd z d_InvalidOperation_LimitError)⟩
      split at hb
      · rename_i e; subst e; cases hb; cases hc.symm.trans (PySem.W.mg_of X G x_InvalidMachine.gC); exact ⟨x_InvalidMachine.c, x_InvalidOperation.kit s_InvalidOperation_InvalidMachine (fun z => absurd z d_InvalidOperation_InvalidMachine)⟩
      split at hb
      · rename_i e; subst e; cases hb; cases hc.symm.trans (PySem.W.mg_of X G x_InvalidRecipe.gC); exact ⟨x_InvalidRecipe.c, x_InvalidOperation.kit s_InvalidOperation_InvalidRecipe (fun z => absurd z d_InvalidOperation_InvalidRecipe)⟩
      split at hb
      · rename_i e; subst e; cases hb; cases hc.symm.trans (PySem.W.mg_of X G x_InvalidPattern.gC); exact ⟨x_InvalidPattern.c, x_InvalidOperation.kit s_InvalidOperation_InvalidPattern (fun z => absurd z d_InvalidOperation_InvalidPattern)⟩
      split at hb
      · rename_i e; subst e; cases hb; cases hc.symm.trans (PySem.W.mg_of X G x_InvalidOperation.gC); exact ⟨x_InvalidOperation.c, x_InvalidOperation.kit s_InvalidOperation_InvalidOperation (fun _ => rfl)⟩
      split at hb
      · rename_i e; subst e; cases hb; cases hc.symm.trans (PySem.W.mg_of X G x_ParseError.gC); exact ⟨x_ParseError.c, x_InvalidOperation.kit s_InvalidOperation_ParseError (fun z => absurd z d_InvalidOperation_ParseError)⟩
      cases hb
    is_InvalidRecipe := fun hC c b C hb hc => by
      cases hC.symm.trans (PySem.W.mg_of X G x_InvalidRecipe.gC)
      unfold is_InvalidRecipe at hb
      split at hb
      · rename_i e; subst e; cases hb; cases hc.symm.trans (PySem.W.mg_of X G x_LimitError.gC); exact ⟨x_LimitError.c, x_InvalidRecipe.kit s_InvalidRecipe_LimitError (fun z => absurd z d_InvalidRecipe_LimitError)⟩
      split at hb
      · rename_i e; subst e; cases hb; cases hc.symm.trans (PySem.W.mg_of X G x_InvalidMachine.gC); exact ⟨x_InvalidMachine.c, x_InvalidRecipe.kit s_InvalidRecipe_InvalidMachine (fun z => absurd z d_InvalidRecipe_InvalidMachine)⟩
      split at hb
      · rename_i e; subst e; cases hb; cases hc.symm.trans (PySem.W.mg_of X G x_InvalidRecipe.gC); exact ⟨x_InvalidRecipe.c, x_InvalidRecipe.kit s_InvalidRecipe_InvalidRecipe (fun _ => rfl)⟩
      split at hb
      · rename_i e; subst e; cases hb; cases hc.symm.trans (PySem.W.mg_of X G x_InvalidPattern.gC); exact ⟨x_InvalidPattern.c, x_InvalidRecipe.kit s_InvalidRecipe_InvalidPattern (fun z => absurd z d_InvalidRecipe_InvalidPattern)⟩
      split at hb
      · rename_i e; subst e; cases hb; cases hc.symm.trans (PySem.W.mg_of X G x_InvalidOperation.gC); exact ⟨x_InvalidOperation.c, x_InvalidRecipe.kit s_InvalidRecipe_InvalidOperation (fun z => absurd z d_InvalidRecipe_InvalidOperation)⟩
      split at hb
      · rename_i e; subst e; cases hb; cases hc.symm.trans (PySem.W.mg_of X G x_ParseError.gC); exact ⟨x_ParseError.c, x_InvalidRecipe.kit s_InvalidRecipe_ParseError (fun z => absurd z d_InvalidRecipe_ParseError)⟩
      cases hb
    is_ParseError := fun hC c b C hb hc => by
      cases hC.symm.trans (PySem.W.mg_of X G x_ParseError.gC)
      unfold is_ParseError at hb
      split at hb
      · rename_i e; subst e; cases hb; cases hc.symm.trans (PySem.W.mg_of X G x_LimitError.gC); exact ⟨x_LimitError.c, x_ParseError.kit s_ParseError_LimitError (fun z => absurd z d_ParseError_LimitError)⟩
      split at hb
      · rename_i e; subst e; cases hb; cases hc.symm.trans (PySem.W.mg_of X G x_InvalidMachine.gC); exact ⟨x_InvalidMachine.c, x_ParseError.kit s_ParseError_InvalidMachine (fun z => absurd z d_ParseError_InvalidMachine)⟩
      split at hb
      · rename_i e; subst e; cases hb; cases hc.symm.trans (PySem.W.mg_of X G x_InvalidRecipe.gC); exact ⟨x_InvalidRecipe.c, x_ParseError.kit s_ParseError_InvalidRecipe (fun z => absurd z d_ParseError_InvalidRecipe)⟩
      split at hb
      · rename_i e; subst e; cases hb; cases hc.symm.trans (PySem.W.mg_of X G x_InvalidPattern.gC); exact ⟨x_InvalidPattern.c, x_ParseError.kit s_ParseError_InvalidPattern (fun z => absurd z d_ParseError_InvalidPattern)⟩
      split at hb
      · rename_i e; subst e; cases hb; cases hc.symm.trans (PySem.W.mg_of X G x_InvalidOperation.gC); exact ⟨x_InvalidOperation.c, x_ParseError.kit s_ParseError_InvalidOperation (fun z => absurd z d_ParseError_InvalidOperation)⟩
      split at hb
      · rename_i e; subst e; cases hb; cases hc.symm.trans (PySem.W.mg_of X G x_ParseError.gC); exact ⟨x_ParseError.c, x_ParseError.kit s_ParseError_ParseError (fun _ => rfl)⟩
      cases hb
    fld_own_letters := fun c C hp hc => by
      simp only [isConc, Bool.or_eq_true, decide_eq_true_eq] at hp
      subst hp; cases hc.symm.trans (PySem.W.mg_of X G g_Letter); exact ⟨cl_Letter, nf_Letter_own_letters⟩
    fld_own_levels := fun c C hp hc => by
      simp only [isConc, Bool.or_eq_true, decide_eq_true_eq] at hp
      subst hp; cases hc.symm.trans (PySem.W.mg_of X G g_Letter); exact ⟨cl_Letter, nf_Letter_own_levels⟩
    fld_own_nodes := fun c C hp hc => by
      simp only [isConc, Bool.or_eq_true, decide_eq_true_eq] at hp
      subst hp; cases hc.symm.trans (PySem.W.mg_of X G g_Letter); exact ⟨cl_Letter, nf_Letter_own_nodes⟩
    fld_own_open := fun c C hp hc => by
      simp only [isConc, Bool.or_eq_true, decide_eq_true_eq] at hp
      subst hp; cases hc.symm.trans (PySem.W.mg_of X G g_Letter); exact ⟨cl_Letter, nf_Letter_own_open⟩
    fld_own_pieces := fun c C hp hc => by
      simp only [isConc, Bool.or_eq_true, decide_eq_true_eq] at hp
      subst hp; cases hc.symm.trans (PySem.W.mg_of X G g_Letter); exact ⟨cl_Letter, nf_Letter_own_pieces⟩
    fld_own_places := fun c C hp hc => by
      simp only [isConc, Bool.or_eq_true, decide_eq_true_eq] at hp
      subst hp; cases hc.symm.trans (PySem.W.mg_of X G g_Letter); exact ⟨cl_Letter, nf_Letter_own_places⟩
    fld_own_text := fun c C hp hc => by
      simp only [isConc, Bool.or_eq_true, decide_eq_true_eq] at hp
      subst hp; cases hc.symm.trans (PySem.W.mg_of X G g_Letter); exact ⟨cl_Letter, nf_Letter_own_text⟩
    isT := IsT.mk (fun d Dd hd hm => by
      simp only [isConc, Bool.or_eq_true, decide_eq_true_eq] at hd
      subst hd; cases hm.symm.trans (PySem.W.mg_of X G g_Letter); exact ⟨in_Letter, kt_Letter⟩
      ) (fun y d b Y Dd hs hy hd => by
      unfold isSub at hs
      split at hs
      · rename_i e; obtain ⟨rfl, rfl⟩ := e; cases hs; cases hy.symm.trans (PySem.W.mg_of X G g_Pattern); cases hd.symm.trans (PySem.W.mg_of X G g_Letter); exact ⟨in_Letter, ks_Letter_Pattern⟩
      cases hs
      ) (fun y Y hy hm => by
      simp only [isYs, Bool.or_eq_true, decide_eq_true_eq] at hy
      subst hy; cases hm.symm.trans (PySem.W.mg_of X G g_Pattern); exact kz_Pattern
      )
    }
  have T2 : Txt2 P w K mg := {
    c_EXACT := by
      rw [Bool.and_eq_true, decide_eq_true_eq] at v_EXACT
      exact ⟨_, .ref _, PySem.W.mg_of X G c_EXACT, rfl, tupS l_EXACT v_EXACT.1 v_EXACT.2⟩
    c_ROUGH := by
      rw [Bool.and_eq_true, decide_eq_true_eq] at v_ROUGH
      exact ⟨_, .ref _, PySem.W.mg_of X G c_ROUGH, rfl, tupS l_ROUGH v_ROUGH.1 v_ROUGH.2⟩
    one := trivial
    k_KINDS := KDc.of (PySem.W.mg_of X G a_KINDS) l_KINDS y_KINDS o_KINDS (.cons (v := .ref kp_KINDS_0) rfl (tup2K e_KINDS_0 (PySem.W.mg_of X G a_set_words)) (.cons (v := .ref kp_KINDS_1) rfl (tup2K e_KINDS_1 (PySem.W.mg_of X G a_name_words)) (.cons (v := .ref kp_KINDS_2) rfl (tup2K e_KINDS_2 (PySem.W.mg_of X G a_name_words)) (.cons (v := .ref kp_KINDS_3) rfl (tup2K e_KINDS_3 (PySem.W.mg_of X G a_rewrite_words)) (.cons (v := .ref kp_KINDS_4) rfl (tup2K e_KINDS_4 (PySem.W.mg_of X G a_promise_words)) (.cons (v := .ref kp_KINDS_5) rfl (tup2K e_KINDS_5 (PySem.W.mg_of X G a_drop_words)) .nil))))))
    }
  have U_is_sign := fun_mk (st := s_is_sign) l_is_sign q_is_sign k_is_sign
  have B_is_sign := U_is_sign.binds (ps := ["value"]) fun _ _ _ _ _ _ us hl => match us, hl with | [_], _ => rfl
  have U_is_alphabet := fun_mk (st := s_is_alphabet) l_is_alphabet q_is_alphabet k_is_alphabet
  have B_is_alphabet := U_is_alphabet.binds (ps := ["value"]) fun _ _ _ _ _ _ us hl => match us, hl with | [_], _ => rfl
  have U_is_integer := fun_mk (st := s_is_integer) l_is_integer q_is_integer k_is_integer
  have B_is_integer := U_is_integer.binds (ps := ["value", "low", "high"]) fun _ _ _ _ _ _ us hl => match us, hl with | [_, _, _], _ => rfl
  have U_is_letter := fun_mk (st := s_is_letter) l_is_letter q_is_letter k_is_letter
  have B_is_letter := U_is_letter.binds (ps := ["alphabet", "value"]) fun _ _ _ _ _ _ us hl => match us, hl with | [_, _], _ => rfl
  have U_is_recipe_row := fun_mk (st := s_is_recipe_row) l_is_recipe_row q_is_recipe_row k_is_recipe_row
  have B_is_recipe_row := U_is_recipe_row.binds (ps := ["alphabet", "place", "row"]) fun _ _ _ _ _ _ us hl => match us, hl with | [_, _, _], _ => rfl
  have U_is_recipe_in := fun_mk (st := s_is_recipe_in) l_is_recipe_in q_is_recipe_in k_is_recipe_in
  have B_is_recipe_in := U_is_recipe_in.binds (ps := ["alphabet", "value"]) fun _ _ _ _ _ _ us hl => match us, hl with | [_, _], _ => rfl
  have U_signs_in := fun_mk (st := s_signs_in) l_signs_in q_signs_in k_signs_in
  have B_signs_in := U_signs_in.binds (ps := ["value"]) fun _ _ _ _ _ _ us hl => match us, hl with | [_], _ => rfl
  have U_rows_text := fun_mk (st := s_rows_text) l_rows_text q_rows_text k_rows_text
  have B_rows_text := U_rows_text.binds (ps := ["recipe"]) fun _ _ _ _ _ _ us hl => match us, hl with | [_], _ => rfl
  have U_recipe_text := fun_mk (st := s_recipe_text) l_recipe_text q_recipe_text k_recipe_text
  have B_recipe_text := U_recipe_text.binds (ps := ["recipe"]) fun _ _ _ _ _ _ us hl => match us, hl with | [_], _ => rfl
  have U__law_stream := fun_mk (st := s__law_stream) l__law_stream q__law_stream k__law_stream
  have B__law_stream := U__law_stream.binds (ps := ["script", "at"]) fun _ _ _ _ _ _ us hl => match us, hl with | [_, _], _ => rfl
  have U__law_error := fun_mk (st := s__law_error) l__law_error q__law_error k__law_error
  have B__law_error := U__law_error.binds (ps := ["call"]) fun _ _ _ _ _ _ us hl => match us, hl with | [_], _ => rfl
  have U_are_ascending := fun_mk (st := s_are_ascending) l_are_ascending q_are_ascending k_are_ascending
  have B_are_ascending := U_are_ascending.binds (ps := ["items"]) fun _ _ _ _ _ _ us hl => match us, hl with | [_], _ => rfl
  have U_are_states := fun_mk (st := s_are_states) l_are_states q_are_states k_are_states
  have B_are_states := U_are_states.binds (ps := ["size", "value"]) fun _ _ _ _ _ _ us hl => match us, hl with | [_, _], _ => rfl
  have U_is_step := fun_mk (st := s_is_step) l_is_step q_is_step k_is_step
  have B_is_step := U_is_step.binds (ps := ["alphabet", "size", "value"]) fun _ _ _ _ _ _ us hl => match us, hl with | [_, _, _], _ => rfl
  have U_is_machine := fun_mk (st := s_is_machine) l_is_machine q_is_machine k_is_machine
  have B_is_machine := U_is_machine.binds (ps := ["value"]) fun _ _ _ _ _ _ us hl => match us, hl with | [_], _ => rfl
  have U_require_machine := fun_mk (st := s_require_machine) l_require_machine q_require_machine k_require_machine
  have B_require_machine := U_require_machine.binds (ps := ["machine"]) fun _ _ _ _ _ _ us hl => match us, hl with | [_], _ => rfl
  have U_numbers_text := fun_mk (st := s_numbers_text) l_numbers_text q_numbers_text k_numbers_text
  have B_numbers_text := U_numbers_text.binds (ps := ["numbers", "separator"]) fun _ _ _ _ _ _ us hl => match us, hl with | [_, _], _ => rfl
  have U_step_text := fun_mk (st := s_step_text) l_step_text q_step_text k_step_text
  have B_step_text := U_step_text.binds (ps := ["step"]) fun _ _ _ _ _ _ us hl => match us, hl with | [_], _ => rfl
  have U_machine_text := fun_mk (st := s_machine_text) l_machine_text q_machine_text k_machine_text
  have B_machine_text := U_machine_text.binds (ps := ["machine"]) fun _ _ _ _ _ _ us hl => match us, hl with | [_], _ => rfl
  have U_lines_of := fun_mk (st := s_lines_of) l_lines_of q_lines_of k_lines_of
  have B_lines_of := U_lines_of.binds (ps := ["text"]) fun _ _ _ _ _ _ us hl => match us, hl with | [_], _ => rfl
  have U_number_of := fun_mk (st := s_number_of) l_number_of q_number_of k_number_of
  have B_number_of := U_number_of.binds (ps := ["text"]) fun _ _ _ _ _ _ us hl => match us, hl with | [_], _ => rfl
  have U_parsed_step := fun_mk (st := s_parsed_step) l_parsed_step q_parsed_step k_parsed_step
  have B_parsed_step := U_parsed_step.binds (ps := ["words"]) fun _ _ _ _ _ _ us hl => match us, hl with | [_], _ => rfl
  have U_numbers_of := fun_mk (st := s_numbers_of) l_numbers_of q_numbers_of k_numbers_of
  have B_numbers_of := U_numbers_of.binds (ps := ["text", "separator"]) fun _ _ _ _ _ _ us hl => match us, hl with | [_, _], _ => rfl
  have U_parsed_head := fun_mk (st := s_parsed_head) l_parsed_head q_parsed_head k_parsed_head
  have B_parsed_head := U_parsed_head.binds (ps := ["words"]) fun _ _ _ _ _ _ us hl => match us, hl with | [_], _ => rfl
  have U_parse_machine := fun_mk (st := s_parse_machine) l_parse_machine q_parse_machine k_parse_machine
  have B_parse_machine := U_parse_machine.binds (ps := ["text"]) fun _ _ _ _ _ _ us hl => match us, hl with | [_], _ => rfl
  have U_parsed_row := fun_mk (st := s_parsed_row) l_parsed_row q_parsed_row k_parsed_row
  have B_parsed_row := U_parsed_row.binds (ps := ["words"]) fun _ _ _ _ _ _ us hl => match us, hl with | [_], _ => rfl
  have U_parse_recipe := fun_mk (st := s_parse_recipe) l_parse_recipe q_parse_recipe k_parse_recipe
  have B_parse_recipe := U_parse_recipe.binds (ps := ["alphabet", "text"]) fun _ _ _ _ _ _ us hl => match us, hl with | [_, _], _ => rfl
  have U_is_pattern := fun_mk (st := s_is_pattern) l_is_pattern q_is_pattern k_is_pattern
  have B_is_pattern := U_is_pattern.binds (ps := ["value"]) fun _ _ _ _ _ _ us hl => match us, hl with | [_], _ => rfl
  have U_is_name := fun_mk (st := s_is_name) l_is_name q_is_name k_is_name
  have B_is_name := U_is_name.binds (ps := ["value"]) fun _ _ _ _ _ _ us hl => match us, hl with | [_], _ => rfl
  have U_set_words := fun_mk (st := s_set_words) l_set_words q_set_words k_set_words
  have B_set_words := U_set_words.binds (ps := ["parts"]) fun _ _ _ _ _ _ us hl => match us, hl with | [_], _ => rfl
  have U_name_words := fun_mk (st := s_name_words) l_name_words q_name_words k_name_words
  have B_name_words := U_name_words.binds (ps := ["parts"]) fun _ _ _ _ _ _ us hl => match us, hl with | [_], _ => rfl
  have U_is_rule := fun_mk (st := s_is_rule) l_is_rule q_is_rule k_is_rule
  have B_is_rule := U_is_rule.binds (ps := ["value"]) fun _ _ _ _ _ _ us hl => match us, hl with | [_], _ => rfl
  have U_is_path := fun_mk (st := s_is_path) l_is_path q_is_path k_is_path
  have B_is_path := U_is_path.binds (ps := ["value"]) fun _ _ _ _ _ _ us hl => match us, hl with | [_], _ => rfl
  have U_rewrite_words := fun_mk (st := s_rewrite_words) l_rewrite_words q_rewrite_words k_rewrite_words
  have B_rewrite_words := U_rewrite_words.binds (ps := ["parts"]) fun _ _ _ _ _ _ us hl => match us, hl with | [_], _ => rfl
  have U_is_cap := fun_mk (st := s_is_cap) l_is_cap q_is_cap k_is_cap
  have B_is_cap := U_is_cap.binds (ps := ["value"]) fun _ _ _ _ _ _ us hl => match us, hl with | [_], _ => rfl
  have U_promise_words := fun_mk (st := s_promise_words) l_promise_words q_promise_words k_promise_words
  have B_promise_words := U_promise_words.binds (ps := ["parts"]) fun _ _ _ _ _ _ us hl => match us, hl with | [_], _ => rfl
  have U_drop_words := fun_mk (st := s_drop_words) l_drop_words q_drop_words k_drop_words
  have B_drop_words := U_drop_words.binds (ps := ["parts"]) fun _ _ _ _ _ _ us hl => match us, hl with | [_], _ => rfl
  have U_edit_words := fun_mk (st := s_edit_words) l_edit_words q_edit_words k_edit_words
  have B_edit_words := U_edit_words.binds (ps := ["edit"]) fun _ _ _ _ _ _ us hl => match us, hl with | [_], _ => rfl
  have U_edit_text := fun_mk (st := s_edit_text) l_edit_text q_edit_text k_edit_text
  have B_edit_text := U_edit_text.binds (ps := ["edit"]) fun _ _ _ _ _ _ us hl => match us, hl with | [_], _ => rfl
  have U_parsed_parts := fun_mk (st := s_parsed_parts) l_parsed_parts q_parsed_parts k_parsed_parts
  have B_parsed_parts := U_parsed_parts.binds (ps := ["word", "parts"]) fun _ _ _ _ _ _ us hl => match us, hl with | [_, _], _ => rfl
  have U_parsed_edit := fun_mk (st := s_parsed_edit) l_parsed_edit q_parsed_edit k_parsed_edit
  have B_parsed_edit := U_parsed_edit.binds (ps := ["words"]) fun _ _ _ _ _ _ us hl => match us, hl with | [_], _ => rfl
  have U_parse_edit := fun_mk (st := s_parse_edit) l_parse_edit q_parse_edit k_parse_edit
  have B_parse_edit := U_parse_edit.binds (ps := ["text"]) fun _ _ _ _ _ _ us hl => match us, hl with | [_], _ => rfl
  have U__law_draw := fun_mk (st := s__law_draw) l__law_draw q__law_draw k__law_draw
  have B__law_draw := U__law_draw.binds (ps := ["stream", "total"]) fun _ _ _ _ _ _ us hl => match us, hl with | [_, _], _ => rfl
  have U__law_pick := fun_mk (st := s__law_pick) l__law_pick q__law_pick k__law_pick
  have B__law_pick := U__law_pick.binds (ps := ["stream", "items"]) fun _ _ _ _ _ _ us hl => match us, hl with | [_, _], _ => rfl
  have U__law_other := fun_mk (st := s__law_other) l__law_other q__law_other k__law_other
  have B__law_other := U__law_other.binds (ps := ["stream"]) fun _ _ _ _ _ _ us hl => match us, hl with | [_], _ => rfl
  have U_require_pattern := fun_mk (st := s_require_pattern) l_require_pattern q_require_pattern k_require_pattern
  have B_require_pattern := U_require_pattern.binds (ps := ["value"]) fun _ _ _ _ _ _ us hl => match us, hl with | [_], _ => rfl
  have U_Pattern_check := fun_mk (st := s_Pattern_check) l_Pattern_check q_Pattern_check k_Pattern_check
  have B_Pattern_check := U_Pattern_check.binds (ps := ["self"]) fun _ _ _ _ _ _ us hl => match us, hl with | [_], _ => rfl
  have U_Pattern___init__ := fun_mk (st := s_Pattern___init__) l_Pattern___init__ q_Pattern___init__ k_Pattern___init__
  have U_Letter___init__ : FunK P K mg "__init__" "Letter.__init__" s_Letter___init__ f_Letter___init___ cc_Letter___init__ cda_Letter___init__ A_Letter := ⟨⟨_, _, _, _, _, _, _, _, l_Letter___init__⟩, q_Letter___init__, ⟨_, _, _, _, fo1_Letter___init__, fo2_Letter___init__, fo3_Letter___init__, fo4_Letter___init__⟩, ce_Letter___init__, ci_Letter___init__, tp_Letter___init__, PySem.W.mg_none_of X G ns_Letter___init__⟩
  have U__law_no_edit := fun_mk (st := s__law_no_edit) l__law_no_edit q__law_no_edit k__law_no_edit
  have B__law_no_edit := U__law_no_edit.binds (ps := ["stream"]) fun _ _ _ _ _ _ us hl => match us, hl with | [_], _ => rfl
  have U__law_right := funC_mk (st := s__law_right) l__law_right q__law_right k__law_right
  have B__law_right : Binds K (PySem.W.fnOf "_law_right" "_law_right" (defArgs s__law_right) (defBody s__law_right) (defScope s__law_right) .none kv__law_right dc__law_right pm__law_right an__law_right (.ref cd__law_right) ct__law_right) ["stream"] [] := .all fun us hl => match us, hl with | [_], _ => rfl
  have U_law := funC_mk (st := s_law) l_law q_law k_law
  have B_law : Binds K (PySem.W.fnOf "law" "law" (defArgs s_law) (defBody s_law) (defScope s_law) .none kv_law dc_law pm_law an_law (.ref cd_law) ct_law) ["script"] [] := .all fun us hl => match us, hl with | [_], _ => rfl
  refine ⟨PySem.W.fnOf "law" "law" (defArgs s_law) (defBody s_law) (defScope s_law) .none kv_law dc_law pm_law an_law (.ref cd_law) ct_law, fun s u => .of_eq rfl, fun base _ _ TBs SY => ?_⟩
  rw [htb.2] at TBs
  have TB__law_right : LamX.TabB base mg cd__law_right pt__law_right := TBs (cd__law_right, pt__law_right) (by simp)
  have hT__law_right : (pt__law_right, ("_law_right.<locals>.<lambda>" : Str)) ∈ Tb.T := by show _ ∈ tabsOf K _; rw [htb.1]; simp
  have hU__law_right : ∀ p ∈ Tb.T, p.1 = pt__law_right → p.2 = ("_law_right.<locals>.<lambda>" : Str) := by
    show ∀ p ∈ tabsOf K _, _
    rw [htb.1]
    intro p hp e
    simp only [List.mem_cons, List.not_mem_nil, or_false] at hp
    rcases hp with rfl | rfl <;> first | rfl | (exact absurd e (by simp only [List.nodup_cons, List.mem_cons, List.not_mem_nil, or_false, not_or, List.nodup_nil, and_true] at hpd; first | exact hpd | exact hpd.1 | exact fun z => hpd z.symm | (intro z; simp_all)))
  have TB_law : LamX.TabB base mg cd_law pt_law := TBs (cd_law, pt_law) (by simp)
  have hT_law : (pt_law, ("law.<locals>.<lambda>" : Str)) ∈ Tb.T := by show _ ∈ tabsOf K _; rw [htb.1]; simp
  have hU_law : ∀ p ∈ Tb.T, p.1 = pt_law → p.2 = ("law.<locals>.<lambda>" : Str) := by
    show ∀ p ∈ tabsOf K _, _
    rw [htb.1]
    intro p hp e
    simp only [List.mem_cons, List.not_mem_nil, or_false] at hp
    rcases hp with rfl | rfl <;> first | rfl | (exact absurd e (by simp only [List.nodup_cons, List.mem_cons, List.not_mem_nil, or_false, not_or, List.nodup_nil, and_true] at hpd; first | exact hpd | exact hpd.1 | exact fun z => hpd z.symm | (intro z; simp_all)))
  have F_is_sign := ok_is_sign (P := P) (w := w) (base := base) nc nj T T2  U_is_sign (PySem.W.mg_of X G a_is_sign) B_is_sign
  have F_is_alphabet := ok_is_alphabet (P := P) (w := w) (base := base) nc nj T T2 F_is_sign U_is_alphabet (PySem.W.mg_of X G a_is_alphabet) B_is_alphabet
  have F_is_integer := ok_is_integer (P := P) (w := w) (base := base) nc nj T T2  U_is_integer (PySem.W.mg_of X G a_is_integer) B_is_integer
  have F_is_letter := ok_is_letter (P := P) (w := w) (base := base) nc nj T T2 F_is_sign U_is_letter (PySem.W.mg_of X G a_is_letter) B_is_letter
  have F_is_recipe_row := ok_is_recipe_row (P := P) (w := w) (base := base) nc nj T T2 F_is_integer F_is_letter U_is_recipe_row (PySem.W.mg_of X G a_is_recipe_row) B_is_recipe_row
  have F_is_recipe_in := ok_is_recipe_in (P := P) (w := w) (base := base) nc nj T T2 F_is_recipe_row U_is_recipe_in (PySem.W.mg_of X G a_is_recipe_in) B_is_recipe_in
  have F_signs_in := ok_signs_in (P := P) (w := w) (base := base) nc nj T T2 F_is_sign U_signs_in (PySem.W.mg_of X G a_signs_in) B_signs_in
  have F_rows_text := ok_rows_text (P := P) (w := w) (base := base) nc nj T T2  U_rows_text (PySem.W.mg_of X G a_rows_text) B_rows_text
  have F_recipe_text := ok_recipe_text (P := P) (w := w) (base := base) nc nj T T2 F_is_alphabet F_is_recipe_in F_signs_in F_rows_text U_recipe_text (PySem.W.mg_of X G a_recipe_text) B_recipe_text
  have F__law_stream := ok__law_stream (P := P) (w := w) (base := base) nc nj T T2  U__law_stream (PySem.W.mg_of X G a__law_stream) B__law_stream
  have L__law_error := ok__law_error (P := P) (w := w) (base := base) nc nj T T2  U__law_error (PySem.W.mg_of X G a__law_error) B__law_error
  have F_are_ascending := ok_are_ascending (P := P) (w := w) (base := base) nc nj T T2  U_are_ascending (PySem.W.mg_of X G a_are_ascending) B_are_ascending
  have F_are_states := ok_are_states (P := P) (w := w) (base := base) nc nj T T2 F_is_integer F_are_ascending U_are_states (PySem.W.mg_of X G a_are_states) B_are_states
  have F_is_step := ok_is_step (P := P) (w := w) (base := base) nc nj T T2 F_is_integer F_is_letter U_is_step (PySem.W.mg_of X G a_is_step) B_is_step
  have F_is_machine := ok_is_machine (P := P) (w := w) (base := base) nc nj T T2 F_is_alphabet F_is_integer F_are_ascending F_are_states F_is_step U_is_machine (PySem.W.mg_of X G a_is_machine) B_is_machine
  have F_require_machine := ok_require_machine (P := P) (w := w) (base := base) nc nj T T2 F_is_machine U_require_machine (PySem.W.mg_of X G a_require_machine) B_require_machine
  have F_numbers_text := ok_numbers_text (P := P) (w := w) (base := base) nc nj T T2  U_numbers_text (PySem.W.mg_of X G a_numbers_text) B_numbers_text
  have F_step_text := ok_step_text (P := P) (w := w) (base := base) nc nj T T2  U_step_text (PySem.W.mg_of X G a_step_text) B_step_text
  have F_machine_text := ok_machine_text (P := P) (w := w) (base := base) nc nj T T2 F_require_machine F_numbers_text F_step_text U_machine_text (PySem.W.mg_of X G a_machine_text) B_machine_text
  have F_lines_of := ok_lines_of (P := P) (w := w) (base := base) nc nj T T2  U_lines_of (PySem.W.mg_of X G a_lines_of) B_lines_of
  have F_number_of := ok_number_of (P := P) (w := w) (base := base) nc nj T T2  U_number_of (PySem.W.mg_of X G a_number_of) B_number_of
  have F_parsed_step := ok_parsed_step (P := P) (w := w) (base := base) nc nj T T2 F_number_of U_parsed_step (PySem.W.mg_of X G a_parsed_step) B_parsed_step
  have F_numbers_of := ok_numbers_of (P := P) (w := w) (base := base) nc nj T T2 F_number_of U_numbers_of (PySem.W.mg_of X G a_numbers_of) B_numbers_of
  have F_parsed_head := ok_parsed_head (P := P) (w := w) (base := base) nc nj T T2 F_number_of F_numbers_of U_parsed_head (PySem.W.mg_of X G a_parsed_head) B_parsed_head
  have F_parse_machine := ok_parse_machine (P := P) (w := w) (base := base) nc nj T T2 F_is_machine F_machine_text F_lines_of F_parsed_step F_parsed_head U_parse_machine (PySem.W.mg_of X G a_parse_machine) B_parse_machine
  have F_parsed_row := ok_parsed_row (P := P) (w := w) (base := base) nc nj T T2 F_number_of U_parsed_row (PySem.W.mg_of X G a_parsed_row) B_parsed_row
  have F_parse_recipe := ok_parse_recipe (P := P) (w := w) (base := base) nc nj T T2 F_is_alphabet F_is_recipe_in F_lines_of F_parsed_row U_parse_recipe (PySem.W.mg_of X G a_parse_recipe) B_parse_recipe
  have F_is_pattern := ok_is_pattern (P := P) (w := w) (base := base) nc nj T T2  U_is_pattern (PySem.W.mg_of X G a_is_pattern) B_is_pattern
  have F_is_name := ok_is_name (P := P) (w := w) (base := base) nc nj T T2 F_is_sign U_is_name (PySem.W.mg_of X G a_is_name) B_is_name
  have F_set_words := ok_set_words (P := P) (w := w) (base := base) nc nj T T2 F_is_pattern F_is_name U_set_words (PySem.W.mg_of X G a_set_words) B_set_words
  have F_name_words := ok_name_words (P := P) (w := w) (base := base) nc nj T T2 F_is_name U_name_words (PySem.W.mg_of X G a_name_words) B_name_words
  have F_is_rule := ok_is_rule (P := P) (w := w) (base := base) nc nj T T2  U_is_rule (PySem.W.mg_of X G a_is_rule) B_is_rule
  have F_is_path := ok_is_path (P := P) (w := w) (base := base) nc nj T T2 F_is_integer U_is_path (PySem.W.mg_of X G a_is_path) B_is_path
  have F_rewrite_words := ok_rewrite_words (P := P) (w := w) (base := base) nc nj T T2 F_numbers_text F_is_name F_is_rule F_is_path U_rewrite_words (PySem.W.mg_of X G a_rewrite_words) B_rewrite_words
  have F_is_cap := ok_is_cap (P := P) (w := w) (base := base) nc nj T T2 F_is_integer U_is_cap (PySem.W.mg_of X G a_is_cap) B_is_cap
  have F_promise_words := ok_promise_words (P := P) (w := w) (base := base) nc nj T T2 F_is_name F_is_cap U_promise_words (PySem.W.mg_of X G a_promise_words) B_promise_words
  have F_drop_words := ok_drop_words (P := P) (w := w) (base := base) nc nj T T2 F_is_integer U_drop_words (PySem.W.mg_of X G a_drop_words) B_drop_words
  have GT : GlT P w K mg base LG tb_glob := fun x g hg => by
    unfold tb_glob at hg
    split at hg
    · rename_i e; subst e; cases hg; exact ⟨_, PySem.W.mg_of X G a_set_words, k_set_words, FnA.mono (fnA_of F_set_words (PySem.W.mg_of X G a_set_words)) (by decide)⟩
    split at hg
    · rename_i e; subst e; cases hg; exact ⟨_, PySem.W.mg_of X G a_name_words, k_name_words, FnA.mono (fnA_of F_name_words (PySem.W.mg_of X G a_name_words)) (by decide)⟩
    split at hg
    · rename_i e; subst e; cases hg; exact ⟨_, PySem.W.mg_of X G a_rewrite_words, k_rewrite_words, FnA.mono (fnA_of F_rewrite_words (PySem.W.mg_of X G a_rewrite_words)) (by decide)⟩
    split at hg
    · rename_i e; subst e; cases hg; exact ⟨_, PySem.W.mg_of X G a_promise_words, k_promise_words, FnA.mono (fnA_of F_promise_words (PySem.W.mg_of X G a_promise_words)) (by decide)⟩
    split at hg
    · rename_i e; subst e; cases hg; exact ⟨_, PySem.W.mg_of X G a_drop_words, k_drop_words, FnA.mono (fnA_of F_drop_words (PySem.W.mg_of X G a_drop_words)) (by decide)⟩
    cases hg
  have F_edit_words := ok_edit_words (P := P) (w := w) (base := base) nc nj T T2 GT U_edit_words (PySem.W.mg_of X G a_edit_words) B_edit_words
  have F_edit_text := ok_edit_text (P := P) (w := w) (base := base) nc nj T T2 F_edit_words U_edit_text (PySem.W.mg_of X G a_edit_text) B_edit_text
  have F_parsed_parts := ok_parsed_parts (P := P) (w := w) (base := base) nc nj T T2 F_number_of F_numbers_of U_parsed_parts (PySem.W.mg_of X G a_parsed_parts) B_parsed_parts
  have F_parsed_edit := ok_parsed_edit (P := P) (w := w) (base := base) nc nj T T2 F_parsed_parts U_parsed_edit (PySem.W.mg_of X G a_parsed_edit) B_parsed_edit
  have F_parse_edit := ok_parse_edit (P := P) (w := w) (base := base) nc nj T T2 F_edit_words F_parsed_edit U_parse_edit (PySem.W.mg_of X G a_parse_edit) B_parse_edit
  have F__law_draw := ok__law_draw (P := P) (w := w) (base := base) nc nj T T2  U__law_draw (PySem.W.mg_of X G a__law_draw) B__law_draw
  have F__law_pick := ok__law_pick (P := P) (w := w) (base := base) nc nj T T2 F__law_draw U__law_pick (PySem.W.mg_of X G a__law_pick) B__law_pick
  have F__law_other := ok__law_other (P := P) (w := w) (base := base) nc nj T T2 F__law_draw U__law_other (PySem.W.mg_of X G a__law_other) B__law_other
  have F_require_pattern := ok_require_pattern (P := P) (w := w) (base := base) nc nj T T2  U_require_pattern (PySem.W.mg_of X G a_require_pattern) B_require_pattern
  have F_Pattern_check := ok_Pattern_check (P := P) (w := w) (base := base) nc nj T T2  U_Pattern_check B_Pattern_check
  have M_check : MthT P w K mg base LM_check "check" tb_check := fun c C g hg hc => by
    unfold tb_check at hg
    split at hg
    · rename_i e; subst e; cases hg; cases hc.symm.trans (PySem.W.mg_of X G g_Letter); exact ⟨cl_Letter, _, me_Letter_check, F_Pattern_check.mono (by decide)⟩
    cases hg
  have F_Pattern___init__ := ok_Pattern___init__ (P := P) (w := w) (base := base) nc nj T T2 F_require_pattern M_check U_Pattern___init__ (fun us rest hl => match us, rest, hl with | [_], [], _ => rfl | [_], _ :: _, _ => rfl)
  have S_Letter___init__ : SupT P w K mg base LV_Pattern___init__ A_Letter "__init__" ts_Letter___init__ := ⟨th_Letter___init__, fun c C g hg hc => by
    unfold ts_Letter___init__ at hg
    split at hg
    · rename_i e; subst e; cases hg; cases hc.symm.trans (PySem.W.mg_of X G g_Letter); exact ⟨sm_Letter___init___Letter.1, _, sm_Letter___init___Letter.2.1, sm_Letter___init___Letter.2.2.1, sm_Letter___init___Letter.2.2.2, F_Pattern___init__⟩
    cases hg⟩
  have F_Letter___init__ := ok_Letter___init__ (P := P) (w := w) (base := base) nc nj T T2  U_Letter___init__ S_Letter___init__ (fun _ _ _ _ _ us hl => match us, hl with | [_, _], _ => rfl)
  have N_Letter : MakT P w K mg base LV_Letter___init__ "Letter" f_Letter___init__ := ⟨_, _, PySem.W.mg_of X G g_Letter, mk_Letter, F_Letter___init__⟩
  have F__law_no_edit := ok__law_no_edit (P := P) (w := w) (base := base) nc nj T T2 F__law_pick N_Letter U__law_no_edit (PySem.W.mg_of X G a__law_no_edit) B__law_no_edit
  have F__law_right := ok__law_right (P := P) (w := w) (base := base) nc nj T T2 F_recipe_text L__law_error F_machine_text F_parse_machine F_parse_recipe F_edit_text F_parse_edit F__law_pick F__law_other F__law_no_edit SY U__law_right TB__law_right hT__law_right hU__law_right (PySem.W.mg_of X G a__law_right) B__law_right
  have F_law := ok_law (P := P) (w := w) (base := base) nc nj T T2 F_recipe_text F__law_stream L__law_error F__law_right U_law TB_law hT_law hU_law
  exact law_end nj F_law hlaw
end K86

set_option maxHeartbeats 0
namespace K86.Hd
open PySem PySem.W PySem.Calls PyProof.Rows MR
abbrev R : OpenRow := OpenLaw.row PySem.Challenge.rw_openlimit_k86_texts_refused
abbrev qv : Program := view R.prog [99]
def names0 : List PySem.Str := [("_wall" : PySem.Str), ("__name__" : PySem.Str), ("LimitError" : PySem.Str), ("InvalidMachine" : PySem.Str), ("InvalidWord" : PySem.Str), ("InvalidRecipe" : PySem.Str), ("InvalidPattern" : PySem.Str), ("InvalidOperation" : PySem.Str), ("ParseError" : PySem.Str), ("InvalidNumber" : PySem.Str), ("TooLarge" : PySem.Str), ("MAX_STATES" : PySem.Str), ("MAX_STEPS" : PySem.Str), ("MAX_COST" : PySem.Str), ("MAX_LETTERS" : PySem.Str), ("MOST_CAP" : PySem.Str), ("SIGNS" : PySem.Str), ("is_integer" : PySem.Str), ("is_sign" : PySem.Str), ("is_alphabet" : PySem.Str), ("is_letter" : PySem.Str), ("are_ascending" : PySem.Str), ("are_states" : PySem.Str), ("is_step" : PySem.Str), ("is_machine" : PySem.Str), ("require_machine" : PySem.Str), ("MAX_PLACES" : PySem.Str), ("MAX_NODES" : PySem.Str), ("MAX_DEPTH" : PySem.Str), ("MAX_TEXT" : PySem.Str), ("LETTERS" : PySem.Str), ("Pattern" : PySem.Str), ("Letter" : PySem.Str), ("Empty" : PySem.Str), ("Series" : PySem.Str)]
def names1 : List PySem.Str := [("Either" : PySem.Str), ("Star" : PySem.Str), ("Upto" : PySem.Str), ("require_pattern" : PySem.Str), ("is_pattern" : PySem.Str), ("require_text" : PySem.Str), ("lowered" : PySem.Str), ("pattern_at" : PySem.Str), ("with_signs" : PySem.Str), ("EXACT" : PySem.Str), ("ROUGH" : PySem.Str), ("MAX_ROWS" : PySem.Str), ("LETTER" : PySem.Str), ("THEN" : PySem.Str), ("PUMP" : PySem.Str), ("is_recipe_row" : PySem.Str), ("is_recipe_in" : PySem.Str), ("NOTHING" : PySem.Str), ("BACK" : PySem.Str), ("DIGITS" : PySem.Str), ("MAX_DIGITS" : PySem.Str), ("MAX_NAME" : PySem.Str), ("MOST_INDEX" : PySem.Str), ("number_of" : PySem.Str), ("numbers_of" : PySem.Str), ("numbers_text" : PySem.Str), ("step_text" : PySem.Str), ("machine_text" : PySem.Str), ("lines_of" : PySem.Str), ("parsed_step" : PySem.Str), ("parsed_head" : PySem.Str), ("parse_machine" : PySem.Str), ("signs_in" : PySem.Str), ("rows_text" : PySem.Str), ("recipe_text" : PySem.Str)]
def names2 : List PySem.Str := [("parsed_row" : PySem.Str), ("parse_recipe" : PySem.Str), ("is_name" : PySem.Str), ("is_rule" : PySem.Str), ("is_path" : PySem.Str), ("is_cap" : PySem.Str), ("set_words" : PySem.Str), ("name_words" : PySem.Str), ("rewrite_words" : PySem.Str), ("promise_words" : PySem.Str), ("drop_words" : PySem.Str), ("KINDS" : PySem.Str), ("edit_words" : PySem.Str), ("edit_text" : PySem.Str), ("parsed_parts" : PySem.Str), ("parsed_edit" : PySem.Str), ("parse_edit" : PySem.Str), ("_law_stream" : PySem.Str), ("_law_draw" : PySem.Str), ("_law_pick" : PySem.Str), ("_law_other" : PySem.Str), ("_law_error" : PySem.Str), ("_law_no_edit" : PySem.Str), ("_law_right" : PySem.Str)]
def names : List PySem.Str := names0 ++ names1 ++ names2
abbrev fns0 (K : Frag) : List Addr := [(He.ga K "is_sign"),
  (He.ga K "is_alphabet"),
  (He.ga K "is_integer"),
  (He.ga K "is_letter"),
  (He.ga K "is_recipe_row"),
  (He.ga K "is_recipe_in"),
  (He.ga K "signs_in"),
  (He.ga K "rows_text"),
  (He.ga K "recipe_text"),
  (He.ga K "_law_stream"),
  (He.ga K "_law_error"),
  (He.ga K "are_ascending"),
  (He.ga K "are_states"),
  (He.ga K "is_step"),
  (He.ga K "is_machine"),
  (He.ga K "require_machine"),
  (He.ga K "numbers_text"),
  (He.ga K "step_text"),
  (He.ga K "machine_text"),
  (He.ga K "lines_of"),
  (He.ga K "number_of"),
  (He.ga K "parsed_step"),
  (He.ga K "numbers_of"),
  (He.ga K "parsed_head"),
  (He.ga K "parse_machine"),
  (He.ga K "parsed_row"),
  (He.ga K "parse_recipe"),
  (He.ga K "is_pattern"),
  (He.ga K "is_name"),
  (He.ga K "set_words")]
abbrev fns1 (K : Frag) : List Addr := [(He.ga K "name_words"),
  (He.ga K "is_rule"),
  (He.ga K "is_path"),
  (He.ga K "rewrite_words"),
  (He.ga K "is_cap"),
  (He.ga K "promise_words"),
  (He.ga K "drop_words"),
  (He.ga K "edit_words"),
  (He.ga K "edit_text"),
  (He.ga K "parsed_parts"),
  (He.ga K "parsed_edit"),
  (He.ga K "parse_edit"),
  (He.ga K "_law_draw"),
  (He.ga K "_law_pick"),
  (He.ga K "_law_other"),
  (He.ga K "require_pattern"),
  (He.ma K (He.ga K "Pattern") "check"),
  (He.ma K (He.ga K "Pattern") "__init__"),
  (He.ma K (He.ga K "Letter") "__init__"),
  (He.ga K "_law_no_edit"),
  (He.ga K "_law_right"),
  (He.ga K "law")]
abbrev fns (K : Frag) : List Addr := fns0 K ++ (fns1 K)
abbrev vals0 : List Hk.FnV := [Hk.fv "is_sign" "is_sign" K86.s_is_sign,
  Hk.fv "is_alphabet" "is_alphabet" K86.s_is_alphabet,
  Hk.fv "is_integer" "is_integer" K86.s_is_integer,
  Hk.fv "is_letter" "is_letter" K86.s_is_letter,
  Hk.fv "is_recipe_row" "is_recipe_row" K86.s_is_recipe_row,
  Hk.fv "is_recipe_in" "is_recipe_in" K86.s_is_recipe_in,
  Hk.fv "signs_in" "signs_in" K86.s_signs_in,
  Hk.fv "rows_text" "rows_text" K86.s_rows_text,
  Hk.fv "recipe_text" "recipe_text" K86.s_recipe_text,
  Hk.fv "_law_stream" "_law_stream" K86.s__law_stream,
  Hk.fv "_law_error" "_law_error" K86.s__law_error,
  Hk.fv "are_ascending" "are_ascending" K86.s_are_ascending,
  Hk.fv "are_states" "are_states" K86.s_are_states,
  Hk.fv "is_step" "is_step" K86.s_is_step,
  Hk.fv "is_machine" "is_machine" K86.s_is_machine,
  Hk.fv "require_machine" "require_machine" K86.s_require_machine,
  Hk.fv "numbers_text" "numbers_text" K86.s_numbers_text,
  Hk.fv "step_text" "step_text" K86.s_step_text,
  Hk.fv "machine_text" "machine_text" K86.s_machine_text,
  Hk.fv "lines_of" "lines_of" K86.s_lines_of,
  Hk.fv "number_of" "number_of" K86.s_number_of,
  Hk.fv "parsed_step" "parsed_step" K86.s_parsed_step,
  Hk.fv "numbers_of" "numbers_of" K86.s_numbers_of,
  Hk.fv "parsed_head" "parsed_head" K86.s_parsed_head,
  Hk.fv "parse_machine" "parse_machine" K86.s_parse_machine,
  Hk.fv "parsed_row" "parsed_row" K86.s_parsed_row,
  Hk.fv "parse_recipe" "parse_recipe" K86.s_parse_recipe,
  Hk.fv "is_pattern" "is_pattern" K86.s_is_pattern,
  Hk.fv "is_name" "is_name" K86.s_is_name,
  Hk.fv "set_words" "set_words" K86.s_set_words]
abbrev vals1 : List Hk.FnV := [Hk.fv "name_words" "name_words" K86.s_name_words,
  Hk.fv "is_rule" "is_rule" K86.s_is_rule,
  Hk.fv "is_path" "is_path" K86.s_is_path,
  Hk.fv "rewrite_words" "rewrite_words" K86.s_rewrite_words,
  Hk.fv "is_cap" "is_cap" K86.s_is_cap,
  Hk.fv "promise_words" "promise_words" K86.s_promise_words,
  Hk.fv "drop_words" "drop_words" K86.s_drop_words,
  Hk.fv "edit_words" "edit_words" K86.s_edit_words,
  Hk.fv "edit_text" "edit_text" K86.s_edit_text,
  Hk.fv "parsed_parts" "parsed_parts" K86.s_parsed_parts,
  Hk.fv "parsed_edit" "parsed_edit" K86.s_parsed_edit,
  Hk.fv "parse_edit" "parse_edit" K86.s_parse_edit,
  Hk.fv "_law_draw" "_law_draw" K86.s__law_draw,
  Hk.fv "_law_pick" "_law_pick" K86.s__law_pick,
  Hk.fv "_law_other" "_law_other" K86.s__law_other,
  Hk.fv "require_pattern" "require_pattern" K86.s_require_pattern,
  Hk.fv "check" "Pattern.check" K86.s_Pattern_check,
  Hk.fv "__init__" "Pattern.__init__" K86.s_Pattern___init__,
  Hk.fv "__init__" "Letter.__init__" K86.s_Letter___init__,
  Hk.fv "_law_no_edit" "_law_no_edit" K86.s__law_no_edit,
  Hk.fv "_law_right" "_law_right" K86.s__law_right,
  Hk.fv "law" "law" K86.s_law]
abbrev vals : List Hk.FnV := vals0 ++ (vals1)
abbrev bits0 (K : Frag) : List Bool := [Hk.plainB K (He.ga K "is_sign") "is_sign",
  Hk.plainB K (He.ga K "is_alphabet") "is_alphabet",
  Hk.plainB K (He.ga K "is_integer") "is_integer",
  Hk.plainB K (He.ga K "is_letter") "is_letter",
  Hk.plainB K (He.ga K "is_recipe_row") "is_recipe_row",
  Hk.plainB K (He.ga K "is_recipe_in") "is_recipe_in",
  Hk.plainB K (He.ga K "signs_in") "signs_in",
  Hk.plainB K (He.ga K "rows_text") "rows_text",
  Hk.plainB K (He.ga K "recipe_text") "recipe_text",
  Hk.plainB K (He.ga K "_law_stream") "_law_stream",
  Hk.plainB K (He.ga K "_law_error") "_law_error",
  Hk.plainB K (He.ga K "are_ascending") "are_ascending",
  Hk.plainB K (He.ga K "are_states") "are_states",
  Hk.plainB K (He.ga K "is_step") "is_step",
  Hk.plainB K (He.ga K "is_machine") "is_machine",
  Hk.plainB K (He.ga K "require_machine") "require_machine",
  Hk.plainB K (He.ga K "numbers_text") "numbers_text",
  Hk.plainB K (He.ga K "step_text") "step_text",
  Hk.plainB K (He.ga K "machine_text") "machine_text",
  Hk.plainB K (He.ga K "lines_of") "lines_of",
  Hk.plainB K (He.ga K "number_of") "number_of",
  Hk.plainB K (He.ga K "parsed_step") "parsed_step",
  Hk.plainB K (He.ga K "numbers_of") "numbers_of",
  Hk.plainB K (He.ga K "parsed_head") "parsed_head",
  Hk.plainB K (He.ga K "parse_machine") "parse_machine",
  Hk.plainB K (He.ga K "parsed_row") "parsed_row",
  Hk.plainB K (He.ga K "parse_recipe") "parse_recipe",
  Hk.plainB K (He.ga K "is_pattern") "is_pattern",
  Hk.plainB K (He.ga K "is_name") "is_name",
  Hk.plainB K (He.ga K "set_words") "set_words"]
abbrev bits1 (K : Frag) : List Bool := [Hk.plainB K (He.ga K "name_words") "name_words",
  Hk.plainB K (He.ga K "is_rule") "is_rule",
  Hk.plainB K (He.ga K "is_path") "is_path",
  Hk.plainB K (He.ga K "rewrite_words") "rewrite_words",
  Hk.plainB K (He.ga K "is_cap") "is_cap",
  Hk.plainB K (He.ga K "promise_words") "promise_words",
  Hk.plainB K (He.ga K "drop_words") "drop_words",
  Hk.plainB K (He.ga K "edit_words") "edit_words",
  Hk.plainB K (He.ga K "edit_text") "edit_text",
  Hk.plainB K (He.ga K "parsed_parts") "parsed_parts",
  Hk.plainB K (He.ga K "parsed_edit") "parsed_edit",
  Hk.plainB K (He.ga K "parse_edit") "parse_edit",
  Hk.plainB K (He.ga K "_law_draw") "_law_draw",
  Hk.plainB K (He.ga K "_law_pick") "_law_pick",
  Hk.plainB K (He.ga K "_law_other") "_law_other",
  Hk.plainB K (He.ga K "require_pattern") "require_pattern",
  Hk.plainB K (He.ma K (He.ga K "Pattern") "check") "Pattern.check",
  Hk.plainB K (He.ma K (He.ga K "Pattern") "__init__") "Pattern.__init__",
  Hk.supB K R.prog.main.file (He.ga K "Letter") (He.ma K (He.ga K "Letter") "__init__") "Letter.__init__",
  Hk.plainB K (He.ga K "_law_no_edit") "_law_no_edit",
  Hk.plainB K (He.ga K "_law_right") "_law_right",
  (MR.codeTab K "_law_right").isSome,
  decide (PySem.W.nsIn K mainGlobals "_law_right" = some (some (.ref (He.ga K "_law_right")))),
  Hk.plainB K (He.ga K "law") "law",
  (MR.codeTab K "law").isSome,
  decide (PySem.W.nsIn K mainGlobals "law" = some (some (.ref (He.ga K "law")))),
  Hk.strB K "BACK" "back",
  Hk.strB K "DIGITS" "0123456789",
  Hk.tupB K (He.ga K "EXACT") [("dropfirst" : Str), ("droplast" : Str), ("emptylimit" : Str), ("limitempty" : Str), ("nolimit" : Str), ("nostar" : Str), ("once" : Str), ("regroup" : Str), ("rejoin" : Str), ("spread" : Str), ("spreadlast" : Str), ("starboth" : Str), ("starempty" : Str), ("stars" : Str), ("turn" : Str), ("unfold" : Str)],
  Hk.strB K "LETTER" "letter"]
abbrev bits2 (K : Frag) : List Bool := [Hk.strB K "LETTERS" "abcdefghijklmnopqrstuvwxyz",
  Hk.intB K "MAX_COST" 3,
  Hk.intB K "MAX_DEPTH" 10,
  Hk.intB K "MAX_DIGITS" 6,
  Hk.intB K "MAX_LETTERS" 4,
  Hk.intB K "MAX_NAME" 8,
  Hk.intB K "MAX_NODES" 40,
  Hk.intB K "MAX_PLACES" 7,
  Hk.intB K "MAX_ROWS" 400,
  Hk.intB K "MAX_STATES" 8,
  Hk.intB K "MAX_STEPS" 60,
  Hk.intB K "MOST_CAP" 30,
  Hk.intB K "MOST_INDEX" 99,
  Hk.strB K "NOTHING" "-",
  Hk.strB K "PUMP" "pump",
  Hk.tupB K (He.ga K "ROUGH") [("absorb" : Str), ("double" : Str), ("loosen" : Str), ("pairs" : Str)],
  Hk.strB K "SIGNS" "abcdefghijklmnopqrstuvwxyz",
  Hk.strB K "THEN" "then",
  Hk.dctB K (He.ga K "KINDS") [("set" : Str), ("remove" : Str), ("rename" : Str), ("rewrite" : Str), ("promise" : Str), ("drop" : Str)] [(Hk.entA K (He.ga K "KINDS") 0), (Hk.entA K (He.ga K "KINDS") 1), (Hk.entA K (He.ga K "KINDS") 2), (Hk.entA K (He.ga K "KINDS") 3), (Hk.entA K (He.ga K "KINDS") 4), (Hk.entA K (He.ga K "KINDS") 5)],
  Hk.pairB K (Hk.entA K (He.ga K "KINDS") 0) 2 (He.ga K "set_words"),
  Hk.pairB K (Hk.entA K (He.ga K "KINDS") 1) 1 (He.ga K "name_words"),
  Hk.pairB K (Hk.entA K (He.ga K "KINDS") 2) 2 (He.ga K "name_words"),
  Hk.pairB K (Hk.entA K (He.ga K "KINDS") 3) 4 (He.ga K "rewrite_words"),
  Hk.pairB K (Hk.entA K (He.ga K "KINDS") 4) 4 (He.ga K "promise_words"),
  Hk.pairB K (Hk.entA K (He.ga K "KINDS") 5) 1 (He.ga K "drop_words"),
  decide (PySem.W.nsIn K mainGlobals "LimitError" = some (some (.ref (He.ga K "LimitError")))),
  PySem.W.excIn K (He.ga K "LimitError") [.type "ValueError", .type "Exception", .type "BaseException", .type "object"] "ValueError.__new__",
  PySem.W.keepIn K (.ref (He.ga K "LimitError")),
  decide (PySem.W.subIn K (.ref (He.ga K "LimitError")) (.type "BaseException") = some true),
  decide (PySem.W.typeIn K (.ref (He.ga K "LimitError")) = some (.type "type"))]
abbrev bits3 (K : Frag) : List Bool := [PySem.W.hasDictIn K (He.ga K "LimitError"),
  PySem.W.isClsIn K (He.ga K "LimitError"),
  decide (PySem.W.findIn K (.ref (He.ga K "LimitError")) "__getattribute__" = some (some (.builtin "BaseException.__getattribute__"))),
  decide (PySem.W.findIn K (.ref (He.ga K "LimitError")) "__getattr__" = some none),
  decide (PySem.W.findIn K (.ref (He.ga K "LimitError")) "__class__" = some (some (.builtin "object.__class__"))),
  decide (PySem.W.specialIn K (.builtin "object.__class__") "__get__" = some (some (.builtin "getset_descriptor.__get__"))),
  decide (PySem.W.takesIn K (.builtin "object.__class__") = some true),
  decide (PySem.W.mroIn K (He.ga K "LimitError") (.type "object") = some true),
  decide (PySem.W.nsIn K mainGlobals "InvalidMachine" = some (some (.ref (He.ga K "InvalidMachine")))),
  PySem.W.excIn K (He.ga K "InvalidMachine") [.type "ValueError", .type "Exception", .type "BaseException", .type "object"] "ValueError.__new__",
  PySem.W.keepIn K (.ref (He.ga K "InvalidMachine")),
  decide (PySem.W.subIn K (.ref (He.ga K "InvalidMachine")) (.type "BaseException") = some true),
  decide (PySem.W.typeIn K (.ref (He.ga K "InvalidMachine")) = some (.type "type")),
  PySem.W.hasDictIn K (He.ga K "InvalidMachine"),
  PySem.W.isClsIn K (He.ga K "InvalidMachine"),
  decide (PySem.W.findIn K (.ref (He.ga K "InvalidMachine")) "__getattribute__" = some (some (.builtin "BaseException.__getattribute__"))),
  decide (PySem.W.findIn K (.ref (He.ga K "InvalidMachine")) "__getattr__" = some none),
  decide (PySem.W.findIn K (.ref (He.ga K "InvalidMachine")) "__class__" = some (some (.builtin "object.__class__"))),
  decide (PySem.W.mroIn K (He.ga K "InvalidMachine") (.type "object") = some true),
  decide (PySem.W.nsIn K mainGlobals "InvalidRecipe" = some (some (.ref (He.ga K "InvalidRecipe")))),
  PySem.W.excIn K (He.ga K "InvalidRecipe") [.type "ValueError", .type "Exception", .type "BaseException", .type "object"] "ValueError.__new__",
  PySem.W.keepIn K (.ref (He.ga K "InvalidRecipe")),
  decide (PySem.W.subIn K (.ref (He.ga K "InvalidRecipe")) (.type "BaseException") = some true),
  decide (PySem.W.typeIn K (.ref (He.ga K "InvalidRecipe")) = some (.type "type")),
  PySem.W.hasDictIn K (He.ga K "InvalidRecipe"),
  PySem.W.isClsIn K (He.ga K "InvalidRecipe"),
  decide (PySem.W.findIn K (.ref (He.ga K "InvalidRecipe")) "__getattribute__" = some (some (.builtin "BaseException.__getattribute__"))),
  decide (PySem.W.findIn K (.ref (He.ga K "InvalidRecipe")) "__getattr__" = some none),
  decide (PySem.W.findIn K (.ref (He.ga K "InvalidRecipe")) "__class__" = some (some (.builtin "object.__class__"))),
  decide (PySem.W.mroIn K (He.ga K "InvalidRecipe") (.type "object") = some true)]
abbrev bits4 (K : Frag) : List Bool := [decide (PySem.W.nsIn K mainGlobals "InvalidPattern" = some (some (.ref (He.ga K "InvalidPattern")))),
  PySem.W.excIn K (He.ga K "InvalidPattern") [.type "ValueError", .type "Exception", .type "BaseException", .type "object"] "ValueError.__new__",
  PySem.W.keepIn K (.ref (He.ga K "InvalidPattern")),
  decide (PySem.W.subIn K (.ref (He.ga K "InvalidPattern")) (.type "BaseException") = some true),
  decide (PySem.W.typeIn K (.ref (He.ga K "InvalidPattern")) = some (.type "type")),
  PySem.W.hasDictIn K (He.ga K "InvalidPattern"),
  PySem.W.isClsIn K (He.ga K "InvalidPattern"),
  decide (PySem.W.findIn K (.ref (He.ga K "InvalidPattern")) "__getattribute__" = some (some (.builtin "BaseException.__getattribute__"))),
  decide (PySem.W.findIn K (.ref (He.ga K "InvalidPattern")) "__getattr__" = some none),
  decide (PySem.W.findIn K (.ref (He.ga K "InvalidPattern")) "__class__" = some (some (.builtin "object.__class__"))),
  decide (PySem.W.mroIn K (He.ga K "InvalidPattern") (.type "object") = some true),
  decide (PySem.W.nsIn K mainGlobals "InvalidOperation" = some (some (.ref (He.ga K "InvalidOperation")))),
  PySem.W.excIn K (He.ga K "InvalidOperation") [.type "ValueError", .type "Exception", .type "BaseException", .type "object"] "ValueError.__new__",
  PySem.W.keepIn K (.ref (He.ga K "InvalidOperation")),
  decide (PySem.W.subIn K (.ref (He.ga K "InvalidOperation")) (.type "BaseException") = some true),
  decide (PySem.W.typeIn K (.ref (He.ga K "InvalidOperation")) = some (.type "type")),
  PySem.W.hasDictIn K (He.ga K "InvalidOperation"),
  PySem.W.isClsIn K (He.ga K "InvalidOperation"),
  decide (PySem.W.findIn K (.ref (He.ga K "InvalidOperation")) "__getattribute__" = some (some (.builtin "BaseException.__getattribute__"))),
  decide (PySem.W.findIn K (.ref (He.ga K "InvalidOperation")) "__getattr__" = some none),
  decide (PySem.W.findIn K (.ref (He.ga K "InvalidOperation")) "__class__" = some (some (.builtin "object.__class__"))),
  decide (PySem.W.mroIn K (He.ga K "InvalidOperation") (.type "object") = some true),
  decide (PySem.W.nsIn K mainGlobals "ParseError" = some (some (.ref (He.ga K "ParseError")))),
  PySem.W.excIn K (He.ga K "ParseError") [.type "ValueError", .type "Exception", .type "BaseException", .type "object"] "ValueError.__new__",
  PySem.W.keepIn K (.ref (He.ga K "ParseError")),
  decide (PySem.W.subIn K (.ref (He.ga K "ParseError")) (.type "BaseException") = some true),
  decide (PySem.W.typeIn K (.ref (He.ga K "ParseError")) = some (.type "type")),
  PySem.W.hasDictIn K (He.ga K "ParseError"),
  PySem.W.isClsIn K (He.ga K "ParseError"),
  decide (PySem.W.findIn K (.ref (He.ga K "ParseError")) "__getattribute__" = some (some (.builtin "BaseException.__getattribute__")))]
abbrev bits5 (K : Frag) : List Bool := [decide (PySem.W.findIn K (.ref (He.ga K "ParseError")) "__getattr__" = some none),
  decide (PySem.W.findIn K (.ref (He.ga K "ParseError")) "__class__" = some (some (.builtin "object.__class__"))),
  decide (PySem.W.mroIn K (He.ga K "ParseError") (.type "object") = some true),
  decide (PySem.W.subIn K (.ref (He.ga K "LimitError")) (.ref (He.ga K "InvalidMachine")) = some false),
  decide ((He.ga K "LimitError") ≠ (He.ga K "InvalidMachine")),
  decide (PySem.W.subIn K (.ref (He.ga K "InvalidMachine")) (.ref (He.ga K "InvalidMachine")) = some true),
  decide (PySem.W.subIn K (.ref (He.ga K "InvalidRecipe")) (.ref (He.ga K "InvalidMachine")) = some false),
  decide ((He.ga K "InvalidRecipe") ≠ (He.ga K "InvalidMachine")),
  decide (PySem.W.subIn K (.ref (He.ga K "InvalidPattern")) (.ref (He.ga K "InvalidMachine")) = some false),
  decide ((He.ga K "InvalidPattern") ≠ (He.ga K "InvalidMachine")),
  decide (PySem.W.subIn K (.ref (He.ga K "InvalidOperation")) (.ref (He.ga K "InvalidMachine")) = some false),
  decide ((He.ga K "InvalidOperation") ≠ (He.ga K "InvalidMachine")),
  decide (PySem.W.subIn K (.ref (He.ga K "ParseError")) (.ref (He.ga K "InvalidMachine")) = some false),
  decide ((He.ga K "ParseError") ≠ (He.ga K "InvalidMachine")),
  decide (PySem.W.subIn K (.ref (He.ga K "LimitError")) (.ref (He.ga K "InvalidOperation")) = some false),
  decide ((He.ga K "LimitError") ≠ (He.ga K "InvalidOperation")),
  decide (PySem.W.subIn K (.ref (He.ga K "InvalidMachine")) (.ref (He.ga K "InvalidOperation")) = some false),
  decide ((He.ga K "InvalidMachine") ≠ (He.ga K "InvalidOperation")),
  decide (PySem.W.subIn K (.ref (He.ga K "InvalidRecipe")) (.ref (He.ga K "InvalidOperation")) = some false),
  decide ((He.ga K "InvalidRecipe") ≠ (He.ga K "InvalidOperation")),
  decide (PySem.W.subIn K (.ref (He.ga K "InvalidPattern")) (.ref (He.ga K "InvalidOperation")) = some false),
  decide ((He.ga K "InvalidPattern") ≠ (He.ga K "InvalidOperation")),
  decide (PySem.W.subIn K (.ref (He.ga K "InvalidOperation")) (.ref (He.ga K "InvalidOperation")) = some true),
  decide (PySem.W.subIn K (.ref (He.ga K "ParseError")) (.ref (He.ga K "InvalidOperation")) = some false),
  decide ((He.ga K "ParseError") ≠ (He.ga K "InvalidOperation")),
  decide (PySem.W.subIn K (.ref (He.ga K "LimitError")) (.ref (He.ga K "InvalidRecipe")) = some false),
  decide ((He.ga K "LimitError") ≠ (He.ga K "InvalidRecipe")),
  decide (PySem.W.subIn K (.ref (He.ga K "InvalidMachine")) (.ref (He.ga K "InvalidRecipe")) = some false),
  decide ((He.ga K "InvalidMachine") ≠ (He.ga K "InvalidRecipe")),
  decide (PySem.W.subIn K (.ref (He.ga K "InvalidRecipe")) (.ref (He.ga K "InvalidRecipe")) = some true)]
abbrev bits6 (K : Frag) : List Bool := [decide (PySem.W.subIn K (.ref (He.ga K "InvalidPattern")) (.ref (He.ga K "InvalidRecipe")) = some false),
  decide ((He.ga K "InvalidPattern") ≠ (He.ga K "InvalidRecipe")),
  decide (PySem.W.subIn K (.ref (He.ga K "InvalidOperation")) (.ref (He.ga K "InvalidRecipe")) = some false),
  decide ((He.ga K "InvalidOperation") ≠ (He.ga K "InvalidRecipe")),
  decide (PySem.W.subIn K (.ref (He.ga K "ParseError")) (.ref (He.ga K "InvalidRecipe")) = some false),
  decide ((He.ga K "ParseError") ≠ (He.ga K "InvalidRecipe")),
  decide (PySem.W.subIn K (.ref (He.ga K "LimitError")) (.ref (He.ga K "LimitError")) = some true),
  decide (PySem.W.subIn K (.ref (He.ga K "InvalidMachine")) (.ref (He.ga K "LimitError")) = some true),
  decide (PySem.W.subIn K (.ref (He.ga K "InvalidRecipe")) (.ref (He.ga K "LimitError")) = some true),
  decide (PySem.W.subIn K (.ref (He.ga K "InvalidPattern")) (.ref (He.ga K "LimitError")) = some true),
  decide (PySem.W.subIn K (.ref (He.ga K "InvalidOperation")) (.ref (He.ga K "LimitError")) = some true),
  decide (PySem.W.subIn K (.ref (He.ga K "ParseError")) (.ref (He.ga K "LimitError")) = some true),
  decide (PySem.W.subIn K (.ref (He.ga K "LimitError")) (.ref (He.ga K "ParseError")) = some false),
  decide ((He.ga K "LimitError") ≠ (He.ga K "ParseError")),
  decide (PySem.W.subIn K (.ref (He.ga K "InvalidMachine")) (.ref (He.ga K "ParseError")) = some false),
  decide ((He.ga K "InvalidMachine") ≠ (He.ga K "ParseError")),
  decide (PySem.W.subIn K (.ref (He.ga K "InvalidRecipe")) (.ref (He.ga K "ParseError")) = some false),
  decide ((He.ga K "InvalidRecipe") ≠ (He.ga K "ParseError")),
  decide (PySem.W.subIn K (.ref (He.ga K "InvalidPattern")) (.ref (He.ga K "ParseError")) = some false),
  decide ((He.ga K "InvalidPattern") ≠ (He.ga K "ParseError")),
  decide (PySem.W.subIn K (.ref (He.ga K "InvalidOperation")) (.ref (He.ga K "ParseError")) = some false),
  decide ((He.ga K "InvalidOperation") ≠ (He.ga K "ParseError")),
  decide (PySem.W.subIn K (.ref (He.ga K "ParseError")) (.ref (He.ga K "ParseError")) = some true),
  decide (PySem.W.nsIn K mainGlobals "Letter" = some (some (.ref (He.ga K "Letter")))),
  decide (PySem.W.nsIn K mainGlobals "Pattern" = some (some (.ref (He.ga K "Pattern")))),
  PySem.W.plainGet K (He.ga K "Letter") Str.empty,
  PySem.W.hasDictIn K (He.ga K "Letter"),
  PySem.W.plainOver K (He.ga K "Letter"),
  decide (PySem.W.findIn K (.ref (He.ga K "Letter")) "__setattr__" = some (some (.builtin "object.__setattr__"))),
  decide (PySem.W.findIn K (.ref (He.ga K "Letter")) "__class__" = some (some (.builtin "object.__class__")))]
abbrev bits7 (K : Frag) : List Bool := [decide (PySem.W.mroIn K (He.ga K "Letter") (.type "object") = some true),
  PySem.W.makesIn K (He.ga K "Letter"),
  decide (PySem.W.findIn K (.ref (He.ga K "Letter")) "__init__" = some (some (.ref (He.ma K (He.ga K "Letter") "__init__")))),
  PySem.W.isFn K (.ref (He.ma K (He.ga K "Letter") "__init__")),
  PySem.W.keepIn K (.ref (He.ga K "Letter")),
  decide (PySem.W.findIn K (.ref (He.ga K "Letter")) "own_letters" = some none),
  decide (PySem.W.findIn K (.ref (He.ga K "Letter")) "own_levels" = some none),
  decide (PySem.W.findIn K (.ref (He.ga K "Letter")) "own_nodes" = some none),
  decide (PySem.W.findIn K (.ref (He.ga K "Letter")) "own_open" = some none),
  decide (PySem.W.findIn K (.ref (He.ga K "Letter")) "own_pieces" = some none),
  decide (PySem.W.findIn K (.ref (He.ga K "Letter")) "own_places" = some none),
  decide (PySem.W.findIn K (.ref (He.ga K "Letter")) "own_text" = some none),
  decide (PySem.W.findIn K (.ref (He.ga K "Letter")) "check" = some (some (.ref (He.ma K (He.ga K "Pattern") "check")))),
  PySem.W.isFn K (.ref (He.ma K (He.ga K "Pattern") "check")),
  PySem.W.keepIn K (.ref (He.ma K (He.ga K "Pattern") "check")),
  (MR.clL.all fun c => decide (PySem.W.kitOne K (.ref (He.ga K "Letter")) (.type c) = some false)),
  decide (PySem.W.kitOne K (.ref (He.ga K "Letter")) (.ref (He.ga K "Pattern")) = some true),
  (MR.tyL.all fun c => decide (PySem.W.kitOne K (.type c) (.ref (He.ga K "Pattern")) = some false)),
  decide (PySem.W.nsIn K mainGlobals "abs" = some none),
  decide (PySem.W.nsIn K mainGlobals "all" = some none),
  decide (PySem.W.nsIn K mainGlobals "any" = some none),
  decide (PySem.W.nsIn K mainGlobals "bool" = some none),
  decide (PySem.W.nsIn K mainGlobals "enumerate" = some none),
  decide (PySem.W.nsIn K mainGlobals "int" = some none),
  decide (PySem.W.nsIn K mainGlobals "isinstance" = some none),
  decide (PySem.W.nsIn K mainGlobals "len" = some none),
  decide (PySem.W.nsIn K mainGlobals "max" = some none),
  decide (PySem.W.nsIn K mainGlobals "min" = some none),
  decide (PySem.W.nsIn K mainGlobals "range" = some none),
  decide (PySem.W.nsIn K mainGlobals "repr" = some none)]
abbrev bits8 (K : Frag) : List Bool := [decide (PySem.W.nsIn K mainGlobals "set" = some none),
  decide (PySem.W.nsIn K mainGlobals "sorted" = some none),
  decide (PySem.W.nsIn K mainGlobals "str" = some none),
  decide (PySem.W.nsIn K mainGlobals "sum" = some none),
  decide (PySem.W.nsIn K mainGlobals "tuple" = some none),
  decide (PySem.W.nsIn K mainGlobals "zip" = some none),
  decide (PySem.W.nsIn K mainGlobals "EXACT" = some (some (.ref (He.ga K "EXACT")))),
  decide (PySem.W.nsIn K mainGlobals "ROUGH" = some (some (.ref (He.ga K "ROUGH")))),
  decide (PySem.W.nsIn K mainGlobals "is_sign" = some (some (.ref (He.ga K "is_sign")))),
  decide (PySem.W.nsIn K mainGlobals "is_alphabet" = some (some (.ref (He.ga K "is_alphabet")))),
  decide (PySem.W.nsIn K mainGlobals "is_integer" = some (some (.ref (He.ga K "is_integer")))),
  decide (PySem.W.nsIn K mainGlobals "is_letter" = some (some (.ref (He.ga K "is_letter")))),
  decide (PySem.W.nsIn K mainGlobals "is_recipe_row" = some (some (.ref (He.ga K "is_recipe_row")))),
  decide (PySem.W.nsIn K mainGlobals "is_recipe_in" = some (some (.ref (He.ga K "is_recipe_in")))),
  decide (PySem.W.nsIn K mainGlobals "signs_in" = some (some (.ref (He.ga K "signs_in")))),
  decide (PySem.W.nsIn K mainGlobals "rows_text" = some (some (.ref (He.ga K "rows_text")))),
  decide (PySem.W.nsIn K mainGlobals "recipe_text" = some (some (.ref (He.ga K "recipe_text")))),
  decide (PySem.W.nsIn K mainGlobals "_law_stream" = some (some (.ref (He.ga K "_law_stream")))),
  decide (PySem.W.nsIn K mainGlobals "_law_error" = some (some (.ref (He.ga K "_law_error")))),
  decide (PySem.W.nsIn K mainGlobals "are_ascending" = some (some (.ref (He.ga K "are_ascending")))),
  decide (PySem.W.nsIn K mainGlobals "are_states" = some (some (.ref (He.ga K "are_states")))),
  decide (PySem.W.nsIn K mainGlobals "is_step" = some (some (.ref (He.ga K "is_step")))),
  decide (PySem.W.nsIn K mainGlobals "is_machine" = some (some (.ref (He.ga K "is_machine")))),
  decide (PySem.W.nsIn K mainGlobals "require_machine" = some (some (.ref (He.ga K "require_machine")))),
  decide (PySem.W.nsIn K mainGlobals "numbers_text" = some (some (.ref (He.ga K "numbers_text")))),
  decide (PySem.W.nsIn K mainGlobals "step_text" = some (some (.ref (He.ga K "step_text")))),
  decide (PySem.W.nsIn K mainGlobals "machine_text" = some (some (.ref (He.ga K "machine_text")))),
  decide (PySem.W.nsIn K mainGlobals "lines_of" = some (some (.ref (He.ga K "lines_of")))),
  decide (PySem.W.nsIn K mainGlobals "number_of" = some (some (.ref (He.ga K "number_of")))),
  decide (PySem.W.nsIn K mainGlobals "parsed_step" = some (some (.ref (He.ga K "parsed_step"))))]
abbrev bits9 (K : Frag) : List Bool := [decide (PySem.W.nsIn K mainGlobals "numbers_of" = some (some (.ref (He.ga K "numbers_of")))),
  decide (PySem.W.nsIn K mainGlobals "parsed_head" = some (some (.ref (He.ga K "parsed_head")))),
  decide (PySem.W.nsIn K mainGlobals "parse_machine" = some (some (.ref (He.ga K "parse_machine")))),
  decide (PySem.W.nsIn K mainGlobals "parsed_row" = some (some (.ref (He.ga K "parsed_row")))),
  decide (PySem.W.nsIn K mainGlobals "parse_recipe" = some (some (.ref (He.ga K "parse_recipe")))),
  decide (PySem.W.nsIn K mainGlobals "is_pattern" = some (some (.ref (He.ga K "is_pattern")))),
  decide (PySem.W.nsIn K mainGlobals "is_name" = some (some (.ref (He.ga K "is_name")))),
  decide (PySem.W.nsIn K mainGlobals "set_words" = some (some (.ref (He.ga K "set_words")))),
  decide (PySem.W.nsIn K mainGlobals "name_words" = some (some (.ref (He.ga K "name_words")))),
  decide (PySem.W.nsIn K mainGlobals "is_rule" = some (some (.ref (He.ga K "is_rule")))),
  decide (PySem.W.nsIn K mainGlobals "is_path" = some (some (.ref (He.ga K "is_path")))),
  decide (PySem.W.nsIn K mainGlobals "rewrite_words" = some (some (.ref (He.ga K "rewrite_words")))),
  decide (PySem.W.nsIn K mainGlobals "is_cap" = some (some (.ref (He.ga K "is_cap")))),
  decide (PySem.W.nsIn K mainGlobals "promise_words" = some (some (.ref (He.ga K "promise_words")))),
  decide (PySem.W.nsIn K mainGlobals "drop_words" = some (some (.ref (He.ga K "drop_words")))),
  decide (PySem.W.nsIn K mainGlobals "edit_words" = some (some (.ref (He.ga K "edit_words")))),
  decide (PySem.W.nsIn K mainGlobals "edit_text" = some (some (.ref (He.ga K "edit_text")))),
  decide (PySem.W.nsIn K mainGlobals "parsed_parts" = some (some (.ref (He.ga K "parsed_parts")))),
  decide (PySem.W.nsIn K mainGlobals "parsed_edit" = some (some (.ref (He.ga K "parsed_edit")))),
  decide (PySem.W.nsIn K mainGlobals "parse_edit" = some (some (.ref (He.ga K "parse_edit")))),
  decide (PySem.W.nsIn K mainGlobals "_law_draw" = some (some (.ref (He.ga K "_law_draw")))),
  decide (PySem.W.nsIn K mainGlobals "_law_pick" = some (some (.ref (He.ga K "_law_pick")))),
  decide (PySem.W.nsIn K mainGlobals "_law_other" = some (some (.ref (He.ga K "_law_other")))),
  decide (PySem.W.nsIn K mainGlobals "require_pattern" = some (some (.ref (He.ga K "require_pattern")))),
  (PySem.W.clsIn K (He.ga K "Letter")).isSome,
  decide (PySem.W.nsIn K mainGlobals "super" = some none),
  decide (PySem.W.nsIn K cStatics "thirdparty.any" = some none),
  decide (PySem.W.mroIn K (He.ga K "Letter") (.ref (He.ga K "Letter")) = some true),
  decide (PySem.W.ks_superIn K (He.ga K "Letter") (He.ga K "Letter") "__init__" = some (some (.ref (He.ma K (He.ga K "Pattern") "__init__")))),
  decide (PySem.W.typeIn K (.ref (He.ma K (He.ga K "Pattern") "__init__")) = some (.type "function"))]
abbrev bits10 (K : Frag) : List Bool := [PySem.W.fnIn K (He.ma K (He.ga K "Pattern") "__init__"),
  decide (PySem.W.nsIn K mainGlobals "_law_no_edit" = some (some (.ref (He.ga K "_law_no_edit")))),
  decide (PySem.W.nsIn K mainGlobals "KINDS" = some (some (.ref (He.ga K "KINDS")))),
  decide (((He.ga K "KINDS") == sysModules) = false),
  decide (tabsOf K ["_law_right", "law"] = [((Hk.tabP K "_law_right"), ("_law_right.<locals>.<lambda>" : Str)), ((Hk.tabP K "law"), ("law.<locals>.<lambda>" : Str))]),
  decide (csOf K ["_law_right", "law"] = [((Hk.tabC K "_law_right"), (Hk.tabP K "_law_right")), ((Hk.tabC K "law"), (Hk.tabP K "law"))]),
  decide ([(Hk.tabP K "_law_right"), (Hk.tabP K "law")].Nodup),
  ((MR.csOf K ["_law_right", "law"]).all fun p => PySem.W.codeHdIn K p.1 p.2 && decide (p.2 ∈ (MR.csOf K ["_law_right", "law"]).map (·.2)))]
abbrev bits (K : Frag) : List Bool := bits0 K ++ (bits1 K ++ (bits2 K ++ (bits3 K ++ (bits4 K ++ (bits5 K ++ (bits6 K ++ (bits7 K ++ (bits8 K ++ (bits9 K ++ (bits10 K))))))))))
def dat : Hk.Dat := ⟨6, fns, vals, bits, fun K => Hk.dctH K (He.ga K "KINDS"), [("set" : Str), ("remove" : Str), ("rename" : Str), ("rewrite" : Str), ("promise" : Str), ("drop" : Str)], fun K => (MR.csOf K ["_law_right", "law"]).map (·.2)⟩
theorem runF (w : World) : HandSHeadRun.RunEq R qv (Hk.hookM dat) (Hk.obT dat) 9000 names (w.withFollow "special-get-raises" false) := by
  intro os; kernel_rfl
theorem runT (w : World) : HandSHeadRun.RunEq R qv (Hk.hookM dat) (Hk.obT dat) 9000 names (w.withFollow "special-get-raises" true) := by
  intro os; kernel_rfl
theorem run (w : World) : HandSHeadRun.RunEq R qv (Hk.hookM dat) (Hk.obT dat) 9000 names w :=
  byRow2 "special-get-raises" (P := fun w => HandSHeadRun.RunEq R qv (Hk.hookM dat) (Hk.obT dat) 9000 names w) runF runT w
end K86.Hd

open PySem PySem.W PyProof.Rows
set_option maxRecDepth 100000 in
set_option maxHeartbeats 40000000 in
theorem K86.Hd.mk {w : World} {mg : Str → Option Value} {fa : Addr} {h : Heap} (Y : (Hk.hookM K86.Hd.dat).says w h) (G : h.Ns mainGlobals mg) (hmg : mg "law" = some (.ref fa)) : ∃ (K : PySem.W.Frag) (fd : FuncData), K.In h ∧ (∀ c ∈ MR.csOf K ["_law_right", "law"], PySem.W.CodeHd h c.1 c.2 ∧ h.get? c.2 = some { cls := .none, data := .fields #[] }) ∧ (∀ c ∈ MR.csOf K ["_law_right", "law"], K.lookup c.2 = none) ∧
    (∀ (s : Shared) (u : Value), BindsTo s fd ⟨[u], []⟩ [("script", u)]) ∧ ∀ base : Heap, K.In base → base.Ns mainGlobals mg → (∀ p ∈ MR.csOf K ["_law_right", "law"], LamX.TabB base mg p.1 p.2) → (∃ o, base.get? sysModules = some o) → MR.FnG PySem.Challenge.rw_openlimit_k86_texts_refused.prog w K mg base K86.LV_law fa fd ["script"] (@MR.spLaw (⟨MR.tabsOf K ["_law_right", "law"], MR.JP.no, none⟩ : MR.Tb) K) := by
  obtain ⟨K, KX, c, fe, hh, ht⟩ := Y
  have c : (K86.Hd.bits K).all id = true := c
  have fe : (K86.Hd.fns K).map (Hk.fnV K) = K86.Hd.vals := fe
  have LM := @K86.law_mk (PySem.Challenge.rw_openlimit_k86_texts_refused.prog) w K _ _ _ KX G hmg
  obtain ⟨oc_is_sign, od_is_sign, kv_is_sign, dc_is_sign, pm_is_sign, an_is_sign, cd_is_sign, ct_is_sign, sl_is_sign, l_is_sign, q_is_sign, k_is_sign⟩ := Hk.plain_ok (Hk.fnv_at fe 0 rfl rfl) (Hk.bit c 0 rfl)
  obtain ⟨oc_is_alphabet, od_is_alphabet, kv_is_alphabet, dc_is_alphabet, pm_is_alphabet, an_is_alphabet, cd_is_alphabet, ct_is_alphabet, sl_is_alphabet, l_is_alphabet, q_is_alphabet, k_is_alphabet⟩ := Hk.plain_ok (Hk.fnv_at fe 1 rfl rfl) (Hk.bit c 1 rfl)
  obtain ⟨oc_is_integer, od_is_integer, kv_is_integer, dc_is_integer, pm_is_integer, an_is_integer, cd_is_integer, ct_is_integer, sl_is_integer, l_is_integer, q_is_integer, k_is_integer⟩ := Hk.plain_ok (Hk.fnv_at fe 2 rfl rfl) (Hk.bit c 2 rfl)
  obtain ⟨oc_is_letter, od_is_letter, kv_is_letter, dc_is_letter, pm_is_letter, an_is_letter, cd_is_letter, ct_is_letter, sl_is_letter, l_is_letter, q_is_letter, k_is_letter⟩ := Hk.plain_ok (Hk.fnv_at fe 3 rfl rfl) (Hk.bit c 3 rfl)
  obtain ⟨oc_is_recipe_row, od_is_recipe_row, kv_is_recipe_row, dc_is_recipe_row, pm_is_recipe_row, an_is_recipe_row, cd_is_recipe_row, ct_is_recipe_row, sl_is_recipe_row, l_is_recipe_row, q_is_recipe_row, k_is_recipe_row⟩ := Hk.plain_ok (Hk.fnv_at fe 4 rfl rfl) (Hk.bit c 4 rfl)
  obtain ⟨oc_is_recipe_in, od_is_recipe_in, kv_is_recipe_in, dc_is_recipe_in, pm_is_recipe_in, an_is_recipe_in, cd_is_recipe_in, ct_is_recipe_in, sl_is_recipe_in, l_is_recipe_in, q_is_recipe_in, k_is_recipe_in⟩ := Hk.plain_ok (Hk.fnv_at fe 5 rfl rfl) (Hk.bit c 5 rfl)
  obtain ⟨oc_signs_in, od_signs_in, kv_signs_in, dc_signs_in, pm_signs_in, an_signs_in, cd_signs_in, ct_signs_in, sl_signs_in, l_signs_in, q_signs_in, k_signs_in⟩ := Hk.plain_ok (Hk.fnv_at fe 6 rfl rfl) (Hk.bit c 6 rfl)
  obtain ⟨oc_rows_text, od_rows_text, kv_rows_text, dc_rows_text, pm_rows_text, an_rows_text, cd_rows_text, ct_rows_text, sl_rows_text, l_rows_text, q_rows_text, k_rows_text⟩ := Hk.plain_ok (Hk.fnv_at fe 7 rfl rfl) (Hk.bit c 7 rfl)
  obtain ⟨oc_recipe_text, od_recipe_text, kv_recipe_text, dc_recipe_text, pm_recipe_text, an_recipe_text, cd_recipe_text, ct_recipe_text, sl_recipe_text, l_recipe_text, q_recipe_text, k_recipe_text⟩ := Hk.plain_ok (Hk.fnv_at fe 8 rfl rfl) (Hk.bit c 8 rfl)
  obtain ⟨oc__law_stream, od__law_stream, kv__law_stream, dc__law_stream, pm__law_stream, an__law_stream, cd__law_stream, ct__law_stream, sl__law_stream, l__law_stream, q__law_stream, k__law_stream⟩ := Hk.plain_ok (Hk.fnv_at fe 9 rfl rfl) (Hk.bit c 9 rfl)
  obtain ⟨oc__law_error, od__law_error, kv__law_error, dc__law_error, pm__law_error, an__law_error, cd__law_error, ct__law_error, sl__law_error, l__law_error, q__law_error, k__law_error⟩ := Hk.plain_ok (Hk.fnv_at fe 10 rfl rfl) (Hk.bit c 10 rfl)
  obtain ⟨oc_are_ascending, od_are_ascending, kv_are_ascending, dc_are_ascending, pm_are_ascending, an_are_ascending, cd_are_ascending, ct_are_ascending, sl_are_ascending, l_are_ascending, q_are_ascending, k_are_ascending⟩ := Hk.plain_ok (Hk.fnv_at fe 11 rfl rfl) (Hk.bit c 11 rfl)
  obtain ⟨oc_are_states, od_are_states, kv_are_states, dc_are_states, pm_are_states, an_are_states, cd_are_states, ct_are_states, sl_are_states, l_are_states, q_are_states, k_are_states⟩ := Hk.plain_ok (Hk.fnv_at fe 12 rfl rfl) (Hk.bit c 12 rfl)
  obtain ⟨oc_is_step, od_is_step, kv_is_step, dc_is_step, pm_is_step, an_is_step, cd_is_step, ct_is_step, sl_is_step, l_is_step, q_is_step, k_is_step⟩ := Hk.plain_ok (Hk.fnv_at fe 13 rfl rfl) (Hk.bit c 13 rfl)
  obtain ⟨oc_is_machine, od_is_machine, kv_is_machine, dc_is_machine, pm_is_machine, an_is_machine, cd_is_machine, ct_is_machine, sl_is_machine, l_is_machine, q_is_machine, k_is_machine⟩ := Hk.plain_ok (Hk.fnv_at fe 14 rfl rfl) (Hk.bit c 14 rfl)
  obtain ⟨oc_require_machine, od_require_machine, kv_require_machine, dc_require_machine, pm_require_machine, an_require_machine, cd_require_machine, ct_require_machine, sl_require_machine, l_require_machine, q_require_machine, k_require_machine⟩ := Hk.plain_ok (Hk.fnv_at fe 15 rfl rfl) (Hk.bit c 15 rfl)
  obtain ⟨oc_numbers_text, od_numbers_text, kv_numbers_text, dc_numbers_text, pm_numbers_text, an_numbers_text, cd_numbers_text, ct_numbers_text, sl_numbers_text, l_numbers_text, q_numbers_text, k_numbers_text⟩ := Hk.plain_ok (Hk.fnv_at fe 16 rfl rfl) (Hk.bit c 16 rfl)
  obtain ⟨oc_step_text, od_step_text, kv_step_text, dc_step_text, pm_step_text, an_step_text, cd_step_text, ct_step_text, sl_step_text, l_step_text, q_step_text, k_step_text⟩ := Hk.plain_ok (Hk.fnv_at fe 17 rfl rfl) (Hk.bit c 17 rfl)
  obtain ⟨oc_machine_text, od_machine_text, kv_machine_text, dc_machine_text, pm_machine_text, an_machine_text, cd_machine_text, ct_machine_text, sl_machine_text, l_machine_text, q_machine_text, k_machine_text⟩ := Hk.plain_ok (Hk.fnv_at fe 18 rfl rfl) (Hk.bit c 18 rfl)
  obtain ⟨oc_lines_of, od_lines_of, kv_lines_of, dc_lines_of, pm_lines_of, an_lines_of, cd_lines_of, ct_lines_of, sl_lines_of, l_lines_of, q_lines_of, k_lines_of⟩ := Hk.plain_ok (Hk.fnv_at fe 19 rfl rfl) (Hk.bit c 19 rfl)
  obtain ⟨oc_number_of, od_number_of, kv_number_of, dc_number_of, pm_number_of, an_number_of, cd_number_of, ct_number_of, sl_number_of, l_number_of, q_number_of, k_number_of⟩ := Hk.plain_ok (Hk.fnv_at fe 20 rfl rfl) (Hk.bit c 20 rfl)
  obtain ⟨oc_parsed_step, od_parsed_step, kv_parsed_step, dc_parsed_step, pm_parsed_step, an_parsed_step, cd_parsed_step, ct_parsed_step, sl_parsed_step, l_parsed_step, q_parsed_step, k_parsed_step⟩ := Hk.plain_ok (Hk.fnv_at fe 21 rfl rfl) (Hk.bit c 21 rfl)
  obtain ⟨oc_numbers_of, od_numbers_of, kv_numbers_of, dc_numbers_of, pm_numbers_of, an_numbers_of, cd_numbers_of, ct_numbers_of, sl_numbers_of, l_numbers_of, q_numbers_of, k_numbers_of⟩ := Hk.plain_ok (Hk.fnv_at fe 22 rfl rfl) (Hk.bit c 22 rfl)
  obtain ⟨oc_parsed_head, od_parsed_head, kv_parsed_head, dc_parsed_head, pm_parsed_head, an_parsed_head, cd_parsed_head, ct_parsed_head, sl_parsed_head, l_parsed_head, q_parsed_head, k_parsed_head⟩ := Hk.plain_ok (Hk.fnv_at fe 23 rfl rfl) (Hk.bit c 23 rfl)
  obtain ⟨oc_parse_machine, od_parse_machine, kv_parse_machine, dc_parse_machine, pm_parse_machine, an_parse_machine, cd_parse_machine, ct_parse_machine, sl_parse_machine, l_parse_machine, q_parse_machine, k_parse_machine⟩ := Hk.plain_ok (Hk.fnv_at fe 24 rfl rfl) (Hk.bit c 24 rfl)
  obtain ⟨oc_parsed_row, od_parsed_row, kv_parsed_row, dc_parsed_row, pm_parsed_row, an_parsed_row, cd_parsed_row, ct_parsed_row, sl_parsed_row, l_parsed_row, q_parsed_row, k_parsed_row⟩ := Hk.plain_ok (Hk.fnv_at fe 25 rfl rfl) (Hk.bit c 25 rfl)
  obtain ⟨oc_parse_recipe, od_parse_recipe, kv_parse_recipe, dc_parse_recipe, pm_parse_recipe, an_parse_recipe, cd_parse_recipe, ct_parse_recipe, sl_parse_recipe, l_parse_recipe, q_parse_recipe, k_parse_recipe⟩ := Hk.plain_ok (Hk.fnv_at fe 26 rfl rfl) (Hk.bit c 26 rfl)
  obtain ⟨oc_is_pattern, od_is_pattern, kv_is_pattern, dc_is_pattern, pm_is_pattern, an_is_pattern, cd_is_pattern, ct_is_pattern, sl_is_pattern, l_is_pattern, q_is_pattern, k_is_pattern⟩ := Hk.plain_ok (Hk.fnv_at fe 27 rfl rfl) (Hk.bit c 27 rfl)
  obtain ⟨oc_is_name, od_is_name, kv_is_name, dc_is_name, pm_is_name, an_is_name, cd_is_name, ct_is_name, sl_is_name, l_is_name, q_is_name, k_is_name⟩ := Hk.plain_ok (Hk.fnv_at fe 28 rfl rfl) (Hk.bit c 28 rfl)
  obtain ⟨oc_set_words, od_set_words, kv_set_words, dc_set_words, pm_set_words, an_set_words, cd_set_words, ct_set_words, sl_set_words, l_set_words, q_set_words, k_set_words⟩ := Hk.plain_ok (Hk.fnv_at fe 29 rfl rfl) (Hk.bit c 29 rfl)
  obtain ⟨oc_name_words, od_name_words, kv_name_words, dc_name_words, pm_name_words, an_name_words, cd_name_words, ct_name_words, sl_name_words, l_name_words, q_name_words, k_name_words⟩ := Hk.plain_ok (Hk.fnv_at fe 30 rfl rfl) (Hk.bit c 30 rfl)
  obtain ⟨oc_is_rule, od_is_rule, kv_is_rule, dc_is_rule, pm_is_rule, an_is_rule, cd_is_rule, ct_is_rule, sl_is_rule, l_is_rule, q_is_rule, k_is_rule⟩ := Hk.plain_ok (Hk.fnv_at fe 31 rfl rfl) (Hk.bit c 31 rfl)
  obtain ⟨oc_is_path, od_is_path, kv_is_path, dc_is_path, pm_is_path, an_is_path, cd_is_path, ct_is_path, sl_is_path, l_is_path, q_is_path, k_is_path⟩ := Hk.plain_ok (Hk.fnv_at fe 32 rfl rfl) (Hk.bit c 32 rfl)
  obtain ⟨oc_rewrite_words, od_rewrite_words, kv_rewrite_words, dc_rewrite_words, pm_rewrite_words, an_rewrite_words, cd_rewrite_words, ct_rewrite_words, sl_rewrite_words, l_rewrite_words, q_rewrite_words, k_rewrite_words⟩ := Hk.plain_ok (Hk.fnv_at fe 33 rfl rfl) (Hk.bit c 33 rfl)
  obtain ⟨oc_is_cap, od_is_cap, kv_is_cap, dc_is_cap, pm_is_cap, an_is_cap, cd_is_cap, ct_is_cap, sl_is_cap, l_is_cap, q_is_cap, k_is_cap⟩ := Hk.plain_ok (Hk.fnv_at fe 34 rfl rfl) (Hk.bit c 34 rfl)
  obtain ⟨oc_promise_words, od_promise_words, kv_promise_words, dc_promise_words, pm_promise_words, an_promise_words, cd_promise_words, ct_promise_words, sl_promise_words, l_promise_words, q_promise_words, k_promise_words⟩ := Hk.plain_ok (Hk.fnv_at fe 35 rfl rfl) (Hk.bit c 35 rfl)
  obtain ⟨oc_drop_words, od_drop_words, kv_drop_words, dc_drop_words, pm_drop_words, an_drop_words, cd_drop_words, ct_drop_words, sl_drop_words, l_drop_words, q_drop_words, k_drop_words⟩ := Hk.plain_ok (Hk.fnv_at fe 36 rfl rfl) (Hk.bit c 36 rfl)
  obtain ⟨oc_edit_words, od_edit_words, kv_edit_words, dc_edit_words, pm_edit_words, an_edit_words, cd_edit_words, ct_edit_words, sl_edit_words, l_edit_words, q_edit_words, k_edit_words⟩ := Hk.plain_ok (Hk.fnv_at fe 37 rfl rfl) (Hk.bit c 37 rfl)
  obtain ⟨oc_edit_text, od_edit_text, kv_edit_text, dc_edit_text, pm_edit_text, an_edit_text, cd_edit_text, ct_edit_text, sl_edit_text, l_edit_text, q_edit_text, k_edit_text⟩ := Hk.plain_ok (Hk.fnv_at fe 38 rfl rfl) (Hk.bit c 38 rfl)
  obtain ⟨oc_parsed_parts, od_parsed_parts, kv_parsed_parts, dc_parsed_parts, pm_parsed_parts, an_parsed_parts, cd_parsed_parts, ct_parsed_parts, sl_parsed_parts, l_parsed_parts, q_parsed_parts, k_parsed_parts⟩ := Hk.plain_ok (Hk.fnv_at fe 39 rfl rfl) (Hk.bit c 39 rfl)
  obtain ⟨oc_parsed_edit, od_parsed_edit, kv_parsed_edit, dc_parsed_edit, pm_parsed_edit, an_parsed_edit, cd_parsed_edit, ct_parsed_edit, sl_parsed_edit, l_parsed_edit, q_parsed_edit, k_parsed_edit⟩ := Hk.plain_ok (Hk.fnv_at fe 40 rfl rfl) (Hk.bit c 40 rfl)
  obtain ⟨oc_parse_edit, od_parse_edit, kv_parse_edit, dc_parse_edit, pm_parse_edit, an_parse_edit, cd_parse_edit, ct_parse_edit, sl_parse_edit, l_parse_edit, q_parse_edit, k_parse_edit⟩ := Hk.plain_ok (Hk.fnv_at fe 41 rfl rfl) (Hk.bit c 41 rfl)
  obtain ⟨oc__law_draw, od__law_draw, kv__law_draw, dc__law_draw, pm__law_draw, an__law_draw, cd__law_draw, ct__law_draw, sl__law_draw, l__law_draw, q__law_draw, k__law_draw⟩ := Hk.plain_ok (Hk.fnv_at fe 42 rfl rfl) (Hk.bit c 42 rfl)
  obtain ⟨oc__law_pick, od__law_pick, kv__law_pick, dc__law_pick, pm__law_pick, an__law_pick, cd__law_pick, ct__law_pick, sl__law_pick, l__law_pick, q__law_pick, k__law_pick⟩ := Hk.plain_ok (Hk.fnv_at fe 43 rfl rfl) (Hk.bit c 43 rfl)
  obtain ⟨oc__law_other, od__law_other, kv__law_other, dc__law_other, pm__law_other, an__law_other, cd__law_other, ct__law_other, sl__law_other, l__law_other, q__law_other, k__law_other⟩ := Hk.plain_ok (Hk.fnv_at fe 44 rfl rfl) (Hk.bit c 44 rfl)
  obtain ⟨oc_require_pattern, od_require_pattern, kv_require_pattern, dc_require_pattern, pm_require_pattern, an_require_pattern, cd_require_pattern, ct_require_pattern, sl_require_pattern, l_require_pattern, q_require_pattern, k_require_pattern⟩ := Hk.plain_ok (Hk.fnv_at fe 45 rfl rfl) (Hk.bit c 45 rfl)
  obtain ⟨oc_Pattern_check, od_Pattern_check, kv_Pattern_check, dc_Pattern_check, pm_Pattern_check, an_Pattern_check, cd_Pattern_check, ct_Pattern_check, sl_Pattern_check, l_Pattern_check, q_Pattern_check, k_Pattern_check⟩ := Hk.plain_ok (Hk.fnv_at fe 46 rfl rfl) (Hk.bit c 46 rfl)
  obtain ⟨oc_Pattern___init__, od_Pattern___init__, kv_Pattern___init__, dc_Pattern___init__, pm_Pattern___init__, an_Pattern___init__, cd_Pattern___init__, ct_Pattern___init__, sl_Pattern___init__, l_Pattern___init__, q_Pattern___init__, k_Pattern___init__⟩ := Hk.plain_ok (Hk.fnv_at fe 47 rfl rfl) (Hk.bit c 47 rfl)
  obtain ⟨cc_Letter___init__, cda_Letter___init__, fo_Letter___init__, fv_Letter___init__, ff_Letter___init__, ft_Letter___init__, oc_Letter___init__, kv_Letter___init__, dc_Letter___init__, pm_Letter___init__, ct_Letter___init__, od_Letter___init__, an_Letter___init__, sl_Letter___init__, l_Letter___init__, q_Letter___init__, fo1_Letter___init__, fo2_Letter___init__, fo3_Letter___init__, fo4_Letter___init__, ce_Letter___init__⟩ := Hk.sup_ok (Hk.fnv_at fe 48 rfl rfl) (Hk.bit c 48 rfl)
  obtain ⟨oc__law_no_edit, od__law_no_edit, kv__law_no_edit, dc__law_no_edit, pm__law_no_edit, an__law_no_edit, cd__law_no_edit, ct__law_no_edit, sl__law_no_edit, l__law_no_edit, q__law_no_edit, k__law_no_edit⟩ := Hk.plain_ok (Hk.fnv_at fe 49 rfl rfl) (Hk.bit c 49 rfl)
  obtain ⟨oc__law_right, od__law_right, kv__law_right, dc__law_right, pm__law_right, an__law_right, ct__law_right, sl__law_right, to__law_right, tv__law_right, l__law_right, q__law_right, k__law_right, t1__law_right, t2__law_right, t3__law_right⟩ := Hk.lam_ok2 (Hk.dec c 52 rfl) (Hk.fnv_at fe 50 rfl rfl) (Hk.bit c 50 rfl) (Hk.bit c 51 rfl)
  obtain ⟨oc_law, od_law, kv_law, dc_law, pm_law, an_law, ct_law, sl_law, to_law, tv_law, l_law, q_law, k_law, t1_law, t2_law, t3_law⟩ := Hk.lam_ok2 (Hk.dec c 55 rfl) (Hk.fnv_at fe 51 rfl rfl) (Hk.bit c 53 rfl) (Hk.bit c 54 rfl)
  obtain ⟨t_BACK, c_BACK⟩ := Hk.strB_ok (Hk.bit c 56 rfl)
  obtain ⟨t_DIGITS, c_DIGITS⟩ := Hk.strB_ok (Hk.bit c 57 rfl)
  obtain ⟨td_EXACT, vs_EXACT, tn_EXACT, ts_EXACT, l_EXACT, v_EXACT⟩ := Hk.tupB_ok (Hk.bit c 58 rfl)
  obtain ⟨t_LETTER, c_LETTER⟩ := Hk.strB_ok (Hk.bit c 59 rfl)
  obtain ⟨t_LETTERS, c_LETTERS⟩ := Hk.strB_ok (Hk.bit c 60 rfl)
  obtain ⟨t_MAX_COST, c_MAX_COST⟩ := Hk.intB_ok (Hk.bit c 61 rfl)
  obtain ⟨t_MAX_DEPTH, c_MAX_DEPTH⟩ := Hk.intB_ok (Hk.bit c 62 rfl)
  obtain ⟨t_MAX_DIGITS, c_MAX_DIGITS⟩ := Hk.intB_ok (Hk.bit c 63 rfl)
  obtain ⟨t_MAX_LETTERS, c_MAX_LETTERS⟩ := Hk.intB_ok (Hk.bit c 64 rfl)
  obtain ⟨t_MAX_NAME, c_MAX_NAME⟩ := Hk.intB_ok (Hk.bit c 65 rfl)
  obtain ⟨t_MAX_NODES, c_MAX_NODES⟩ := Hk.intB_ok (Hk.bit c 66 rfl)
  obtain ⟨t_MAX_PLACES, c_MAX_PLACES⟩ := Hk.intB_ok (Hk.bit c 67 rfl)
  obtain ⟨t_MAX_ROWS, c_MAX_ROWS⟩ := Hk.intB_ok (Hk.bit c 68 rfl)
  obtain ⟨t_MAX_STATES, c_MAX_STATES⟩ := Hk.intB_ok (Hk.bit c 69 rfl)
  obtain ⟨t_MAX_STEPS, c_MAX_STEPS⟩ := Hk.intB_ok (Hk.bit c 70 rfl)
  obtain ⟨t_MOST_CAP, c_MOST_CAP⟩ := Hk.intB_ok (Hk.bit c 71 rfl)
  obtain ⟨t_MOST_INDEX, c_MOST_INDEX⟩ := Hk.intB_ok (Hk.bit c 72 rfl)
  obtain ⟨t_NOTHING, c_NOTHING⟩ := Hk.strB_ok (Hk.bit c 73 rfl)
  obtain ⟨t_PUMP, c_PUMP⟩ := Hk.strB_ok (Hk.bit c 74 rfl)
  obtain ⟨td_ROUGH, vs_ROUGH, tn_ROUGH, ts_ROUGH, l_ROUGH, v_ROUGH⟩ := Hk.tupB_ok (Hk.bit c 75 rfl)
  obtain ⟨t_SIGNS, c_SIGNS⟩ := Hk.strB_ok (Hk.bit c 76 rfl)
  obtain ⟨t_THEN, c_THEN⟩ := Hk.strB_ok (Hk.bit c 77 rfl)
  obtain ⟨es_KINDS, kn_KINDS, l_KINDS, en_KINDS⟩ := Hk.dctB_ok (Hk.bit c 78 rfl) hh
  have ⟨t_KINDS_0, t_KINDS_1, t_KINDS_2, t_KINDS_3, t_KINDS_4, t_KINDS_5, ees_KINDS⟩ : ∃ t0 t1 t2 t3 t4 t5, es_KINDS = [⟨PyData.keyHash w.params "set", .str "set" t0, .ref (Hk.entA K (He.ga K "KINDS") 0)⟩, ⟨PyData.keyHash w.params "remove", .str "remove" t1, .ref (Hk.entA K (He.ga K "KINDS") 1)⟩, ⟨PyData.keyHash w.params "rename", .str "rename" t2, .ref (Hk.entA K (He.ga K "KINDS") 2)⟩, ⟨PyData.keyHash w.params "rewrite", .str "rewrite" t3, .ref (Hk.entA K (He.ga K "KINDS") 3)⟩, ⟨PyData.keyHash w.params "promise", .str "promise" t4, .ref (Hk.entA K (He.ga K "KINDS") 4)⟩, ⟨PyData.keyHash w.params "drop", .str "drop" t5, .ref (Hk.entA K (He.ga K "KINDS") 5)⟩] := by
    clear LM
    obtain _ | @⟨t0, _, _, _, _, _, en_KINDS⟩ := en_KINDS; obtain _ | @⟨t1, _, _, _, _, _, en_KINDS⟩ := en_KINDS; obtain _ | @⟨t2, _, _, _, _, _, en_KINDS⟩ := en_KINDS; obtain _ | @⟨t3, _, _, _, _, _, en_KINDS⟩ := en_KINDS; obtain _ | @⟨t4, _, _, _, _, _, en_KINDS⟩ := en_KINDS; obtain _ | @⟨t5, _, _, _, _, _, en_KINDS⟩ := en_KINDS; cases en_KINDS; exact ⟨t0, t1, t2, t3, t4, t5, rfl⟩
  subst ees_KINDS
  obtain ⟨kd_KINDS_0, k2_KINDS_0, km_KINDS_0, ks_KINDS_0, e_KINDS_0⟩ := Hk.pairB_ok (Hk.bit c 79 rfl)
  obtain ⟨kd_KINDS_1, k2_KINDS_1, km_KINDS_1, ks_KINDS_1, e_KINDS_1⟩ := Hk.pairB_ok (Hk.bit c 80 rfl)
  obtain ⟨kd_KINDS_2, k2_KINDS_2, km_KINDS_2, ks_KINDS_2, e_KINDS_2⟩ := Hk.pairB_ok (Hk.bit c 81 rfl)
  obtain ⟨kd_KINDS_3, k2_KINDS_3, km_KINDS_3, ks_KINDS_3, e_KINDS_3⟩ := Hk.pairB_ok (Hk.bit c 82 rfl)
  obtain ⟨kd_KINDS_4, k2_KINDS_4, km_KINDS_4, ks_KINDS_4, e_KINDS_4⟩ := Hk.pairB_ok (Hk.bit c 83 rfl)
  obtain ⟨kd_KINDS_5, k2_KINDS_5, km_KINDS_5, ks_KINDS_5, e_KINDS_5⟩ := Hk.pairB_ok (Hk.bit c 84 rfl)
  obtain ⟨fd, hb, hF⟩ := LM ⟨(Hk.dec c 85 rfl), (Hk.bit c 86 rfl), (Hk.bit c 87 rfl), (Hk.dec c 88 rfl), (Hk.dec c 89 rfl), (Hk.bit c 90 rfl), (Hk.bit c 91 rfl), (Hk.dec c 92 rfl), (Hk.dec c 93 rfl), (Hk.dec c 94 rfl), (Hk.dec c 95 rfl), (Hk.dec c 96 rfl), (Hk.dec c 97 rfl)⟩ ⟨(Hk.dec c 98 rfl), (Hk.bit c 99 rfl), (Hk.bit c 100 rfl), (Hk.dec c 101 rfl), (Hk.dec c 102 rfl), (Hk.bit c 103 rfl), (Hk.bit c 104 rfl), (Hk.dec c 105 rfl), (Hk.dec c 106 rfl), (Hk.dec c 107 rfl), (Hk.dec c 95 rfl), (Hk.dec c 96 rfl), (Hk.dec c 108 rfl)⟩ ⟨(Hk.dec c 109 rfl), (Hk.bit c 110 rfl), (Hk.bit c 111 rfl), (Hk.dec c 112 rfl), (Hk.dec c 113 rfl), (Hk.bit c 114 rfl), (Hk.bit c 115 rfl), (Hk.dec c 116 rfl), (Hk.dec c 117 rfl), (Hk.dec c 118 rfl), (Hk.dec c 95 rfl), (Hk.dec c 96 rfl), (Hk.dec c 119 rfl)⟩ ⟨(Hk.dec c 120 rfl), (Hk.bit c 121 rfl), (Hk.bit c 122 rfl), (Hk.dec c 123 rfl), (Hk.dec c 124 rfl), (Hk.bit c 125 rfl), (Hk.bit c 126 rfl), (Hk.dec c 127 rfl), (Hk.dec c 128 rfl), (Hk.dec c 129 rfl), (Hk.dec c 95 rfl), (Hk.dec c 96 rfl), (Hk.dec c 130 rfl)⟩ ⟨(Hk.dec c 131 rfl), (Hk.bit c 132 rfl), (Hk.bit c 133 rfl), (Hk.dec c 134 rfl), (Hk.dec c 135 rfl), (Hk.bit c 136 rfl), (Hk.bit c 137 rfl), (Hk.dec c 138 rfl), (Hk.dec c 139 rfl), (Hk.dec c 140 rfl), (Hk.dec c 95 rfl), (Hk.dec c 96 rfl), (Hk.dec c 141 rfl)⟩ ⟨(Hk.dec c 142 rfl), (Hk.bit c 143 rfl), (Hk.bit c 144 rfl), (Hk.dec c 145 rfl), (Hk.dec c 146 rfl), (Hk.bit c 147 rfl), (Hk.bit c 148 rfl), (Hk.dec c 149 rfl), (Hk.dec c 150 rfl), (Hk.dec c 151 rfl), (Hk.dec c 95 rfl), (Hk.dec c 96 rfl), (Hk.dec c 152 rfl)⟩ (Hk.dec c 153 rfl) (Hk.dec c 154 rfl) (Hk.dec c 155 rfl) (Hk.dec c 156 rfl) (Hk.dec c 157 rfl) (Hk.dec c 158 rfl) (Hk.dec c 159 rfl) (Hk.dec c 160 rfl) (Hk.dec c 161 rfl) (Hk.dec c 162 rfl) (Hk.dec c 163 rfl) (Hk.dec c 164 rfl) (Hk.dec c 165 rfl) (Hk.dec c 166 rfl) (Hk.dec c 167 rfl) (Hk.dec c 168 rfl) (Hk.dec c 169 rfl) (Hk.dec c 170 rfl) (Hk.dec c 171 rfl) (Hk.dec c 172 rfl) (Hk.dec c 173 rfl) (Hk.dec c 174 rfl) (Hk.dec c 175 rfl) (Hk.dec c 176 rfl) (Hk.dec c 177 rfl) (Hk.dec c 178 rfl) (Hk.dec c 179 rfl) (Hk.dec c 180 rfl) (Hk.dec c 181 rfl) (Hk.dec c 182 rfl) (Hk.dec c 183 rfl) (Hk.dec c 184 rfl) (Hk.dec c 185 rfl) (Hk.dec c 186 rfl) (Hk.dec c 187 rfl) (Hk.dec c 188 rfl) (Hk.dec c 189 rfl) (Hk.dec c 190 rfl) (Hk.dec c 191 rfl) (Hk.dec c 192 rfl) (Hk.dec c 193 rfl) (Hk.dec c 194 rfl) (Hk.dec c 195 rfl) (Hk.dec c 196 rfl) (Hk.dec c 197 rfl) (Hk.dec c 198 rfl) (Hk.dec c 199 rfl) (Hk.dec c 200 rfl) (Hk.dec c 201 rfl) (Hk.dec c 202 rfl) (Hk.dec c 203 rfl) (Hk.dec c 204 rfl) ⟨(Hk.bit c 205 rfl), (Hk.bit c 206 rfl), (Hk.bit c 207 rfl), (Hk.dec c 208 rfl)⟩ ⟨⟨(Hk.bit c 205 rfl), (Hk.bit c 206 rfl), (Hk.bit c 207 rfl), (Hk.dec c 208 rfl)⟩, (Hk.dec c 209 rfl), (Hk.dec c 95 rfl), (Hk.dec c 96 rfl), (Hk.dec c 210 rfl)⟩ ⟨(Hk.bit c 211 rfl), (Hk.dec c 212 rfl), (Hk.bit c 213 rfl), (Hk.bit c 214 rfl)⟩ (show PySem.W.findIn K (.ref (He.ga K "Letter")) "own_letters" = some none from (Hk.dec c 215 rfl)) (show PySem.W.findIn K (.ref (He.ga K "Letter")) "own_levels" = some none from (Hk.dec c 216 rfl)) (show PySem.W.findIn K (.ref (He.ga K "Letter")) "own_nodes" = some none from (Hk.dec c 217 rfl)) (show PySem.W.findIn K (.ref (He.ga K "Letter")) "own_open" = some none from (Hk.dec c 218 rfl)) (show PySem.W.findIn K (.ref (He.ga K "Letter")) "own_pieces" = some none from (Hk.dec c 219 rfl)) (show PySem.W.findIn K (.ref (He.ga K "Letter")) "own_places" = some none from (Hk.dec c 220 rfl)) (show PySem.W.findIn K (.ref (He.ga K "Letter")) "own_text" = some none from (Hk.dec c 221 rfl)) ⟨(Hk.dec c 222 rfl), (Hk.bit c 223 rfl), (Hk.bit c 224 rfl)⟩ (Hk.allT (f := fun c => .type c) (Hk.bit c 225 rfl)) (Hk.dec c 226 rfl) (Hk.allS (f := fun c => .type c) (Hk.bit c 227 rfl)) (Hk.dec c 228 rfl) (Hk.dec c 229 rfl) (Hk.dec c 230 rfl) (Hk.dec c 231 rfl) (Hk.dec c 232 rfl) (Hk.dec c 233 rfl) (Hk.dec c 234 rfl) (Hk.dec c 235 rfl) (Hk.dec c 236 rfl) (Hk.dec c 237 rfl) (Hk.dec c 238 rfl) (Hk.dec c 239 rfl) (Hk.dec c 240 rfl) (Hk.dec c 241 rfl) (Hk.dec c 242 rfl) (Hk.dec c 243 rfl) (Hk.dec c 244 rfl) (Hk.dec c 245 rfl) c_BACK rfl c_DIGITS rfl (Hk.dec c 246 rfl) l_EXACT v_EXACT c_LETTER rfl c_LETTERS rfl c_MAX_COST c_MAX_DEPTH c_MAX_DIGITS c_MAX_LETTERS c_MAX_NAME c_MAX_NODES c_MAX_PLACES c_MAX_ROWS c_MAX_STATES c_MAX_STEPS c_MOST_CAP c_MOST_INDEX c_NOTHING rfl c_PUMP rfl (Hk.dec c 247 rfl) l_ROUGH v_ROUGH c_SIGNS rfl c_THEN rfl (Hk.dec c 248 rfl) l_is_sign q_is_sign k_is_sign (Hk.dec c 249 rfl) l_is_alphabet q_is_alphabet k_is_alphabet (Hk.dec c 250 rfl) l_is_integer q_is_integer k_is_integer (Hk.dec c 251 rfl) l_is_letter q_is_letter k_is_letter (Hk.dec c 252 rfl) l_is_recipe_row q_is_recipe_row k_is_recipe_row (Hk.dec c 253 rfl) l_is_recipe_in q_is_recipe_in k_is_recipe_in (Hk.dec c 254 rfl) l_signs_in q_signs_in k_signs_in (Hk.dec c 255 rfl) l_rows_text q_rows_text k_rows_text (Hk.dec c 256 rfl) l_recipe_text q_recipe_text k_recipe_text (Hk.dec c 257 rfl) l__law_stream q__law_stream k__law_stream (Hk.dec c 258 rfl) l__law_error q__law_error k__law_error (Hk.dec c 259 rfl) l_are_ascending q_are_ascending k_are_ascending (Hk.dec c 260 rfl) l_are_states q_are_states k_are_states (Hk.dec c 261 rfl) l_is_step q_is_step k_is_step (Hk.dec c 262 rfl) l_is_machine q_is_machine k_is_machine (Hk.dec c 263 rfl) l_require_machine q_require_machine k_require_machine (Hk.dec c 264 rfl) l_numbers_text q_numbers_text k_numbers_text (Hk.dec c 265 rfl) l_step_text q_step_text k_step_text (Hk.dec c 266 rfl) l_machine_text q_machine_text k_machine_text (Hk.dec c 267 rfl) l_lines_of q_lines_of k_lines_of (Hk.dec c 268 rfl) l_number_of q_number_of k_number_of (Hk.dec c 269 rfl) l_parsed_step q_parsed_step k_parsed_step (Hk.dec c 270 rfl) l_numbers_of q_numbers_of k_numbers_of (Hk.dec c 271 rfl) l_parsed_head q_parsed_head k_parsed_head (Hk.dec c 272 rfl) l_parse_machine q_parse_machine k_parse_machine (Hk.dec c 273 rfl) l_parsed_row q_parsed_row k_parsed_row (Hk.dec c 274 rfl) l_parse_recipe q_parse_recipe k_parse_recipe (Hk.dec c 275 rfl) l_is_pattern q_is_pattern k_is_pattern (Hk.dec c 276 rfl) l_is_name q_is_name k_is_name (Hk.dec c 277 rfl) l_set_words q_set_words k_set_words (Hk.dec c 278 rfl) l_name_words q_name_words k_name_words (Hk.dec c 279 rfl) l_is_rule q_is_rule k_is_rule (Hk.dec c 280 rfl) l_is_path q_is_path k_is_path (Hk.dec c 281 rfl) l_rewrite_words q_rewrite_words k_rewrite_words (Hk.dec c 282 rfl) l_is_cap q_is_cap k_is_cap (Hk.dec c 283 rfl) l_promise_words q_promise_words k_promise_words (Hk.dec c 284 rfl) l_drop_words q_drop_words k_drop_words (Hk.dec c 285 rfl) l_edit_words q_edit_words k_edit_words (Hk.dec c 286 rfl) l_edit_text q_edit_text k_edit_text (Hk.dec c 287 rfl) l_parsed_parts q_parsed_parts k_parsed_parts (Hk.dec c 288 rfl) l_parsed_edit q_parsed_edit k_parsed_edit (Hk.dec c 289 rfl) l_parse_edit q_parse_edit k_parse_edit (Hk.dec c 290 rfl) l__law_draw q__law_draw k__law_draw (Hk.dec c 291 rfl) l__law_pick q__law_pick k__law_pick (Hk.dec c 292 rfl) l__law_other q__law_other k__law_other (Hk.dec c 293 rfl) l_require_pattern q_require_pattern k_require_pattern l_Pattern_check q_Pattern_check k_Pattern_check l_Pattern___init__ q_Pattern___init__ k_Pattern___init__ l_Letter___init__ q_Letter___init__ fo1_Letter___init__ fo2_Letter___init__ fo3_Letter___init__ fo4_Letter___init__ ce_Letter___init__ (Option.isSome_iff_exists.mp (Hk.bit c 294 rfl)) (by decide +kernel) (Hk.dec c 295 rfl) (Hk.dec c 296 rfl) ⟨(Hk.dec c 297 rfl), (Hk.dec c 298 rfl), (Hk.dec c 299 rfl), (Hk.bit c 300 rfl)⟩ (Hk.dec c 301 rfl) l__law_no_edit q__law_no_edit k__law_no_edit (Hk.dec c 52 rfl) l__law_right q__law_right k__law_right (Hk.dec c 55 rfl) l_law q_law k_law (Hk.dec c 302 rfl) l_KINDS (by repeat (first | exact trivial | refine ⟨⟨_, _, rfl, rfl⟩, ?_⟩)) e_KINDS_0 e_KINDS_1 e_KINDS_2 e_KINDS_3 e_KINDS_4 e_KINDS_5 (Hk.dec c 303 rfl) t1__law_right t2__law_right t3__law_right t1_law t2_law t3_law ⟨(Hk.dec c 304 rfl), (Hk.dec c 305 rfl)⟩ (Hk.dec c 306 rfl) (by first | exact @K86.law_true ⟨[], MR.JP.no, none⟩ | exact @K86.law_true ⟨false⟩ ⟨[], MR.JP.no, none⟩ | exact K86.law_true)
  refine ⟨K, fd, KX, ?_, ?_, hb, hF⟩
  · exact MR.csOf_hd KX (fun P hP => (ht P hP).1) (Hk.bit c 307 rfl)
  · exact fun p hp => (ht p.2 (List.mem_map_of_mem hp)).2
set_option maxRecDepth 100000 in
set_option maxHeartbeats 40000000 in
theorem PySem.Challenge.cw_openlimit_k86_texts_refused_holds : PySem.Challenge.rw_openlimit_k86_texts_refused.Holds := by
  w_on; o_law
  refine HandSHeadRun.head_any (r := OpenLaw.row PySem.Challenge.rw_openlimit_k86_texts_refused) (q := K86.Hd.qv) (H := Hk.hookM K86.Hd.dat) (ob := Hk.obT K86.Hd.dat) (M := 9000) (loose := K86.Hd.names) (d := HandSHeadRun.topDef (OpenLaw.row PySem.Challenge.rw_openlimit_k86_texts_refused).prog 99) (kwd := []) (Hk.obT_eq _) (by kernel_rfl) (fun s => by kernel_rfl) K86.Hd.run (by kernel_rfl) (by kernel_rfl) (by kernel_rfl) (by rfl) (by first | assumption | decide +kernel) (by decide +kernel) ⟨rfl, rfl, rfl, rfl, rfl, by decide +kernel⟩ ?hw ?hc
  case hw => w_witness2
  case hc =>
    refine Hk.walk_ofHE (l := PySem.Challenge.rw_openlimit_k86_texts_refused) (n := 63) (k := K86.LV_law) (x := "script") rfl (by decide) (by kernel_rfl) ⟨rfl, by decide, by decide⟩ (by decide +kernel) ?F
    intro w mg fa h Y G hmg0
    have hmg : mg ("law" : PySem.Str) = some (.ref fa) := by
      have e : (HandSHeadRun.topDef (OpenLaw.row PySem.Challenge.rw_openlimit_k86_texts_refused).prog 99).name = ("law" : PySem.Str) := by kernel_rfl
      rw [← e]
      exact hmg0
    obtain ⟨K, fd, KX, ht, nT, hb, hF⟩ := K86.Hd.mk Y G hmg
    exact ⟨K, MR.csOf K ["_law_right", "law"], fd, _, KX, ht, nT, hb, hF, fun H a ns hl hT hS => ⟨a, ns, MR.tabs_start hT, rfl, hS, hl, fun _ => rfl⟩⟩
