import PyProof.Rows.All
import Wide.All
import OpenK.AllK
import Wide.FinOn
import PyProof.EqAt
import PyProof.EqKinds
import PyProof.TupleCall
import KE.KLam
import HandS.ForMost
import HandS.ForExc
import HandS.HeadHook4
import HandS.HeadWalk
import HandS.Wide
import HandS.Flow
import HandS.Style
import HandS.TupAny
import HandS.TupMul
import HandS.Deep
import HandS.TupLe
import KE.DatumOrd
import KE.DatumIndex
import HandS.Comp
import HandS.Iter
import HandS.Rev
import HandS.Zip
import KE.GoesNew
import KE.GoesMore
import KE.GoesEnum
import HandS.Lambda
import HandS.Exc
import HandS.ExcCtx
import HandS.Codes
import HandS.Hot
import HandS.HotCalls
import HandS.ExcIs
import HandS.EndTab
import HandS.Defaults
import KE.DataMinMax
import HandS.Star
import HandS.SortInts
import HandS.HeadHook1
import HandS.Head0
import HandS.Head1
import HandS.Head2
import HandS.HeadEnd
import HandS.HeadHook2
import HandS.HeadHook3
import HandS.SetFor
import HandS.Strs
import KE.KTupSum
import KE.SortData
import PySem.Challenge.RW_bothchoose_k33_whole_crowds_that_rest
set_option Elab.async false
set_option linter.all false
set_option maxRecDepth 100000
set_option maxHeartbeats 4000000
/-! ## MM: values, memory, what they stand for in the abstract heap -/
namespace MM
open PySem PySem.Spec PyProof.Rows L2
abbrev Frag := PySem.W.Frag

inductive MV where
  | non | bl (b : Bool) | int (i : Int) | str (x : Str) | tup (xs : List MV) | lst (xs : List MV) | ref (i : Nat) | cst (v : V) | scr (ns : List Int)

inductive Cell where
  | dead
  | lst (xs : List MV)

abbrev Mem := List Cell
structure Exc where
  name : Str
  pay : Option MV := none
inductive Out (α : Type) where
  | ok (a : α) (μ : Mem)
  | exc (x : Exc) (μ : Mem)
  | bad

/-- the addresses of the cells; none: a cell that is no more; lists being made -/
structure Io where
  cs : List (Option Addr)
  hid : List Addr
def Own (ι : Io) (a : Addr) : Prop := some a ∈ ι.cs ∨ a ∈ ι.hid
/-- a tuple among the module's own objects -/
def KT (K : Frag) (a : Addr) (xs : List V) : Prop :=
  ∃ (o : Obj) (its : Array Value) (n : Nat), K.lookup a = some o ∧ o.cls = .type "tuple" ∧ o.data = .seq its n ∧ its.size ≤ sizeLine ∧ Vals xs its.toList
def FzL (H : Hp) (ι : Io) (a : Addr) (xs : List V) : Prop := Rd H a (.lst xs) ∧ ¬ Own ι a
def FzT (K : Frag) (H : Hp) (ι : Io) (a : Addr) (xs : List V) : Prop := (Rd H a (.tup xs) ∧ ¬ Own ι a) ∨ KT K a xs
theorem FzT.sq {K : Frag} {H : Hp} {ι : Io} {a : Addr} {xs : List V} (h : FzT K H ι a xs) : SqT K H a xs := h.elim (fun q => .inl q.1) .inr

/-- the script -/
def KL (K : Frag) (a : Addr) (xs : List V) : Prop :=
  ∃ (o : Obj) (its : Array Value) (n : Nat), K.lookup a = some o ∧ o.cls = .type "list" ∧ o.dict = none ∧ o.data = .seq its n ∧ its.size ≤ sizeLine ∧ Vals xs its.toList
def SqS (K : Frag) (H : Hp) (ι : Io) (a : Addr) (ns : List Int) : Prop := FzL H ι a (ns.map V.int) ∨ KL K a (ns.map V.int)
theorem SqS.sq {K : Frag} {H : Hp} {ι : Io} {a : Addr} {ns : List Int} (h : SqS K H ι a ns) : SqL K H a (ns.map V.int) := h.elim (fun q => .inl q.1) .inr
mutual
/-- v is d in the heap H, whose cells stand at ι -/
def RepV (K : Frag) (H : Hp) (ι : Io) : MV → V → Prop
  | .non, v => v = .non
  | .bl b, v => v = .bl b
  | .int i, v => v = .int i
  | .str x, v => v = .str x
  | .tup xs, v => ∃ a vs, v = .ref a ∧ FzT K H ι a vs ∧ RepL K H ι xs vs
  | .lst xs, v => ∃ a vs, v = .ref a ∧ FzL H ι a vs ∧ RepL K H ι xs vs
  | .ref i, v => ∃ a, v = .ref a ∧ (ι.cs[i]? = some (some a) ∨ ι.cs[i]? = some none)
  | .cst u, v => v = u
  | .scr ns, v => ∃ a, v = .ref a ∧ SqS K H ι a ns
def RepL (K : Frag) (H : Hp) (ι : Io) : List MV → List V → Prop
  | [], vs => vs = []
  | x :: xs, vs => ∃ v r, vs = v :: r ∧ RepV K H ι x v ∧ RepL K H ι xs r
end

def CellRep (K : Frag) (H : Hp) (ι : Io) : Cell → Option Addr → Prop
  | .dead, o => o = none
  | .lst xs, o => ∃ a vs, o = some a ∧ H a = some (.lst vs) ∧ RepL K H ι xs vs

/-- the tables of the lambdas' code objects -/
abbrev Tbs := List (Addr × Str)
structure SR (K : Frag) (T : Tbs) (ι : Io) (μ : Mem) (H : Hp) : Prop where
  len : ι.cs.length = μ.length
  nd : ∀ (i j : Nat) (a : Addr), ι.cs[i]? = some (some a) → ι.cs[j]? = some (some a) → i = j
  cell : ∀ (i : Nat) (c : Cell), μ[i]? = some c → ∃ o, ι.cs[i]? = some o ∧ CellRep K H ι c o
  tabs : LamX.Tabs T H
  hid : ∀ a, a ∈ ι.hid → some a ∉ ι.cs ∧ ∃ xs, H a = some (.lst xs)

/-- a is free in H, or a table -/
def Nt (H : Hp) (a : Addr) : Prop := ∀ o, H a = some o → ∃ ps, o = .tbl ps
theorem Nt.of {H : Hp} {a : Addr} (h : H a = none) : Nt H a := fun o e => by rw [h] at e; cases e
structure Ext (ι : Io) (H : Hp) (ι' : Io) (H' : Hp) : Prop where
  len : ι.cs.length ≤ ι'.cs.length
  sub : ∀ (i : Nat), i < ι.cs.length → ι'.cs[i]? = ι.cs[i]? ∨ ι'.cs[i]? = some none
  hid : ι'.hid = ι.hid
  own : ∀ (a : Addr), Own ι' a → Own ι a ∨ Nt H a
  keep : ∀ (a : Addr) (o : HO), H a = some o → ¬ Own ι a → (∀ ps, o ≠ .tbl ps) → H' a = some o
  hkeep : ∀ (a : Addr) (o : HO), a ∈ ι.hid → H a = some o → H' a = some o

/-- the same, lists in the making may be more -/
structure ExtW (ι : Io) (H : Hp) (ι' : Io) (H' : Hp) : Prop where
  len : ι.cs.length ≤ ι'.cs.length
  sub : ∀ (i : Nat), i < ι.cs.length → ι'.cs[i]? = ι.cs[i]? ∨ ι'.cs[i]? = some none
  hid : ∀ (a : Addr), a ∈ ι.hid → a ∈ ι'.hid
  own : ∀ (a : Addr), Own ι' a → Own ι a ∨ Nt H a
  keep : ∀ (a : Addr) (o : HO), H a = some o → ¬ Own ι a → (∀ ps, o ≠ .tbl ps) → H' a = some o
theorem Ext.w {ι ι' : Io} {H H' : Hp} (e : Ext ι H ι' H') : ExtW ι H ι' H' := ⟨e.len, e.sub, fun a h => by rw [e.hid]; exact h, e.own, e.keep⟩
instance {ι ι' : Io} {H H' : Hp} : Coe (Ext ι H ι' H') (ExtW ι H ι' H') := ⟨Ext.w⟩
theorem Own.of {ι : Io} {a : Addr} {i : Nat} (h : ι.cs[i]? = some (some a)) : Own ι a := .inl (List.mem_of_getElem? h)
theorem cs_past {l : List (Option Addr)} {i : Nat} {a : Addr} (h : l.length ≤ i) (e : l[i]? = some (some a)) : False := by rw [List.getElem?_eq_none h] at e; cases e

section
variable {K : Frag} {T : Tbs} {ι ι' ι1 ι2 : Io} {μ : Mem} {H H' H1 H2 : Hp} {a : Addr}
theorem Ext.refl : Ext ι H ι H := ⟨Nat.le_refl _, fun _ _ => .inl rfl, rfl, fun _ h => .inl h, fun _ _ h _ _ => h, fun _ _ _ h => h⟩
/-- what stood and was no cell is none -/
theorem ExtW.unown (e : ExtW ι H ι' H') {o : HO} (h : H a = some o) (n : ¬ Own ι a) (t : ∀ ps, o ≠ .tbl ps) : ¬ Own ι' a := fun q => by
  rcases e.own a q with z | z
  · exact n z
  · obtain ⟨ps, e⟩ := z o h
    exact t ps e
theorem Ext.unown (e : Ext ι H ι' H') {o : HO} (h : H a = some o) (n : ¬ Own ι a) (t : ∀ ps, o ≠ .tbl ps) : ¬ Own ι' a := fun q => by
  rcases e.own a q with z | z
  · exact n z
  · obtain ⟨ps, e⟩ := z o h
    exact t ps e
theorem Ext.trans (e : Ext ι H ι1 H1) (f : Ext ι1 H1 ι2 H2) : Ext ι H ι2 H2 where
  len := Nat.le_trans e.len f.len
  sub := fun i h => by
    rcases f.sub i (Nat.lt_of_lt_of_le h e.len) with z | z
    · rcases e.sub i h with y | y
      · exact .inl (z.trans y)
      · exact .inr (z.trans y)
    · exact .inr z
  hid := f.hid.trans e.hid
  own := fun a h => by
    rcases f.own a h with z | z
    · exact e.own a z
    · rcases Classical.em (Own ι a) with y | y
      · exact .inl y
      · refine .inr fun o q => ?_
        rcases Classical.em (∃ ps, o = .tbl ps) with t | t
        · exact t
        · exact z o (e.keep a o q y fun ps w => t ⟨ps, w⟩)
  keep := fun a o h n t => f.keep a o (e.keep a o h n t) (e.unown h n t) t
  hkeep := fun a o m h => f.hkeep a o (by rw [e.hid]; exact m) (e.hkeep a o m h)

theorem ExtW.trans (e : ExtW ι H ι1 H1) (f : ExtW ι1 H1 ι2 H2) : ExtW ι H ι2 H2 where
  len := Nat.le_trans e.len f.len
  sub := fun i h => by
    rcases f.sub i (Nat.lt_of_lt_of_le h e.len) with z | z
    · rcases e.sub i h with y | y
      · exact .inl (z.trans y)
      · exact .inr (z.trans y)
    · exact .inr z
  hid := fun a h => f.hid a (e.hid a h)
  own := fun a h => by
    rcases f.own a h with z | z
    · exact e.own a z
    · rcases Classical.em (Own ι a) with y | y
      · exact .inl y
      · refine .inr fun o q => ?_
        rcases Classical.em (∃ ps, o = .tbl ps) with t | t
        · exact t
        · exact z o (e.keep a o q y fun ps w => t ⟨ps, w⟩)
  keep := fun a o h n t => f.keep a o (e.keep a o h n t) (e.unown h n t) t
theorem FzL.ext {xs : List V} (h : FzL H ι a xs) (e : ExtW ι H ι' H') : FzL H' ι' a xs := by
  obtain ⟨h | ⟨o, h⟩, n⟩ := h
  · exact ⟨.inl (e.keep _ _ h n fun _ z => by cases z), e.unown h n fun _ z => by cases z⟩
  · exact ⟨.inr ⟨o, e.keep _ _ h n fun _ z => by cases z⟩, e.unown h n fun _ z => by cases z⟩
theorem FzL.move {xs : List V} (h : ∀ a o, H a = some o → ¬ Own ι a → (∀ ps, o ≠ .tbl ps) → H' a = some o ∧ ¬ Own ι' a) (f : FzL H ι a xs) : FzL H' ι' a xs := by
  obtain ⟨f | ⟨o, f⟩, n⟩ := f
  · obtain ⟨h1, h2⟩ := h _ _ f n fun _ z => by cases z
    exact ⟨.inl h1, h2⟩
  · obtain ⟨h1, h2⟩ := h _ _ f n fun _ z => by cases z
    exact ⟨.inr ⟨o, h1⟩, h2⟩
theorem FzT.ext {xs : List V} (h : FzT K H ι a xs) (e : ExtW ι H ι' H') : FzT K H' ι' a xs := by
  rcases h with ⟨h | ⟨o, h⟩, n⟩ | h
  · exact .inl ⟨.inl (e.keep _ _ h n fun _ z => by cases z), e.unown h n fun _ z => by cases z⟩
  · exact .inl ⟨.inr ⟨o, e.keep _ _ h n fun _ z => by cases z⟩, e.unown h n fun _ z => by cases z⟩
  · exact .inr h
mutual
theorem RepV.ext (e : ExtW ι H ι' H') : ∀ (d : MV) (v : V), RepV K H ι d v → RepV K H' ι' d v
  | .non, _, h => h
  | .bl _, _, h => h
  | .int _, _, h => h
  | .str _, _, h => h
  | .cst _, _, h => h
  | .scr ns, v, h => by
    unfold RepV at h ⊢
    obtain ⟨a, e1, f⟩ := h
    exact ⟨a, e1, f.elim (fun q => .inl (q.ext e)) .inr⟩
  | .tup xs, v, h => by
    unfold RepV at h ⊢
    obtain ⟨a, vs, e1, f, r⟩ := h
    exact ⟨a, vs, e1, f.ext e, RepL.ext e xs vs r⟩
  | .lst xs, v, h => by
    unfold RepV at h ⊢
    obtain ⟨a, vs, e1, f, r⟩ := h
    exact ⟨a, vs, e1, f.ext e, RepL.ext e xs vs r⟩
  | .ref i, v, h => by
    unfold RepV at h ⊢
    obtain ⟨a, e1, h⟩ := h
    refine ⟨a, e1, ?_⟩
    have hl : i < ι.cs.length := by
      rcases h with h | h <;> exact (List.getElem?_eq_some_iff.mp h).1
    rcases e.sub i hl with z | z
    · rcases h with h | h
      · exact .inl (z.trans h)
      · exact .inr (z.trans h)
    · exact .inr z
theorem RepL.ext (e : ExtW ι H ι' H') : ∀ (xs : List MV) (vs : List V), RepL K H ι xs vs → RepL K H' ι' xs vs
  | [], _, h => h
  | x :: xs, vs, h => by
    unfold RepL at h ⊢
    obtain ⟨v, r, e1, h1, h2⟩ := h
    exact ⟨v, r, e1, RepV.ext e x v h1, RepL.ext e xs r h2⟩
end

theorem RepL.nil_iff {vs : List V} : RepL K H ι [] vs ↔ vs = [] := by unfold RepL; rfl
theorem RepL.cons_iff {x : MV} {xs : List MV} {vs : List V} : RepL K H ι (x :: xs) vs ↔ ∃ v r, vs = v :: r ∧ RepV K H ι x v ∧ RepL K H ι xs r := by
  constructor
  · intro h; unfold RepL at h; exact h
  · intro h; unfold RepL; exact h
theorem RepL.len : ∀ {xs : List MV} {vs : List V}, RepL K H ι xs vs → xs.length = vs.length
  | [], vs, h => by rw [RepL.nil_iff] at h; rw [h]; rfl
  | x :: xs, vs, h => by
    rw [RepL.cons_iff] at h
    obtain ⟨v, r, rfl, _, h2⟩ := h
    rw [List.length_cons, List.length_cons, RepL.len h2]
theorem RepL.get : ∀ {xs : List MV} {vs : List V} {i : Nat} {d : MV}, RepL K H ι xs vs → xs[i]? = some d → ∃ v, vs[i]? = some v ∧ RepV K H ι d v
  | [], vs, i, d, h, e => by simp at e
  | x :: xs, vs, 0, d, h, e => by
    rw [RepL.cons_iff] at h
    obtain ⟨v, r, rfl, h1, h2⟩ := h
    simp at e; subst e
    exact ⟨v, by simp, h1⟩
  | x :: xs, vs, i + 1, d, h, e => by
    rw [RepL.cons_iff] at h
    obtain ⟨v, r, rfl, h1, h2⟩ := h
    obtain ⟨w, h3, h4⟩ := RepL.get (i := i) h2 (by simpa using e)
    exact ⟨w, by simpa using h3, h4⟩
theorem RepL.get' : ∀ {xs : List MV} {vs : List V} {i : Nat} {v : V}, RepL K H ι xs vs → vs[i]? = some v → ∃ d, xs[i]? = some d ∧ RepV K H ι d v := fun {xs vs i v} h e => by
  have hl := h.len
  have hi : i < xs.length := by rw [hl]; exact (List.getElem?_eq_some_iff.mp e).1
  obtain ⟨w, h1, h2⟩ := h.get (i := i) (d := xs[i]) (by simp [hi])
  rw [e] at h1; cases h1
  exact ⟨_, by simp [hi], h2⟩
theorem RepL.app : ∀ {xs ys : List MV} {vs ws : List V}, RepL K H ι xs vs → RepL K H ι ys ws → RepL K H ι (xs ++ ys) (vs ++ ws)
  | [], ys, vs, ws, h, q => by rw [RepL.nil_iff] at h; subst h; exact q
  | x :: xs, ys, vs, ws, h, q => by
    rw [RepL.cons_iff] at h
    obtain ⟨v, r, rfl, h1, h2⟩ := h
    rw [List.cons_append, RepL.cons_iff]
    exact ⟨v, r ++ ws, rfl, h1, RepL.app h2 q⟩
theorem RepL.one {x : MV} {v : V} (h : RepV K H ι x v) : RepL K H ι [x] [v] := RepL.cons_iff.mpr ⟨v, [], rfl, h, RepL.nil_iff.mpr rfl⟩
theorem RepL.take : ∀ {xs : List MV} {vs : List V} (n : Nat), RepL K H ι xs vs → RepL K H ι (xs.take n) (vs.take n)
  | xs, vs, 0, h => by simp [RepL.nil_iff]
  | [], vs, n + 1, h => by rw [RepL.nil_iff] at h; subst h; simp [RepL.nil_iff]
  | x :: xs, vs, n + 1, h => by
    rw [RepL.cons_iff] at h
    obtain ⟨v, r, rfl, h1, h2⟩ := h
    rw [List.take_succ_cons, List.take_succ_cons, RepL.cons_iff]
    exact ⟨v, r.take n, rfl, h1, RepL.take n h2⟩
theorem RepL.drop : ∀ {xs : List MV} {vs : List V} (n : Nat), RepL K H ι xs vs → RepL K H ι (xs.drop n) (vs.drop n)
  | xs, vs, 0, h => h
  | [], vs, n + 1, h => by rw [RepL.nil_iff] at h; subst h; simp [RepL.nil_iff]
  | x :: xs, vs, n + 1, h => by
    rw [RepL.cons_iff] at h
    obtain ⟨v, r, rfl, h1, h2⟩ := h
    rw [List.drop_succ_cons, List.drop_succ_cons]
    exact RepL.drop n h2
theorem RepL.set : ∀ {xs : List MV} {vs : List V} {d : MV} {v : V} (i : Nat), RepL K H ι xs vs → RepV K H ι d v → RepL K H ι (xs.set i d) (vs.set i v)
  | [], vs, d, v, i, h, q => by rw [RepL.nil_iff] at h; subst h; simp [RepL.nil_iff]
  | x :: xs, vs, d, v, 0, h, q => by
    rw [RepL.cons_iff] at h
    obtain ⟨w, r, rfl, h1, h2⟩ := h
    rw [List.set_cons_zero, List.set_cons_zero, RepL.cons_iff]
    exact ⟨v, r, rfl, q, h2⟩
  | x :: xs, vs, d, v, i + 1, h, q => by
    rw [RepL.cons_iff] at h
    obtain ⟨w, r, rfl, h1, h2⟩ := h
    rw [List.set_cons_succ, List.set_cons_succ, RepL.cons_iff]
    exact ⟨w, r.set i v, rfl, h1, RepL.set i h2 q⟩
theorem RepL.rev : ∀ {xs : List MV} {vs : List V}, RepL K H ι xs vs → RepL K H ι xs.reverse vs.reverse
  | [], vs, h => by rw [RepL.nil_iff] at h; subst h; simp [RepL.nil_iff]
  | x :: xs, vs, h => by
    rw [RepL.cons_iff] at h
    obtain ⟨v, r, rfl, h1, h2⟩ := h
    rw [List.reverse_cons, List.reverse_cons]
    exact RepL.app (RepL.rev h2) (RepL.one h1)

theorem SR.own (s : SR K T ι μ H) (h : Own ι a) : ∃ o, H a = some o ∧ ∃ xs, o = .lst xs := by
  rcases h with h | h
  · obtain ⟨i, hi⟩ := List.getElem?_of_mem h
    have hl : i < μ.length := by rw [← s.len]; exact (List.getElem?_eq_some_iff.mp hi).1
    obtain ⟨o, h1, h2⟩ := s.cell i μ[i] (by simp [hl])
    rw [hi] at h1; cases h1
    cases hc : μ[i] with
    | dead => rw [hc] at h2; cases h2
    | lst xs =>
      rw [hc] at h2
      obtain ⟨b, vs, e, h3, _⟩ := h2
      cases e
      exact ⟨_, h3, _, rfl⟩
  · obtain ⟨_, xs, e⟩ := s.hid a h
    exact ⟨_, e, xs, rfl⟩
theorem SR.fresh (s : SR K T ι μ H) (h : H a = none) : ¬ Own ι a := fun q => by
  obtain ⟨o, e, _⟩ := s.own q
  rw [h] at e; cases e
theorem tabs_upd {o : HO} (t : LamX.Tabs T H) (h : ∀ ps, H a ≠ some (.tbl ps)) (h2 : ∀ c q, H c = some (LamX.CodeO c q) → c ≠ a) : LamX.Tabs T (upd H a o) := fun p hp => by
  obtain ⟨ps, e1, e2, e3⟩ := t p hp
  refine ⟨ps, by rw [upd_ne (fun z => h ps (by rw [← z]; exact e1))]; exact e1, e2, fun pos cv hc => ?_⟩
  obtain ⟨c, e4, e5⟩ := e3 pos cv hc
  exact ⟨c, e4, by rw [upd_ne (h2 c _ e5)]; exact e5⟩
theorem codeO_not_lst {c : Addr} {q : Str} {xs : List V} : LamX.CodeO c q ≠ .lst xs := fun z => by unfold LamX.CodeO at z; cases z

/-- a new thing is laid: no cell -/
theorem Ext.laid {o : HO} (h : H a = none) : Ext ι H ι (upd H a o) := by
  refine ⟨Nat.le_refl _, fun _ _ => .inl rfl, rfl, fun _ h => .inl h, fun b u e _ _ => (by rw [upd_ne (ne_of_none e h)]; exact e), fun b u _ e => (by rw [upd_ne (ne_of_none e h)]; exact e)⟩
theorem CellRep.ext (e : Ext ι H ι' H') {c : Cell} {o : Option Addr} (h : CellRep K H ι c o) (st : ∀ b xs, o = some b → H b = some (.lst xs) → H' b = some (.lst xs)) : CellRep K H' ι' c o := by
  cases c with
  | dead => exact h
  | lst xs =>
    obtain ⟨b, vs, e1, e2, e3⟩ := h
    exact ⟨b, vs, e1, st b vs e1 e2, RepL.ext e xs vs e3⟩
theorem SR.laid {o : HO} (s : SR K T ι μ H) (h : H a = none) : SR K T ι μ (upd H a o) :=
  ⟨s.len, s.nd, fun i c hc => by
    obtain ⟨u, h1, h2⟩ := s.cell i c hc
    exact ⟨u, h1, h2.ext (Ext.laid h) fun b xs _ hb => by rw [upd_ne (ne_of_none hb h)]; exact hb⟩,
    tabs_upd s.tabs (fun ps z => by rw [h] at z; cases z) fun c q z => ne_of_none z h, fun b hb => by
    obtain ⟨h1, xs, h2⟩ := s.hid b hb
    exact ⟨h1, xs, by rw [upd_ne (ne_of_none h2 h)]; exact h2⟩⟩
/-- a new list is laid as a cell -/
def Io.add (ι : Io) (a : Addr) : Io := ⟨ι.cs ++ [some a], ι.hid⟩
theorem Ext.laidC {o : HO} (h : H a = none) : Ext ι H (ι.add a) (upd H a o) := by
  refine ⟨by simp [Io.add], fun i hi => .inl (List.getElem?_append_left hi), rfl, fun b hb => ?_, fun b u e _ _ => (by rw [upd_ne (ne_of_none e h)]; exact e), fun b u _ e => (by rw [upd_ne (ne_of_none e h)]; exact e)⟩
  · rcases hb with hb | hb
    · rcases List.mem_append.mp hb with hb | hb
      · exact .inl (.inl hb)
      · have e : b = a := by simpa using hb
        subst e; exact .inr (Nt.of h)
    · exact .inl (.inr hb)
theorem SR.laidC {xs : List MV} {vs : List V} (s : SR K T ι μ H) (h : H a = none) (r : RepL K H ι xs vs) : SR K T (ι.add a) (μ ++ [.lst xs]) (upd H a (.lst vs)) := by
  have e : Ext ι H (ι.add a) (upd H a (.lst vs)) := Ext.laidC h
  refine ⟨by simp [Io.add, s.len], fun i j b hi hj => ?_, fun i c hc => ?_, tabs_upd s.tabs (fun ps z => by rw [h] at z; cases z) fun c q z => ne_of_none z h, fun b hb => ?_⟩
  · have key : ∀ k, (ι.cs ++ [some a])[k]? = some (some b) → (ι.cs[k]? = some (some b) ∧ b ≠ a) ∨ (k = ι.cs.length ∧ b = a) := fun k hk => by
      by_cases hl : k < ι.cs.length
      · rw [List.getElem?_append_left hl] at hk
        refine .inl ⟨hk, fun z => s.fresh h ?_⟩
        rw [← z]; exact Own.of hk
      · rw [List.getElem?_append_right (Nat.le_of_not_lt hl)] at hk
        cases hq : k - ι.cs.length with
        | zero => rw [hq] at hk; simp at hk; exact .inr ⟨by omega, hk.symm⟩
        | succ m => rw [hq] at hk; simp at hk
    rcases key i hi with ⟨a1, a2⟩ | ⟨a1, a2⟩
    · rcases key j hj with ⟨b1, b2⟩ | ⟨b1, b2⟩
      · exact s.nd i j b a1 b1
      · exact absurd b2 a2
    · rcases key j hj with ⟨b1, b2⟩ | ⟨b1, b2⟩
      · exact absurd a2 b2
      · omega
  · by_cases hl : i < μ.length
    · rw [List.getElem?_append_left hl] at hc
      obtain ⟨u, h1, h2⟩ := s.cell i c hc
      exact ⟨u, (List.getElem?_append_left (by rw [s.len]; exact hl)).trans h1, h2.ext e fun b xs _ hb => by rw [upd_ne (ne_of_none hb h)]; exact hb⟩
    · rw [List.getElem?_append_right (Nat.le_of_not_lt hl)] at hc
      cases hq : i - μ.length with
      | zero =>
        rw [hq] at hc; simp at hc; subst hc
        refine ⟨some a, ?_, a, vs, rfl, upd_same, RepL.ext e xs vs r⟩
        show (ι.cs ++ [some a])[i]? = some (some a)
        rw [List.getElem?_append_right (by rw [s.len]; omega), s.len, hq]; rfl
      | succ m => rw [hq] at hc; simp at hc
  · obtain ⟨h1, ys, h2⟩ := s.hid b hb
    have hne := ne_of_none h2 h
    refine ⟨fun q => ?_, ys, by rw [upd_ne hne]; exact h2⟩
    rcases List.mem_append.mp q with q | q
    · exact h1 q
    · exact hne (by simpa using q)
/-- a cell is written -/
theorem Ext.written {i : Nat} {o : HO} (s : SR K T ι μ H) (hi : ι.cs[i]? = some (some a)) : Ext ι H ι (upd H a o) := by
  refine ⟨Nat.le_refl _, fun _ _ => .inl rfl, rfl, fun _ h => .inl h, fun b u e n _ => (by
    rw [upd_ne (fun z => n (by rw [z]; exact Own.of hi))]; exact e), fun b u m e => (by
    rw [upd_ne (fun z => (s.hid b m).1 (by rw [z]; exact List.mem_of_getElem? hi))]; exact e)⟩
theorem SR.written {i : Nat} {xs : List MV} {vs ws : List V} (s : SR K T ι μ H) (hi : ι.cs[i]? = some (some a)) (ha : H a = some (.lst ws)) (r : RepL K H ι xs vs) : SR K T ι (μ.set i (.lst xs)) (upd H a (.lst vs)) := by
  have e : Ext ι H ι (upd H a (.lst vs)) := Ext.written s hi
  refine ⟨by simp [s.len], s.nd, fun j c hc => ?_, tabs_upd s.tabs (fun ps z => by rw [ha] at z; cases z) fun c q z hb => ?_, fun b hb => ?_⟩
  · by_cases hj : i = j
    · subst hj
      have hl : i < μ.length := by rw [← s.len]; exact (List.getElem?_eq_some_iff.mp hi).1
      rw [List.getElem?_set_self hl] at hc
      cases hc
      exact ⟨_, hi, a, vs, rfl, upd_same, RepL.ext e xs vs r⟩
    · rw [List.getElem?_set_ne hj] at hc
      obtain ⟨u, h1, h2⟩ := s.cell j c hc
      refine ⟨u, h1, h2.ext e fun b ys eb hb => ?_⟩
      rw [upd_ne (fun z => ?_)]
      · exact hb
      · subst eb; subst z; exact hj (s.nd i j _ hi h1)
  · subst hb; rw [ha] at z; exact codeO_not_lst (Option.some.inj z).symm
  · obtain ⟨h1, ys, h2⟩ := s.hid b hb
    refine ⟨h1, ys, ?_⟩
    rw [upd_ne (fun z => h1 (by rw [z]; exact List.mem_of_getElem? hi))]
    exact h2

/-! ### a list that is being made -/
def Io.hide (ι : Io) (a : Addr) : Io := ⟨ι.cs, a :: ι.hid⟩
mutual
theorem RepV.move (h : ∀ a o, H a = some o → ¬ Own ι a → (∀ ps, o ≠ .tbl ps) → H' a = some o ∧ ¬ Own ι' a) (hc : ∀ (i : Nat) (o : Option Addr), ι.cs[i]? = some o → ι'.cs[i]? = some o) : ∀ (d : MV) (v : V), RepV K H ι d v → RepV K H' ι' d v
  | .non, _, q => q
  | .bl _, _, q => q
  | .int _, _, q => q
  | .str _, _, q => q
  | .cst _, _, q => q
  | .scr ns, v, q => by
    unfold RepV at q ⊢
    obtain ⟨a, e1, f⟩ := q
    exact ⟨a, e1, f.elim (fun q => .inl (FzL.move h q)) .inr⟩
  | .tup xs, v, q => by
    unfold RepV at q ⊢
    obtain ⟨a, vs, e1, f, r⟩ := q
    refine ⟨a, vs, e1, ?_, RepL.move h hc xs vs r⟩
    rcases f with ⟨f | ⟨o, f⟩, n⟩ | f
    · obtain ⟨h1, h2⟩ := h _ _ f n fun _ z => by cases z
      exact .inl ⟨.inl h1, h2⟩
    · obtain ⟨h1, h2⟩ := h _ _ f n fun _ z => by cases z
      exact .inl ⟨.inr ⟨o, h1⟩, h2⟩
    · exact .inr f
  | .lst xs, v, q => by
    unfold RepV at q ⊢
    obtain ⟨a, vs, e1, f, r⟩ := q
    exact ⟨a, vs, e1, FzL.move h f, RepL.move h hc xs vs r⟩
  | .ref i, v, q => by
    unfold RepV at q ⊢
    obtain ⟨a, e1, q⟩ := q
    exact ⟨a, e1, q.elim (fun z => .inl (hc _ _ z)) fun z => .inr (hc _ _ z)⟩
theorem RepL.move (h : ∀ a o, H a = some o → ¬ Own ι a → (∀ ps, o ≠ .tbl ps) → H' a = some o ∧ ¬ Own ι' a) (hc : ∀ (i : Nat) (o : Option Addr), ι.cs[i]? = some o → ι'.cs[i]? = some o) : ∀ (xs : List MV) (vs : List V), RepL K H ι xs vs → RepL K H' ι' xs vs
  | [], _, q => q
  | x :: xs, vs, q => by
    rw [RepL.cons_iff] at q ⊢
    obtain ⟨v, r, e1, h1, h2⟩ := q
    exact ⟨v, r, e1, RepV.move h hc x v h1, RepL.move h hc xs r h2⟩
end
theorem SR.move (s : SR K T ι μ H) (h : ∀ a o, H a = some o → ¬ Own ι a → (∀ ps, o ≠ .tbl ps) → H' a = some o ∧ ¬ Own ι' a) (hc : ι'.cs = ι.cs) (hs : ∀ (i : Nat) b xs, ι.cs[i]? = some (some b) → H b = some (.lst xs) → H' b = some (.lst xs)) (ht : LamX.Tabs T H')
    (hh : ∀ a, a ∈ ι'.hid → some a ∉ ι.cs ∧ ∃ xs, H' a = some (.lst xs)) : SR K T ι' μ H' :=
  ⟨by rw [hc]; exact s.len, by rw [hc]; exact s.nd, fun i c q => by
    obtain ⟨o, h1, h2⟩ := s.cell i c q
    refine ⟨o, by rw [hc]; exact h1, ?_⟩
    cases c with
    | dead => exact h2
    | lst xs =>
      obtain ⟨b, vs, e1, e2, e3⟩ := h2
      subst e1
      exact ⟨b, vs, rfl, hs i b vs h1 e2, RepL.move h (fun _ _ q => by rw [hc]; exact q) xs vs e3⟩, ht, by rw [hc]; exact hh⟩
section
variable {D : Addr} {acc acc' : List V}
theorem own_hide {b : Addr} (h : Own (ι.hide D) b) : b = D ∨ Own ι b := by
  rcases h with h | h
  · exact .inr (.inl h)
  · rcases List.mem_cons.mp h with h | h
    · exact .inl h
    · exact .inr (.inr h)
/-- it is begun -/
theorem move_begin (h : H D = none) {o : HO} : ∀ a u, H a = some u → ¬ Own ι a → (∀ ps, u ≠ .tbl ps) → upd H D o a = some u ∧ ¬ Own (ι.hide D) a := fun a u e n _ =>
  ⟨by rw [upd_ne (ne_of_none e h)]; exact e, fun q => (own_hide q).elim (fun z => ne_of_none e h z) n⟩
theorem SR.begin (s : SR K T ι μ H) (h : H D = none) : SR K T (ι.hide D) μ (upd H D (.lst acc)) :=
  s.move (move_begin h) rfl (fun i b xs _ e => by rw [upd_ne (ne_of_none e h)]; exact e) (s.laid (o := .lst acc) h).tabs fun b hb => by
    rcases List.mem_cons.mp hb with hb | hb
    · subst hb; exact ⟨fun q => s.fresh h (.inl q), _, upd_same⟩
    · obtain ⟨h1, xs, h2⟩ := s.hid b hb
      exact ⟨h1, xs, by rw [upd_ne (ne_of_none h2 h)]; exact h2⟩
theorem ExtW.begin {ι0 : Io} {H0 : Hp} (e : Ext ι0 H0 ι H) (h : H0 D = none) : ExtW ι0 H0 (ι.hide D) H :=
  ⟨e.len, e.sub, fun a m => List.mem_cons_of_mem _ (by rw [e.hid]; exact m), fun a q => (own_hide q).elim (fun z => .inr (by rw [z]; exact Nt.of h)) (e.own a), e.keep⟩
/-- a list in the making that was one before grows -/
theorem ExtW.grown {ι0 : Io} {H0 : Hp} {o : HO} (e : ExtW ι0 H0 ι H) (hm : Own ι0 D) : ExtW ι0 H0 ι (upd H D o) :=
  ⟨e.len, e.sub, e.hid, e.own, fun a u q n t => by rw [upd_ne (fun z => n (by rw [z]; exact hm))]; exact e.keep a u q n t⟩
/-- it grows -/
theorem move_grow {o : HO} (hm : D ∈ ι.hid) : ∀ a u, H a = some u → ¬ Own ι a → (∀ ps, u ≠ .tbl ps) → upd H D o a = some u ∧ ¬ Own ι a := fun a u e n _ =>
  ⟨by rw [upd_ne (fun z => n (by rw [z]; exact .inr hm))]; exact e, n⟩
theorem SR.grow (s : SR K T ι μ H) (hm : D ∈ ι.hid) (h : H D = some (.lst acc)) : SR K T ι μ (upd H D (.lst acc')) :=
  s.move (move_grow hm) rfl (fun i b xs hb e => by
      rw [upd_ne (fun z => (s.hid D hm).1 (by rw [← z]; exact List.mem_of_getElem? hb))]; exact e)
    (tabs_upd s.tabs (fun ps z => by rw [h] at z; cases z) fun c q z hb => by subst hb; rw [h] at z; exact codeO_not_lst (Option.some.inj z).symm) fun b hb => by
    by_cases e : b = D
    · subst e; exact ⟨(s.hid b hb).1, _, upd_same⟩
    · obtain ⟨h1, xs, h2⟩ := s.hid b hb
      exact ⟨h1, xs, by rw [upd_ne e]; exact h2⟩
theorem Ext.after {ι0 : Io} {H0 : Hp} {o : HO} (e : Ext ι0 H0 ι H) (h : H0 D = none) : Ext ι0 H0 ι (upd H D o) :=
  ⟨e.len, e.sub, e.hid, e.own, fun a u q n t => (by rw [upd_ne (ne_of_none q h)]; exact e.keep a u q n t), fun a u m q => (by rw [upd_ne (ne_of_none q h)]; exact e.hkeep a u m q)⟩
/-- from a list in the making to one in the making -/
theorem Ext.unhide {ι2 : Io} (s2 : SR K T ι2 μ H') (e : Ext (ι.hide D) H ι2 H') {acc : List V} (hD : H D = some (.lst acc)) : Ext ι H ⟨ι2.cs, ι.hid⟩ H' ∧ ι2 = (Io.mk ι2.cs ι.hid).hide D ∧ H' D = some (.lst acc) := by
  have hk : H' D = some (.lst acc) := e.hkeep D _ (List.mem_cons_self) hD
  have hh : ι2.hid = D :: ι.hid := e.hid
  refine ⟨⟨e.len, e.sub, rfl, fun a q => ?_, fun a o q n t => ?_, fun a o m q => e.hkeep a o (List.mem_cons_of_mem _ m) q⟩, ?_, hk⟩
  · have q2 : Own ι2 a := q.elim .inl fun z => .inr (by rw [hh]; exact List.mem_cons_of_mem _ z)
    rcases e.own a q2 with z | z
    · rcases own_hide z with z | z
      · subst z
        rcases q with q | q
        · exact absurd q (s2.hid a (by rw [hh]; exact List.mem_cons_self)).1
        · exact .inl (.inr q)
      · exact .inl z
    · exact .inr z
  · by_cases hb : a = D
    · subst hb; rw [hD] at q; rw [hk]; exact q
    · exact e.keep a o q (fun z => (own_hide z).elim hb n) t
  · obtain ⟨cs, hid⟩ := ι2
    have hh : hid = D :: ι.hid := hh
    subst hh
    rfl
/-- it is done -/
theorem move_done {ι0 : Io} (he : ι'.hid = D :: ι0.hid) : ∀ a u, H a = some u → ¬ Own ι' a → (∀ ps, u ≠ .tbl ps) → H a = some u ∧ ¬ Own ⟨ι'.cs, ι0.hid⟩ a := fun a u e n _ =>
  ⟨e, fun q => n (q.elim .inl fun q => .inr (by rw [he]; exact List.mem_cons_of_mem _ q))⟩
theorem SR.done {ι0 : Io} (s : SR K T ι' μ H) (he : ι'.hid = D :: ι0.hid) : SR K T ⟨ι'.cs, ι0.hid⟩ μ H :=
  s.move (move_done he) rfl (fun _ _ _ _ e => e) s.tabs fun b hb => s.hid b (by rw [he]; exact List.mem_cons_of_mem _ hb)
end
end

/-! ### what a value reads as -/
/-- the items of a list -/
def celOf (μ : Mem) (i : Nat) : Option (List MV) := match μ[i]? with
  | some (.lst xs) => some xs
  | _ => none
theorem celOf_some {μ : Mem} {i : Nat} {xs : List MV} (h : celOf μ i = some xs) : μ[i]? = some (.lst xs) := by
  unfold celOf at h
  split at h
  · rename_i e; cases h; exact e
  · cases h
def lstOf (μ : Mem) : MV → Option (List MV)
  | .lst xs => some xs
  | .ref i => celOf μ i
  | _ => none
/-- the items of a list or a tuple -/
def seqOf (μ : Mem) : MV → Option (List MV)
  | .tup xs => some xs
  | d => lstOf μ d
section
variable {K : Frag} {T : Tbs} {ι : Io} {μ : Mem} {H : Hp} {d : MV} {v : V} {xs : List MV}
theorem SR.lstR (s : SR K T ι μ H) (r : RepV K H ι d v) (h : lstOf μ d = some xs) : ∃ a vs, v = .ref a ∧ Rd H a (.lst vs) ∧ RepL K H ι xs vs := by
  cases d with
  | lst ys =>
    cases h
    unfold RepV at r
    obtain ⟨a, vs, e, f, q⟩ := r
    exact ⟨a, vs, e, f.1, q⟩
  | ref i =>
    have hm := celOf_some (show celOf μ i = some xs from h)
    unfold RepV at r
    obtain ⟨a, e, r⟩ := r
    obtain ⟨o, h1, b, vs, e2, h2, h3⟩ := s.cell i _ hm
    subst e2
    rcases r with r | r
    · rw [h1] at r; cases r
      exact ⟨a, vs, e, Rd.of h2, h3⟩
    · rw [h1] at r; cases r
  | _ => cases h
theorem SR.lst (s : SR K T ι μ H) (r : RepV K H ι d v) (h : lstOf μ d = some xs) : ∃ a vs, v = .ref a ∧ SqL K H a vs ∧ RepL K H ι xs vs := by
  obtain ⟨a, vs, e, f, q⟩ := s.lstR r h
  exact ⟨a, vs, e, .inl f, q⟩
/-- a list in a cell -/
theorem SR.cel (s : SR K T ι μ H) {i : Nat} (r : RepV K H ι (.ref i) v) (h : μ[i]? = some (.lst xs)) : ∃ a vs, v = .ref a ∧ ι.cs[i]? = some (some a) ∧ H a = some (.lst vs) ∧ RepL K H ι xs vs := by
  unfold RepV at r
  obtain ⟨a, e, r⟩ := r
  obtain ⟨o, h1, b, vs, e2, h2, h3⟩ := s.cell i _ h
  subst e2
  rcases r with r | r
  · rw [h1] at r; cases r
    exact ⟨a, vs, e, h1, h2, h3⟩
  · rw [h1] at r; cases r
theorem RepV.tup_inv (r : RepV K H ι (.tup xs) v) : ∃ a vs, v = .ref a ∧ SqT K H a vs ∧ RepL K H ι xs vs := by
  unfold RepV at r
  obtain ⟨a, vs, e, f, q⟩ := r
  exact ⟨a, vs, e, f.sq, q⟩
theorem RepV.int_inv {i : Int} (r : RepV K H ι (.int i) v) : v = .int i := by unfold RepV at r; exact r
theorem RepV.bl_inv {i : Bool} (r : RepV K H ι (.bl i) v) : v = .bl i := by unfold RepV at r; exact r
theorem RepV.str_inv {i : Str} (r : RepV K H ι (.str i) v) : v = .str i := by unfold RepV at r; exact r
theorem RepV.non_inv (r : RepV K H ι .non v) : v = .non := by unfold RepV at r; exact r
theorem RepV.cst_inv {u : V} (r : RepV K H ι (.cst u) v) : v = u := by unfold RepV at r; exact r
theorem RepV.int {i : Int} : RepV K H ι (.int i) (.int i) := by unfold RepV; rfl
theorem RepV.bl {i : Bool} : RepV K H ι (.bl i) (.bl i) := by unfold RepV; rfl
theorem RepV.str {i : Str} : RepV K H ι (.str i) (.str i) := by unfold RepV; rfl
theorem RepV.non : RepV K H ι .non .non := by unfold RepV; rfl
theorem RepV.scr_inv {ns : List Int} (r : RepV K H ι (.scr ns) v) : ∃ a, v = .ref a ∧ SqL K H a (ns.map V.int) := by
  unfold RepV at r
  obtain ⟨a, e, f⟩ := r
  exact ⟨a, e, f.sq⟩
theorem RepV.cst {u : V} : RepV K H ι (.cst u) u := by unfold RepV; rfl
/-- a tuple, a list newly laid -/
theorem RepV.tup {xs : List MV} {vs : List V} {p : Addr} (s : SR K T ι μ H) (h : H p = none) (r : RepL K H ι xs vs) : RepV K (upd H p (.tup vs)) ι (.tup xs) (.ref p) := by
  unfold RepV
  exact ⟨p, vs, rfl, .inl ⟨.inl upd_same, s.fresh h⟩, RepL.ext (Ext.laid h).w _ _ r⟩
theorem RepV.lst {xs : List MV} {vs : List V} {p : Addr} (s : SR K T ι μ H) (h : H p = none) (r : RepL K H ι xs vs) : RepV K (upd H p (.lst vs)) ι (.lst xs) (.ref p) := by
  unfold RepV
  exact ⟨p, vs, rfl, ⟨.inl upd_same, s.fresh h⟩, RepL.ext (Ext.laid h).w _ _ r⟩
theorem RepV.cell {p : Addr} : RepV K H (ι.add p) (.ref ι.cs.length) (.ref p) := by
  unfold RepV
  exact ⟨p, rfl, .inl (by simp [Io.add])⟩
end
end MM

set_option Elab.async false
set_option linter.all false
set_option maxRecDepth 100000
set_option maxHeartbeats 4000000
/-! ## MM: expressions -/
namespace MM
open PySem PySem.Spec PyProof.Rows L2

abbrev Env := List (Option MV)
def EnvR (K : Frag) (H : Hp) (ι : Io) (ρ : Env) (σ : L2.St) : Prop := ρ.length = σ.length ∧ ∀ (i : Nat) (d : MV), ρ[i]? = some (some d) → ∃ v, σ[i]? = some (some v) ∧ RepV K H ι d v
theorem EnvR.ext {K : Frag} {H H' : Hp} {ι ι' : Io} {ρ : Env} {σ : L2.St} (h : EnvR K H ι ρ σ) (e : Ext ι H ι' H') : EnvR K H' ι' ρ σ :=
  ⟨h.1, fun i d hd => let ⟨v, h1, h2⟩ := h.2 i d hd; ⟨v, h1, h2.ext e⟩⟩
/-- what is wished of an exception -/
abbrev Gm := Str → Option Value
def ExcRep (mg : Gm) (x : Exc) (cls : Value) (dd : Option Addr) : Prop := x.pay = none ∧ dd = none ∧ mg x.name = some cls
abbrev Rel (α β : Type) := Hp → Io → α → β → Prop
def Post {α β : Type} (R : Rel α β) (K : Frag) (mg : Gm) (T : Tbs) (W : WX) (σ : L2.St) (ι : Io) (H : Hp) (Q : β → Hp → Prop) : Out α → Prop
  | .ok d μ' => ∀ v ι' H', Ext ι H ι' H' → SR K T ι' μ' H' → R H' ι' d v → Q v H'
  | .exc x μ' => ∀ cls dd ι' H', Ext ι H ι' H' → SR K T ι' μ' H' → ExcRep mg x cls dd → W cls dd σ H'
  | .bad => False
abbrev Ev (α : Type) := Env → Mem → Out α
def tG {α β : Type} (R : Rel α β) (K : Frag) (mg : Gm) (T : Tbs) (W : WX) (m : Ev α) : L2.St → Hp → (β → Hp → Prop) → Prop := fun σ H Q =>
  ∃ ι ρ μ, SR K T ι μ H ∧ EnvR K H ι ρ σ ∧ Post R K mg T W σ ι H Q (m ρ μ)
abbrev RV (K : Frag) : Rel MV V := fun H ι d v => RepV K H ι d v
abbrev RLs (K : Frag) : Rel (List MV) (List V) := fun H ι d v => RepL K H ι d v
abbrev RB : Rel Bool Bool := fun _ _ a b => a = b

section
variable {α β γ δ : Type}
def mB (m : Ev α) (f : α → Ev γ) : Ev γ := fun ρ μ => match m ρ μ with
  | .ok a μ' => f a ρ μ'
  | .exc x μ' => .exc x μ'
  | .bad => .bad
def mRet (a : α) : Ev α := fun _ μ => .ok a μ
def oO (o : Option α) : Ev α := fun _ μ => match o with
  | some a => .ok a μ
  | none => .bad
theorem Post.mono {R : Rel α β} {K : Frag} {mg : Gm} {T : Tbs} {W : WX} {σ : L2.St} {ι ι' : Io} {H H' : Hp} {Q : β → Hp → Prop} {o : Out α} (h : Post R K mg T W σ ι H Q o) (e : Ext ι H ι' H') : Post R K mg T W σ ι' H' Q o := by
  cases o with
  | ok d μ' => exact fun v ι1 H1 e1 s r => h v ι1 H1 (e.trans e1) s r
  | exc x μ' => exact fun cls dd ι1 H1 e1 s r => h cls dd ι1 H1 (e.trans e1) s r
  | bad => exact h
theorem bindr {R1 : Rel α β} {R2 : Rel γ δ} {K : Frag} {mg : Gm} {T : Tbs} {W : WX} {σ : L2.St} {ι : Io} {ρ : Env} {μ : Mem} {H : Hp} {Q : δ → Hp → Prop} {Q1 : β → Hp → Prop} {m : Ev α} {f : α → Ev γ}
    (h : Post R2 K mg T W σ ι H Q (mB m f ρ μ))
    (k : ∀ d v μ1 ι1 H1, m ρ μ = .ok d μ1 → Ext ι H ι1 H1 → SR K T ι1 μ1 H1 → R1 H1 ι1 d v → Post R2 K mg T W σ ι1 H1 Q (f d ρ μ1) → Q1 v H1) : Post R1 K mg T W σ ι H Q1 (m ρ μ) := by
  unfold mB at h
  cases hm : m ρ μ with
  | ok d μ1 =>
    rw [hm] at h
    exact fun v ι1 H1 e s r => k d v μ1 ι1 H1 hm e s r (Post.mono h e)
  | exc x μ1 => rw [hm] at h; exact h
  | bad => rw [hm] at h; exact h
end

/-- o is a value that stands for some v -/
def PO (K : Frag) (T : Tbs) (ι : Io) (μ : Mem) (H : Hp) (Q : VK) (o : Option MV) : Prop := ∃ d, o = some d ∧ ∀ v H', Ext ι H ι H' → SR K T ι μ H' → RepV K H' ι d v → Q v H'
theorem Post.po {K : Frag} {mg : Gm} {T : Tbs} {W : WX} {σ : L2.St} {ι : Io} {ρ : Env} {μ : Mem} {H : Hp} {Q : VK} {o : Option MV} (h : Post (RV K) K mg T W σ ι H Q (oO o ρ μ)) : PO K T ι μ H Q o := by
  cases o with
  | none => exact h.elim
  | some d => exact ⟨d, rfl, fun v H' e s r => h v ι H' e s r⟩

/-- an expression that is m -/
abbrev RE (X : Cx) (T : Tbs) (W : WX) (e : Expr) (m : Ev MV) : Prop := PE X e (tG (RV X.K) X.K X.mg T W m)
abbrev RT (X : Cx) (T : Tbs) (W : WX) (e : Expr) (m : Ev Bool) : Prop := PT X e (tG RB X.K X.mg T W m)
abbrev RA (X : Cx) (T : Tbs) (W : WX) (es : List Expr) (m : Ev (List MV)) : Prop := PA X es (tG (RLs X.K) X.K X.mg T W m)
theorem PE.mono {X : Cx} {e : Expr} {t t' : TE} (h : PE X e t) (k : ∀ σ H Q, t' σ H Q → t σ H Q) : PE X e t' := ⟨fun pins s σ H Q I q => h.run pins s σ H Q I (k σ H Q q)⟩
theorem PT.mono {X : Cx} {e : Expr} {t t' : TT} (h : PT X e t) (k : ∀ σ H Q, t' σ H Q → t σ H Q) : PT X e t' := ⟨fun pins s σ H Q I q => h.run pins s σ H Q I (k σ H Q q)⟩
theorem PA.mono {X : Cx} {e : List Expr} {t t' : TA} (h : PA X e t) (k : ∀ σ H Q, t' σ H Q → t σ H Q) : PA X e t' := ⟨fun pos pins s σ H Q I q => h.run pos pins s σ H Q I (k σ H Q q)⟩

/-! ### names, constants -/
def mVar (i : Nat) : Ev MV := fun ρ μ => match ρ[i]? with
  | some (some d) => .ok d μ
  | _ => .bad
section
variable {X : Cx} {T : Tbs} {W : WX} {pos : Pos}
theorem re_var (i : Nat) {x : Str} (hN : X.N[i]? = some x) (hv : Vis X.env.scope x) (hd : (x == ("__debug__" : Str)) = false := by decide)
    (hcd : (x == ("__classdict__" : Str)) = false := by decide) : RE X T W (.Name x pos) (mVar i) :=
  PE.mono (pe_var hN hv hd hcd) fun σ H Q ⟨ι, ρ, μ, s, e, h⟩ => by
    unfold mVar at h
    split at h
    · rename_i d hd
      obtain ⟨v, h1, h2⟩ := e.2 i d hd
      exact ⟨v, h1, h v ι H Ext.refl s h2⟩
    · exact h.elim
/-- a constant v of the text that is d -/
theorem re_const {e : Expr} {v : V} {d : MV} (h : PE X e (tC v)) (r : ∀ K H ι, RepV K H ι d v) : RE X T W e (mRet d) :=
  PE.mono h fun σ H Q ⟨ι, ρ, μ, s, e, h⟩ => h v ι H Ext.refl s (r _ _ _)
theorem re_int {i : Int} {j : Nat} : RE X T W (.Constant (.int i) j pos) (mRet (.int i)) := re_const pe_int fun _ _ _ => RepV.int
theorem re_bl {i : Bool} {j : Nat} : RE X T W (.Constant (.bool i) j pos) (mRet (.bl i)) := re_const pe_bl fun _ _ _ => RepV.bl
theorem re_str {i : Str} {j : Nat} : RE X T W (.Constant (.str i) j pos) (mRet (.str i)) := re_const pe_str fun _ _ _ => RepV.str
theorem re_non {j : Nat} : RE X T W (.Constant .none j pos) (mRet .non) := re_const pe_non fun _ _ _ => RepV.non
/-- a global name -/
theorem re_glob {x : Str} {v : V} {u : Value} {d : MV} (hg : Gl X x) (hm : X.mg x = some u) (rv : RelV v u) (r : ∀ K H ι, RepV K H ι d v) (hd : (x == ("__debug__" : Str)) = false := by decide) : RE X T W (.Name x pos) (mRet d) :=
  ⟨fun pins s σ H Q I ⟨ι, ρ, μ, sr, e, h⟩ => ld_glob I hg hm ⟨v, H, I, rv, h v ι H Ext.refl sr (r _ _ _)⟩ hd⟩
end

/-! ### operations on values -/
abbrev Op2 := Mem → MV → MV → Option MV
def rM (K : Frag) (T : Tbs) (op : Op2) : R2 := fun x y H Q => ∃ ι μ d1 d2, SR K T ι μ H ∧ RepV K H ι d1 x ∧ RepV K H ι d2 y ∧ PO K T ι μ H Q (op μ d1 d2)
def mOp (op : Op2) (ma mb : Ev MV) : Ev MV := mB ma fun a => mB mb fun b => fun ρ μ => oO (op μ a b) ρ μ
section
variable {X : Cx} {T : Tbs} {W : WX} {pos : Pos} {a b : Expr} {ma mb : Ev MV} {op : Op2}
theorem two {r : R2} (hr : ∀ x y H Q, rM X.K T op x y H Q → r x y H Q) : ∀ σ H Q, tG (RV X.K) X.K X.mg T W (mOp op ma mb) σ H Q → tOp r (tG (RV X.K) X.K X.mg T W ma) (tG (RV X.K) X.K X.mg T W mb) σ H Q :=
  fun σ H Q ⟨ι, ρ, μ, s, e, h⟩ => ⟨ι, ρ, μ, s, e, bindr h fun d1 x μ1 ι1 H1 _ E1 s1 r1 h1 => ⟨ι1, ρ, μ1, s1, e.ext E1, bindr h1 fun d2 y μ2 ι2 H2 _ E2 s2 r2 h2 => hr _ _ _ _ ⟨ι2, μ2, d1, d2, s2, r1.ext E2, r2, h2.po⟩⟩⟩
theorem re_op {o : Operator} (ho : OpR X (binaryOp o) (rM X.K T op)) (ha : RE X T W a ma) (hb : RE X T W b mb) : RE X T W (.BinOp a o b pos) (mOp op ma mb) := PE.mono (pe_op ho ha hb) (two fun _ _ _ _ h => h)
theorem re_cmp {o : CmpOp} (ho : OpR X (compareOp o) (rM X.K T op)) (ha : RE X T W a ma) (hb : RE X T W b mb) (hm : behindInMarks o b = false) : RE X T W (.Compare a [o] [b] pos) (mOp op ma mb) := PE.mono (pe_cmpR ho ha hb hm) (two fun _ _ _ _ h => h)
theorem re_ix (hr : IxR X (rM X.K T op)) (ha : RE X T W a ma) (hb : RE X T W b mb) (hs : PlainIx b) : RE X T W (.Subscript a b pos) (mOp op ma mb) := PE.mono (pe_ix hr ha hb hs) (two fun _ _ _ _ h => h)
end

/-! ### truth -/
def asB : MV → Option Bool
  | .bl b => some b
  | _ => none
def mT (m : Ev MV) : Ev Bool := mB m fun d => oO (asB d)
section
variable {X : Cx} {T : Tbs} {W : WX} {pos : Pos} {a b c : Expr} {ma mb mc : Ev MV}
theorem asB_some {d : MV} {b : Bool} (h : asB d = some b) : d = .bl b := by
  cases d <;> first | (cases h; rfl) | cases h
theorem bool_end {K : Frag} {mg : Gm} {T : Tbs} {W : WX} {σ : L2.St} {ι : Io} {ρ : Env} {μ : Mem} {H : Hp} {Q : Bool → Hp → Prop} {d : MV} {v : V} (s : SR K T ι μ H) (r : RepV K H ι d v) (h : Post RB K mg T W σ ι H Q (oO (asB d) ρ μ)) : ∃ k, v = .bl k ∧ Q k H := by
  cases hb : asB d with
  | none => rw [hb] at h; exact h.elim
  | some b =>
    rw [hb] at h
    rw [asB_some hb] at r
    exact ⟨b, r.bl_inv, h b ι H Ext.refl s rfl⟩
theorem toB {m : Ev MV} : ∀ σ H Q, tG RB X.K X.mg T W (mT m) σ H Q → tTest (tG (RV X.K) X.K X.mg T W m) σ H Q :=
  fun σ H Q ⟨ι, ρ, μ, s, e, h⟩ => ⟨ι, ρ, μ, s, e, bindr h fun d v μ1 ι1 H1 _ E1 s1 r1 h1 => bool_end s1 r1 h1⟩
theorem PTt.cmp {o : CmpOp} {op : Op2} (ho : OpR X (compareOp o) (rM X.K T op)) (ha : RE X T W a ma) (hb : RE X T W b mb) (hm : behindInMarks o b = false) : RT X T W (.Compare a [o] [b] pos) (mT (mOp op ma mb)) :=
  PT.mono (pt_cmpR ho ha hb hm) fun σ H Q h => by
    obtain ⟨ι, ρ, μ, s, e, h⟩ := toB σ H Q h
    exact two (W := W) (fun _ _ _ _ h => h) _ _ _ ⟨ι, ρ, μ, s, e, h⟩
/-- any expression whose value is a bool -/
theorem rt_val (h : RE X T W a ma) (he : ∀ whole, isTrue a X.env whole = (do let v ← whole; standAt a.pos; holding [v] (truthy v)) := by intro _; rfl) : RT X T W a (mT ma) :=
  PT.mono (pt_val h he) fun σ H Q h => toB σ H Q h
/-- truth of other values -/
def truM (μ : Mem) : MV → Option Bool
  | .non => some false
  | .bl b => some b
  | .int i => some (i != 0)
  | d => (seqOf μ d).map fun xs => !xs.isEmpty

def mAnd (ma mb : Ev MV) : Ev MV := mB ma fun d => fun ρ μ => match d with
  | .bl true => mb ρ μ
  | .bl false => .ok (.bl false) μ
  | _ => .bad
def mOr (ma mb : Ev MV) : Ev MV := mB ma fun d => fun ρ μ => match d with
  | .bl false => mb ρ μ
  | .bl true => .ok (.bl true) μ
  | _ => .bad
def mNot (ma : Ev MV) : Ev MV := mB ma fun d => fun ρ μ => match d with
  | .bl b => .ok (.bl (!b)) μ
  | _ => .bad
def mIf (c : Ev Bool) (ma mb : Ev MV) : Ev MV := mB c fun k => if k = true then ma else mb
theorem re_one {op} (h : RE X T W a ma) : RE X T W (.BoolOp op [a] pos) ma := pe_one h
theorem re_and {rest : List Expr} (ha : RE X T W a ma) (hb : RE X T W (.BoolOp .And (b :: rest) pos) mb) : RE X T W (.BoolOp .And (a :: b :: rest) pos) (mAnd ma mb) :=
  PE.mono (pe_and ha hb) fun σ H Q ⟨ι, ρ, μ, s, e, h⟩ => ⟨ι, ρ, μ, s, e, bindr h fun d v μ1 ι1 H1 _ E1 s1 r1 h1 => by
    cases d with
    | bl k =>
      refine ⟨k, r1.bl_inv, ?_⟩
      cases k with
      | true => exact ⟨ι1, ρ, μ1, s1, e.ext E1, h1⟩
      | false => exact h1 _ ι1 H1 Ext.refl s1 RepV.bl
    | _ => exact h1.elim⟩
theorem re_or {rest : List Expr} (ha : RE X T W a ma) (hb : RE X T W (.BoolOp .Or (b :: rest) pos) mb) : RE X T W (.BoolOp .Or (a :: b :: rest) pos) (mOr ma mb) :=
  PE.mono (pe_or ha hb) fun σ H Q ⟨ι, ρ, μ, s, e, h⟩ => ⟨ι, ρ, μ, s, e, bindr h fun d v μ1 ι1 H1 _ E1 s1 r1 h1 => by
    cases d with
    | bl k =>
      refine ⟨k, r1.bl_inv, ?_⟩
      cases k with
      | false => exact ⟨ι1, ρ, μ1, s1, e.ext E1, h1⟩
      | true => exact h1 _ ι1 H1 Ext.refl s1 RepV.bl
    | _ => exact h1.elim⟩
theorem re_not (ha : RE X T W a ma) : RE X T W (.UnaryOp .Not a pos) (mNot ma) :=
  PE.mono (pe_not ha) fun σ H Q ⟨ι, ρ, μ, s, e, h⟩ => ⟨ι, ρ, μ, s, e, bindr h fun d v μ1 ι1 H1 _ E1 s1 r1 h1 => by
    cases d with
    | bl k => exact ⟨k, r1.bl_inv, h1 _ ι1 H1 Ext.refl s1 RepV.bl⟩
    | _ => exact h1.elim⟩
theorem re_ifExp {mc : Ev Bool} (hc : RT X T W c mc) (ha : RE X T W a ma) (hb : RE X T W b mb) : RE X T W (.IfExp c a b pos) (mIf mc ma mb) :=
  PE.mono (pe_ifExp hc ha hb) fun σ H Q ⟨ι, ρ, μ, s, e, h⟩ => ⟨ι, ρ, μ, s, e, bindr h fun d v μ1 ι1 H1 _ E1 s1 r1 h1 => by
    cases r1
    cases d with
    | true => exact ⟨ι1, ρ, μ1, s1, e.ext E1, h1⟩
    | false => exact ⟨ι1, ρ, μ1, s1, e.ext E1, h1⟩⟩
/-- tests -/
theorem rw_one {op} {m : Ev Bool} (h : RT X T W a m) (ho : op = BoolOp.And ∨ op = BoolOp.Or) : PW X (.BoolOp op [a] pos) (tG RB X.K X.mg T W m) := by
  rcases ho with rfl | rfl
  · exact pw_and1 h
  · exact pw_or1 h
theorem mT_and {K : Frag} {mg : Gm} {σ : L2.St} {ι : Io} {ρ : Env} {μ : Mem} {H : Hp} {Q : Bool → Hp → Prop} (h : Post RB K mg T W σ ι H Q (mT (mAnd ma mb) ρ μ)) : Post RB K mg T W σ ι H Q (mB (mT ma) (fun k => if k = true then mT mb else mRet false) ρ μ) := by
  unfold mT mAnd mB at *
  cases hm : ma ρ μ with
  | ok d μ1 =>
    rw [hm] at h
    cases d with
    | bl k => cases k <;> exact h
    | _ => exact h
  | exc x μ1 => rw [hm] at h; exact h
  | bad => rw [hm] at h; exact h
theorem mT_or {K : Frag} {mg : Gm} {σ : L2.St} {ι : Io} {ρ : Env} {μ : Mem} {H : Hp} {Q : Bool → Hp → Prop} (h : Post RB K mg T W σ ι H Q (mT (mOr ma mb) ρ μ)) : Post RB K mg T W σ ι H Q (mB (mT ma) (fun k => if k = true then mRet true else mT mb) ρ μ) := by
  unfold mT mOr mB at *
  cases hm : ma ρ μ with
  | ok d μ1 =>
    rw [hm] at h
    cases d with
    | bl k => cases k <;> exact h
    | _ => exact h
  | exc x μ1 => rw [hm] at h; exact h
  | bad => rw [hm] at h; exact h
theorem mT_not {K : Frag} {mg : Gm} {σ : L2.St} {ι : Io} {ρ : Env} {μ : Mem} {H : Hp} {Q : Bool → Hp → Prop} (h : Post RB K mg T W σ ι H Q (mT (mNot ma) ρ μ)) : Post RB K mg T W σ ι H Q (mB (mT ma) (fun k => mRet (!k)) ρ μ) := by
  unfold mT mNot mB at *
  cases hm : ma ρ μ with
  | ok d μ1 =>
    rw [hm] at h
    cases d with
    | bl k => cases k <;> exact h
    | _ => exact h
  | exc x μ1 => rw [hm] at h; exact h
  | bad => rw [hm] at h; exact h
theorem rw_and {rest : List Expr} (ha : RT X T W a (mT ma)) (hb : PW X (.BoolOp .And (b :: rest) pos) (tG RB X.K X.mg T W (mT mb))) : PW X (.BoolOp .And (a :: b :: rest) pos) (tG RB X.K X.mg T W (mT (mAnd ma mb))) :=
  ⟨fun wh pins s σ H Q I ⟨ι, ρ, μ, sr, e, h⟩ => (pw_and ha hb).run wh pins s σ H Q I ⟨ι, ρ, μ, sr, e, bindr (mT_and h) fun d v μ1 ι1 H1 _ E1 s1 r1 h1 => by
    cases r1
    cases d with
    | true => exact ⟨ι1, ρ, μ1, s1, e.ext E1, h1⟩
    | false => exact h1 _ ι1 H1 Ext.refl s1 rfl⟩⟩
theorem rw_or {rest : List Expr} (ha : RT X T W a (mT ma)) (hb : PW X (.BoolOp .Or (b :: rest) pos) (tG RB X.K X.mg T W (mT mb))) : PW X (.BoolOp .Or (a :: b :: rest) pos) (tG RB X.K X.mg T W (mT (mOr ma mb))) :=
  ⟨fun wh pins s σ H Q I ⟨ι, ρ, μ, sr, e, h⟩ => (pw_or ha hb).run wh pins s σ H Q I ⟨ι, ρ, μ, sr, e, bindr (mT_or h) fun d v μ1 ι1 H1 _ E1 s1 r1 h1 => by
    cases r1
    cases d with
    | false => exact ⟨ι1, ρ, μ1, s1, e.ext E1, h1⟩
    | true => exact h1 _ ι1 H1 Ext.refl s1 rfl⟩⟩
theorem rw_and1 (h : RT X T W a (mT ma)) : PW X (.BoolOp .And [a] pos) (tG RB X.K X.mg T W (mT ma)) := pw_and1 h
theorem rw_or1 (h : RT X T W a (mT ma)) : PW X (.BoolOp .Or [a] pos) (tG RB X.K X.mg T W (mT ma)) := pw_or1 h
theorem rt_bop {e : Expr} {m : Ev Bool} (h : PW X e (tG RB X.K X.mg T W m)) : RT X T W e m := h.pt
theorem rt_not (ha : RT X T W a (mT ma)) : RT X T W (.UnaryOp .Not a pos) (mT (mNot ma)) :=
  PT.mono (pt_not ha) fun σ H Q ⟨ι, ρ, μ, sr, e, h⟩ => ⟨ι, ρ, μ, sr, e, bindr (mT_not h) fun d v μ1 ι1 H1 _ E1 s1 r1 h1 => by
    cases r1
    exact h1 _ ι1 H1 Ext.refl s1 rfl⟩
/-- a op1 b op2 c -/
def mChain (o1 o2 : Op2) (ma mb mc : Ev MV) : Ev MV := mB ma fun x => mB mb fun y => fun ρ μ => match o1 μ x y with
  | some (.bl true) => mB mc (fun z => fun ρ μ => oO (o2 μ y z) ρ μ) ρ μ
  | some (.bl false) => .ok (.bl false) μ
  | _ => .bad
theorem chainT {o1 o2 : Op2} : ∀ σ H Q, tG (RV X.K) X.K X.mg T W (mChain o1 o2 ma mb mc) σ H Q → tChain (rM X.K T o1) (rM X.K T o2) (tG (RV X.K) X.K X.mg T W ma) (tG (RV X.K) X.K X.mg T W mb) (tG (RV X.K) X.K X.mg T W mc) σ H Q :=
  fun σ H Q ⟨ι, ρ, μ, s, e, h⟩ => ⟨ι, ρ, μ, s, e, bindr h fun d1 x μ1 ι1 H1 _ E1 s1 r1 h1 => ⟨ι1, ρ, μ1, s1, e.ext E1, bindr h1 fun d2 y μ2 ι2 H2 _ E2 s2 r2 h2 => by
    refine ⟨ι2, μ2, d1, d2, s2, r1.ext E2, r2, ?_⟩
    have h2 : Post (RV X.K) X.K X.mg T W σ ι2 H2 Q (match o1 μ2 d1 d2 with
      | some (.bl true) => mB mc (fun z => fun ρ μ => oO (o2 μ d2 z) ρ μ) ρ μ2
      | some (.bl false) => .ok (.bl false) μ2
      | _ => .bad) := h2
    split at h2
    · rename_i ho
      refine ⟨_, ho, fun v H3 E3 s3 r3 => ⟨true, r3.bl_inv, ?_⟩⟩
      exact ⟨ι2, ρ, μ2, s3, (e.ext (E1.trans E2)).ext E3, bindr (h2.mono E3) fun d3 z μ3 ι4 H4 _ E4 s4 r4 h4 => ⟨ι4, μ3, d2, d3, s4, (r2.ext E3).ext E4.w, r4, h4.po⟩⟩
    · rename_i ho
      refine ⟨_, ho, fun v H3 E3 s3 r3 => ⟨false, r3.bl_inv, ?_⟩⟩
      exact h2 _ ι2 H3 E3 s3 RepV.bl
    · exact h2.elim⟩⟩
theorem re_chain {o1 o2 : Op2} {op op' : CmpOp} (ho : OpR X (compareOp op) (rM X.K T o1)) (ho' : OpR X (compareOp op') (rM X.K T o2)) (ha : RE X T W a ma) (hb : RE X T W b mb) (hc : RE X T W c mc)
    (hm : lastMarks [op, op'] [b, c] = false := by with_unfolding_all rfl) : RE X T W (.Compare a [op, op'] [b, c] pos) (mChain o1 o2 ma mb mc) := PE.mono (pe_chain ho ho' ha hb hc hm) chainT
theorem rt_chain {o1 o2 : Op2} {op op' : CmpOp} (ho : OpR X (compareOp op) (rM X.K T o1)) (ho' : OpR X (compareOp op') (rM X.K T o2)) (ha : RE X T W a ma) (hb : RE X T W b mb) (hc : RE X T W c mc)
    (hm : lastMarks [op, op'] [b, c] = false := by with_unfolding_all rfl) : RT X T W (.Compare a [op, op'] [b, c] pos) (mT (mChain o1 o2 ma mb mc)) :=
  PT.mono (pt_chain ho ho' ha hb hc hm) fun σ H Q h => by
    obtain ⟨ι, ρ, μ, s, e, h⟩ := toB σ H Q h
    exact chainT (W := W) _ _ _ ⟨ι, ρ, μ, s, e, h⟩
end

/-! ### argument lists, displays -/
section
variable {X : Cx} {T : Tbs} {W : WX} {pos : Pos} {a : Expr} {es : List Expr} {ma : Ev MV} {ms : Ev (List MV)}
def mNil : Ev (List MV) := mRet []
def mCons (ma : Ev MV) (ms : Ev (List MV)) : Ev (List MV) := mB ma fun d => mB ms fun ds => mRet (d :: ds)
theorem ra_nil : RA X T W [] mNil := PA.mono pa_nil fun σ H Q ⟨ι, ρ, μ, s, e, h⟩ => h [] ι H Ext.refl s (RepL.nil_iff.mpr rfl)
theorem ra_cons (ha : RE X T W a ma) (hr : RA X T W es ms) (hs : starEach (a :: es) X.env = (false, eval a X.env) :: starEach es X.env := by rfl) : RA X T W (a :: es) (mCons ma ms) :=
  PA.mono (pa_cons ha hr hs) fun σ H Q ⟨ι, ρ, μ, s, e, h⟩ => ⟨ι, ρ, μ, s, e, bindr h fun d v μ1 ι1 H1 _ E1 s1 r1 h1 => ⟨ι1, ρ, μ1, s1, e.ext E1, bindr h1 fun ds vs μ2 ι2 H2 _ E2 s2 r2 h2 =>
    h2 (v :: vs) ι2 H2 Ext.refl s2 (RepL.cons_iff.mpr ⟨v, vs, rfl, r1.ext E2, r2⟩)⟩⟩
def mTup (ms : Ev (List MV)) : Ev MV := mB ms fun ds => oO (if ds.length ≤ sizeLine then some (.tup ds) else none)
def mLst (ms : Ev (List MV)) : Ev MV := mB ms fun ds => oO (if ds.length ≤ sizeLine then some (.lst ds) else none)
/-- a list that is a cell -/
def mLstC (ms : Ev (List MV)) : Ev MV := mB ms fun ds => fun ρ μ => if ds.length ≤ sizeLine then .ok (.ref μ.length) (μ ++ [.lst ds]) else .bad
theorem re_tup {k : Nat} (h : RA X T W es ms) : RE X T W (.Tuple es k pos) (mTup ms) :=
  PE.mono (pe_tup h) fun σ H Q ⟨ι, ρ, μ, s, e, h⟩ => ⟨ι, ρ, μ, s, e, bindr h fun d v μ1 ι1 H1 _ E1 s1 r1 h1 => by
    obtain ⟨d', hd, q⟩ := h1.po
    split at hd
    · rename_i hl
      cases hd
      exact ⟨by rw [← r1.len]; exact hl, fun p hp => q _ _ (Ext.laid hp) (s1.laid hp) (RepV.tup s1 hp r1)⟩
    · cases hd⟩
theorem re_lst (h : RA X T W es ms) : RE X T W (.List es pos) (mLst ms) :=
  PE.mono (pe_lst h) fun σ H Q ⟨ι, ρ, μ, s, e, h⟩ => ⟨ι, ρ, μ, s, e, bindr h fun d v μ1 ι1 H1 _ E1 s1 r1 h1 => by
    obtain ⟨d', hd, q⟩ := h1.po
    split at hd
    · rename_i hl
      cases hd
      exact ⟨by rw [← r1.len]; exact hl, fun p hp => q _ _ (Ext.laid hp) (s1.laid hp) (RepV.lst s1 hp r1)⟩
    · cases hd⟩
theorem re_lstC (h : RA X T W es ms) : RE X T W (.List es pos) (mLstC ms) :=
  PE.mono (pe_lst h) fun σ H Q ⟨ι, ρ, μ, s, e, h⟩ => ⟨ι, ρ, μ, s, e, bindr h fun d v μ1 ι1 H1 _ E1 s1 r1 h1 => by
    have h1 : Post (RV X.K) X.K X.mg T W σ ι1 H1 Q (if d.length ≤ sizeLine then .ok (.ref μ1.length) (μ1 ++ [.lst d]) else .bad) := h1
    split at h1
    · rename_i hl
      exact ⟨by rw [← r1.len]; exact hl, fun p hp => h1 _ _ _ (Ext.laidC hp) (s1.laidC hp r1) (by rw [← s1.len]; exact RepV.cell)⟩
    · exact h1.elim⟩
end
end MM

set_option Elab.async false
set_option linter.all false
set_option maxRecDepth 100000
set_option maxHeartbeats 4000000
/-! ## MM: operations on values -/
namespace MM
open PySem PySem.Spec PyProof.Rows L2

/-! ### data -/
mutual
def pd0 : MV → Option PyData
  | .non => some .none
  | .bl b => some (.bool b)
  | .int i => some (.int i)
  | .str x => some (.str x)
  | .tup xs => (pd0L xs).map .tuple
  | .lst xs => (pd0L xs).map .list
  | .ref _ => none
  | .cst _ => none
  | .scr _ => none
def pd0L : List MV → Option (List PyData)
  | [] => some []
  | x :: xs => match pd0 x, pd0L xs with
    | some d, some ds => some (d :: ds)
    | _, _ => none
end
mutual
/-- data, the cells read -/
def pd (μ : Mem) : MV → Option PyData
  | .non => some .none
  | .bl b => some (.bool b)
  | .int i => some (.int i)
  | .str x => some (.str x)
  | .tup xs => (pdL μ xs).map .tuple
  | .lst xs => (pdL μ xs).map .list
  | .ref i => match celOf μ i with
    | some xs => (pd0L xs).map .list
    | none => none
  | .cst _ => none
  | .scr _ => none
def pdL (μ : Mem) : List MV → Option (List PyData)
  | [] => some []
  | x :: xs => match pd μ x, pdL μ xs with
    | some d, some ds => some (d :: ds)
    | _, _ => none
end
section
variable {K : Frag} {T : Tbs} {ι : Io} {μ : Mem} {H : Hp}
mutual
theorem pd0_dp (s : SR K T ι μ H) : ∀ (d : MV) (v : V) (p : PyData), RepV K H ι d v → pd0 d = some p → Dp K H v p
  | .non, v, p, r, h => by cases h; rw [r.non_inv]; exact .non
  | .bl b, v, p, r, h => by cases h; rw [r.bl_inv]; exact .bl b
  | .int i, v, p, r, h => by cases h; rw [r.int_inv]; exact .int i
  | .str x, v, p, r, h => by cases h; rw [r.str_inv]; exact .str x
  | .ref _, _, _, _, h => by cases h
  | .cst _, _, _, _, h => by cases h
  | .scr _, _, _, _, h => by cases h
  | .tup xs, v, p, r, h => by
    unfold pd0 at h
    obtain ⟨ds, h1, h2⟩ := Option.map_eq_some_iff.mp h
    subst h2
    obtain ⟨a, vs, e, f, q⟩ := r.tup_inv
    subst e
    exact .tup f (pd0L_dp s xs vs ds q h1)
  | .lst xs, v, p, r, h => by
    unfold pd0 at h
    obtain ⟨ds, h1, h2⟩ := Option.map_eq_some_iff.mp h
    subst h2
    obtain ⟨a, vs, e, f, q⟩ := s.lst r rfl
    subst e
    exact .lst f (pd0L_dp s xs vs ds q h1)
theorem pd0L_dp (s : SR K T ι μ H) : ∀ (xs : List MV) (vs : List V) (ps : List PyData), RepL K H ι xs vs → pd0L xs = some ps → DpAll K H vs ps
  | [], vs, ps, r, h => by cases h; rw [RepL.nil_iff] at r; subst r; exact .nil
  | x :: xs, vs, ps, r, h => by
    unfold pd0L at h
    rw [RepL.cons_iff] at r
    obtain ⟨v, r', rfl, r1, r2⟩ := r
    split at h
    · rename_i d ds h1 h2
      cases h
      exact .cons (pd0_dp s x v d r1 h1) (pd0L_dp s xs r' ds r2 h2)
    · cases h
end
mutual
theorem pd_dp (s : SR K T ι μ H) : ∀ (d : MV) (v : V) (p : PyData), RepV K H ι d v → pd μ d = some p → Dp K H v p
  | .non, v, p, r, h => by cases h; rw [r.non_inv]; exact .non
  | .bl b, v, p, r, h => by cases h; rw [r.bl_inv]; exact .bl b
  | .int i, v, p, r, h => by cases h; rw [r.int_inv]; exact .int i
  | .str x, v, p, r, h => by cases h; rw [r.str_inv]; exact .str x
  | .cst _, _, _, _, h => by cases h
  | .scr _, _, _, _, h => by cases h
  | .ref i, v, p, r, h => by
    unfold pd at h
    split at h
    · rename_i xs hc
      obtain ⟨ds, h1, h2⟩ := Option.map_eq_some_iff.mp h
      subst h2
      obtain ⟨a, vs, e, f, q⟩ := s.lst r (show lstOf μ (.ref i) = some xs from hc)
      subst e
      exact .lst f (pd0L_dp s xs vs ds q h1)
    · cases h
  | .tup xs, v, p, r, h => by
    unfold pd at h
    obtain ⟨ds, h1, h2⟩ := Option.map_eq_some_iff.mp h
    subst h2
    obtain ⟨a, vs, e, f, q⟩ := r.tup_inv
    subst e
    exact .tup f (pdL_dp s xs vs ds q h1)
  | .lst xs, v, p, r, h => by
    unfold pd at h
    obtain ⟨ds, h1, h2⟩ := Option.map_eq_some_iff.mp h
    subst h2
    obtain ⟨a, vs, e, f, q⟩ := s.lst r rfl
    subst e
    exact .lst f (pdL_dp s xs vs ds q h1)
theorem pdL_dp (s : SR K T ι μ H) : ∀ (xs : List MV) (vs : List V) (ps : List PyData), RepL K H ι xs vs → pdL μ xs = some ps → DpAll K H vs ps
  | [], vs, ps, r, h => by cases h; rw [RepL.nil_iff] at r; subst r; exact .nil
  | x :: xs, vs, ps, r, h => by
    unfold pdL at h
    rw [RepL.cons_iff] at r
    obtain ⟨v, r', rfl, r1, r2⟩ := r
    split at h
    · rename_i d ds h1 h2
      cases h
      exact .cons (pd_dp s x v d r1 h1) (pdL_dp s xs r' ds r2 h2)
    · cases h
end
end

/-! ### ints -/
def okMul (i j : Int) : Prop := i.natAbs.log2 + j.natAbs.log2 < 1000000
instance (i j : Int) : Decidable (okMul i j) := by unfold okMul; infer_instance
def okDiv (j : Int) : Prop := (0 < j ∧ j.natAbs.log2 < 9000) ∨ (j ≠ 0 ∧ j.natAbs < 1073741824)
instance (j : Int) : Decidable (okDiv j) := by unfold okDiv; infer_instance
def mulT (xs : List MV) (k : Int) : Option MV :=
  if k = 1 then some (.tup xs) else if xs ≠ [] ∧ 2 ≤ k ∧ k ≤ 1000 ∧ xs.length ≤ 1000 then some (.tup (List.replicate k.toNat xs).flatten) else none
def addM : Op2 := fun μ a b => match a, b with
  | .int i, .int j => some (.int (i + j))
  | .int i, .bl k => some (.int (i + b2i k))
  | .str x, .str y => if x.length + y.length ≤ sizeLine then some (.str (x ++ y)) else none
  | .tup xs, .tup ys => if xs.length + ys.length ≤ sizeLine then some (.tup (xs ++ ys)) else none
  | _, _ => match lstOf μ a, lstOf μ b with
    | some xs, some ys => if xs.length + ys.length ≤ sizeLine then some (.lst (xs ++ ys)) else none
    | _, _ => none
def subM : Op2 := fun _ a b => match a, b with
  | .int i, .int j => some (.int (i - j))
  | _, _ => none
def mulM : Op2 := fun μ a b => match a, b with
  | .int i, .int j => if okMul i j then some (.int (i * j)) else none
  | .tup xs, .int k => if xs ≠ [] ∧ 2 ≤ k ∧ k ≤ 1000 ∧ xs.length ≤ 1000 then some (.tup (List.replicate k.toNat xs).flatten) else none
  | _, _ => none
def fdivM : Op2 := fun _ a b => match a, b with
  | .int i, .int j => if okDiv j then some (.int (i.fdiv j)) else none
  | _, _ => none
def modM : Op2 := fun _ a b => match a, b with
  | .int i, .int j => if j ≠ 0 then some (.int (i.fmod j)) else none
  | _, _ => none
def powM : Op2 := fun _ a b => match a, b with
  | .int i, .int j => if 0 ≤ j ∧ j ≤ 1000000 ∧ i.natAbs < 2 ^ 64 then some (.int (i ^ j.toNat)) else none
  | _, _ => none
def shlM : Op2 := fun _ a b => match a, b with
  | .int i, .int j => if 0 ≤ j ∧ j ≤ 1000000 ∧ i.natAbs < 2 ^ 64 then some (.int (i * 2 ^ j.toNat)) else none
  | _, _ => none
def shrM : Op2 := fun _ a b => match a, b with
  | .int i, .int j => if 0 ≤ j then some (.int (i / 2 ^ j.toNat)) else none
  | _, _ => none
def bandM : Op2 := fun _ a b => match a, b with
  | .int i, .int j => some (.int (Builtin.bitAnd i j))
  | _, _ => none
def borM : Op2 := fun _ a b => match a, b with
  | .int i, .int j => some (.int (Builtin.bitOr i j))
  | _, _ => none
def ltM : Op2 := fun _ a b => match a, b with
  | .int i, .int j => some (.bl (decide (i < j)))
  | _, _ => none
def leM : Op2 := fun _ a b => match a, b with
  | .int i, .int j => some (.bl (decide (i ≤ j)))
  | _, _ => none
def gtM : Op2 := fun _ a b => match a, b with
  | .int i, .int j => some (.bl (decide (j < i)))
  | _, _ => none
def geM : Op2 := fun _ a b => match a, b with
  | .int i, .int j => some (.bl (decide (j ≤ i)))
  | _, _ => none
def eqD (μ : Mem) (a b : MV) : Option Bool := match pd μ a, pd μ b with
  | some d, some e => if SeqAt.shaped d = true ∧ SeqAt.shaped e = true then some (PyData.eqv d e) else none
  | _, _ => none
def eqM : Op2 := fun μ a b => (eqD μ a b).map .bl
def neM : Op2 := fun μ a b => (eqD μ a b).map fun k => .bl (!k)
def inDl (μ : Mem) (a b : MV) : Option Bool := match pd μ a, pd μ b with
  | some d, some (.list ds) => if SeqAt.shaped d = true ∧ SeqAt.shaped (.list ds) = true then some (ds.any fun z => PyData.eqv z d) else none
  | _, _ => none
/-- in a tuple of plain values -/
def flatD : MV → Option V
  | .int i => some (.int i)
  | .str x => some (.str x)
  | .bl b => some (.bl b)
  | .non => some .non
  | _ => none
def flatDs : List MV → Option (List V)
  | [] => some []
  | x :: xs => match flatD x, flatDs xs with
    | some v, some vs => some (v :: vs)
    | _, _ => none
def inT (a : MV) (ys : List MV) : Option Bool := match flatD a, flatDs ys with
  | some v, some vs => if flatV v = true ∧ vs.all flatV = true then some (inV v vs) else none
  | _, _ => none
def inB (μ : Mem) (a b : MV) : Option Bool := match b with
  | .tup ys => inT a ys
  | _ => inDl μ a b
def inM : Op2 := fun μ a b => (inB μ a b).map .bl
def notInM : Op2 := fun μ a b => (inB μ a b).map fun k => .bl (!k)
def isNonB : MV → Option Bool
  | .non => some true
  | .cst _ => none
  | _ => some false
def isM : Op2 := fun _ a b => match b with
  | .non => (isNonB a).map .bl
  | _ => none
def isNotM : Op2 := fun _ a b => match b with
  | .non => (isNonB a).map fun k => .bl (!k)
  | _ => none
def ixM : Op2 := fun μ a b => match b with
  | .int i => match a with
    | .str z => if z.length ≤ sizeLine then (atI z.cps.toList i).map fun c => .str ⟨#[c]⟩ else none
    | _ => (seqOf μ a).bind fun xs => atI xs i
  | _ => none

section
variable {X : Cx} {T : Tbs}
theorem PO.val {K : Frag} {ι : Io} {μ : Mem} {H : Hp} {Q : VK} {o : Option MV} {d : MV} {v : V} (q : PO K T ι μ H Q o) (s : SR K T ι μ H) (e : o = some d) (r : RepV K H ι d v) : Q v H := by
  obtain ⟨d', h, q⟩ := q
  rw [e] at h; cases h
  exact q v H Ext.refl s r
/-- two ints -/
theorem opII {f : Value → Value → Sem Value} {C : Int → Int → Prop} {g : Int → Int → V} {op : Op2} (h : OpR X f (rI C g))
    (hop : ∀ μ a b d, op μ a b = some d → ∃ i j, a = .int i ∧ b = .int j ∧ C i j ∧ ∀ K H ι, RepV K H ι d (g i j)) : OpR X f (rM X.K T op) := by
  intro pins s σ H x y v u Q I rx ry ⟨ι, μ, d1, d2, sr, r1, r2, d, e, q⟩
  obtain ⟨i, j, rfl, rfl, c, r⟩ := hop μ d1 d2 d e
  exact h pins s σ H x y v u Q I rx ry ⟨i, j, r1.int_inv, r2.int_inv, c, q _ H Ext.refl sr (r _ _ _)⟩
theorem rI_of {f : Value → Value → Sem Value} {g : Int → Int → V} (h : OpR X f (rI0 g)) : OpR X f (rI (fun _ _ => True) g) := by
  intro pins s σ H x y v u Q I rx ry ⟨i, j, e1, e2, _, q⟩
  exact h pins s σ H x y v u Q I rx ry ⟨i, j, e1, e2, q⟩
theorem m_sub : OpR X (binaryOp .Sub) (rM X.K T subM) := opII (rI_of op_sub) fun μ a b d h => by
  unfold subM at h; split at h
  · cases h; exact ⟨_, _, rfl, rfl, trivial, fun _ _ _ => RepV.int⟩
  · cases h
theorem m_pow : OpR X (binaryOp .Pow) (rM X.K T powM) := opII op_pow fun μ a b d h => by
  unfold powM at h; split at h
  · split at h
    · cases h; exact ⟨_, _, rfl, rfl, by assumption, fun _ _ _ => RepV.int⟩
    · cases h
  · cases h
theorem m_shl : OpR X (binaryOp .LShift) (rM X.K T shlM) := opII op_shl fun μ a b d h => by
  unfold shlM at h; split at h
  · split at h
    · cases h; exact ⟨_, _, rfl, rfl, by assumption, fun _ _ _ => RepV.int⟩
    · cases h
  · cases h
theorem m_shr : OpR X (binaryOp .RShift) (rM X.K T shrM) := opII op_shr fun μ a b d h => by
  unfold shrM at h; split at h
  · split at h
    · cases h; exact ⟨_, _, rfl, rfl, by assumption, fun _ _ _ => RepV.int⟩
    · cases h
  · cases h
theorem m_band : OpR X (binaryOp .BitAnd) (rM X.K T bandM) := opII (rI_of op_and) fun μ a b d h => by
  unfold bandM at h; split at h
  · cases h; exact ⟨_, _, rfl, rfl, trivial, fun _ _ _ => RepV.int⟩
  · cases h
theorem m_bor : OpR X (binaryOp .BitOr) (rM X.K T borM) := opII (rI_of op_or) fun μ a b d h => by
  unfold borM at h; split at h
  · cases h; exact ⟨_, _, rfl, rfl, trivial, fun _ _ _ => RepV.int⟩
  · cases h
theorem m_mod : OpR X (binaryOp .Mod) (rM X.K T modM) := opII op_modN fun μ a b d h => by
  unfold modM at h; split at h
  · split at h
    · cases h; exact ⟨_, _, rfl, rfl, by assumption, fun _ _ _ => RepV.int⟩
    · cases h
  · cases h
theorem m_lt : OpR X (compareOp .Lt) (rM X.K T ltM) := opII (rI_of op_lt) fun μ a b d h => by
  unfold ltM at h; split at h
  · cases h; exact ⟨_, _, rfl, rfl, trivial, fun _ _ _ => RepV.bl⟩
  · cases h
theorem m_le : OpR X (compareOp .LtE) (rM X.K T leM) := opII (rI_of op_le) fun μ a b d h => by
  unfold leM at h; split at h
  · cases h; exact ⟨_, _, rfl, rfl, trivial, fun _ _ _ => RepV.bl⟩
  · cases h
theorem m_gt : OpR X (compareOp .Gt) (rM X.K T gtM) := opII (rI_of op_gt) fun μ a b d h => by
  unfold gtM at h; split at h
  · cases h; exact ⟨_, _, rfl, rfl, trivial, fun _ _ _ => RepV.bl⟩
  · cases h
theorem m_ge : OpR X (compareOp .GtE) (rM X.K T geM) := opII (rI_of op_ge) fun μ a b d h => by
  unfold geM at h; split at h
  · cases h; exact ⟨_, _, rfl, rfl, trivial, fun _ _ _ => RepV.bl⟩
  · cases h
theorem m_fdiv : OpR X (binaryOp .FloorDiv) (rM X.K T fdivM) := by
  intro pins s σ H x y v u Q I rx ry ⟨ι, μ, d1, d2, sr, r1, r2, d, e, q⟩
  unfold fdivM at e
  split at e
  · rename_i i j
    split at e
    · rename_i c
      cases e
      rcases c with c | c
      · have h0 : (0 : Int) ≤ j := Int.le_of_lt c.1
        have z : Q (.int (i.fdiv j)) H := q _ H Ext.refl sr RepV.int
        rw [Int.fdiv_eq_ediv_of_nonneg i h0] at z
        exact op_fdivW pins s σ H x y v u Q I rx ry ⟨i, j, r1.int_inv, r2.int_inv, c, z⟩
      · exact op_fdivN pins s σ H x y v u Q I rx ry ⟨i, j, r1.int_inv, r2.int_inv, c, q _ H Ext.refl sr RepV.int⟩
    · cases e
  · cases e
theorem Vals.unlen {xs : List MV} {vs : List V} {K : Frag} {H : Hp} {ι : Io} (r : RepL K H ι xs vs) : xs = [] ↔ vs = [] := by
  have h := r.len
  constructor
  · rintro rfl; exact List.eq_nil_of_length_eq_zero h.symm
  · rintro rfl; exact List.eq_nil_of_length_eq_zero h
theorem Rd.at {pins : List (Addr × Obj)} {σ : L2.St} {H : Hp} {s : Shared} {a : Addr} {vs : List V} (I : L2.Inv X pins σ H s) (h : Rd H a (.lst vs)) :
    vs.length ≤ sizeLine ∧ ∃ (its : List Value) (n : Nat), Vals vs its ∧ s.heap.get? a = some { cls := .type "list", data := .seq its.toArray n } := h.ok I.hok
theorem m_add : OpR X (binaryOp .Add) (rM X.K T addM) := by
  intro pins s σ H x y v u Q I rx ry ⟨ι, μ, d1, d2, sr, r1, r2, d, e, q⟩
  unfold addM at e
  split at e
  · cases e
    exact op_add pins s σ H x y v u Q I rx ry ⟨_, _, r1.int_inv, r2.int_inv, q _ H Ext.refl sr RepV.int⟩
  · cases e
    exact op_add_ib pins s σ H x y v u Q I rx ry ⟨_, _, r1.int_inv, r2.bl_inv, q _ H Ext.refl sr RepV.int⟩
  · split at e
    · rename_i hz
      cases e
      exact op_add_str pins s σ H x y v u Q I rx ry ⟨_, _, r1.str_inv, r2.str_inv, hz, q _ H Ext.refl sr RepV.str⟩
    · cases e
  · rename_i xs ys
    split at e
    · rename_i hz
      cases e
      obtain ⟨a, vs, rfl, t1, l1⟩ := r1.tup_inv
      obtain ⟨b, ws, rfl, t2, l2⟩ := r2.tup_inv
      refine op_catA pins s σ H _ _ v u Q I rx ry ⟨a, b, vs, ws, rfl, rfl, t1, t2, by rw [← l1.len, ← l2.len]; exact hz, fun h0 => ?_, fun _ h0 => ?_, fun _ _ p hp => ?_⟩
      · have h1 := (Vals.unlen l1).mpr h0
        subst h1
        exact q _ H Ext.refl sr r2
      · have h1 := (Vals.unlen l2).mpr h0
        subst h1
        rw [List.append_nil] at q
        exact q _ H Ext.refl sr r1
      · exact q _ _ (Ext.laid hp) (sr.laid hp) (RepV.tup sr hp (l1.app l2))
    · cases e
  · split at e
    · rename_i xs ys h1 h2
      split at e
      · rename_i hz
        cases e
        obtain ⟨a, vs, rfl, t1, l1⟩ := sr.lstR r1 h1
        obtain ⟨b, ws, rfl, t2, l2⟩ := sr.lstR r2 h2
        cases rx
        cases ry
        obtain ⟨z1, as, n1, v1, g1⟩ := Rd.at I t1
        obtain ⟨z2, bs, n2, v2, g2⟩ := Rd.at I t2
        have hlen : vs.length + ws.length ≤ sizeLine := by rw [← l1.len, ← l2.len]; exact hz
        refine PySem.P.add_list g1 g2 ?_ (by simp only [List.size_toArray]; rw [← v1.length, ← v2.length]; exact hlen)
        have hp := I.hok.fresh (Nat.le_refl s.heap.objs.size)
        have ea : as.toArray ++ bs.toArray = (as ++ bs).toArray := List.append_toArray as bs
        rw [ea]
        exact ⟨.ref s.heap.objs.size, _, I.lnew (t' := s.toks) (v1.append v2) (by rw [List.length_append]; exact hlen), rfl, q _ _ (Ext.laid hp) (sr.laid hp) (RepV.lst sr hp (l1.app l2))⟩
      · cases e
    · cases e
theorem RepL.rep {K : Frag} {H : Hp} {ι : Io} {xs : List MV} {vs : List V} (h : RepL K H ι xs vs) : ∀ k : Nat, RepL K H ι (List.replicate k xs).flatten (List.replicate k vs).flatten
  | 0 => by simp [RepL.nil_iff]
  | k + 1 => by
    rw [List.replicate_succ, List.replicate_succ, List.flatten_cons, List.flatten_cons]
    exact h.app (RepL.rep h k)
theorem m_mul : OpR X (binaryOp .Mult) (rM X.K T mulM) := by
  intro pins s σ H x y v u Q I rx ry ⟨ι, μ, d1, d2, sr, r1, r2, d, e, q⟩
  unfold mulM at e
  split at e
  · split at e
    · rename_i hc
      cases e
      exact op_mulW pins s σ H x y v u Q I rx ry ⟨_, _, r1.int_inv, r2.int_inv, hc, q _ H Ext.refl sr RepV.int⟩
    · cases e
  · split at e
    · rename_i hc
      cases e
      obtain ⟨a, vs, rfl, t1, l1⟩ := r1.tup_inv
      have hl := l1.len
      refine op_repT pins s σ H _ y v u Q I rx ry ⟨a, _, vs, rfl, r2.int_inv, t1, fun z => hc.1 ((Vals.unlen l1).mpr z), hc.2.1, hc.2.2.1, by omega, fun p hp => ?_⟩
      exact q _ _ (Ext.laid hp) (sr.laid hp) (RepV.tup sr hp (l1.rep _))
    · cases e
  · cases e
theorem eqD_some {μ : Mem} {a b : MV} {k : Bool} (h : eqD μ a b = some k) : ∃ d e, pd μ a = some d ∧ pd μ b = some e ∧ SeqAt.shaped d = true ∧ SeqAt.shaped e = true ∧ PyData.eqv d e = k := by
  unfold eqD at h
  split at h
  · rename_i d e h1 h2
    split at h
    · rename_i hs
      cases h
      exact ⟨d, e, h1, h2, hs.1, hs.2, rfl⟩
    · cases h
  · cases h
theorem m_eq (hu : X.A.units + 64 < cLine) : OpR X (compareOp .Eq) (rM X.K T eqM) := by
  intro pins s σ H x y v u Q I rx ry ⟨ι, μ, d1, d2, sr, r1, r2, d, e, q⟩
  obtain ⟨k, hk, rfl⟩ := Option.map_eq_some_iff.mp e
  obtain ⟨a, b, h1, h2, s1, s2, rfl⟩ := eqD_some hk
  exact op_eqD hu pins s σ H x y v u Q I rx ry ⟨a, b, pd_dp sr d1 x a r1 h1, pd_dp sr d2 y b r2 h2, s1, s2, q _ H Ext.refl sr RepV.bl⟩
theorem m_ne (hu : X.A.units + 64 < cLine) : OpR X (compareOp .NotEq) (rM X.K T neM) := by
  intro pins s σ H x y v u Q I rx ry ⟨ι, μ, d1, d2, sr, r1, r2, d, e, q⟩
  obtain ⟨k, hk, rfl⟩ := Option.map_eq_some_iff.mp e
  obtain ⟨a, b, h1, h2, s1, s2, rfl⟩ := eqD_some hk
  exact op_neD hu pins s σ H x y v u Q I rx ry ⟨a, b, pd_dp sr d1 x a r1 h1, pd_dp sr d2 y b r2 h2, s1, s2, q _ H Ext.refl sr RepV.bl⟩
theorem flatD_rep {K : Frag} {H : Hp} {ι : Io} {d : MV} {v w : V} (r : RepV K H ι d v) (h : flatD d = some w) : v = w := by
  cases d with
  | int i => cases h; exact r.int_inv
  | str i => cases h; exact r.str_inv
  | bl i => cases h; exact r.bl_inv
  | non => cases h; exact r.non_inv
  | _ => cases h
theorem flatDs_rep {K : Frag} {H : Hp} {ι : Io} : ∀ {xs : List MV} {vs ws : List V}, RepL K H ι xs vs → flatDs xs = some ws → vs = ws
  | [], vs, ws, r, h => by cases h; exact RepL.nil_iff.mp r
  | x :: xs, vs, ws, r, h => by
    rw [RepL.cons_iff] at r
    obtain ⟨v, r', rfl, r1, r2⟩ := r
    unfold flatDs at h
    split at h
    · rename_i w ws' h1 h2
      cases h
      rw [flatD_rep r1 h1, flatDs_rep r2 h2]
    · cases h
theorem inB_some {K : Frag} {H : Hp} {ι : Io} {μ : Mem} {a b : MV} {k : Bool} {x y : V} (sr : SR K T ι μ H) (r1 : RepV K H ι a x) (r2 : RepV K H ι b y) (h : inB μ a b = some k) :
    (∃ p xs, y = .ref p ∧ SqT K H p xs ∧ flatV x = true ∧ xs.all flatV = true ∧ inV x xs = k) ∨
    (∃ d ds, Dp K H x d ∧ Dp K H y (.list ds) ∧ SeqAt.shaped d = true ∧ SeqAt.shaped (.list ds) = true ∧ (ds.any fun z => PyData.eqv z d) = k) := by
  unfold inB at h
  split at h
  · unfold inT at h
    split at h
    · rename_i v vs h1 h2
      split at h
      · rename_i hf
        cases h
        obtain ⟨p, ws, rfl, t, l⟩ := r2.tup_inv
        have e1 := flatD_rep r1 h1
        have e2 := flatDs_rep l h2
        subst e1 e2
        exact .inl ⟨p, _, rfl, t, hf.1, hf.2, rfl⟩
      · cases h
    · cases h
  · unfold inDl at h
    split at h
    · rename_i d ds h1 h2
      split at h
      · rename_i hf
        cases h
        exact .inr ⟨d, ds, pd_dp sr a x d r1 h1, pd_dp sr b y _ r2 h2, hf.1, hf.2, rfl⟩
      · cases h
    · cases h
theorem m_in (hu : X.A.units + 65 < cLine) : OpR X (compareOp .In) (rM X.K T inM) := by
  intro pins s σ H x y v u Q I rx ry ⟨ι, μ, d1, d2, sr, r1, r2, d, e, q⟩
  obtain ⟨k, hk, rfl⟩ := Option.map_eq_some_iff.mp e
  rcases inB_some sr r1 r2 hk with ⟨p, xs, e1, t, f1, f2, e2⟩ | ⟨a, ds, h1, h2, s1, s2, e2⟩
  · exact op_in_seq pins s σ H x y v u Q I rx ry ⟨p, xs, e1, .inr t, f1, f2, by rw [e2]; exact q _ H Ext.refl sr RepV.bl⟩
  · exact op_inD hu pins s σ H x y v u Q I rx ry ⟨a, ds, h1, h2, s1, s2, by rw [e2]; exact q _ H Ext.refl sr RepV.bl⟩
theorem m_notIn (hu : X.A.units + 65 < cLine) : OpR X (compareOp .NotIn) (rM X.K T notInM) := by
  intro pins s σ H x y v u Q I rx ry ⟨ι, μ, d1, d2, sr, r1, r2, d, e, q⟩
  obtain ⟨k, hk, rfl⟩ := Option.map_eq_some_iff.mp e
  rcases inB_some sr r1 r2 hk with ⟨p, xs, e1, t, f1, f2, e2⟩ | ⟨a, ds, h1, h2, s1, s2, e2⟩
  · exact op_notIn_seq pins s σ H x y v u Q I rx ry ⟨p, xs, e1, .inr t, f1, f2, by rw [e2]; exact q _ H Ext.refl sr RepV.bl⟩
  · exact op_notInD hu pins s σ H x y v u Q I rx ry ⟨a, ds, h1, h2, s1, s2, by rw [e2]; exact q _ H Ext.refl sr RepV.bl⟩
theorem isNonB_rep {K : Frag} {H : Hp} {ι : Io} {d : MV} {v : V} {k : Bool} (r : RepV K H ι d v) (h : isNonB d = some k) : decide (v = .non) = k := by
  cases d with
  | non => cases h; rw [r.non_inv]; rfl
  | bl b => cases h; rw [r.bl_inv]; rfl
  | int b => cases h; rw [r.int_inv]; rfl
  | str b => cases h; rw [r.str_inv]; rfl
  | tup xs => cases h; obtain ⟨a, vs, e, _⟩ := r.tup_inv; subst e; rfl
  | lst xs => cases h; unfold RepV at r; obtain ⟨a, vs, e, _⟩ := r; subst e; rfl
  | ref i => cases h; unfold RepV at r; obtain ⟨a, e, _⟩ := r; subst e; rfl
  | cst u => cases h
  | scr ns => cases h; obtain ⟨a, e, _⟩ := r.scr_inv; subst e; rfl
theorem m_is : OpR X (compareOp .Is) (rM X.K T isM) := by
  intro pins s σ H x y v u Q I rx ry ⟨ι, μ, d1, d2, sr, r1, r2, d, e, q⟩
  unfold isM at e
  split at e
  · obtain ⟨k, hk, rfl⟩ := Option.map_eq_some_iff.mp e
    exact op_isN pins s σ H x y v u Q I rx ry ⟨r2.non_inv, by rw [isNonB_rep r1 hk]; exact q _ H Ext.refl sr RepV.bl⟩
  · cases e
theorem m_isNot : OpR X (compareOp .IsNot) (rM X.K T isNotM) := by
  intro pins s σ H x y v u Q I rx ry ⟨ι, μ, d1, d2, sr, r1, r2, d, e, q⟩
  unfold isNotM at e
  split at e
  · obtain ⟨k, hk, rfl⟩ := Option.map_eq_some_iff.mp e
    exact op_notN pins s σ H x y v u Q I rx ry ⟨r2.non_inv, by rw [isNonB_rep r1 hk]; exact q _ H Ext.refl sr RepV.bl⟩
  · cases e
theorem ixN_lt {n : Nat} {i : Int} {j : Nat} (h : ixN n i = some j) : j < n := (ixN_seq h).2.1
theorem atI_rep {K : Frag} {H : Hp} {ι : Io} {xs : List MV} {vs : List V} {i : Int} {d : MV} (r : RepL K H ι xs vs) (h : atI xs i = some d) : ∃ v, atI vs i = some v ∧ RepV K H ι d v := by
  unfold atI at h ⊢
  rw [← r.len]
  obtain ⟨j, h1, h2⟩ := Option.bind_eq_some_iff.mp h
  obtain ⟨v, h3, h4⟩ := r.get h2
  exact ⟨v, by rw [h1]; exact h3, h4⟩
theorem m_ix : IxR X (rM X.K T ixM) := by
  intro value slice pins s σ H x y v u Q I rx ry ⟨ι, μ, d1, d2, sr, r1, r2, d, e, q⟩ hs
  unfold ixM at e
  split at e
  · rename_i i
    split at e
    · rename_i z
      split at e
      · rename_i hz
        obtain ⟨c, hc, rfl⟩ := Option.map_eq_some_iff.mp e
        exact ix_str value slice pins s σ H x y v u Q I rx ry ⟨z, i, c, r1.str_inv, r2.int_inv, hz, hc, q _ H Ext.refl sr RepV.str⟩ hs
      · cases e
    · obtain ⟨xs, h1, h2⟩ := Option.bind_eq_some_iff.mp e
      unfold seqOf at h1
      split at h1
      · cases h1
        obtain ⟨a, vs, rfl, t, l⟩ := r1.tup_inv
        obtain ⟨w', h3, h4⟩ := atI_rep l h2
        exact ix_tup value slice pins s σ H _ y v u Q I rx ry ⟨a, vs, i, w', rfl, r2.int_inv, t, h3, q _ H Ext.refl sr h4⟩ hs
      · obtain ⟨a, vs, rfl, t, l⟩ := sr.lst r1 h1
        obtain ⟨w', h3, h4⟩ := atI_rep l h2
        exact ix_list value slice pins s σ H _ y v u Q I rx ry ⟨a, vs, i, w', rfl, r2.int_inv, t, h3, q _ H Ext.refl sr h4⟩ hs
  · cases e
/-! ### one-place -/
def rM1 (K : Frag) (T : Tbs) (op : Mem → MV → Option MV) : V → Hp → VK → Prop := fun x H Q => ∃ ι μ d1, SR K T ι μ H ∧ RepV K H ι d1 x ∧ PO K T ι μ H Q (op μ d1)
def negM : Mem → MV → Option MV := fun _ a => match a with
  | .int i => some (.int (-i))
  | _ => none
theorem m_neg : UnR X (unaryOp .USub) (rM1 X.K T negM) := by
  intro pins s σ H x v Q I rx ⟨ι, μ, d1, sr, r1, d, e, q⟩
  unfold negM at e
  split at e
  · cases e
    exact un_neg pins s σ H x v Q I rx ⟨_, r1.int_inv, q _ H Ext.refl sr RepV.int⟩
  · cases e
def mUn (op : Mem → MV → Option MV) (ma : Ev MV) : Ev MV := mB ma fun a => fun ρ μ => oO (op μ a) ρ μ
theorem re_un {W : WX} {pos : Pos} {a : Expr} {ma : Ev MV} {o : UnaryOp} {op : Mem → MV → Option MV} (ho : UnR X (unaryOp o) (rM1 X.K T op)) (ha : RE X T W a ma) : RE X T W (.UnaryOp o a pos) (mUn op ma) :=
  PE.mono (pe_un ho ha) fun σ H Q ⟨ι, ρ, μ, s, e, h⟩ => ⟨ι, ρ, μ, s, e, bindr h fun d1 x μ1 ι1 H1 _ E1 s1 r1 h1 => ⟨ι1, μ1, d1, s1, r1, h1.po⟩⟩
end
end MM

set_option Elab.async false
set_option linter.all false
set_option maxRecDepth 100000
set_option maxHeartbeats 4000000
/-! ## MM: slices, calls of built-ins, methods -/
namespace MM
open PySem PySem.Spec PyProof.Rows L2

/-! ### slices -/
def cutM {α : Type} (xs : List α) (lo hi : Option Int) : List α := (xs.drop (HT.sIx xs.length 0 lo)).take (HT.sIx xs.length xs.length hi - HT.sIx xs.length 0 lo)
theorem cutM_V (xs : List V) (lo hi : Option Int) : cutM xs lo hi = cutV xs lo hi := rfl
theorem RepL.cut {K : Frag} {H : Hp} {ι : Io} {xs : List MV} {vs : List V} (r : RepL K H ι xs vs) (lo hi : Option Int) : RepL K H ι (cutM xs lo hi) (cutV vs lo hi) := by
  unfold cutM cutV
  rw [r.len]
  exact (r.drop _).take _
def sliceM (μ : Mem) (d : MV) (lo hi : Option Int) : Option MV := match d with
  | .tup xs => some (.tup (cutM xs lo hi))
  | .scr ns => some (.lst ((cutM ns lo hi).map .int))
  | d => (lstOf μ d).map fun xs => .lst (cutM xs lo hi)
def rSl (K : Frag) (T : Tbs) : V → Option Int → Option Int → Hp → VK → Prop := fun x lo hi H Q => ∃ ι μ d, SR K T ι μ H ∧ RepV K H ι d x ∧ PO K T ι μ H Q (sliceM μ d lo hi)
theorem map_cutM {α β : Type} (f : α → β) (xs : List α) (lo hi : Option Int) : cutM (xs.map f) lo hi = (cutM xs lo hi).map f := by
  unfold cutM
  rw [List.length_map, List.map_take, List.map_drop]
theorem RepL.ints {K : Frag} {H : Hp} {ι : Io} : ∀ ns : List Int, RepL K H ι (ns.map MV.int) (ns.map V.int)
  | [] => RepL.nil_iff.mpr rfl
  | n :: ns => RepL.cons_iff.mpr ⟨_, _, rfl, RepV.int, RepL.ints ns⟩
section
variable {X : Cx} {T : Tbs} {W : WX} {pos p2 : Pos} {a : Expr} {lo hi : Option Expr} {ma : Ev MV} {ml mh : Ev (Option Int)}
theorem m_slice : SlR X (rSl X.K T) := by
  intro pins s σ H x v vl vu lo hi sl Q I rx hs pl pu ⟨ι, μ, d, sr, r1, d', e, q⟩
  unfold sliceM at e
  split at e
  · rename_i xs
    cases e
    obtain ⟨b, vs, rfl, t, l⟩ := r1.tup_inv
    refine sl_tupA pins s σ H _ v vl vu lo hi sl Q I rx hs pl pu ⟨b, vs, rfl, t, fun hw => ?_, fun _ p hp => ?_⟩
    · have z : cutM xs lo hi = xs := by
        unfold cutM
        rw [l.len, hw.1, hw.2, List.drop_zero, Nat.sub_zero, ← l.len, List.take_length]
      rw [z] at q
      exact q _ H Ext.refl sr r1
    · exact q _ _ (Ext.laid hp) (sr.laid hp) (RepV.tup sr hp (l.cut lo hi))
  · rename_i ns
    cases e
    obtain ⟨b, rfl, t⟩ := r1.scr_inv
    refine sl_list pins s σ H _ v vl vu lo hi sl Q I rx hs pl pu ⟨b, _, rfl, t, fun p hp => ?_⟩
    rw [← cutM_V, map_cutM]
    exact q _ _ (Ext.laid hp) (sr.laid hp) (RepV.lst sr hp (RepL.ints _))
  · obtain ⟨xs, h1, rfl⟩ := Option.map_eq_some_iff.mp e
    obtain ⟨b, vs, rfl, t, l⟩ := sr.lst r1 h1
    refine sl_list pins s σ H _ v vl vu lo hi sl Q I rx hs pl pu ⟨b, _, rfl, t, fun p hp => ?_⟩
    exact q _ _ (Ext.laid hp) (sr.laid hp) (RepV.lst sr hp (l.cut lo hi))
abbrev RO : Rel (Option Int) (Option Int) := fun _ _ a b => a = b
def asI : MV → Option (Option Int)
  | .int i => some (some i)
  | _ => none
def mPart (m : Ev MV) : Ev (Option Int) := mB m fun d => oO (asI d)
def mNoPart : Ev (Option Int) := mRet none
theorem PO.mono {e : Option Expr} {t t' : TO} (h : L2.PO X e t) (k : ∀ σ H Q, t' σ H Q → t σ H Q) : L2.PO X e t' := ⟨fun pins s σ H Q I q => h.run pins s σ H Q I (k σ H Q q)⟩
theorem rp_none : L2.PO X none (tG RO X.K X.mg T W mNoPart) := PO.mono po_none fun σ H Q ⟨ι, ρ, μ, s, e, h⟩ => h none ι H Ext.refl s rfl
theorem rp_some {e : Expr} (h : RE X T W e ma) : L2.PO X (some e) (tG RO X.K X.mg T W (mPart ma)) :=
  PO.mono (po_some h) fun σ H Q ⟨ι, ρ, μ, s, e, h⟩ => ⟨ι, ρ, μ, s, e, bindr h fun d v μ1 ι1 H1 _ E1 s1 r1 h1 => by
    cases d with
    | int i => exact ⟨i, r1.int_inv, h1 (some i) ι1 H1 Ext.refl s1 rfl⟩
    | _ => exact h1.elim⟩
def mSlice (ma : Ev MV) (ml mh : Ev (Option Int)) : Ev MV := mB ma fun d => mB ml fun l => mB mh fun h => fun ρ μ => oO (sliceM μ d l h) ρ μ
theorem re_slice (ha : RE X T W a ma) (hl : L2.PO X lo (tG RO X.K X.mg T W ml)) (hh : L2.PO X hi (tG RO X.K X.mg T W mh)) : RE X T W (.Subscript a (.Slice lo hi none p2) pos) (mSlice ma ml mh) :=
  PE.mono (pe_slice m_slice ha hl hh) fun σ H Q ⟨ι, ρ, μ, s, e, h⟩ => ⟨ι, ρ, μ, s, e, bindr h fun d x μ1 ι1 H1 _ E1 s1 r1 h1 => ⟨ι1, ρ, μ1, s1, e.ext E1, bindr h1 fun l l' μ2 ι2 H2 _ E2 s2 r2 h2 => by
    cases r2
    exact ⟨ι2, ρ, μ2, s2, (e.ext E1).ext E2, bindr h2 fun k k' μ3 ι3 H3 _ E3 s3 r3 h3 => by
      cases r3
      exact ⟨ι3, μ3, d, s3, (r1.ext E2).ext E3.w, h3.po⟩⟩⟩⟩
end

/-! ### calls of built-ins -/
abbrev OpC := Mem → List MV → Option MV
def rC (K : Frag) (T : Tbs) (op : OpC) : List V → Hp → VK → Prop := fun xs H Q => ∃ ι μ ds, SR K T ι μ H ∧ RepL K H ι ds xs ∧ PO K T ι μ H Q (op μ ds)
def mCB (op : OpC) (ms : Ev (List MV)) : Ev MV := mB ms fun ds => fun ρ μ => oO (op μ ds) ρ μ
section
variable {X : Cx} {T : Tbs} {W : WX} {pos p : Pos} {e : Expr} {es : List Expr} {ms : Ev (List MV)} {op : OpC} {x : Str} {id : String}
theorem callM : ∀ σ H Q, tG (RV X.K) X.K X.mg T W (mCB op ms) σ H Q → tCB (rC X.K T op) (tG (RLs X.K) X.K X.mg T W ms) σ H Q :=
  fun σ H Q ⟨ι, ρ, μ, s, e, h⟩ => ⟨ι, ρ, μ, s, e, bindr h fun ds vs μ1 ι1 H1 _ E1 s1 r1 h1 => ⟨ι1, μ1, ds, s1, r1, h1.po⟩⟩
theorem re_callB (hc : CallR X (.builtin id) (rC X.K T op)) (hg : Gl X x) (hm : X.mg x = none) (hv : bootBuiltins x = some (.builtin id)) (ha : RA X T W (e :: es) ms) (hn : x ≠ "__name__" := by decide) (hdb : (x == ("__debug__" : Str)) = false := by decide)
    (hs : starEach (e :: es) X.env = (false, eval e X.env) :: starEach es X.env := by rfl) (hpl : (backTo pos (starEach es X.env)).any (·.1) = false := by rfl) : RE X T W (.Call (.Name x p) (e :: es) [] pos) (mCB op ms) :=
  PE.mono (pe_callB hc hg hm hv ha hn hdb hs hpl) callM
theorem re_callTy (hc : CallR X (.type id) (rC X.K T op)) (hg : Gl X x) (hm : X.mg x = none) (hv : bootBuiltins x = some (.type id)) (ha : RA X T W (e :: es) ms) (hn : x ≠ "__name__" := by decide) (hdb : (x == ("__debug__" : Str)) = false := by decide)
    (hs : starEach (e :: es) X.env = (false, eval e X.env) :: starEach es X.env := by rfl) (hpl : (backTo pos (starEach es X.env)).any (·.1) = false := by rfl) : RE X T W (.Call (.Name x p) (e :: es) [] pos) (mCB op ms) :=
  PE.mono (pe_callTy hc hg hm hv ha hn hdb hs hpl) callM

def lenM : OpC := fun μ ds => match ds with
  | [.str z] => if z.length ≤ sizeLine then some (.int z.length) else none
  | [.scr ns] => some (.int ns.length)
  | [d] => (seqOf μ d).map fun xs => .int xs.length
  | _ => none
def absM : OpC := fun _ ds => match ds with
  | [.int i] => some (.int (if i < 0 then -i else i))
  | _ => none
def intM : OpC := fun _ ds => match ds with
  | [.int i] => some (.int i)
  | [.bl b] => some (.int (if b then 1 else 0))
  | _ => none
def strM : OpC := fun _ ds => match ds with
  | [.int i] => if i.natAbs.log2 < 1920 then some (.str (toString i)) else none
  | _ => none
def intsOf : List MV → Option (List Int)
  | [] => some []
  | .int i :: r => (intsOf r).map (i :: ·)
  | _ :: _ => none
def blsOf : List MV → Option (List Bool)
  | [] => some []
  | .bl i :: r => (blsOf r).map (i :: ·)
  | _ :: _ => none
def sumM : OpC := fun μ ds => match ds with
  | [d] => (lstOf μ d).bind fun xs => (intsOf xs).map fun ns => .int ns.sum
  | _ => none
def anyM : OpC := fun μ ds => match ds with
  | [d] => (lstOf μ d).bind fun xs => (blsOf xs).map fun ns => .bl (ns.any _root_.id)
  | _ => none
def allM : OpC := fun μ ds => match ds with
  | [d] => (lstOf μ d).bind fun xs => (blsOf xs).map fun ns => .bl (ns.all _root_.id)
  | _ => none
def tupleM : OpC := fun μ ds => match ds with
  | [.tup xs] => some (.tup xs)
  | [d] => (lstOf μ d).map .tup
  | _ => none
def listM : OpC := fun μ ds => match ds with
  | [d] => (seqOf μ d).map .lst
  | _ => none
theorem RepL.one_inv {K : Frag} {H : Hp} {ι : Io} {d : MV} {xs : List V} (r : RepL K H ι [d] xs) : ∃ v, xs = [v] ∧ RepV K H ι d v := by
  rw [RepL.cons_iff] at r
  obtain ⟨v, r', rfl, r1, r2⟩ := r
  rw [RepL.nil_iff] at r2
  subst r2
  exact ⟨v, rfl, r1⟩
theorem RepL.two_inv {K : Frag} {H : Hp} {ι : Io} {d e : MV} {xs : List V} (r : RepL K H ι [d, e] xs) : ∃ v u, xs = [v, u] ∧ RepV K H ι d v ∧ RepV K H ι e u := by
  rw [RepL.cons_iff] at r
  obtain ⟨v, r', rfl, r1, r2⟩ := r
  obtain ⟨u, rfl, r3⟩ := r2.one_inv
  exact ⟨v, u, rfl, r1, r3⟩
theorem seq_inv {K : Frag} {H : Hp} {ι : Io} {μ : Mem} {d : MV} {v : V} {xs : List MV} (sr : SR K T ι μ H) (r : RepV K H ι d v) (h : seqOf μ d = some xs) : ∃ a vs, v = .ref a ∧ (SqL K H a vs ∨ SqT K H a vs) ∧ RepL K H ι xs vs := by
  unfold seqOf at h
  split at h
  · cases h
    obtain ⟨a, vs, e, t, l⟩ := r.tup_inv
    exact ⟨a, vs, e, .inr t, l⟩
  · obtain ⟨a, vs, e, t, l⟩ := sr.lst r h
    exact ⟨a, vs, e, .inl t, l⟩
theorem intsOf_rep {K : Frag} {H : Hp} {ι : Io} : ∀ {xs : List MV} {vs : List V} {ns : List Int}, RepL K H ι xs vs → intsOf xs = some ns → vs = ns.map V.int
  | [], vs, ns, r, h => by cases h; exact RepL.nil_iff.mp r
  | x :: xs, vs, ns, r, h => by
    rw [RepL.cons_iff] at r
    obtain ⟨v, r', rfl, r1, r2⟩ := r
    cases x with
    | int i =>
      obtain ⟨ms, h1, rfl⟩ := Option.map_eq_some_iff.mp (show (intsOf xs).map (i :: ·) = some ns from h)
      rw [r1.int_inv, intsOf_rep r2 h1]
      rfl
    | _ => cases h
theorem blsOf_rep {K : Frag} {H : Hp} {ι : Io} : ∀ {xs : List MV} {vs : List V} {ns : List Bool}, RepL K H ι xs vs → blsOf xs = some ns → vs = ns.map V.bl
  | [], vs, ns, r, h => by cases h; exact RepL.nil_iff.mp r
  | x :: xs, vs, ns, r, h => by
    rw [RepL.cons_iff] at r
    obtain ⟨v, r', rfl, r1, r2⟩ := r
    cases x with
    | bl i =>
      obtain ⟨ms, h1, rfl⟩ := Option.map_eq_some_iff.mp (show (blsOf xs).map (i :: ·) = some ns from h)
      rw [r1.bl_inv, blsOf_rep r2 h1]
      rfl
    | _ => cases h
theorem c_len : CallR X (.builtin "len") (rC X.K T lenM) := by
  intro pins s σ H xs us Q I rx ⟨ι, μ, ds, sr, r1, d, e, q⟩
  unfold lenM at e
  split at e
  · split at e
    · rename_i hz
      cases e
      obtain ⟨v, rfl, r⟩ := r1.one_inv
      exact call_len_str pins s σ H _ us Q I rx ⟨_, by rw [r.str_inv], hz, q _ H Ext.refl sr RepV.int⟩
    · cases e
  · cases e
    obtain ⟨v, rfl, r⟩ := r1.one_inv
    obtain ⟨a, rfl, t⟩ := r.scr_inv
    refine call_len_seq pins s σ H _ us Q I rx ⟨a, _, rfl, .inl t, ?_⟩
    rw [List.length_map]
    exact q _ H Ext.refl sr RepV.int
  · obtain ⟨xs', h1, rfl⟩ := Option.map_eq_some_iff.mp e
    obtain ⟨v, rfl, r⟩ := r1.one_inv
    obtain ⟨a, vs, rfl, t, l⟩ := seq_inv sr r h1
    refine call_len_seq pins s σ H _ us Q I rx ⟨a, vs, rfl, t, ?_⟩
    rw [← l.len]
    exact q _ H Ext.refl sr RepV.int
  · cases e
theorem c_abs : CallR X (.builtin "abs") (rC X.K T absM) := by
  intro pins s σ H xs us Q I rx ⟨ι, μ, ds, sr, r1, d, e, q⟩
  unfold absM at e
  split at e
  · cases e
    obtain ⟨v, rfl, r⟩ := r1.one_inv
    exact call_abs pins s σ H _ us Q I rx ⟨_, by rw [r.int_inv], q _ H Ext.refl sr RepV.int⟩
  · cases e
theorem c_int : CallR X (.type "int") (rC X.K T intM) := by
  intro pins s σ H xs us Q I rx ⟨ι, μ, ds, sr, r1, d, e, q⟩
  unfold intM at e
  split at e
  · cases e
    obtain ⟨v, rfl, r⟩ := r1.one_inv
    exact call_int1 pins s σ H _ us Q I rx (.inl ⟨_, by rw [r.int_inv], q _ H Ext.refl sr RepV.int⟩)
  · cases e
    obtain ⟨v, rfl, r⟩ := r1.one_inv
    exact call_int1 pins s σ H _ us Q I rx (.inr ⟨_, by rw [r.bl_inv], q _ H Ext.refl sr RepV.int⟩)
  · cases e
theorem c_str : CallR X (.type "str") (rC X.K T strM) := by
  intro pins s σ H xs us Q I rx ⟨ι, μ, ds, sr, r1, d, e, q⟩
  unfold strM at e
  split at e
  · split at e
    · rename_i hz
      cases e
      obtain ⟨v, rfl, r⟩ := r1.one_inv
      exact call_str_int pins s σ H _ us Q I rx ⟨_, by rw [r.int_inv], hz, q _ H Ext.refl sr RepV.str⟩
    · cases e
  · cases e
theorem c_sum (hc : X.calm = true) : CallR X (.builtin "sum") (rC X.K T sumM) := by
  intro pins s σ H xs us Q I rx ⟨ι, μ, ds, sr, r1, d, e, q⟩
  unfold sumM at e
  split at e
  · obtain ⟨ys, h1, e⟩ := Option.bind_eq_some_iff.mp e
    obtain ⟨ns, h2, rfl⟩ := Option.map_eq_some_iff.mp e
    obtain ⟨v, rfl, r⟩ := r1.one_inv
    obtain ⟨a, vs, rfl, t, l⟩ := sr.lst r h1
    rw [intsOf_rep l h2] at t
    exact cr_sum hc pins s σ H _ us Q I rx ⟨a, ns, rfl, t, q _ H Ext.refl sr RepV.int⟩
  · cases e
theorem c_any (hc : X.calm = true) : CallR X (.builtin "any") (rC X.K T anyM) := by
  intro pins s σ H xs us Q I rx ⟨ι, μ, ds, sr, r1, d, e, q⟩
  unfold anyM at e
  split at e
  · obtain ⟨ys, h1, e⟩ := Option.bind_eq_some_iff.mp e
    obtain ⟨ns, h2, rfl⟩ := Option.map_eq_some_iff.mp e
    obtain ⟨v, rfl, r⟩ := r1.one_inv
    obtain ⟨a, vs, rfl, t, l⟩ := sr.lst r h1
    rw [blsOf_rep l h2] at t
    exact cr_any hc pins s σ H _ us Q I rx ⟨a, ns, rfl, t, q _ H Ext.refl sr RepV.bl⟩
  · cases e
theorem c_all (hc : X.calm = true) : CallR X (.builtin "all") (rC X.K T allM) := by
  intro pins s σ H xs us Q I rx ⟨ι, μ, ds, sr, r1, d, e, q⟩
  unfold allM at e
  split at e
  · obtain ⟨ys, h1, e⟩ := Option.bind_eq_some_iff.mp e
    obtain ⟨ns, h2, rfl⟩ := Option.map_eq_some_iff.mp e
    obtain ⟨v, rfl, r⟩ := r1.one_inv
    obtain ⟨a, vs, rfl, t, l⟩ := sr.lst r h1
    rw [blsOf_rep l h2] at t
    exact cr_all hc pins s σ H _ us Q I rx ⟨a, ns, rfl, t, q _ H Ext.refl sr RepV.bl⟩
  · cases e
theorem c_tuple : CallR X (.type "tuple") (rC X.K T tupleM) := by
  intro pins s σ H xs us Q I rx ⟨ι, μ, ds, sr, r1, d, e, q⟩
  unfold tupleM at e
  split at e
  · cases e
    obtain ⟨v, rfl, r⟩ := r1.one_inv
    obtain ⟨a, vs, rfl, t, l⟩ := id r.tup_inv
    exact call_tuple_of pins s σ H _ us Q I rx ⟨a, vs, rfl, .inr ⟨t, q _ H Ext.refl sr r⟩⟩
  · obtain ⟨ys, h1, rfl⟩ := Option.map_eq_some_iff.mp e
    obtain ⟨v, rfl, r⟩ := r1.one_inv
    obtain ⟨a, vs, rfl, t, l⟩ := sr.lst r h1
    exact call_tuple_of pins s σ H _ us Q I rx ⟨a, vs, rfl, .inl ⟨t, fun p hp => q _ _ (Ext.laid hp) (sr.laid hp) (RepV.tup sr hp l)⟩⟩
  · cases e
theorem c_list : CallR X (.type "list") (rC X.K T listM) := by
  intro pins s σ H xs us Q I rx ⟨ι, μ, ds, sr, r1, d, e, q⟩
  unfold listM at e
  split at e
  · obtain ⟨ys, h1, rfl⟩ := Option.map_eq_some_iff.mp e
    obtain ⟨v, rfl, r⟩ := r1.one_inv
    obtain ⟨a, vs, rfl, t, l⟩ := seq_inv sr r h1
    exact call_list_of pins s σ H _ us Q I rx ⟨a, vs, rfl, t, fun p hp => q _ _ (Ext.laid hp) (sr.laid hp) (RepV.lst sr hp l)⟩
  · cases e
end

/-! ### repr -/
def reprM : OpC := fun μ ds => match ds with
  | [.int i] => if i.natAbs.log2 < 1920 then some (.str (toString i)) else none
  | [d] => match pd μ d with
    | some (.list p) => if (PyData.list p).showable = true ∧ (PyData.list p).hasDict = false ∧ (PyData.list p).depth ≤ 60 ∧ (PyData.list p).shown.length ≤ sizeLine then some (.str (PyData.list p).shown) else none
    | some (.tuple p) => if (PyData.tuple p).showable = true ∧ (PyData.tuple p).hasDict = false ∧ (PyData.tuple p).depth ≤ 60 ∧ (PyData.tuple p).shown.length ≤ sizeLine then some (.str (PyData.tuple p).shown) else none
    | _ => none
  | _ => none
theorem c_repr {X : Cx} {T : Tbs} (hu : X.A.units + 64 < cLine) (hg : X.A.guards = some []) : CallR X (.builtin "repr") (rC X.K T reprM) := by
  intro pins s σ H xs us Q I rx ⟨ι, μ, ds, sr, r1, d, e, q⟩
  have go : ∀ (d1 : MV) (p : PyData) (v : V) (u : Value), RepV X.K H ι d1 v → RelV v u → pd μ d1 = some p → (∃ a, u = .ref a) → p.showable = true → p.hasDict = false → p.depth ≤ 60 → p.shown.length ≤ sizeLine → (Q (.str p.shown) H) →
      wpAny (model X.prog X.w) X.A (call (.builtin "repr") [u]) (EP X pins σ Q) X.xe s := by
    intro d1 p v u r ru hp ⟨a, ea⟩ h1 h2 h3 h4 hq
    subst ea
    obtain ⟨as, rd⟩ := Dp.reads I p v _ (pd_dp sr d1 v p r hp) ru
    refine repr_of_reads' rd h1 (fun z => by rw [h2] at z; cases z) hg (by omega) (fun b o h => h) (fun h' u' tk hk => ?_) h4
    exact ⟨.str p.shown, H, I.kept hk, ⟨_, rfl⟩, hq⟩
  unfold reprM at e
  split at e
  · split at e
    · rename_i hz
      cases e
      obtain ⟨v, rfl, r⟩ := r1.one_inv
      rw [r.int_inv] at rx
      obtain ⟨u, rfl, t, rfl⟩ := vals1 rx
      exact PySem.P.repr_of_int hz ⟨.str _, H, I.tok _, ⟨_, rfl⟩, q _ H Ext.refl sr RepV.str⟩
    · cases e
  · obtain ⟨v, rfl, r⟩ := r1.one_inv
    obtain ⟨u, rfl, ru⟩ := vals1 rx
    split at e
    · rename_i p hp
      split at e
      · rename_i hh
        cases e
        have hd := pd_dp sr _ v _ r hp
        have hr : ∃ a, u = Value.ref a := by
          cases hd with
          | lst h1 h2 => exact ⟨_, ru⟩
        exact go _ _ v u r ru hp hr hh.1 hh.2.1 hh.2.2.1 hh.2.2.2 (q _ H Ext.refl sr RepV.str)
      · cases e
    · rename_i p hp
      split at e
      · rename_i hh
        cases e
        have hd := pd_dp sr _ v _ r hp
        have hr : ∃ a, u = Value.ref a := by
          cases hd with
          | tup h1 h2 => exact ⟨_, ru⟩
        exact go _ _ v u r ru hp hr hh.1 hh.2.1 hh.2.2.1 hh.2.2.2 (q _ H Ext.refl sr RepV.str)
      · cases e
    · cases e
  · cases e
end MM

set_option Elab.async false
set_option linter.all false
set_option maxRecDepth 100000
set_option maxHeartbeats 4000000
/-! ## MM: statements, loops -/
namespace MM
open PySem PySem.Spec PyProof.Rows L2

inductive SOut where
  | nx (ρ : Env) (μ : Mem) | rt (d : MV) (μ : Mem) | bk (ρ : Env) (μ : Mem) | ct (ρ : Env) (μ : Mem) | exc (x : Exc) (μ : Mem) | bad
abbrev SM := Env → Mem → SOut
def SPost (K : Frag) (mg : Gm) (T : Tbs) (W : WX) (ι : Io) (H : Hp) (D : Ends) : SOut → Prop
  | .nx ρ' μ' => ∀ σ' ι' H', Ext ι H ι' H' → SR K T ι' μ' H' → EnvR K H' ι' ρ' σ' → D.nx σ' H'
  | .rt d μ' => ∀ v ι' H', Ext ι H ι' H' → SR K T ι' μ' H' → RepV K H' ι' d v → D.rt v H'
  | .bk ρ' μ' => ∀ σ' ι' H', Ext ι H ι' H' → SR K T ι' μ' H' → EnvR K H' ι' ρ' σ' → D.bk σ' H'
  | .ct ρ' μ' => ∀ σ' ι' H', Ext ι H ι' H' → SR K T ι' μ' H' → EnvR K H' ι' ρ' σ' → D.ct σ' H'
  | .exc x μ' => ∀ cls dd σ' ι' H', Ext ι H ι' H' → SR K T ι' μ' H' → ExcRep mg x cls dd → W cls dd σ' H'
  | .bad => False
def tS (K : Frag) (mg : Gm) (T : Tbs) (W : WX) (b : SM) : TS := fun D σ H => ∃ ι ρ μ, SR K T ι μ H ∧ EnvR K H ι ρ σ ∧ SPost K mg T W ι H D (b ρ μ)
abbrev RS (X : Cx) (T : Tbs) (W : WX) (st : Stmt) (b : SM) : Prop := PS X st (tS X.K X.mg T W b)
abbrev RSs (X : Cx) (T : Tbs) (W : WX) (st : List Stmt) (b : SM) : Prop := PSs X st (tS X.K X.mg T W b)
theorem PS.mono {X : Cx} {e : Stmt} {t t' : TS} (h : PS X e t) (k : ∀ D σ H, t' D σ H → t D σ H) : PS X e t' := ⟨fun pins s σ H Q I q => h.run pins s σ H Q I (k Q σ H q)⟩
theorem PSs.mono {X : Cx} {e : List Stmt} {t t' : TS} (h : PSs X e t) (k : ∀ D σ H, t' D σ H → t D σ H) : PSs X e t' := ⟨fun pins s σ H Q I q => h.run pins s σ H Q I (k Q σ H q)⟩
theorem PG.mono {X : Cx} {e : Expr} {t t' : TG} (h : PG X e t) (k : ∀ v σ H Q, t' v σ H Q → t v σ H Q) : PG X e t' := ⟨fun pins s σ H v u Q I r q => h.run pins s σ H v u Q I r (k v σ H Q q)⟩
theorem PGs.mono {X : Cx} {e : List Expr} {t t' : TGs} (h : PGs X e t) (k : ∀ v σ H Q, t' v σ H Q → t v σ H Q) : PGs X e t' := ⟨fun pins s σ H v u Q I r q => h.run pins s σ H v u Q I r (k v σ H Q q)⟩
section
variable {K : Frag} {mg : Gm} {T : Tbs} {W : WX} {ι ι' : Io} {H H' : Hp} {D D' : Ends}
theorem SPost.ext {o : SOut} (h : SPost K mg T W ι H D o) (e : Ext ι H ι' H') : SPost K mg T W ι' H' D o := by
  cases o with
  | nx ρ μ => exact fun σ1 ι1 H1 e1 s r => h σ1 ι1 H1 (e.trans e1) s r
  | rt d μ => exact fun v ι1 H1 e1 s r => h v ι1 H1 (e.trans e1) s r
  | bk ρ μ => exact fun σ1 ι1 H1 e1 s r => h σ1 ι1 H1 (e.trans e1) s r
  | ct ρ μ => exact fun σ1 ι1 H1 e1 s r => h σ1 ι1 H1 (e.trans e1) s r
  | exc x μ => exact fun cls dd σ1 ι1 H1 e1 s r => h cls dd σ1 ι1 H1 (e.trans e1) s r
  | bad => exact h
end
def sSeq (a b : SM) : SM := fun ρ μ => match a ρ μ with
  | .nx ρ' μ' => b ρ' μ'
  | o => o
def sPass : SM := fun ρ μ => .nx ρ μ
/-- an expression, and what follows -/
def sE {α : Type} (m : Ev α) (f : α → SM) : SM := fun ρ μ => match m ρ μ with
  | .ok a μ' => f a ρ μ'
  | .exc x μ' => .exc x μ'
  | .bad => .bad
def sDrop (m : Ev MV) : SM := sE m fun _ => sPass
def sRet (m : Ev MV) : SM := sE m fun d => fun _ μ => .rt d μ
def sRetN : SM := fun _ μ => .rt .non μ
def sIf (c : Ev Bool) (a b : SM) : SM := sE c fun k => if k = true then a else b
abbrev TgM := MV → Env → Mem → Option (Env × Mem)
def sAsg (m : Ev MV) (g : TgM) : SM := sE m fun d => fun ρ μ => match g d ρ μ with
  | some (ρ', μ') => .nx ρ' μ'
  | none => .bad
/-- but for the slots vs the same -/
def ButAt (vs : List Nat) (σ σ' : L2.St) : Prop := σ'.length = σ.length ∧ ∀ i, i ∉ vs → σ'[i]? = σ[i]?
def tGt (K : Frag) (T : Tbs) (vs : List Nat) (g : TgM) : TG := fun v σ H Q => ∃ ι ρ μ d, SR K T ι μ H ∧ EnvR K H ι ρ σ ∧ RepV K H ι d v ∧ ∃ ρ' μ', g d ρ μ = some (ρ', μ') ∧ ∀ σ' ι' H', Ext ι H ι' H' → SR K T ι' μ' H' → EnvR K H' ι' ρ' σ' → ButAt vs σ σ' → Q σ' H'
abbrev RG (X : Cx) (T : Tbs) (vs : List Nat) (tg : Expr) (g : TgM) : Prop := PG X tg (tGt X.K T vs g)
section
variable {X : Cx} {T : Tbs} {W : WX} {pos : Pos} {st : Stmt} {sts : List Stmt} {a b : SM} {e : Expr} {me : Ev MV} {mc : Ev Bool} {g : TgM} {tg : Expr}
theorem bindS {α β : Type} {R : Rel α β} {K : Frag} {mg : Gm} {ι : Io} {ρ : Env} {μ : Mem} {H : Hp} {σ : L2.St} {D : Ends} {Q1 : β → Hp → Prop} {m : Ev α} {f : α → SM}
    (h : SPost K mg T W ι H D (sE m f ρ μ))
    (k : ∀ d v μ1 ι1 H1, m ρ μ = .ok d μ1 → Ext ι H ι1 H1 → SR K T ι1 μ1 H1 → R H1 ι1 d v → SPost K mg T W ι1 H1 D (f d ρ μ1) → Q1 v H1) : Post R K mg T W σ ι H Q1 (m ρ μ) := by
  unfold sE at h
  cases hm : m ρ μ with
  | ok d μ1 =>
    rw [hm] at h
    exact fun v ι1 H1 e s r => k d v μ1 ι1 H1 hm e s r (SPost.ext h e)
  | exc x μ1 => rw [hm] at h; exact fun cls dd ι1 H1 e s r => h cls dd σ ι1 H1 e s r
  | bad => rw [hm] at h; exact h
theorem ss_nil : RSs X T W [] sPass := PSs.mono pss_nil fun D σ H ⟨ι, ρ, μ, s, e, h⟩ => h σ ι H Ext.refl s e
theorem ss_cons (h1 : RS X T W st a) (h2 : RSs X T W sts b) : RSs X T W (st :: sts) (sSeq a b) :=
  PSs.mono (pss_cons h1 h2) fun D σ H ⟨ι, ρ, μ, s, e, h⟩ => ⟨ι, ρ, μ, s, e, by
    unfold sSeq at h
    cases ha : a ρ μ with
    | nx ρ' μ' => rw [ha] at h; exact fun σ1 ι1 H1 e1 s1 r1 => ⟨ι1, ρ', μ', s1, r1, SPost.ext h e1⟩
    | rt d μ' => rw [ha] at h; exact h
    | bk ρ' μ' => rw [ha] at h; exact h
    | ct ρ' μ' => rw [ha] at h; exact h
    | exc x μ' => rw [ha] at h; exact h
    | bad => rw [ha] at h; exact h⟩
theorem ss_one (h1 : RS X T W st a) : RSs X T W [st] a := pss_one h1
theorem s_pass : RS X T W (.Pass pos) sPass := PS.mono ps_pass fun D σ H ⟨ι, ρ, μ, s, e, h⟩ => h σ ι H Ext.refl s e
theorem s_break : RS X T W (.Break pos) (fun ρ μ => .bk ρ μ) := PS.mono ps_break fun D σ H ⟨ι, ρ, μ, s, e, h⟩ => h σ ι H Ext.refl s e
theorem s_cont : RS X T W (.Continue pos) (fun ρ μ => .ct ρ μ) := PS.mono ps_continue fun D σ H ⟨ι, ρ, μ, s, e, h⟩ => h σ ι H Ext.refl s e
theorem s_expr (h : RE X T W e me) (hs : swapsWith e none pos.line X.env = pure false := by rfl) : RS X T W (.Expr e pos) (sDrop me) :=
  PS.mono (ps_expr h hs) fun D σ H ⟨ι, ρ, μ, s, e, h⟩ => ⟨ι, ρ, μ, s, e, bindS h fun d v μ1 ι1 H1 _ E1 s1 r1 h1 => h1 σ ι1 H1 Ext.refl s1 (e.ext E1)⟩
theorem s_ret (h : RE X T W e me) : RS X T W (.Return (some e) pos) (sRet me) :=
  PS.mono (ps_ret h) fun D σ H ⟨ι, ρ, μ, s, e, h⟩ => ⟨ι, ρ, μ, s, e, bindS h fun d v μ1 ι1 H1 _ E1 s1 r1 h1 => h1 v ι1 H1 Ext.refl s1 r1⟩
theorem s_retN : RS X T W (.Return none pos) sRetN := PS.mono ps_retN fun D σ H ⟨ι, ρ, μ, s, e, h⟩ => h .non ι H Ext.refl s RepV.non
theorem s_if {c : Expr} {p q : List Stmt} (hc : RT X T W c mc) (ha : RSs X T W p a) (hb : RSs X T W q b) : RS X T W (.If c p q pos) (sIf mc a b) :=
  PS.mono (ps_if hc ha hb) fun D σ H ⟨ι, ρ, μ, s, e, h⟩ => ⟨ι, ρ, μ, s, e, bindS h fun d v μ1 ι1 H1 _ E1 s1 r1 h1 => by
    cases r1
    cases d with
    | true => exact ⟨ι1, ρ, μ1, s1, e.ext E1, h1⟩
    | false => exact ⟨ι1, ρ, μ1, s1, e.ext E1, h1⟩⟩
/-! ### targets -/
def gN (i : Nat) : TgM := fun d ρ μ => some (ρ.set i (some d), μ)
theorem EnvR.set {K : Frag} {H : Hp} {ι : Io} {ρ : Env} {σ : L2.St} {i : Nat} {d : MV} {v : V} (e : EnvR K H ι ρ σ) (r : RepV K H ι d v) : EnvR K H ι (ρ.set i (some d)) (σ.set i (some v)) := by
  refine ⟨by simp [e.1], fun j d' h => ?_⟩
  by_cases hj : i = j
  · subst hj
    by_cases hl : i < ρ.length
    · rw [List.getElem?_set_self hl] at h
      cases h
      exact ⟨v, by rw [List.getElem?_set_self (by rw [← e.1]; exact hl)], r⟩
    · rw [List.getElem?_eq_none (by simp; omega)] at h
      cases h
  · rw [List.getElem?_set_ne hj] at h
    obtain ⟨w, h1, h2⟩ := e.2 j d' h
    exact ⟨w, by rw [List.getElem?_set_ne hj]; exact h1, h2⟩
theorem g_name {i : Nat} {x : Str} (hN : X.N.Nodup) (hi : X.N[i]? = some x) (hx : Loc X.env.scope x) (hf : X.fn x = true ∨ X.env.scope.names.lookup x = some .local) : RG X T [i] (.Name x pos) (gN i) :=
  PG.mono (pg_name hN hi hx hf) fun v σ H Q ⟨ι, ρ, μ, d, s, e, r, ρ', μ', hg, h⟩ => by
    cases hg
    exact h _ ι H Ext.refl s (e.set r) ⟨by simp, fun j hj => List.getElem?_set_ne (fun z => hj (by simp [z]))⟩
def gTs : List TgM → List MV → Env → Mem → Option (Env × Mem)
  | [], [], ρ, μ => some (ρ, μ)
  | g :: gs, d :: ds, ρ, μ => match g d ρ μ with
    | some (ρ', μ') => gTs gs ds ρ' μ'
    | none => none
  | _, _, _, _ => none
def tGts (K : Frag) (T : Tbs) (ws : List Nat) (gs : List TgM) : TGs := fun vs σ H Q => ∃ ι ρ μ ds, SR K T ι μ H ∧ EnvR K H ι ρ σ ∧ RepL K H ι ds vs ∧ ∃ ρ' μ', gTs gs ds ρ μ = some (ρ', μ') ∧ ∀ σ' ι' H', Ext ι H ι' H' → SR K T ι' μ' H' → EnvR K H' ι' ρ' σ' → ButAt ws σ σ' → Q σ' H'
abbrev RGs (X : Cx) (T : Tbs) (ws : List Nat) (ts : List Expr) (gs : List TgM) : Prop := PGs X ts (tGts X.K T ws gs)
theorem ButAt.refl {vs : List Nat} {σ : L2.St} : ButAt vs σ σ := ⟨rfl, fun _ _ => rfl⟩
theorem ButAt.app {vs ws : List Nat} {σ σ1 σ2 : L2.St} (a : ButAt vs σ σ1) (b : ButAt ws σ1 σ2) : ButAt (vs ++ ws) σ σ2 := ⟨b.1.trans a.1, fun i h => (b.2 i (fun z => h (List.mem_append_right _ z))).trans (a.2 i (fun z => h (List.mem_append_left _ z)))⟩
theorem gs_nil : RGs X T [] [] [] := PGs.mono pgs_nil fun vs σ H Q ⟨ι, ρ, μ, ds, s, e, r, ρ', μ', hg, h⟩ => by
  cases ds with
  | nil => cases hg; exact ⟨RepL.nil_iff.mp r, h _ ι H Ext.refl s e .refl⟩
  | cons d ds => cases hg
theorem gs_cons {t : Expr} {ts : List Expr} {vs ws : List Nat} {g : TgM} {gs : List TgM} (h1 : RG X T vs t g) (h2 : RGs X T ws ts gs) (hs : (assignEach (t :: ts) X.env).map (·.2) = assign t X.env :: (assignEach ts X.env).map (·.2) := by rfl) : RGs X T (vs ++ ws) (t :: ts) (g :: gs) :=
  PGs.mono (pgs_cons h1 h2 hs) fun vs σ H Q ⟨ι, ρ, μ, ds, s, e, r, ρ', μ', hg, h⟩ => by
    cases ds with
    | nil => cases hg
    | cons d ds =>
      rw [RepL.cons_iff] at r
      obtain ⟨v, rr, rfl, r1, r2⟩ := r
      have hg : (match g d ρ μ with
        | some (ρ', μ') => gTs gs ds ρ' μ'
        | none => none) = some (ρ', μ') := hg
      split at hg
      · rename_i ρ1 μ1 h3
        exact ⟨v, rr, rfl, ι, ρ, μ, d, s, e, r1, ρ1, μ1, h3, fun σ1 ι1 H1 E1 s1 e1 b1 => ⟨ι1, ρ1, μ1, ds, s1, e1, RepL.ext E1 _ _ r2, ρ', μ', hg, fun σ2 ι2 H2 E2 s2 e2 b2 => h σ2 ι2 H2 (E1.trans E2) s2 e2 (b1.app b2)⟩⟩
      · cases hg
def gT (gs : List TgM) : TgM := fun d ρ μ => match d with
  | .tup ds => if ds.length = gs.length then gTs gs ds ρ μ else none
  | _ => none
theorem g_tup {ts : List Expr} {k n : Nat} {ws : List Nat} {gs : List TgM} (hc : X.calm = true) (h : RGs X T ws ts gs) (hl : gs.length = n) (hn : (assignEach ts X.env).length = n := by rfl) (hst : (assignEach ts X.env).findIdx? (·.1) = none := by rfl) : RG X T ws (.Tuple ts k pos) (gT gs) :=
  PG.mono (pg_tup hc h hn hst) fun v σ H Q ⟨ι, ρ, μ, d, s, e, r, ρ', μ', hg, h⟩ => by
    unfold gT at hg
    split at hg
    · split at hg
      · rename_i ds hd
        obtain ⟨a, vs, rfl, t, l⟩ := r.tup_inv
        exact ⟨a, vs, rfl, t, by rw [← l.len, hd, hl], ι, ρ, μ, _, s, e, l, ρ', μ', hg, h⟩
      · cases hg
    · cases hg
theorem asgM {K : Frag} {mg : Gm} {vs : List Nat} : ∀ D σ H, tS K mg T W (sAsg me g) D σ H → tAsg (tG (RV K) K mg T W me) (tGt K T vs g) D σ H :=
  fun D σ H ⟨ι, ρ, μ, s, e, h⟩ => ⟨ι, ρ, μ, s, e, bindS h fun d v μ1 ι1 H1 _ E1 s1 r1 h1 => by
    have h1 : SPost K mg T W ι1 H1 D (match g d ρ μ1 with
      | some (ρ', μ') => .nx ρ' μ'
      | none => .bad) := h1
    split at h1
    · rename_i ρ' μ' hg
      exact ⟨ι1, ρ, μ1, d, s1, e.ext E1, r1, ρ', μ', hg, fun σ' ι' H' E' s' e' _ => h1 σ' ι' H' E' s' e'⟩
    · exact h1.elim⟩
theorem s_asg {vs : List Nat} (he : RE X T W e me) (hg : RG X T vs tg g) (hs : swapsWithSole [tg] e pos.line X.env = pure false := by rfl) (hw : swappedStores [tg] e X.env = pure none := by rfl)
    (h1 : (assignEach [tg] X.env).map (·.2) = [assign tg X.env] := by rfl) : RS X T W (.Assign [tg] e pos) (sAsg me g) := PS.mono (ps_asg he hg hs hw h1) asgM
theorem nameM {K : Frag} {mg : Gm} {i : Nat} : ∀ D σ H, tS K mg T W (sAsg me (gN i)) D σ H → tAsg (tG (RV K) K mg T W me) (gName i) D σ H :=
  fun D σ H ⟨ι, ρ, μ, s, e, h⟩ => ⟨ι, ρ, μ, s, e, bindS h fun d v μ1 ι1 H1 _ E1 s1 r1 h1 => h1 _ ι1 H1 Ext.refl s1 ((e.ext E1).set r1)⟩
theorem s_set {i : Nat} {x : Str} {pos' : Pos} (hN : X.N.Nodup) (hi : X.N[i]? = some x) (hx : Loc X.env.scope x) (he : RE X T W e me) (hf : X.fn x = true ∨ X.env.scope.names.lookup x = some .local)
    (hs : swapsWith e (some (.Name x pos')) pos.line X.env = pure false := by rfl) : RS X T W (.Assign [.Name x pos'] e pos) (sAsg me (gN i)) := PS.mono (ps_set hN hi hx he hs hf) nameM
/-- a, b = x, y -/
def sPar (i j : Nat) (ms : Ev (List MV)) : SM := sE ms fun ds => fun ρ μ => match ds with
  | [x, y] => .nx ((ρ.set i (some x)).set j (some y)) μ
  | _ => .bad
theorem s_par {i j : Nat} {x y : Str} {p q : Expr} {ms : Ev (List MV)} {px py pt : Pos} {kt k2 pt2} (hc : X.calm = true) (hN : X.N.Nodup) (hi : X.N[i]? = some x) (hj : X.N[j]? = some y) (hij : i ≠ j)
    (hx : X.env.scope.names.lookup x = some .local) (hy : X.env.scope.names.lookup y = some .local) (ha : RA X T W [p, q] ms)
    (hw : swappedStores [.Tuple [.Name x px, .Name y py] kt pt] (.Tuple [p, q] k2 pt2) X.env = pure (some [x, y]))
    (hs : swapsWithSole [.Tuple [.Name x px, .Name y py] kt pt] (.Tuple [p, q] k2 pt2) pos.line X.env = pure false := by rfl) :
    RS X T W (.Assign [.Tuple [.Name x px, .Name y py] kt pt] (.Tuple [p, q] k2 pt2) pos) (sPar i j ms) :=
  PS.mono (ps_par hc hN hi hj hij hx hy ha hw hs) fun D σ H ⟨ι, ρ, μ, s, e, h⟩ => ⟨ι, ρ, μ, s, e, bindS h fun ds vs μ1 ι1 H1 _ E1 s1 r1 h1 => by
    match ds, r1, h1 with
    | [x, y], r1, h1 =>
      obtain ⟨v, u, e2, r2, r3⟩ := RepL.two_inv r1
      exact ⟨v, u, e2, h1 _ ι1 H1 Ext.refl s1 (((e.ext E1).set r2).set r3)⟩
    | [], _, h1 => exact h1.elim
    | [_], _, h1 => exact h1.elim
    | _ :: _ :: _ :: _, _, h1 => exact h1.elim⟩
end

/-! ### what is walked -/
structure Itm where
  items : List MV
  chk : List (Nat × List MV)
def Itm.ok (t : Itm) (μ : Mem) : Prop := ∀ p ∈ t.chk, celOf μ p.1 = some p.2
def ItR (K : Frag) (T : Tbs) (J : It) (t : Itm) (ι0 : Io) (H0 : Hp) : Prop := ∀ ι μ H, ExtW ι0 H0 ι H → SR K T ι μ H → t.ok μ →
  (∀ (i : Nat) (d : MV), t.items[i]? = some d → J.go i H ∧ ∀ x H', J.yld i H x H' → Ext ι H ι H' ∧ SR K T ι μ H' ∧ RepV K H' ι d x) ∧ J.stop t.items.length H
theorem ItR.ext {K : Frag} {T : Tbs} {J : It} {t : Itm} {ι0 ι1 : Io} {H0 H1 : Hp} (h : ItR K T J t ι0 H0) (e : ExtW ι0 H0 ι1 H1) : ItR K T J t ι1 H1 := fun ι μ H e1 s c => h ι μ H (e.trans e1) s c
abbrev RJ (K : Frag) (T : Tbs) : Rel Itm It := fun H ι t J => ItR K T J t ι H
abbrev RI (X : Cx) (T : Tbs) (W : WX) (tg iter : Expr) (m : Ev Itm) : Prop := PI X tg iter (tG (RJ X.K T) X.K X.mg T W m)
theorem PI.mono {X : Cx} {tg e : Expr} {t t' : TI} (h : PI X tg e t) (k : ∀ σ H Q, t' σ H Q → t σ H Q) : PI X tg e t' := ⟨fun pins s σ H Q I q => h.run pins s σ H Q I (k σ H Q q)⟩
theorem PI.or {X : Cx} {tg e : Expr} {t t' : TI} (h : PI X tg e t) (h' : PI X tg e t') : PI X tg e (fun σ H R => t σ H R ∨ t' σ H R) := ⟨fun pins s σ H Q I q => q.elim (h.run pins s σ H Q I) (h'.run pins s σ H Q I)⟩
def itmOf (μ : Mem) : MV → Option Itm
  | .tup xs => some ⟨xs, []⟩
  | .lst xs => some ⟨xs, []⟩
  | .ref i => (celOf μ i).map fun xs => ⟨xs, [(i, xs)]⟩
  | _ => none
/-- where a cell's list stands, as long as it stays -/
theorem itl_ref {K : Frag} {T : Tbs} {ι0 : Io} {μ0 : Mem} {H0 : Hp} {i : Nat} {v : V} {xs : List MV} (s0 : SR K T ι0 μ0 H0) (r : RepV K H0 ι0 (.ref i) v) (h : celOf μ0 i = some xs) :
    ∃ a, v = .ref a ∧ (∃ vs, SqL K H0 a vs) ∧ ∀ ι μ H, ExtW ι0 H0 ι H → SR K T ι μ H → celOf μ i = some xs → ∃ vs, SqL K H a vs ∧ RepL K H ι xs vs := by
  obtain ⟨a, vs, e, hi, ha, l⟩ := s0.cel r (celOf_some h)
  refine ⟨a, e, ⟨vs, SqL.of ha⟩, fun ι μ H e1 s1 ok => ?_⟩
  obtain ⟨o, h1, b, ws, eb, h2, h3⟩ := s1.cell i _ (celOf_some ok)
  subst eb
  have hl : i < ι0.cs.length := (List.getElem?_eq_some_iff.mp hi).1
  rcases e1.sub i hl with z | z
  · rw [h1, hi] at z; cases z
    exact ⟨ws, SqL.of h2, h3⟩
  · rw [h1] at z; cases z
def mItm (m : Ev MV) : Ev Itm := mB m fun d => fun ρ μ => oO (itmOf μ d) ρ μ
section
variable {X : Cx} {T : Tbs} {W : WX} {pos p : Pos} {tg e : Expr} {me : Ev MV}
/-- a list is walked, a tuple is walked -/
theorem ri_seq (he : RE X T W e me) : RI X T W tg e (mItm me) :=
  PI.mono (PI.or (pi_list he) (pi_tup he)) fun σ H R ⟨ι, ρ, μ, s, en, h⟩ => by
    have key : ∀ d μ1, me ρ μ = .ok d μ1 → (∃ xs, d = .tup xs) ∨ ¬ ∃ xs, d = .tup xs := fun d _ _ => Classical.em _
    cases hm : me ρ μ with
    | bad => unfold mItm mB at h; rw [hm] at h; exact h.elim
    | exc x μ1 =>
      refine .inl ⟨ι, ρ, μ, s, en, ?_⟩
      unfold mItm mB at h; rw [hm] at h ⊢; exact h
    | ok d μ1 =>
      unfold mItm mB at h
      rw [hm] at h
      have h : Post (RJ X.K T) X.K X.mg T W σ ι H R (oO (itmOf μ1 d) ρ μ1) := h
      cases ht : itmOf μ1 d with
      | none => rw [ht] at h; exact h.elim
      | some t =>
        rw [ht] at h
        have fin : ∀ v ι1 H1, Ext ι H ι1 H1 → SR X.K T ι1 μ1 H1 → RepV X.K H1 ι1 d v → ∃ a, v = .ref a ∧ (((∃ vs, SqL X.K H1 a vs) ∧ (¬ ∃ xs, d = .tup xs) ∧ R (Itl X.K a) H1) ∨ ((∃ vs, SqT X.K H1 a vs) ∧ (∃ xs, d = .tup xs) ∧ R (Itt X.K a) H1)) := fun v ι1 H1 E1 s1 r1 => by
          by_cases hd : ∃ xs, d = .tup xs
          · obtain ⟨xs, rfl⟩ := hd
            cases ht
            unfold RepV at r1
            obtain ⟨a, vs, e1, f, l⟩ := r1
            refine ⟨a, e1, .inr ⟨⟨vs, f.sq⟩, ⟨xs, rfl⟩, h _ ι1 H1 E1 s1 fun ι2 μ2 H2 E2 s2 _ => ?_⟩⟩
            have t2 := (f.ext E2).sq
            have l2 := RepL.ext E2 _ _ l
            refine ⟨fun i d hi => ?_, vs, t2, by rw [l2.len]; exact Nat.le_refl _⟩
            obtain ⟨w, h3, h4⟩ := l2.get hi
            exact ⟨⟨vs, w, t2, h3⟩, fun x H' ⟨e2, hx⟩ => by
              subst e2
              have := hx vs t2
              rw [h3] at this; cases this
              exact ⟨Ext.refl, s2, h4⟩⟩
          · have hnt : ∀ xs, d ≠ .tup xs := fun xs z => hd ⟨xs, z⟩
            cases d with
            | tup xs => exact absurd rfl (hnt xs)
            | lst xs =>
              cases ht
              unfold RepV at r1
              obtain ⟨a, vs, e1, f, l⟩ := r1
              refine ⟨a, e1, .inl ⟨⟨vs, .inl f.1⟩, hd, h _ ι1 H1 E1 s1 fun ι2 μ2 H2 E2 s2 _ => ?_⟩⟩
              have t2 : SqL X.K H2 a vs := .inl (f.ext E2).1
              have l2 := RepL.ext E2 _ _ l
              refine ⟨fun i d hi => ?_, vs, t2, by rw [l2.len]; exact Nat.le_refl _⟩
              obtain ⟨w, h3, h4⟩ := l2.get hi
              exact ⟨⟨vs, w, t2, h3⟩, fun x H' ⟨e2, hx⟩ => by
                subst e2
                have := hx vs t2
                rw [h3] at this; cases this
                exact ⟨Ext.refl, s2, h4⟩⟩
            | ref j =>
              obtain ⟨xs, hc, rfl⟩ := Option.map_eq_some_iff.mp ht
              obtain ⟨a, e1, q1, st⟩ := itl_ref s1 r1 hc
              refine ⟨a, e1, .inl ⟨q1, hd, h _ ι1 H1 E1 s1 fun ι2 μ2 H2 E2 s2 ok => ?_⟩⟩
              obtain ⟨ws, t2, l2⟩ := st ι2 μ2 H2 E2 s2 (ok (j, xs) (by simp))
              refine ⟨fun i d hi => ?_, ws, t2, by rw [l2.len]; exact Nat.le_refl _⟩
              obtain ⟨w, h3, h4⟩ := l2.get hi
              exact ⟨⟨ws, w, t2, h3⟩, fun x H' ⟨e2, hx⟩ => by
                subst e2
                have := hx ws t2
                rw [h3] at this; cases this
                exact ⟨Ext.refl, s2, h4⟩⟩
            | _ => cases ht
        by_cases hd : ∃ xs, d = .tup xs
        · refine .inr ⟨ι, ρ, μ, s, en, ?_⟩
          rw [hm]
          intro v ι1 H1 E1 s1 r1
          obtain ⟨a, e1, z | ⟨z1, _, z2⟩⟩ := fin v ι1 H1 E1 s1 r1
          · exact absurd hd z.2.1
          · exact ⟨a, e1, z1, z2⟩
        · refine .inl ⟨ι, ρ, μ, s, en, ?_⟩
          rw [hm]
          intro v ι1 H1 E1 s1 r1
          obtain ⟨a, e1, ⟨z1, _, z2⟩ | z⟩ := fin v ι1 H1 E1 s1 r1
          · exact ⟨a, e1, z1, z2⟩
          · exact absurd z.2.1 hd
end
end MM

set_option Elab.async false
set_option linter.all false
set_option maxRecDepth 100000
set_option maxHeartbeats 4000000
/-! ## MM: loops, comprehensions -/
namespace MM
open PySem PySem.Spec PyProof.Rows L2
open Classical in
noncomputable def guardO {α : Type} (p : Prop) (o : α) (b : α) : α := if p then o else b

/-! ### for -/
open Classical in
noncomputable def forL (t : Itm) (g : TgM) (b : SM) : List MV → SM
  | [], ρ, μ => if t.ok μ then .nx ρ μ else .bad
  | x :: xs, ρ, μ => if t.ok μ then (match g x ρ μ with
    | some (ρ1, μ1) => (match b ρ1 μ1 with
      | .nx ρ2 μ2 => forL t g b xs ρ2 μ2
      | .ct ρ2 μ2 => forL t g b xs ρ2 μ2
      | .bk ρ2 μ2 => .nx ρ2 μ2
      | .rt d μ2 => .rt d μ2
      | .exc x μ2 => .exc x μ2
      | .bad => .bad)
    | none => .bad) else .bad
noncomputable def sFor (m : Ev Itm) (g : TgM) (b : SM) : SM := sE m fun t => forL t g b t.items
theorem drop_get {α : Type} {xs : List α} {i : Nat} {x : α} {r : List α} (h : xs.drop i = x :: r) : xs[i]? = some x ∧ xs.drop (i + 1) = r ∧ i < xs.length := by
  have hl : i < xs.length := by
    rcases Nat.lt_or_ge i xs.length with q | q
    · exact q
    · rw [List.drop_eq_nil_of_le q] at h; cases h
  rw [List.drop_eq_getElem_cons hl] at h
  injection h with h1 h2
  exact ⟨by rw [← h1]; simp [hl], h2, hl⟩
theorem drop_none {α : Type} {xs : List α} {i : Nat} (hi : i ≤ xs.length) (h : xs.drop i = []) : i = xs.length := by
  have := List.drop_eq_nil_iff.mp h
  omega
section
variable {X : Cx} {T : Tbs} {W : WX} {pos : Pos} {tg iter : Expr} {body : List Stmt} {m : Ev Itm} {g : TgM} {b : SM} {vs : List Nat}
theorem s_for (hp : PassesOwn (model X.prog X.w) X.A X.env X.xe) (hc : X.calm = true) (hi : RI X T W tg iter m) (hg : RG X T vs tg g) (hb : RSs X T W body b) (hs : ∀ x, foldedSetIterable iter X.env x = pure x := by intro _; rfl) :
    RS X T W (.For tg iter body [] pos) (sFor m g b) :=
  PS.mono (ps_for hp hc hi hg hb hs) fun D σ H ⟨ι, ρ, μ, s, e, h⟩ => ⟨ι, ρ, μ, s, e, bindS h fun t J μ1 ι1 H1 _ E1 s1 r1 h1 => by
    refine ⟨fun i n σ' H' => n = t.items.length - i ∧ i ≤ t.items.length ∧ ∃ ι' ρ' μ', Ext ι1 H1 ι' H' ∧ SR X.K T ι' μ' H' ∧ EnvR X.K H' ι' ρ' σ' ∧ SPost X.K X.mg T W ι' H' D (forL t g b (t.items.drop i) ρ' μ'),
      ⟨t.items.length, by simp, Nat.zero_le _, ι1, ρ, μ1, Ext.refl, s1, e.ext E1, h1⟩, ?_⟩
    rintro i n σ' H' ⟨rfl, hi, ι', ρ', μ', E', s', e', q⟩
    cases hd : t.items.drop i with
    | nil =>
      rw [hd] at q
      unfold forL at q
      split at q
      · rename_i ok
        have := drop_none hi hd
        subst this
        exact .inl ⟨(r1 ι' μ' H' E' s' ok).2, q σ' ι' H' Ext.refl s' e'⟩
      · exact q.elim
    | cons x xs =>
      rw [hd] at q
      unfold forL at q
      split at q
      · rename_i ok
        obtain ⟨hx, hdr, hlt⟩ := drop_get hd
        obtain ⟨go, yl⟩ := (r1 ι' μ' H' E' s' ok).1 i x hx
        refine .inr ⟨go, fun σ2 H2 => ∃ ι2 ρ2 μ2, Ext ι1 H1 ι2 H2 ∧ SR X.K T ι2 μ2 H2 ∧ EnvR X.K H2 ι2 ρ2 σ2 ∧ SPost X.K X.mg T W ι2 H2 D (forL t g b xs ρ2 μ2), fun σ2 H2 w2 => ⟨t.items.length - (i + 1), by omega, rfl, hlt, by rw [hdr]; exact w2⟩, fun v H2 y => ?_⟩
        obtain ⟨E2, s2, r2⟩ := yl v H2 y
        split at q
        · rename_i ρ1 μ1' hgx
          refine ⟨ι', ρ', μ', x, s2, e'.ext E2, r2, ρ1, μ1', hgx, fun σ3 ι3 H3 E3 s3 e3 _ => ⟨ι3, ρ1, μ1', s3, e3, ?_⟩⟩
          have E03 : Ext ι1 H1 ι3 H3 := E'.trans (E2.trans E3)
          cases hb : b ρ1 μ1' with
          | nx ρ2 μ2 => rw [hb] at q; exact fun σ4 ι4 H4 E4 s4 e4 => ⟨ι4, ρ2, μ2, E03.trans E4, s4, e4, SPost.ext q (E2.trans (E3.trans E4))⟩
          | ct ρ2 μ2 => rw [hb] at q; exact fun σ4 ι4 H4 E4 s4 e4 => ⟨ι4, ρ2, μ2, E03.trans E4, s4, e4, SPost.ext q (E2.trans (E3.trans E4))⟩
          | bk ρ2 μ2 => rw [hb] at q; exact fun σ4 ι4 H4 E4 s4 e4 => q σ4 ι4 H4 (E2.trans (E3.trans E4)) s4 e4
          | rt d μ2 => rw [hb] at q; exact fun v ι4 H4 E4 s4 r4 => q v ι4 H4 (E2.trans (E3.trans E4)) s4 r4
          | exc x μ2 => rw [hb] at q; exact fun cls dd σ4 ι4 H4 E4 s4 r4 => q cls dd σ4 ι4 H4 (E2.trans (E3.trans E4)) s4 r4
          | bad => rw [hb] at q; exact q
        · exact q.elim
      · exact q.elim⟩
end

/-! ### while -/
def whileN (c : Ev Bool) (b : SM) : Nat → SM
  | 0, _, _ => .bad
  | n + 1, ρ, μ => match c ρ μ with
    | .ok true μ1 => (match b ρ μ1 with
      | .nx ρ2 μ2 => whileN c b n ρ2 μ2
      | .ct ρ2 μ2 => whileN c b n ρ2 μ2
      | .bk ρ2 μ2 => .nx ρ2 μ2
      | .rt d μ2 => .rt d μ2
      | .exc x μ2 => .exc x μ2
      | .bad => .bad)
    | .ok false μ1 => .nx ρ μ1
    | .exc x μ1 => .exc x μ1
    | .bad => .bad
def FUEL : Nat := 1000000000000
def sWhile (c : Ev Bool) (b : SM) : SM := whileN c b FUEL
section
variable {X : Cx} {T : Tbs} {W : WX} {pos : Pos} {ce : Expr} {body : List Stmt} {c : Ev Bool} {b : SM}
theorem s_while (hp : PassesOwn (model X.prog X.w) X.A X.env X.xe) (hc : RT X T W ce c) (hb : RSs X T W body b) : RS X T W (.While ce body [] pos) (sWhile c b) :=
  PS.mono (ps_while hp hc hb) fun D σ H ⟨ι, ρ, μ, s, e, h⟩ => by
    refine ⟨fun n σ' H' => ∃ ι' ρ' μ', Ext ι H ι' H' ∧ SR X.K T ι' μ' H' ∧ EnvR X.K H' ι' ρ' σ' ∧ SPost X.K X.mg T W ι' H' D (whileN c b n ρ' μ'), ⟨FUEL, ι, ρ, μ, Ext.refl, s, e, h⟩, ?_⟩
    rintro n σ' H' ⟨ι', ρ', μ', E', s', e', q⟩
    refine ⟨ι', ρ', μ', s', e', ?_⟩
    cases n with
    | zero => exact q.elim
    | succ n =>
      unfold whileN at q
      cases hcx : c ρ' μ' with
      | bad => rw [hcx] at q; exact q
      | exc x μ1 => rw [hcx] at q; exact fun cls dd ι1 H1 E1 s1 r1 => q cls dd σ' ι1 H1 E1 s1 r1
      | ok k μ1 =>
        rw [hcx] at q
        intro k' ι1 H1 E1 s1 r1
        cases r1
        cases k with
        | false =>
          rw [if_neg Bool.false_ne_true]
          exact q σ' ι1 H1 E1 s1 (e'.ext E1)
        | true =>
          rw [if_pos rfl]
          refine ⟨fun σ2 H2 => ∃ ι2 ρ2 μ2, Ext ι H ι2 H2 ∧ SR X.K T ι2 μ2 H2 ∧ EnvR X.K H2 ι2 ρ2 σ2 ∧ SPost X.K X.mg T W ι2 H2 D (whileN c b n ρ2 μ2), fun σ2 H2 w2 => ⟨n, Nat.lt_succ_self n, w2⟩, ι1, ρ', μ1, s1, e'.ext E1, ?_⟩
          have E01 : Ext ι H ι1 H1 := E'.trans E1
          have q : SPost X.K X.mg T W ι' H' D (match b ρ' μ1 with
            | .nx ρ2 μ2 => whileN c b n ρ2 μ2
            | .ct ρ2 μ2 => whileN c b n ρ2 μ2
            | .bk ρ2 μ2 => .nx ρ2 μ2
            | .rt d μ2 => .rt d μ2
            | .exc x μ2 => .exc x μ2
            | .bad => .bad) := q
          cases hb : b ρ' μ1 with
          | nx ρ2 μ2 => rw [hb] at q; exact fun σ4 ι4 H4 E4 s4 e4 => ⟨ι4, ρ2, μ2, E01.trans E4, s4, e4, SPost.ext q (E1.trans E4)⟩
          | ct ρ2 μ2 => rw [hb] at q; exact fun σ4 ι4 H4 E4 s4 e4 => ⟨ι4, ρ2, μ2, E01.trans E4, s4, e4, SPost.ext q (E1.trans E4)⟩
          | bk ρ2 μ2 => rw [hb] at q; exact fun σ4 ι4 H4 E4 s4 e4 => q σ4 ι4 H4 (E1.trans E4) s4 e4
          | rt d μ2 => rw [hb] at q; exact fun v ι4 H4 E4 s4 r4 => q v ι4 H4 (E1.trans E4) s4 r4
          | exc x μ2 => rw [hb] at q; exact fun cls dd σ4 ι4 H4 E4 s4 r4 => q cls dd σ4 ι4 H4 (E1.trans E4) s4 r4
          | bad => rw [hb] at q; exact q
end

/-! ### comprehensions -/
def wipeE (ρ : Env) : List Nat → Env
  | [] => ρ
  | v :: vs => (wipeE ρ vs).set v none
theorem wipeE_len (ρ : Env) : ∀ vs, (wipeE ρ vs).length = ρ.length
  | [] => rfl
  | v :: vs => by unfold wipeE; rw [List.length_set, wipeE_len ρ vs]
theorem wipe_at (σ : L2.St) : ∀ (vs : List Nat) (i : Nat), (wipe σ vs)[i]? = if i ∈ vs ∧ i < σ.length then some none else σ[i]?
  | [], i => by simp [wipe]
  | v :: vs, i => by
    unfold wipe
    by_cases hv : v = i
    · subst hv
      by_cases hl : v < σ.length
      · rw [List.getElem?_set_self (by rw [wipe_length]; exact hl), if_pos ⟨List.mem_cons_self, hl⟩]
      · rw [List.getElem?_eq_none (by rw [List.length_set, wipe_length]; omega), if_neg (fun z => hl z.2), List.getElem?_eq_none (by omega)]
    · rw [List.getElem?_set_ne hv, wipe_at σ vs i]
      have e : (i ∈ v :: vs) ↔ i ∈ vs := by
        simp only [List.mem_cons]
        exact ⟨fun z => z.elim (fun z => absurd z.symm hv) id, .inr⟩
      simp only [e]
theorem wipeE_at (σ : Env) : ∀ (vs : List Nat) (i : Nat), (wipeE σ vs)[i]? = if i ∈ vs ∧ i < σ.length then some none else σ[i]?
  | [], i => by simp [wipeE]
  | v :: vs, i => by
    unfold wipeE
    by_cases hv : v = i
    · subst hv
      by_cases hl : v < σ.length
      · rw [List.getElem?_set_self (by rw [wipeE_len]; exact hl), if_pos ⟨List.mem_cons_self, hl⟩]
      · rw [List.getElem?_eq_none (by rw [List.length_set, wipeE_len]; omega), if_neg (fun z => hl z.2), List.getElem?_eq_none (by omega)]
    · rw [List.getElem?_set_ne hv, wipeE_at σ vs i]
      have e : (i ∈ v :: vs) ↔ i ∈ vs := by
        simp only [List.mem_cons]
        exact ⟨fun z => z.elim (fun z => absurd z.symm hv) id, .inr⟩
      simp only [e]
theorem EnvR.wipe {K : Frag} {H : Hp} {ι : Io} {ρ : Env} {σ : L2.St} (e : EnvR K H ι ρ σ) (vs : List Nat) : EnvR K H ι (wipeE ρ vs) (L2.wipe σ vs) := by
  refine ⟨by rw [wipeE_len, wipe_length, e.1], fun i d h => ?_⟩
  rw [wipeE_at] at h
  rw [wipe_at]
  by_cases hc : i ∈ vs ∧ i < ρ.length
  · rw [if_pos hc] at h; cases h
  · rw [if_neg hc] at h
    rw [if_neg (by rw [← e.1]; exact hc)]
    exact e.2 i d h
theorem wipe_but {ws vs : List Nat} {σ σ' : L2.St} (b : ButAt ws (L2.wipe σ vs) σ') (h : ∀ i ∈ ws, i ∈ vs) : L2.wipe σ' vs = L2.wipe σ vs := by
  have hl : σ'.length = σ.length := b.1.trans (wipe_length _ _)
  refine List.ext_getElem? fun i => ?_
  rw [wipe_at, wipe_at, hl]
  by_cases hc : i ∈ vs ∧ i < σ.length
  · rw [if_pos hc, if_pos hc]
  · rw [if_neg hc, if_neg hc]
    by_cases hi : i ∈ vs
    · have : ¬ i < σ.length := fun z => hc ⟨hi, z⟩
      rw [List.getElem?_eq_none (by omega), List.getElem?_eq_none (by omega)]
    · rw [b.2 i (fun z => hi (h i z)), wipe_at, if_neg (fun z => hi z.1)]
open Classical in
noncomputable def compL (t : Itm) (g : TgM) (c : Ev Bool) (e : Ev MV) (ρ : Env) : List MV → Mem → Option (List MV × Mem)
  | [], μ => if t.ok μ then some ([], μ) else none
  | x :: xs, μ => if t.ok μ then (match g x ρ μ with
    | some (ρ1, μ1) => (match c ρ1 μ1 with
      | .ok true μ2 => (match e ρ1 μ2 with
        | .ok d μ3 => (match compL t g c e ρ xs μ3 with
          | some (ds, μ4) => some (d :: ds, μ4)
          | none => none)
        | _ => none)
      | .ok false μ2 => compL t g c e ρ xs μ2
      | _ => none)
    | none => none) else none
def oOm {α : Type} (o : Option (α × Mem)) : Out α := match o with
  | some (a, μ) => .ok a μ
  | none => .bad
open Classical in
noncomputable def compT (t : Itm) (g : TgM) (c : Ev Bool) (e : Ev MV) (ρ : Env) (μ : Mem) : Option (List MV × Mem) := if t.items.length ≤ sizeLine then compL t g c e ρ t.items μ else none
open Classical in
noncomputable def mCompL (vs : List Nat) (m : Ev Itm) (g : TgM) (c : Ev Bool) (e : Ev MV) : Ev (List MV) := mB m fun t => fun ρ μ => oOm (compT t g c e (wipeE ρ vs) μ)
noncomputable def mComp (vs : List Nat) (m : Ev Itm) (g : TgM) (c : Ev Bool) (e : Ev MV) : Ev MV := mB (mCompL vs m g c e) fun ds => mRet (.lst ds)
noncomputable def mCompC (vs : List Nat) (m : Ev Itm) (g : TgM) (c : Ev Bool) (e : Ev MV) : Ev MV := mB (mCompL vs m g c e) fun ds => fun _ μ => .ok (.ref μ.length) (μ ++ [.lst ds])
abbrev W0 : WX := fun _ _ _ _ => False
theorem RepL.of_hide {K : Frag} {H : Hp} {ι : Io} {D : Addr} {xs : List MV} {vs : List V} (h : RepL K H (ι.hide D) xs vs) : RepL K H ι xs vs :=
  RepL.move (ι := ι.hide D) (ι' := ι) (fun a u e n _ => ⟨e, fun q => n (q.elim .inl fun q => .inr (List.mem_cons_of_mem _ q))⟩) (fun _ _ q => q) xs vs h
theorem RepL.grow {K : Frag} {H : Hp} {ι : Io} {D : Addr} {o : HO} (hm : D ∈ ι.hid) {xs : List MV} {vs : List V} (h : RepL K H ι xs vs) : RepL K (upd H D o) ι xs vs := RepL.move (move_grow hm) (fun _ _ q => q) _ _ h
theorem EnvR.grow {K : Frag} {H : Hp} {ι : Io} {D : Addr} {o : HO} (hm : D ∈ ι.hid) {ρ : Env} {σ : L2.St} (h : EnvR K H ι ρ σ) : EnvR K (upd H D o) ι ρ σ :=
  ⟨h.1, fun i d hd => let ⟨v, h1, h2⟩ := h.2 i d hd; ⟨v, h1, RepV.move (move_grow hm) (fun _ _ q => q) _ _ h2⟩⟩
theorem EnvR.begin {K : Frag} {H : Hp} {ι : Io} {D : Addr} {o : HO} (hn : H D = none) {ρ : Env} {σ : L2.St} (h : EnvR K H ι ρ σ) : EnvR K (upd H D o) (ι.hide D) ρ σ :=
  ⟨h.1, fun i d hd => let ⟨v, h1, h2⟩ := h.2 i d hd; ⟨v, h1, RepV.move (move_begin hn) (fun _ _ q => q) _ _ h2⟩⟩
section
variable {X : Cx} {T : Tbs} {W : WX} {tg iter : Expr} {g : TgM} {c : Ev Bool} {e : Ev MV} {vs ws : List Nat} {mi : Ev Itm}
theorem comp_core {K : Frag} {mg : Gm} {Q : VK} {σ : L2.St} {ι : Io} {H : Hp} {ρ : Env} {μ : Mem} {t : Itm} {J : It} (hw : ∀ i ∈ ws, i ∈ vs) (s : SR K T ι μ H) (en : EnvR K H ι ρ σ) (r : ItR K T J t ι H) (ds : List MV) (μ' : Mem) (hl : t.items.length ≤ sizeLine)
    (hc : compL t g c e (wipeE ρ vs) t.items μ = some (ds, μ'))
    (fin : ∀ (D : Addr) (vs : List V) (ι' : Io) (H' : Hp), Ext ι H ι' H' → SR K T (ι'.hide D) μ' H' → ¬ Own ι' D → H D = none → H' D = some (.lst vs) → RepL K H' (ι'.hide D) ds vs → Q (.ref D) H') :
    ∀ D, H D = none → ∃ Wv : Nat → Nat → Hp → Prop, (∃ m, Wv 0 m (upd H D (.lst []))) ∧ ∀ i m H, Wv i m H →
      (J.stop i H ∧ Q (.ref D) H) ∨ (J.go i H ∧ ∃ Nx : Hp → Prop, (∀ H', Nx H' → ∃ m', m' < m ∧ Wv (i + 1) m' H') ∧ ∀ x H', J.yld i H x H' → tGt K T ws g x (L2.wipe σ vs) H' fun σ2 H2 => L2.wipe σ2 vs = L2.wipe σ vs ∧ tG RB K mg T W0 c σ2 H2 fun b H3 =>
        if b = true then tG (RV K) K mg T W0 e σ2 H3 fun y H4 => ∃ acc, H4 D = some (.lst acc) ∧ acc.length < sizeLine ∧ Nx (upd H4 D (.lst (acc ++ [y]))) else Nx H3) := by
  intro D hD
  -- what holds when so many items are left
  let St : Nat → Hp → Prop := fun i H' => ∃ ι1 μ1 acc accM rest, Ext ι H ι1 H' ∧ SR K T (ι1.hide D) μ1 H' ∧ H' D = some (.lst acc) ∧ RepL K H' (ι1.hide D) accM acc ∧ EnvR K H' (ι1.hide D) ρ σ ∧ accM.length ≤ i ∧ accM ++ rest = ds ∧ compL t g c e (wipeE ρ vs) (t.items.drop i) μ1 = some (rest, μ')
  refine ⟨fun i m H' => m = t.items.length - i ∧ i ≤ t.items.length ∧ St i H', ⟨t.items.length, by simp, Nat.zero_le _, ι, μ, [], [], ds, Ext.after Ext.refl hD, s.begin hD, upd_same, RepL.nil_iff.mpr rfl, en.begin hD, Nat.le_refl _, rfl, hc⟩, ?_⟩
  rintro i m H1 ⟨rfl, hi, ι1, μ1, acc, accM, rest, E1, s1, hd1, ra, en1, hal, hap, hcl⟩
  have EW : ExtW ι H (ι1.hide D) H1 := ExtW.begin E1 hD
  cases hd : t.items.drop i with
  | nil =>
    rw [hd] at hcl
    unfold compL at hcl
    split at hcl
    · rename_i ok
      cases hcl
      have := drop_none hi hd
      subst this
      refine .inl ⟨(r _ _ H1 EW s1 ok).2, ?_⟩
      have nd : ¬ Own ι1 D := fun q => by
        rcases q with q | q
        · exact (s1.hid D List.mem_cons_self).1 q
        · have := E1.own D (.inr q)
          rcases this with z | z
          · exact s.fresh hD z
          · rw [E1.hid] at q
            exact s.fresh hD (.inr q)
      rw [List.append_nil] at hap
      subst hap
      exact fin D acc ι1 H1 E1 s1 nd hD hd1 ra
    · cases hcl
  | cons x xs =>
    rw [hd] at hcl
    unfold compL at hcl
    split at hcl
    · rename_i ok
      obtain ⟨hx, hdr, hlt⟩ := drop_get hd
      obtain ⟨go, yl⟩ := (r _ μ1 H1 EW s1 ok).1 i x hx
      refine .inr ⟨go, St (i + 1), fun H' h' => ⟨t.items.length - (i + 1), by omega, rfl, hlt, h'⟩, fun v H2 y => ?_⟩
      obtain ⟨E2, s2, r2⟩ := yl v H2 y
      split at hcl
      · rename_i ρ1 μ2 hg
        refine ⟨ι1.hide D, wipeE ρ vs, μ1, x, s2, (en1.ext E2).wipe vs, r2, ρ1, μ2, hg, fun σ3 ι3 H3 E3 s3 e3 b3 => ⟨wipe_but b3 hw, ι3, ρ1, μ2, s3, e3, ?_⟩⟩
        have E23 := E2.trans E3
        split at hcl
        · rename_i μ3 hc3
          rw [hc3]
          intro k ι4 H4 E4 s4 r4
          cases r4
          rw [if_pos rfl]
          refine ⟨ι4, ρ1, μ3, s4, e3.ext E4, ?_⟩
          have E24 := E23.trans E4
          split at hcl
          · rename_i d μ4 he
            rw [he]
            intro w ι5 H5 E5 s5 r5
            have E25 := E24.trans E5
            obtain ⟨F1, F2, F3⟩ := Ext.unhide s5 E25 hd1
            split at hcl
            · rename_i ds' μ5 hrec
              cases hcl
              have hm : D ∈ ι5.hid := by rw [F2]; exact List.mem_cons_self
              have ra5 : RepL K H5 ι5 accM acc := RepL.ext E25 _ _ ra
              have hla : acc.length < sizeLine := by rw [← ra.len]; omega
              refine ⟨acc, F3, hla, ⟨ι5.cs, ι1.hid⟩, μ4, acc ++ [w], accM ++ [d], ds', Ext.after (E1.trans F1) hD, ?_, upd_same, ?_, ?_, by simp; omega, by rw [List.append_assoc]; exact hap, by rw [hdr]; exact hrec⟩
              · rw [← F2]; exact SR.grow s5 hm F3
              · rw [← F2]; exact RepL.grow hm (ra5.app (RepL.one r5))
              · rw [← F2]; exact EnvR.grow hm (en1.ext E25)
            · cases hcl
          · cases hcl
        · rename_i μ3 hc3
          rw [hc3]
          intro k ι4 H4 E4 s4 r4
          cases r4
          rw [if_neg Bool.false_ne_true]
          have E24 := E23.trans E4
          obtain ⟨F1, F2, F3⟩ := Ext.unhide s4 E24 hd1
          refine ⟨⟨ι4.cs, ι1.hid⟩, μ3, acc, accM, rest, E1.trans F1, by rw [← F2]; exact s4, F3, ?_, ?_, by omega, hap, by rw [hdr]; exact hcl⟩
          · rw [← F2]; exact RepL.ext E24 _ _ ra
          · rw [← F2]; exact en1.ext E24
        · cases hcl
      · cases hcl
    · cases hcl
theorem compM {K : Frag} {mg : Gm} (hw : ∀ i ∈ ws, i ∈ vs) (f : List MV → Ev MV)
    (hf : ∀ {σ ι H Q ρ μ' ds}, Post (RV K) K mg T W σ ι H Q (f ds ρ μ') → ∀ (D : Addr) (vs : List V) (ι' : Io) (H' : Hp), Ext ι H ι' H' → SR K T (ι'.hide D) μ' H' → ¬ Own ι' D → H D = none → H' D = some (.lst vs) → RepL K H' (ι'.hide D) ds vs → Q (.ref D) H') :
    ∀ σ H Q, tG (RV K) K mg T W (mB (mCompL vs mi g c e) f) σ H Q → tLc (tG (RJ K T) K mg T W mi) (tGt K T ws g) (tG RB K mg T W0 c) (tG (RV K) K mg T W0 e) vs σ H Q :=
  fun σ H Q ⟨ι, ρ, μ, s, en, h⟩ => ⟨ι, ρ, μ, s, en, by
    have h : Post (RV K) K mg T W σ ι H Q (mB mi (fun t => mB (fun ρ μ => oOm (compT t g c e (wipeE ρ vs) μ)) f) ρ μ) := by
      unfold mCompL mB at h
      unfold mB
      cases hm : mi ρ μ with
      | ok t μ1 => rw [hm] at h; exact h
      | exc x μ1 => rw [hm] at h; exact h
      | bad => rw [hm] at h; exact h
    exact bindr h fun t J μ1 ι1 H1 _ E1 s1 r1 h1 => by
      unfold mB at h1
      dsimp only at h1
      cases hc : compT t g c e (wipeE ρ vs) μ1 with
      | none => rw [hc] at h1; exact h1.elim
      | some p =>
        obtain ⟨ds, μ'⟩ := p
        rw [hc] at h1
        unfold compT at hc
        split at hc
        · rename_i hl
          exact comp_core hw s1 (en.ext E1) r1 ds μ' hl hc (hf h1)
        · cases hc⟩

/-- a list just made becomes a cell -/
theorem SR.adopt {K : Frag} {ι' : Io} {μ' : Mem} {H' : Hp} {D : Addr} {ds : List MV} {us : List V} (s : SR K T (ι'.hide D) μ' H') (nd : ¬ Own ι' D) (h : H' D = some (.lst us)) (r : RepL K H' (ι'.hide D) ds us) : SR K T (ι'.add D) (μ' ++ [.lst ds]) H' := by
  have ow : ∀ b, Own (ι'.add D) b → Own (ι'.hide D) b := fun b q => by
    rcases q with q | q
    · rcases List.mem_append.mp q with q | q
      · exact .inl q
      · have e : b = D := by simpa using q
        exact .inr (by rw [e]; exact List.mem_cons_self)
    · exact .inr (List.mem_cons_of_mem _ q)
  have mv : ∀ a o, H' a = some o → ¬ Own (ι'.hide D) a → (∀ ps, o ≠ .tbl ps) → H' a = some o ∧ ¬ Own (ι'.add D) a := fun a o e n _ => ⟨e, fun q => n (ow a q)⟩
  have mc : ∀ (i : Nat) (o : Option Addr), (ι'.hide D).cs[i]? = some o → (ι'.add D).cs[i]? = some o := fun i o e => (List.getElem?_append_left (List.getElem?_eq_some_iff.mp e).1).trans e
  have r2 : RepL K H' (ι'.add D) ds us := RepL.move mv mc _ _ r
  have nD : some D ∉ ι'.cs := (s.hid D List.mem_cons_self).1
  have hl : ι'.cs.length = μ'.length := s.len
  refine ⟨by simp [Io.add, hl], fun i j b hi hj => ?_, fun i c hc => ?_, s.tabs, fun b hb => ?_⟩
  · have key : ∀ k, (ι'.cs ++ [some D])[k]? = some (some b) → (ι'.cs[k]? = some (some b) ∧ b ≠ D) ∨ (k = ι'.cs.length ∧ b = D) := fun k hk => by
      by_cases hl : k < ι'.cs.length
      · rw [List.getElem?_append_left hl] at hk
        exact .inl ⟨hk, fun z => nD (by rw [← z]; exact List.mem_of_getElem? hk)⟩
      · rw [List.getElem?_append_right (Nat.le_of_not_lt hl)] at hk
        cases hq : k - ι'.cs.length with
        | zero => rw [hq] at hk; simp at hk; exact .inr ⟨by omega, hk.symm⟩
        | succ m => rw [hq] at hk; simp at hk
    rcases key i hi with ⟨a1, a2⟩ | ⟨a1, a2⟩
    · rcases key j hj with ⟨b1, b2⟩ | ⟨b1, b2⟩
      · exact s.nd i j b a1 b1
      · exact absurd b2 a2
    · rcases key j hj with ⟨b1, b2⟩ | ⟨b1, b2⟩
      · exact absurd a2 b2
      · omega
  · by_cases hlt : i < μ'.length
    · rw [List.getElem?_append_left hlt] at hc
      obtain ⟨u, h1, h2⟩ := s.cell i c hc
      refine ⟨u, mc i u h1, ?_⟩
      cases c with
      | dead => exact h2
      | lst xs =>
        obtain ⟨b, vs, e1, e2, e3⟩ := h2
        exact ⟨b, vs, e1, e2, RepL.move mv mc xs vs e3⟩
    · rw [List.getElem?_append_right (Nat.le_of_not_lt hlt)] at hc
      cases hq : i - μ'.length with
      | zero =>
        rw [hq] at hc; simp at hc; subst hc
        refine ⟨some D, ?_, D, us, rfl, h, r2⟩
        show (ι'.cs ++ [some D])[i]? = some (some D)
        rw [List.getElem?_append_right (by rw [hl]; omega), hl, hq]; rfl
      | succ m => rw [hq] at hc; simp at hc
  · obtain ⟨h1, xs, h2⟩ := s.hid b (List.mem_cons_of_mem _ hb)
    refine ⟨fun q => ?_, xs, h2⟩
    rcases List.mem_append.mp q with q | q
    · exact h1 q
    · have e : b = D := by simpa using q
      exact nd (.inr (by rw [← e]; exact hb))
theorem Ext.adopt {ι ι' : Io} {H H' : Hp} {D : Addr} (e : Ext ι H ι' H') (h : H D = none) : Ext ι H (ι'.add D) H' :=
  ⟨by simp [Io.add]; have := e.len; omega, fun i hi => by
    rcases e.sub i hi with z | z
    · exact .inl ((List.getElem?_append_left (Nat.lt_of_lt_of_le hi e.len)).trans z)
    · exact .inr ((List.getElem?_append_left (Nat.lt_of_lt_of_le hi e.len)).trans z), e.hid, fun a q => by
    rcases q with q | q
    · rcases List.mem_append.mp q with q | q
      · exact e.own a (.inl q)
      · have e : a = D := by simpa using q
        subst e; exact .inr (Nt.of h)
    · exact e.own a (.inr q), e.keep, e.hkeep⟩
end
end MM

set_option Elab.async false
set_option linter.all false
set_option maxRecDepth 100000
set_option maxHeartbeats 4000000
/-! ## MM: comprehensions as values -/
namespace MM
open PySem PySem.Spec PyProof.Rows L2
section
variable {X : Cx} {T : Tbs} {W : WX} {tg iter elt : Expr} {ifs : List Expr} {scope : Scope} {own : List (Str × Nat)} {pos spos py : Pos} {g : TgM} {c : Ev Bool} {e : Ev MV} {ws : List Nat} {mi : Ev Itm}
abbrev mYes : Ev Bool := mRet true
theorem rts_nil {X : Cx} {T : Tbs} : PTs X [] (tG RB X.K X.mg T W0 mYes) := ⟨fun pins s σ H Q I ⟨ι, ρ, μ, sr, e, h⟩ => pts_nil.run pins s σ H Q I (h true ι H Ext.refl sr rfl)⟩
theorem rts_one {X : Cx} {T : Tbs} {x : Expr} {m : Ev Bool} (h : RT X T W0 x m) : PTs X [x] (tG RB X.K X.mg T W0 m) := pts_one h
abbrev Blk (X : Cx) (scope : Scope) (P : Cx → Prop) : Prop := ∀ (s : Shared) (H : Hp) (C : Addr) (cl : List (Str × Addr)) (fp : List Addr), P (X.blk s H scope (compEnvC scope cl C X.env) fp)
theorem compF : ∀ {K : Frag} {mg : Gm} {σ ι H Q ρ μ' ds}, Post (RV K) K mg T W σ ι H Q (mRet (.lst ds) ρ μ') → ∀ (D : Addr) (vs : List V) (ι' : Io) (H' : Hp), Ext ι H ι' H' → SR K T (ι'.hide D) μ' H' → ¬ Own ι' D → H D = none → H' D = some (.lst vs) → RepL K H' (ι'.hide D) ds vs → Q (.ref D) H' :=
  fun h D vs ι' H' E s nd hn hd r => h _ ι' H' E (SR.done (ι' := ι'.hide D) (D := D) (ι0 := ι') s rfl) (by
    unfold RV RepV
    exact ⟨D, vs, rfl, ⟨Rd.of hd, nd⟩, r.of_hide⟩)
theorem compCF : ∀ {K : Frag} {mg : Gm} {σ ι H Q ρ μ' ds}, Post (RV K) K mg T W σ ι H Q ((fun (_ : Env) (μ : Mem) => Out.ok (MV.ref μ.length) (μ ++ [.lst ds])) ρ μ') → ∀ (D : Addr) (vs : List V) (ι' : Io) (H' : Hp), Ext ι H ι' H' → SR K T (ι'.hide D) μ' H' → ¬ Own ι' D → H D = none → H' D = some (.lst vs) → RepL K H' (ι'.hide D) ds vs → Q (.ref D) H' :=
  fun h D vs ι' H' E s nd hn hd r => h _ (ι'.add D) H' (E.adopt hn) (s.adopt nd hd r) (by
    rw [← s.len]
    exact RepV.cell)
theorem re_comp (hc : X.calm = true) (hN : X.N.Nodup) (hi : RI X T W tg iter mi) (ok : BlkOk X.N X.env.scope scope own) (hw : ∀ i ∈ ws, i ∈ own.map (·.2))
    (hg : Blk X scope fun X => RG X T ws tg g) (ht : Blk X scope fun X => PTs X ifs (tG RB X.K X.mg T W0 c)) (he : Blk X scope fun X => RE X T W0 elt e) (hs : ∀ x, foldedSetIterable iter X.env x = pure x := by intro _; rfl) :
    RE X T W (.ListComp elt [⟨tg, iter, ifs, 0⟩] scope pos) (mComp (own.map (·.2)) mi g c e) :=
  PE.mono (pe_lc hc hN hi ok hg ht he hs) (compM hw (fun ds => mRet (.lst ds)) fun {σ ι H Q ρ μ' ds} h => compF (ρ := ρ) h)
theorem re_compC (hc : X.calm = true) (hN : X.N.Nodup) (hi : RI X T W tg iter mi) (ok : BlkOk X.N X.env.scope scope own) (hw : ∀ i ∈ ws, i ∈ own.map (·.2))
    (hg : Blk X scope fun X => RG X T ws tg g) (ht : Blk X scope fun X => PTs X ifs (tG RB X.K X.mg T W0 c)) (he : Blk X scope fun X => RE X T W0 elt e) (hs : ∀ x, foldedSetIterable iter X.env x = pure x := by intro _; rfl) :
    RE X T W (.ListComp elt [⟨tg, iter, ifs, 0⟩] scope pos) (mCompC (own.map (·.2)) mi g c e) :=
  PE.mono (pe_lc hc hN hi ok hg ht he hs) (compM hw (fun ds => fun _ μ => .ok (.ref μ.length) (μ ++ [.lst ds])) fun {σ ι H Q ρ μ' ds} h => compCF (ρ := ρ) h)
/-- name = [..] -/
theorem s_setComp {i : Nat} {y : Str} {m : Ev MV} (hc : X.calm = true) (hN : X.N.Nodup) (hy : X.N[i]? = some y) (hyl : X.env.scope.names.lookup y = some .local)
    (hsw : swapsWith (.ListComp elt [⟨tg, iter, ifs, 0⟩] scope pos) (some (.Name y py)) spos.line X.env = pure true) (hi : RI X T W tg iter mi) (ok : BlkOk X.N X.env.scope scope own) (hw : ∀ i ∈ ws, i ∈ own.map (·.2))
    (hg : Blk X scope fun X => RG X T ws tg g) (ht : Blk X scope fun X => PTs X ifs (tG RB X.K X.mg T W0 c)) (he : Blk X scope fun X => RE X T W0 elt e)
    (hm : ∀ K mg σ H Q, tG (RV K) K mg T W m σ H Q → tLc (tG (RJ K T) K mg T W mi) (tGt K T ws g) (tG RB K mg T W0 c) (tG (RV K) K mg T W0 e) (own.map (·.2)) σ H Q)
    (hs : ∀ x, foldedSetIterable iter X.env x = pure x := by intro _; rfl) :
    RS X T W (.Assign [.Name y py] (.ListComp elt [⟨tg, iter, ifs, 0⟩] scope pos) spos) (sAsg m (gN i)) :=
  PS.mono (ps_setLc hc hN hy hyl hsw hi ok hg ht he hs) fun D σ H h => hm _ _ _ _ _ (nameM D σ H h)
end
end MM

set_option Elab.async false
set_option linter.all false
set_option maxRecDepth 100000
set_option maxHeartbeats 4000000
/-! ## MM: ranges, reversed, comprehensions over two -/
namespace MM
open PySem PySem.Spec PyProof.Rows L2
/-- lo, lo + c, .. -/
def stepL (lo c : Int) (n : Nat) : List MV := (List.range n).map fun i => MV.int (lo + (i : Nat) * c)
theorem stepL_len (lo c : Int) (n : Nat) : (stepL lo c n).length = n := by simp [stepL]
theorem stepL_get {lo c : Int} {n i : Nat} {d : MV} (h : (stepL lo c n)[i]? = some d) : i < n ∧ d = .int (lo + (i : Nat) * c) := by
  unfold stepL at h
  rw [List.getElem?_map] at h
  by_cases hi : i < n
  · rw [List.getElem?_range hi] at h
    cases h
    exact ⟨hi, rfl⟩
  · rw [List.getElem?_eq_none (by simp; omega)] at h
    cases h
def intsL (lo : Int) (n : Nat) : List MV := (List.range n).map fun i => MV.int (lo + (i : Nat))
theorem intsL_len (lo : Int) (n : Nat) : (intsL lo n).length = n := by simp [intsL]
theorem intsL_get {lo : Int} {n i : Nat} {d : MV} (h : (intsL lo n)[i]? = some d) : i < n ∧ d = .int (lo + (i : Nat)) := by
  unfold intsL at h
  rw [List.getElem?_map] at h
  by_cases hi : i < n
  · rw [List.getElem?_range hi] at h
    cases h
    exact ⟨hi, rfl⟩
  · rw [List.getElem?_eq_none (by simp; omega)] at h
    cases h
def Rg62 (i : Int) : Prop := -(2 ^ 62) ≤ i ∧ i < 2 ^ 62
instance (i : Int) : Decidable (Rg62 i) := by unfold Rg62; exact inferInstance
def rng1 : List MV → Option Itm
  | [.int j] => if Rg62 j then some ⟨intsL 0 j.toNat, []⟩ else none
  | _ => none
def rng2 : List MV → Option Itm
  | [.int i, .int j] => if Rg62 i ∧ Rg62 j then some ⟨intsL i (j - i).toNat, []⟩ else none
  | _ => none
def rng3 : List MV → Option Itm
  | [.int i, .int j, .int (.negSucc 0)] => if Rg62 i ∧ Rg62 j then some ⟨stepL i (-1) (i - j).toNat, []⟩ else none
  | _ => none
def mRng (f : List MV → Option Itm) (ms : Ev (List MV)) : Ev Itm := mB ms fun ds => fun ρ μ => oO (f ds) ρ μ
theorem itr_ok {K : Frag} {T : Tbs} {lo : Int} {n : Nat} {ι : Io} {H : Hp} : ItR K T (Itr lo n) ⟨intsL lo n, []⟩ ι H := fun ι1 μ1 H1 E1 s1 _ =>
  ⟨fun i d h => ⟨(intsL_get h).1, fun x H' ⟨e1, e2⟩ => by
    subst e1
    rw [e2, (intsL_get h).2]
    exact ⟨Ext.refl, s1, RepV.int⟩⟩, by rw [intsL_len]; exact Nat.le_refl _⟩
theorem itc_ok {K : Frag} {T : Tbs} {lo c : Int} {n : Nat} {ι : Io} {H : Hp} : ItR K T (Itc lo c n) ⟨stepL lo c n, []⟩ ι H := fun ι1 μ1 H1 E1 s1 _ =>
  ⟨fun i d h => ⟨(stepL_get h).1, fun x H' ⟨e1, e2⟩ => by
    subst e1
    rw [e2, (stepL_get h).2]
    exact ⟨Ext.refl, s1, RepV.int⟩⟩, by rw [stepL_len]; exact Nat.le_refl _⟩
section
variable {X : Cx} {T : Tbs} {W : WX} {tg a b c : Expr} {p pos : Pos} {ms : Ev (List MV)}
theorem rngM {f : List MV → Option Itm} {R : It → Hp → Prop} {K : Frag} {mg : Gm} {σ : L2.St} {H : Hp} {P : List V → Hp → Prop}
    (hf : ∀ ds vs t ι1 H1, f ds = some t → RepL K H1 ι1 ds vs → (∀ J, (∀ ι H, ItR K T J t ι H) → R J H1) → P vs H1) (h : tG (RJ K T) K mg T W (mRng f ms) σ H R) : tG (RLs K) K mg T W ms σ H P := by
  obtain ⟨ι, ρ, μ, s, e, h⟩ := h
  refine ⟨ι, ρ, μ, s, e, bindr h fun ds vs μ1 ι1 H1 _ E1 s1 r1 h1 => ?_⟩
  cases hd : f ds with
  | none =>
    have h1 : Post (RJ K T) K mg T W σ ι1 H1 R (oO (f ds) ρ μ1) := h1
    rw [hd] at h1; exact h1.elim
  | some t =>
    have h1 : Post (RJ K T) K mg T W σ ι1 H1 R (oO (f ds) ρ μ1) := h1
    rw [hd] at h1
    exact hf ds vs t ι1 H1 hd r1 fun J hJ => h1 J ι1 H1 Ext.refl s1 (hJ _ _)
theorem ri_rng1 (hg : Gl X "range") (hm : X.mg "range" = none) (ha : RA X T W [a] ms) (hs : starEach [a] X.env = [(false, eval a X.env)] := by rfl) : RI X T W tg (.Call (.Name "range" p) [a] [] pos) (mRng rng1 ms) :=
  PI.mono (pi_range1 hg hm ha hs) fun σ H R h => rngM (fun ds vs t ι1 H1 hf r k => by
    unfold rng1 at hf
    split at hf
    · rename_i j
      split at hf
      · rename_i hj
        cases hf
        obtain ⟨v, rr, rfl, h1, h2⟩ := RepL.cons_iff.mp r
        rw [RepL.nil_iff] at h2; subst h2
        cases h1.int_inv
        exact ⟨j, rfl, hj.1, hj.2, k _ fun _ _ => itr_ok⟩
      · cases hf
    · cases hf) h
theorem ri_rng2 (hg : Gl X "range") (hm : X.mg "range" = none) (ha : RA X T W [a, b] ms) (hs : starEach [a, b] X.env = [(false, eval a X.env), (false, eval b X.env)] := by rfl) (hs2 : starEach [b] X.env = [(false, eval b X.env)] := by rfl) : RI X T W tg (.Call (.Name "range" p) [a, b] [] pos) (mRng rng2 ms) :=
  PI.mono (pi_range2 hg hm ha hs hs2) fun σ H R h => rngM (fun ds vs t ι1 H1 hf r k => by
    unfold rng2 at hf
    split at hf
    · rename_i i j
      split at hf
      · rename_i hj
        cases hf
        obtain ⟨v, rr, rfl, h1, h2⟩ := RepL.cons_iff.mp r
        obtain ⟨w, rr, rfl, h3, h4⟩ := RepL.cons_iff.mp h2
        rw [RepL.nil_iff] at h4; subst h4
        cases h1.int_inv
        cases h3.int_inv
        exact ⟨i, j, rfl, ⟨hj.1.1, hj.1.2, hj.2.1, hj.2.2⟩, k _ fun _ _ => itr_ok⟩
      · cases hf
    · cases hf) h
theorem ri_rng3 (hg : Gl X "range") (hm : X.mg "range" = none) (ha : RA X T W [a, b, c] ms) (hs : starEach [a, b, c] X.env = (false, eval a X.env) :: starEach [b, c] X.env := by rfl) (hpl : (backTo pos (starEach [b, c] X.env)).any (·.1) = false := by rfl) : RI X T W tg (.Call (.Name "range" p) [a, b, c] [] pos) (mRng rng3 ms) :=
  PI.mono (pi_range3 hg hm ha hs hpl) fun σ H R h => rngM (fun ds vs t ι1 H1 hf r k => by
    unfold rng3 at hf
    split at hf
    · rename_i i j
      split at hf
      · rename_i hj
        cases hf
        obtain ⟨v, rr, rfl, h1, h2⟩ := RepL.cons_iff.mp r
        obtain ⟨w, rr, rfl, h3, h4⟩ := RepL.cons_iff.mp h2
        obtain ⟨x, rr, rfl, h5, h6⟩ := RepL.cons_iff.mp h4
        rw [RepL.nil_iff] at h6; subst h6
        cases h1.int_inv
        cases h3.int_inv
        cases h5.int_inv
        exact ⟨i, j, _, _, rfl, RgC.neg hj.1.1 hj.1.2 hj.2.1 hj.2.2, k _ fun _ _ => itc_ok⟩
      · cases hf
    · cases hf) h
end
end MM

set_option Elab.async false
set_option linter.all false
set_option maxRecDepth 100000
set_option maxHeartbeats 4000000
/-! ## MM: enumerate and zip over lists and tuples in any mix -/
namespace MM
open PySem PySem.Spec PyProof.Rows L2
def Sk (k : Bool) (K : Frag) (H : Hp) (a : Addr) (xs : List V) : Prop := match k with
  | true => SqL K H a xs
  | false => SqT K H a xs
def ItK (k : Bool) (h : Heap) (it a : Addr) (i : Nat) : Prop := match k with
  | true => h.IsListIter it a i
  | false => h.IsTupleIter it a i
def ObK (k : Bool) (h : Heap) (a : Addr) (its : Array Value) : Prop := match k with
  | true => h.IsList a its
  | false => h.IsTuple a its
def obK (k : Bool) (a : Addr) : Obj := match k with
  | true => { cls := .type "list_iterator", data := .fields #[.ref a, .int 0 0] }
  | false => { cls := .type "tuple_iterator", data := .fields #[.ref a, .int 0 0] }
section
variable {X : Cx} {pins : List (Addr × Obj)} {σ : L2.St} {H : Hp} {s : Shared} {k : Bool} {a it : Addr} {xs ys : List V}
theorem inv_sk (I : Inv X pins σ H s) (h : Sk k X.K H a xs) : ∃ its : List Value, Vals xs its ∧ ObK k s.heap a its.toArray ∧ xs.length ≤ sizeLine := by
  cases k with
  | true =>
    obtain ⟨its, r, p, z⟩ := I.list (show SqL X.K H a xs from h)
    exact ⟨its, r, p.isList, z⟩
  | false =>
    obtain ⟨its, r, p, z⟩ := I.tuple (show SqT X.K H a xs from h)
    exact ⟨its, r, p, z⟩
theorem inv_sk_inj (I : Inv X pins σ H s) (h : Sk k X.K H a xs) (h' : Sk k X.K H a ys) : xs = ys := by
  cases k with
  | true => exact I.list_inj (show SqL X.K H a xs from h) h'
  | false => exact I.tuple_inj (show SqT X.K H a xs from h) h'
theorem drK {prog : Program} {w : World} {A : Around} (k : Bool) (hh : A.handled = none) (it a : Addr) (hne : a ≠ it) (items : Array Value) :
    Draws prog w A it [it, a] items.size (fun i v => items[i]? = some v) (fun i h => ItK k h it a i ∧ ObK k h a items) := by
  cases k with
  | true => exact Draws.list hh it a hne items
  | false => exact Draws.tuple hh it a hne items
theorem bgK (k : Bool) (a : Addr) (items : Array Value) : Begins (.ref a) (obK k a) fun h => ObK k h a items := by
  cases k with
  | true => exact begins_list a items
  | false => exact begins_tuple a items
theorem ItK.new {h : Heap} (e : h.get? it = some (obK k a)) : ItK k h it a 0 := by
  cases k with
  | true => exact ⟨_, e, rfl, rfl⟩
  | false => exact ⟨_, e, rfl, rfl⟩
theorem ItK.obj {h : Heap} {i : Nat} (st : ItK k h it a i) : ∃ o, h.get? it = some o ∧ (o.cls = .type "list_iterator" ∨ o.cls = .type "tuple_iterator") ∧ ∀ v, o.data ≠ .cell v := by
  cases k with
  | true =>
    obtain ⟨o, e, c, d⟩ := st
    exact ⟨o, e, .inl c, fun v z => by rw [d] at z; cases z⟩
  | false =>
    obtain ⟨o, e, c, d⟩ := st
    exact ⟨o, e, .inr c, fun v z => by rw [d] at z; cases z⟩
theorem ItK.at {h h' : Heap} {i : Nat} (st : ItK k h it a i) (e : ∀ o, h.get? it = some o → h'.get? it = some o) : ItK k h' it a i := by
  cases k with
  | true => exact Heap.IsListIter.at st e
  | false => exact Heap.IsTupleIter.at st e
theorem ObK.obj {h : Heap} {its : Array Value} (st : ObK k h a its) : ∃ o, h.get? a = some o ∧ (o.cls = .type "list" ∨ o.cls = .type "tuple") := by
  cases k with
  | true =>
    obtain ⟨o, e, c, d⟩ := st
    exact ⟨o, e, .inl c⟩
  | false =>
    obtain ⟨o, e, c, d⟩ := st
    exact ⟨o, e, .inr c⟩
theorem ty_ne {x y : String} (h : x ≠ y) : (Value.type x) ≠ .type y := fun z => h (by injection z)
theorem ne_cls {h : Heap} {a b : Addr} {o o' : Obj} (e : h.get? a = some o) (e' : h.get? b = some o') (n : o.cls ≠ o'.cls) : a ≠ b := fun z => by
  subst z
  rw [e] at e'; cases e'
  exact n rfl
theorem obk_ne_it {h : Heap} {its : Array Value} {k' : Bool} {i : Nat} {b : Addr} (st : ObK k h a its) (si : ItK k' h it b i) : a ≠ it := by
  obtain ⟨o, e, c⟩ := st.obj
  obtain ⟨o', e', c', _⟩ := si.obj
  refine ne_cls e e' fun z => ?_
  rcases c with c | c <;> rcases c' with c' | c' <;> (rw [c, c'] at z; exact ty_ne (by decide) z)
theorem obk_ne {h : Heap} {its : Array Value} {b : Addr} {o' : Obj} (st : ObK k h a its) (e' : h.get? b = some o') (n1 : o'.cls ≠ .type "list") (n2 : o'.cls ≠ .type "tuple") : b ≠ a := by
  obtain ⟨o, e, c⟩ := st.obj
  refine ne_cls e' e fun z => ?_
  rcases c with c | c
  · exact n1 (z.trans c)
  · exact n2 (z.trans c)
end
/-- the sequence at a as it stands at each turn, each item in a new pair -/
def IteK (k : Bool) (K : Frag) (a : Addr) : It :=
  ⟨fun i H => ∃ (xs : List V) (x : V), Sk k K H a xs ∧ xs[i]? = some x, fun i H v H' => ∃ T x, v = .ref T ∧ H T = none ∧ H' = upd H T (.tup [.int (i : Nat), x]) ∧ ∀ xs, Sk k K H a xs → xs[i]? = some x, fun i H => ∃ xs : List V, Sk k K H a xs ∧ xs.length = i⟩
theorem new_pair {X : Cx} {pins : List (Addr × Obj)} {σ : L2.St} {H : Hp} {s : Shared} {h' : Heap} {ch : List Addr} {T : Addr} {u v : Value} {x y : V} {tk : Nat} (I : Inv X pins σ H s) (hk : ∀ b o, b ∉ ch → s.heap.get? b = some o → h'.get? b = some o) (hf : ∀ b ∈ ch, FpOk X pins H b) (hT : s.heap.objs.size ≤ T)
    (ht : h'.IsTuple T #[u, v]) (rx : RelV x u) (ry : RelV y v) : Inv X pins σ (upd H T (.tup [x, y])) { s with heap := h', toks := tk } := by
  refine I.turnedNew (ch := ch) hk hf hT ⟨by show 2 ≤ sizeLine; decide, [u, v], .cons rx (.cons ry .nil), ?_⟩
  obtain ⟨o, e, c, n, d⟩ := ht
  exact ⟨o, e, c, n, d⟩
theorem turn_enumK {P : Program} {w : World} {K : Frag} {elts : List Expr} {kk : Nat} {tpos : Pos} (k : Bool) (a e it : Addr) :
    Turn P w K (.Tuple elts kk tpos) (IteK k K a) [e, it] e (fun i h => (∃ old, IsEnum h e it ((i : Nat) : Int) old) ∧ ItK k h it a i ∧ e ≠ it) where
  mem := by simp
  obj := fun i h st b hb => by
    obtain ⟨⟨old, he⟩, hit, _⟩ := st
    have e' : b = e ∨ b = it := by simpa using hb
    rcases e' with z | z
    · rw [z]; exact ⟨_, he, fun v q => nomatch q⟩
    · rw [z]
      obtain ⟨o, e1, _, e2⟩ := hit.obj
      exact ⟨o, e1, e2⟩
  keep := fun i h h' st q => let ⟨⟨old, he⟩, hi, hne⟩ := st; ⟨⟨old, q e (by simp) _ he⟩, hi.at fun o z => q it (by simp) o z, hne⟩
  item := by
    intro X hP hw hK hc i pins s σ H E I hf st hg
    subst hP hw hK
    obtain ⟨⟨old, he⟩, hit, hne⟩ := st
    obtain ⟨xs, x, hq, hx⟩ := hg
    obtain ⟨its, rv, p, hz⟩ := inv_sk I hq
    obtain ⟨u, hu, ru⟩ := rv.get hx
    have hai : a ≠ it := obk_ne_it p hit
    have hea : e ≠ a := obk_ne p he (ty_ne (by decide)) (ty_ne (by decide))
    have hu' : its.toArray[i]? = some u := by simpa using hu
    have hi : i < its.toArray.size := (Array.getElem?_eq_some_iff.mp hu').1
    have D := drK (prog := X.prog) (w := X.w) (A := X.A.in1) k (I.ok.hd hc) it a hai its.toArray
    have G := GoesN.enumFrom (elts := elts) (x1 := kk) (pos := tpos) (0 : Int) D e hne (by simp [hne, hea]) (by simp)
    refine G.goes i s _ E hi ⟨⟨old, by rw [Int.zero_add]; exact he⟩, hit, p⟩ fun v h' tk hY hst' hk htk => ?_
    obtain ⟨T, t, x', rfl, hT, hx', hTup⟩ := hY
    rw [hu'] at hx'; cases hx'
    obtain ⟨⟨old', he'⟩, hit', _⟩ := hst'
    have I1 : Inv X pins σ (upd H T (.tup [.int (i : Nat), x])) { s with heap := h', toks := tk } := new_pair (ch := [e, it]) I hk hf hT hTup ⟨t, by rw [Int.zero_add]⟩ ru
    refine ⟨.ref T, _, I1, rfl, ⟨T, x, rfl, I.hok.fresh hT, rfl, fun ys hy => by rw [inv_sk_inj I hy hq]; exact hx⟩, ⟨⟨old', by rw [Int.zero_add] at he'; exact he'⟩, hit', hne⟩, fun b hb => ?_⟩
    have hb' : b < s.heap.objs.size := by
      have e' : b = e ∨ b = it := by simpa using hb
      rcases e' with z | z
      · rw [z]; exact Heap.lt_size he
      · rw [z]
        obtain ⟨o, e1, _⟩ := hit.obj
        exact Heap.lt_size e1
    rw [upd_ne (Nat.ne_of_lt (Nat.lt_of_lt_of_le hb' hT))]
    exact (hf b hb).1
  done := by
    intro X hP hw hK hc i pins s σ H E I hf st hg
    subst hP hw hK
    obtain ⟨⟨old, he⟩, hit, hne⟩ := st
    obtain ⟨xs, hq, hx⟩ := hg
    obtain ⟨its, rv, p, hz⟩ := inv_sk I hq
    have hai : a ≠ it := obk_ne_it p hit
    have hea : e ≠ a := obk_ne p he (ty_ne (by decide)) (ty_ne (by decide))
    have hl : i = its.toArray.size := by rw [← hx, rv.length]; simp
    have D := drK (prog := X.prog) (w := X.w) (A := X.A.in1) k (I.ok.hd hc) it a hai its.toArray
    have G := GoesN.enumFrom (elts := elts) (x1 := kk) (pos := tpos) (0 : Int) D e hne (by simp [hne, hea]) (by simp)
    subst hl
    exact G.stops s (fun s1 => Inv X pins σ H s1) E ⟨⟨old, by rw [Int.zero_add]; exact he⟩, hit, p⟩ fun h' tk hk htk => I.turnedL (t' := tk) (ch := [e, it]) hk hf
  self := fun A i s Q E st h => let ⟨⟨_, he⟩, _⟩ := st; wpAny_pyIter_enum he h
/-- the sequences at a and b as they stand at each turn, the items in new pairs -/
def ItzK (k1 k2 : Bool) (K : Frag) (a b : Addr) : It :=
  ⟨fun i H => ∃ (xs ys : List V) (x y : V), Sk k1 K H a xs ∧ Sk k2 K H b ys ∧ xs[i]? = some x ∧ ys[i]? = some y,
    fun i H v H' => ∃ T x y, v = .ref T ∧ H T = none ∧ H' = upd H T (.tup [x, y]) ∧ (∀ xs, Sk k1 K H a xs → xs[i]? = some x) ∧ ∀ ys, Sk k2 K H b ys → ys[i]? = some y,
    fun i H => ∃ xs ys : List V, Sk k1 K H a xs ∧ Sk k2 K H b ys ∧ min xs.length ys.length = i⟩
structure Sep5 (z TI TO i1 i2 : Addr) : Prop where
  a1 : TI ≠ z
  a2 : TO ≠ z
  a3 : TI ≠ TO
  a4 : TI ≠ i1
  a5 : TI ≠ i2
  a6 : z ≠ i1
  a7 : z ≠ i2
  a8 : TO ≠ i1
  a9 : TO ≠ i2
  a10 : i1 ≠ i2
theorem turn_zipK {P : Program} {w : World} {K : Frag} {elts : List Expr} {kk : Nat} {tpos : Pos} {k1 k2 : Bool} {a b z TI TO i1 i2 : Addr} (S : Sep5 z TI TO i1 i2) :
    Turn P w K (.Tuple elts kk tpos) (ItzK k1 k2 K a b) [z, TI, TO, i1, i2] z (fun i h => IsZip h z TI TO .none ∧ IsTupOf2 h TI (.ref i1) (.ref i2) ∧ (∃ x y, IsTupOf2 h TO x y) ∧ (ItK k1 h i1 a i ∧ TO ≠ a ∧ TI ≠ a) ∧ (ItK k2 h i2 b i ∧ TO ≠ b ∧ TI ≠ b)) where
  mem := by simp
  obj := fun i h st c hc => by
    obtain ⟨hz, hTI, ⟨x, y, hTO⟩, ⟨h1, _⟩, ⟨h2, _⟩⟩ := st
    have e' : c = z ∨ c = TI ∨ c = TO ∨ c = i1 ∨ c = i2 := by simpa using hc
    rcases e' with q | q | q | q | q
    · rw [q]; exact ⟨_, hz, fun v q => nomatch q⟩
    · rw [q]; exact ⟨_, hTI, fun v q => nomatch q⟩
    · rw [q]; exact ⟨_, hTO, fun v q => nomatch q⟩
    · rw [q]; obtain ⟨o, e1, _, e2⟩ := h1.obj; exact ⟨o, e1, e2⟩
    · rw [q]; obtain ⟨o, e1, _, e2⟩ := h2.obj; exact ⟨o, e1, e2⟩
  keep := fun i h h' st k => by
    obtain ⟨hz, hTI, ⟨x, y, hTO⟩, ⟨h1, n1⟩, ⟨h2, n2⟩⟩ := st
    exact ⟨k z (by simp) _ hz, k TI (by simp) _ hTI, ⟨x, y, k TO (by simp) _ hTO⟩, ⟨h1.at fun o q => k i1 (by simp) o q, n1⟩, ⟨h2.at fun o q => k i2 (by simp) o q, n2⟩⟩
  item := by
    intro X hP hw hK hc i pins s σ H E I hf st hg
    subst hP hw hK
    obtain ⟨hz, hTI, ⟨x0, y0, hTO⟩, ⟨h1, n1, m1⟩, ⟨h2, n2, m2⟩⟩ := st
    obtain ⟨xs, ys, x, y, hqx, hqy, hx, hy⟩ := hg
    obtain ⟨its, rv, p, _⟩ := inv_sk I hqx
    obtain ⟨its2, rv2, p2, _⟩ := inv_sk I hqy
    obtain ⟨u, hu, ru⟩ := rv.get hx
    obtain ⟨u2, hu2, ru2⟩ := rv2.get hy
    have hu' : its.toArray[i]? = some u := by simpa using hu
    have hu2' : its2.toArray[i]? = some u2 := by simpa using hu2
    have q1 : i < its.toArray.size := (Array.getElem?_eq_some_iff.mp hu').1
    have q2 : i < its2.toArray.size := (Array.getElem?_eq_some_iff.mp hu2').1
    have hza : z ≠ a := obk_ne p hz (ty_ne (by decide)) (ty_ne (by decide))
    have hzb : z ≠ b := obk_ne p2 hz (ty_ne (by decide)) (ty_ne (by decide))
    have hai1 := obk_ne_it p h1
    have hai2 := obk_ne_it p h2
    have hbi1 := obk_ne_it p2 h1
    have hbi2 := obk_ne_it p2 h2
    have D1 := drK (prog := X.prog) (w := X.w) (A := X.A.in1) k1 (I.ok.hd hc) i1 a hai1 its.toArray
    have D2 := drK (prog := X.prog) (w := X.w) (A := X.A.in1) k2 (I.ok.hd hc) i2 b hbi2 its2.toArray
    have SS : ZipSep2 z TI TO i1 i2 [i1, a] [i2, b] := ⟨S.a1, S.a2, S.a3, S.a4, by simp, by simp [S.a6, hza], by simp [S.a8, n1], S.a5, by simp, by simp [S.a7, hzb], by simp [S.a9, n2], by simp [S.a10, hbi1.symm], by simp [S.a10.symm, hai2.symm]⟩
    have G := GoesN.zip2 (elts := elts) (x1 := kk) (pos := tpos) SS D1 D2
    refine G.goes i s _ E (Nat.lt_min.mpr ⟨q1, q2⟩) ⟨hz, hTI, ⟨x0, y0, hTO⟩, ⟨h1, p⟩, ⟨h2, p2⟩⟩ fun v h' tk hY hst' hk htk => ?_
    obtain ⟨T, v1, v2, rfl, hT, hv1, hv2, hTup⟩ := hY
    rw [hu'] at hv1; cases hv1
    rw [hu2'] at hv2; cases hv2
    obtain ⟨hz', hTI', ⟨x1, y1, hTO'⟩, ⟨h1', _⟩, ⟨h2', _⟩⟩ := hst'
    have I1 : Inv X pins σ (upd H T (.tup [x, y])) { s with heap := h', toks := tk } := new_pair (ch := [z, TI, TO, i1, i2]) I (fun c o hcm q => hk c o (fun m => hcm (by
      simp only [List.mem_cons] at m ⊢
      rcases m with m | m | m | m | m
      · exact .inl m
      · exact .inr (.inr (.inl m))
      · exact .inr (.inr (.inr (.inl m)))
      · exact .inr (.inr (.inr (.inr (.inl m))))
      · cases m)) q) hf hT hTup ru ru2
    refine ⟨.ref T, _, I1, rfl, ⟨T, x, y, rfl, I.hok.fresh hT, rfl, fun l hl => by rw [inv_sk_inj I hl hqx]; exact hx, fun l hl => by rw [inv_sk_inj I hl hqy]; exact hy⟩, ⟨hz', hTI', ⟨x1, y1, hTO'⟩, ⟨h1', n1, m1⟩, ⟨h2', n2, m2⟩⟩, fun c hcm => ?_⟩
    have hlt : c < s.heap.objs.size := by
      have e' : c = z ∨ c = TI ∨ c = TO ∨ c = i1 ∨ c = i2 := by simpa using hcm
      rcases e' with q | q | q | q | q
      · rw [q]; exact Heap.lt_size hz
      · rw [q]; exact Heap.lt_size hTI
      · rw [q]; exact Heap.lt_size hTO
      · rw [q]; obtain ⟨o, e1, _⟩ := h1.obj; exact Heap.lt_size e1
      · rw [q]; obtain ⟨o, e1, _⟩ := h2.obj; exact Heap.lt_size e1
    rw [upd_ne (Nat.ne_of_lt (Nat.lt_of_lt_of_le hlt hT))]
    exact (hf c hcm).1
  done := by
    intro X hP hw hK hc i pins s σ H E I hf st hg
    subst hP hw hK
    obtain ⟨hz, hTI, ⟨x0, y0, hTO⟩, ⟨h1, n1, m1⟩, ⟨h2, n2, m2⟩⟩ := st
    obtain ⟨xs, ys, hqx, hqy, hend⟩ := hg
    obtain ⟨its, rv, p, _⟩ := inv_sk I hqx
    obtain ⟨its2, rv2, p2, _⟩ := inv_sk I hqy
    have hza : z ≠ a := obk_ne p hz (ty_ne (by decide)) (ty_ne (by decide))
    have hzb : z ≠ b := obk_ne p2 hz (ty_ne (by decide)) (ty_ne (by decide))
    have hai1 := obk_ne_it p h1
    have hai2 := obk_ne_it p h2
    have hbi1 := obk_ne_it p2 h1
    have hbi2 := obk_ne_it p2 h2
    have D1 := drK (prog := X.prog) (w := X.w) (A := X.A.in1) k1 (I.ok.hd hc) i1 a hai1 its.toArray
    have D2 := drK (prog := X.prog) (w := X.w) (A := X.A.in1) k2 (I.ok.hd hc) i2 b hbi2 its2.toArray
    have SS : ZipSep2 z TI TO i1 i2 [i1, a] [i2, b] := ⟨S.a1, S.a2, S.a3, S.a4, by simp, by simp [S.a6, hza], by simp [S.a8, n1], S.a5, by simp, by simp [S.a7, hzb], by simp [S.a9, n2], by simp [S.a10, hbi1.symm], by simp [S.a10.symm, hai2.symm]⟩
    have G := GoesN.zip2 (elts := elts) (x1 := kk) (pos := tpos) SS D1 D2
    have hl : i = min its.toArray.size its2.toArray.size := by rw [← hend, rv.length, rv2.length]; simp
    subst hl
    exact G.stops s (fun s1 => Inv X pins σ H s1) E ⟨hz, hTI, ⟨x0, y0, hTO⟩, ⟨h1, p⟩, ⟨h2, p2⟩⟩ fun h' tk hk htk => I.turnedL (t' := tk) (ch := [z, TI, TO, i1, i2]) (fun c o hcm q => hk c o (fun m => hcm (by
      simp only [List.mem_cons] at m ⊢
      rcases m with m | m | m | m | m
      · exact .inl m
      · exact .inr (.inr (.inl m))
      · exact .inr (.inr (.inr (.inl m)))
      · exact .inr (.inr (.inr (.inr (.inl m))))
      · cases m)) q) hf
  self := fun A i s Q E st h => wpAny_pyIter_zip st.1 h
end MM

set_option Elab.async false
set_option linter.all false
set_option maxRecDepth 100000
set_option maxHeartbeats 4000000
/-! ## MM: the calls of enumerate and zip -/
namespace MM
open PySem PySem.Spec PyProof.Rows L2
open AutoSeq1 (wpAny_loadPart')
set_option maxHeartbeats 1000000 in
theorem meets_enum1 {v : Value} {o : Obj} {H : Heap → Prop} (B : Begins v o H) :
    Meets (Builtin.«enumerate.__new__» ⟨[.type "enumerate", v], []⟩) (fun _ R s => H s.heap ∧
      R (.ok (.ret (.ref (s.heap.push o).objs.size))) { s with heap := (s.heap.push o).push { cls := .type "enumerate", data := .fields #[.none, .bool false, .ref s.heap.objs.size, rawInt 0, .none, .none] } }) :=
  .of_wp fun prog w A R s h => by
    obtain ⟨hp, g, d, tk, os⟩ := s; obtain ⟨h1, h⟩ := h
    have hsub := sub_enumerate
    have q1 : ∀ {A' : Around} {E : Value → Shared → Prop} {Q : Value → Shared → Prop}, Q (.ref hp.objs.size) ⟨hp.push o, g, d, tk, os⟩ → wpAny (model prog w) A' (pyIter v) Q E ⟨hp, g, d, tk, os⟩ :=
      fun q => B.iter prog w _ _ ⟨hp, g, d, tk, os⟩ _ h1 q
    wp_walk using q1
    refine wpAny_stack_any fun st => wpAny_pure ?_
    split
    · rename_i c _ _ _ _ _
      cases (c == Value.type "enumerate")
      · wp_walk using q1
        exact ⟨_, rfl, h⟩
      · wp_walk using q1
        exact ⟨_, rfl, h⟩
    · wp_walk using q1
      exact ⟨_, rfl, h⟩
theorem call_enum1 {prog : Program} {w : World} {A : Around} {E : Value → Shared → Prop} {s : Shared} {v : Value} {o : Obj} {H : Heap → Prop} {Q : Value → Shared → Prop} (B : Begins v o H) (h1 : H s.heap)
    (h : ∀ h', IsEnum h' (s.heap.objs.size + 1) s.heap.objs.size 0 .none → h'.get? s.heap.objs.size = some o → h'.objs.size = s.heap.objs.size + 2 →
      (∀ b o, s.heap.get? b = some o → h'.get? b = some o) → Q (.ref (s.heap.objs.size + 1)) { s with heap := h' }) :
    wpAny (model prog w) A (call (.type "enumerate") [v]) Q E s := by
  refine callType_new F.called_enumerate (by decide) (F.typeCall_enumerate_1 _) (F.newCall_enumerate_1 _) (fun obj => F.args_object_init_2 obj _) F.entry_enumerate_new
    (meets_enum1 B) ⟨h1, ?_⟩
  have hz : (s.heap.push o).objs.size = s.heap.objs.size + 1 := Heap.size_push ..
  show _ ∧ _
  rw [hz]
  have he : IsEnum ((s.heap.push o).push { cls := .type "enumerate", data := .fields #[.none, .bool false, .ref s.heap.objs.size, rawInt 0, .none, .none] }) (s.heap.objs.size + 1) s.heap.objs.size 0 .none := by
    have := Heap.get?_push_size (s.heap.push o) (o := { cls := .type "enumerate", data := .fields #[.none, .bool false, .ref s.heap.objs.size, rawInt 0, .none, .none] }) rfl
    rw [hz] at this; exact this
  refine ⟨⟨_, he, rfl⟩, h _ he (Heap.get?_push_of_some _ (Heap.get?_push_size _ B.free)) (by rw [Heap.size_push, hz]) fun b o x => Heap.get?_push_of_some _ (Heap.get?_push_of_some _ x)⟩
section
variable {X : Cx} {T : Tbs} {W : WX} {pos p tpos : Pos} {e e2 : Expr} {elts : List Expr} {kk : Nat} {ms : Ev (List MV)}
theorem pi_enumK {ta : TA} (hg : Gl X "enumerate") (hm : X.mg "enumerate" = none) (ha : PA X [e] ta) (hs : starEach [e] X.env = [(false, eval e X.env)] := by rfl) :
    PI X (.Tuple elts kk tpos) (.Call (.Name "enumerate" p) [e] [] pos) (fun σ H R => ta σ H fun vs H1 => ∃ k a xs, vs = [.ref a] ∧ Sk k X.K H1 a xs ∧ R (IteK k X.K a) H1) := by
  refine ⟨fun pins s σ H R I h => ?_⟩
  refine Call_ (ld_blt I hg hm boot_enumerate (PyProof.Rows.callWith_type1 (thn (ha.run pos pins s σ H _ I h) fun us s1 ⟨vs, H1, I1, r1, q1⟩ => ?_) hs rfl))
  obtain ⟨k, a, xs, ex, hq, q⟩ := q1
  subst ex
  cases r1 with
  | cons r rr =>
    cases rr
    cases r
    obtain ⟨its, rv, p', hz⟩ := inv_sk I1 hq
    refine call_enum1 (bgK k a its.toArray) p' fun h' he hit hsz hk => wpAny_pyIter_enum he ?_
    have I2 : Inv X pins σ H1 { s1 with heap := h' } := I1.kept (t' := s1.toks) hk
    refine ⟨s1.heap.objs.size + 1, [s1.heap.objs.size + 1, s1.heap.objs.size], _, _, H1, rfl, I2, turn_enumK k a (s1.heap.objs.size + 1) s1.heap.objs.size, ⟨⟨.none, he⟩, ItK.new hit, Nat.succ_ne_self _⟩, fun b hb => ?_, q⟩
    have e' : b = s1.heap.objs.size + 1 ∨ b = s1.heap.objs.size := by simpa using hb
    have hle : s1.heap.objs.size ≤ b := by
      rcases e' with z | z
      · rw [z]; exact Nat.le_add_right _ _
      · rw [z]; exact Nat.le_refl _
    exact I1.fpOk hle (I1.hok.fresh hle)
theorem pi_zipK {ta : TA} (hg : Gl X "zip") (hm : X.mg "zip" = none) (ha : PA X [e, e2] ta)
    (hs : starEach [e, e2] X.env = (false, eval e X.env) :: starEach [e2] X.env := by rfl) (hpl : (backTo pos (starEach [e2] X.env)).any (·.1) = false := by rfl) :
    PI X (.Tuple elts kk tpos) (.Call (.Name "zip" p) [e, e2] [] pos) (fun σ H R => ta σ H fun vs H1 => ∃ k1 k2 a b xs ys, vs = [.ref a, .ref b] ∧ Sk k1 X.K H1 a xs ∧ Sk k2 X.K H1 b ys ∧ R (ItzK k1 k2 X.K a b) H1) := by
  refine ⟨fun pins s σ H R I h => ?_⟩
  refine Call_ (ld_blt I hg hm PyProof.Rows.boot_zip (PyProof.Rows.callWith_type1 (thn (ha.run pos pins s σ H _ I h) fun us s1 ⟨vs, H1, I1, r1, q1⟩ => ?_) hs hpl))
  obtain ⟨k1, k2, a, b, xs, ys, ex, hqx, hqy, q⟩ := q1
  subst ex
  cases r1 with
  | cons r rr =>
    cases rr with
    | cons r' rr =>
      cases rr
      cases r
      cases r'
      obtain ⟨its, rv, p1, _⟩ := inv_sk I1 hqx
      obtain ⟨its2, rv2, p2, _⟩ := inv_sk I1 hqy
      have la : a < s1.heap.objs.size := by obtain ⟨o, e1, _⟩ := p1.obj; exact Heap.lt_size e1
      have lb : b < s1.heap.objs.size := by obtain ⟨o, e1, _⟩ := p2.obj; exact Heap.lt_size e1
      have fresh5 : ∀ c, c ∈ [s1.heap.objs.size + 4, s1.heap.objs.size + 2, s1.heap.objs.size + 3, s1.heap.objs.size, s1.heap.objs.size + 1] → FpOk X pins H1 c := fun c hcm => by
        have e' : c = s1.heap.objs.size + 4 ∨ c = s1.heap.objs.size + 2 ∨ c = s1.heap.objs.size + 3 ∨ c = s1.heap.objs.size ∨ c = s1.heap.objs.size + 1 := by simpa using hcm
        have hle : s1.heap.objs.size ≤ c := by
          rcases e' with z | z | z | z | z
          · rw [z]; exact Nat.le_add_right _ _
          · rw [z]; exact Nat.le_add_right _ _
          · rw [z]; exact Nat.le_add_right _ _
          · rw [z]; exact Nat.le_refl _
          · rw [z]; exact Nat.le_add_right _ _
        exact I1.fpOk hle (I1.hok.fresh hle)
      generalize hN : s1.heap.objs.size = N at la lb fresh5
      refine zip_begins2 (bgK k1 a its.toArray) (bgK k2 b its2.toArray) p1 p2 fun h' hz hTI hTO h1 h2 hsz hk => wpAny_pyIter_zip hz ?_
      rw [hN] at hz hTI hTO h1 h2 ⊢
      have I2 : Inv X pins σ H1 { s1 with heap := h' } := I1.kept (t' := s1.toks) hk
      have S : Sep5 (N + 4) (N + 2) (N + 3) N (N + 1) := ⟨by show (N + 2 : Nat) ≠ N + 4; omega, by show (N + 3 : Nat) ≠ N + 4; omega, by show (N + 2 : Nat) ≠ N + 3; omega, by show (N + 2 : Nat) ≠ N; omega, by show (N + 2 : Nat) ≠ N + 1; omega, by show (N + 4 : Nat) ≠ N; omega, by show (N + 4 : Nat) ≠ N + 1; omega, by show (N + 3 : Nat) ≠ N; omega, by show (N + 3 : Nat) ≠ N + 1; omega, by show (N : Nat) ≠ N + 1; omega⟩
      exact ⟨N + 4, [N + 4, N + 2, N + 3, N, N + 1], _, _, H1, rfl, I2, turn_zipK S, ⟨hz, hTI, ⟨_, _, hTO⟩, ⟨ItK.new h1, Nat.ne_of_gt (Nat.lt_add_right 3 la), Nat.ne_of_gt (Nat.lt_add_right 2 la)⟩, ⟨ItK.new h2, Nat.ne_of_gt (Nat.lt_add_right 3 lb), Nat.ne_of_gt (Nat.lt_add_right 2 lb)⟩⟩, fresh5, q⟩
end
end MM

set_option Elab.async false
set_option linter.all false
set_option maxRecDepth 100000
set_option maxHeartbeats 4000000
/-! ## MM: loops over enumerate and zip -/
namespace MM
open PySem PySem.Spec PyProof.Rows L2
theorem seq_stays {K : Frag} {T : Tbs} {ι0 : Io} {μ0 : Mem} {H0 : Hp} {d : MV} {v : V} {t : Itm} (s0 : SR K T ι0 μ0 H0) (r : RepV K H0 ι0 d v) (h : itmOf μ0 d = some t) :
    ∃ k a, v = .ref a ∧ (∃ vs, Sk k K H0 a vs) ∧ ∀ ι μ H, ExtW ι0 H0 ι H → SR K T ι μ H → t.ok μ → ∃ vs, Sk k K H a vs ∧ RepL K H ι t.items vs := by
  cases d with
  | tup xs =>
    cases h
    unfold RepV at r
    obtain ⟨a, vs, e1, f, l⟩ := r
    exact ⟨false, a, e1, ⟨vs, f.sq⟩, fun ι μ H E s _ => ⟨vs, (f.ext E).sq, RepL.ext E _ _ l⟩⟩
  | lst xs =>
    cases h
    unfold RepV at r
    obtain ⟨a, vs, e1, f, l⟩ := r
    exact ⟨true, a, e1, ⟨vs, (.inl f.1 : SqL K H0 a vs)⟩, fun ι μ H E s _ => ⟨vs, (.inl (f.ext E).1 : SqL K H a vs), RepL.ext E _ _ l⟩⟩
  | ref j =>
    obtain ⟨xs, hc, rfl⟩ := Option.map_eq_some_iff.mp h
    obtain ⟨a, e1, q1, st⟩ := itl_ref s0 r hc
    exact ⟨true, a, e1, q1, fun ι μ H E s ok => st ι μ H E s (ok (j, xs) (by simp))⟩
  | _ => cases h
def enumL : Nat → List MV → List MV
  | _, [] => []
  | n, x :: xs => .tup [.int (n : Nat), x] :: enumL (n + 1) xs
theorem enumL_len : ∀ (n : Nat) (xs : List MV), (enumL n xs).length = xs.length
  | _, [] => rfl
  | n, x :: xs => by unfold enumL; rw [List.length_cons, List.length_cons, enumL_len]
theorem enumL_get : ∀ (n : Nat) (xs : List MV) (i : Nat), (enumL n xs)[i]? = (xs[i]?).map fun x => .tup [.int ((n + i : Nat) : Nat), x]
  | _, [], i => by simp [enumL]
  | n, x :: xs, 0 => by simp [enumL]
  | n, x :: xs, i + 1 => by
    unfold enumL
    rw [List.getElem?_cons_succ, List.getElem?_cons_succ, enumL_get (n + 1) xs i]
    have : n + 1 + i = n + (i + 1) := by omega
    rw [this]
def zipL (xs ys : List MV) : List MV := List.zipWith (fun a b => MV.tup [a, b]) xs ys
theorem zipL_len (xs ys : List MV) : (zipL xs ys).length = min xs.length ys.length := by unfold zipL; simp
theorem zipL_get {xs ys : List MV} {i : Nat} {d : MV} (h : (zipL xs ys)[i]? = some d) : ∃ a b, xs[i]? = some a ∧ ys[i]? = some b ∧ d = .tup [a, b] := by
  unfold zipL at h
  rw [List.getElem?_zipWith] at h
  cases ha : xs[i]? with
  | none => rw [ha] at h; cases h
  | some a =>
    cases hb : ys[i]? with
    | none => rw [ha, hb] at h; cases h
    | some b => rw [ha, hb] at h; cases h; exact ⟨a, b, rfl, rfl, rfl⟩
def enumOf (μ : Mem) (ds : List MV) : Option Itm := match ds with
  | [d] => (itmOf μ d).map fun t => ⟨enumL 0 t.items, t.chk⟩
  | _ => none
def zipOf (μ : Mem) (ds : List MV) : Option Itm := match ds with
  | [d1, d2] => match itmOf μ d1, itmOf μ d2 with
    | some t1, some t2 => some ⟨zipL t1.items t2.items, t1.chk ++ t2.chk⟩
    | _, _ => none
  | _ => none
def mItA (f : Mem → List MV → Option Itm) (ms : Ev (List MV)) : Ev Itm := mB ms fun ds => fun ρ μ => oO (f μ ds) ρ μ
def mEnum (ms : Ev (List MV)) : Ev Itm := mItA enumOf ms
def mZip (ms : Ev (List MV)) : Ev Itm := mItA zipOf ms
theorem itA {K : Frag} {mg : Gm} {T : Tbs} {W : WX} {ms : Ev (List MV)} {f : Mem → List MV → Option Itm} {R : It → Hp → Prop} {σ : L2.St} {H : Hp} {P : List V → Hp → Prop}
    (hf : ∀ ds vs t μ1 ι1 H1, SR K T ι1 μ1 H1 → f μ1 ds = some t → RepL K H1 ι1 ds vs → (∀ J, ItR K T J t ι1 H1 → R J H1) → P vs H1) (h : tG (RJ K T) K mg T W (mItA f ms) σ H R) : tG (RLs K) K mg T W ms σ H P := by
  obtain ⟨ι, ρ, μ, s, e, h⟩ := h
  refine ⟨ι, ρ, μ, s, e, bindr h fun ds vs μ1 ι1 H1 _ E1 s1 r1 h1 => ?_⟩
  have h1 : Post (RJ K T) K mg T W σ ι1 H1 R (oO (f μ1 ds) ρ μ1) := h1
  cases hd : f μ1 ds with
  | none => rw [hd] at h1; exact h1.elim
  | some t =>
    rw [hd] at h1
    exact hf ds vs t μ1 ι1 H1 s1 hd r1 fun J hJ => h1 J ι1 H1 Ext.refl s1 hJ
section
variable {X : Cx} {T : Tbs} {W : WX} {pos p tpos : Pos} {e e2 : Expr} {elts : List Expr} {kk : Nat} {ms : Ev (List MV)}
theorem sk_inj {K : Frag} {k : Bool} {H : Hp} {a : Addr} {xs : List V} : Sk k K H a xs → Sk k K H a xs := id
theorem RepV.pair {K : Frag} {T : Tbs} {ι : Io} {μ : Mem} {H : Hp} {p : Addr} {d1 d2 : MV} {x y : V} (s : SR K T ι μ H) (h : H p = none) (r1 : RepV K H ι d1 x) (r2 : RepV K H ι d2 y) : RepV K (upd H p (.tup [x, y])) ι (.tup [d1, d2]) (.ref p) :=
  RepV.tup s h (RepL.cons_iff.mpr ⟨x, [y], rfl, r1, RepL.one r2⟩)
theorem ri_enum (hg : Gl X "enumerate") (hm : X.mg "enumerate" = none) (ha : RA X T W [e] ms) (hs : starEach [e] X.env = [(false, eval e X.env)] := by rfl) : RI X T W (.Tuple elts kk tpos) (.Call (.Name "enumerate" p) [e] [] pos) (mEnum ms) :=
  PI.mono (pi_enumK hg hm ha hs) fun σ H R h => itA (fun ds vs t μ1 ι1 H1 s1 hf r kf => by
    unfold enumOf at hf
    split at hf
    · rename_i d
      obtain ⟨t0, h0, rfl⟩ := Option.map_eq_some_iff.mp hf
      obtain ⟨v, rr, rfl, h1, h2⟩ := RepL.cons_iff.mp r
      rw [RepL.nil_iff] at h2; subst h2
      obtain ⟨k, a, rfl, ⟨us, hu⟩, st⟩ := seq_stays s1 h1 h0
      refine ⟨k, a, us, rfl, hu, kf _ fun ι2 μ2 H2 E2 s2 ok => ?_⟩
      obtain ⟨ws, hw, rl⟩ := st ι2 μ2 H2 E2 s2 ok
      refine ⟨fun i d' hi => ?_, ws, hw, by rw [← rl.len]; exact (enumL_len 0 _).symm⟩
      have hi : (enumL 0 t0.items)[i]? = some d' := hi
      rw [enumL_get] at hi
      obtain ⟨d0, hd0, rfl⟩ := Option.map_eq_some_iff.mp hi
      obtain ⟨x, hx, rx⟩ := rl.get hd0
      refine ⟨⟨ws, x, hw, hx⟩, ?_⟩
      rintro v' H' ⟨P, x', rfl, hP, rfl, hx'⟩
      have := hx' ws hw
      rw [hx] at this; cases this
      refine ⟨Ext.laid hP, s2.laid hP, ?_⟩
      rw [Nat.zero_add]
      exact RepV.pair s2 hP RepV.int rx
    · cases hf) h
theorem ri_zip (hg : Gl X "zip") (hm : X.mg "zip" = none) (ha : RA X T W [e, e2] ms) (hs : starEach [e, e2] X.env = (false, eval e X.env) :: starEach [e2] X.env := by rfl) (hpl : (backTo pos (starEach [e2] X.env)).any (·.1) = false := by rfl) :
    RI X T W (.Tuple elts kk tpos) (.Call (.Name "zip" p) [e, e2] [] pos) (mZip ms) :=
  PI.mono (pi_zipK hg hm ha hs hpl) fun σ H R h => itA (fun ds vs t μ1 ι1 H1 s1 hf r kf => by
    unfold zipOf at hf
    split at hf
    · rename_i d1 d2
      split at hf
      · rename_i t1 t2 h01 h02
        cases hf
        obtain ⟨v, rr, rfl, h1, h2⟩ := RepL.cons_iff.mp r
        obtain ⟨v2, rr, rfl, h3, h4⟩ := RepL.cons_iff.mp h2
        rw [RepL.nil_iff] at h4; subst h4
        obtain ⟨k, a, rfl, ⟨us, hu⟩, st⟩ := seq_stays s1 h1 h01
        obtain ⟨k2, a2, rfl, ⟨us2, hu2⟩, st2⟩ := seq_stays s1 h3 h02
        refine ⟨k, k2, a, a2, us, us2, rfl, hu, hu2, kf _ fun ι2 μ2 H2 E2 s2 ok => ?_⟩
        obtain ⟨ws, hw, rl⟩ := st ι2 μ2 H2 E2 s2 fun q hq => ok q (List.mem_append_left _ hq)
        obtain ⟨ws2, hw2, rl2⟩ := st2 ι2 μ2 H2 E2 s2 fun q hq => ok q (List.mem_append_right _ hq)
        refine ⟨fun i d' hi => ?_, ws, ws2, hw, hw2, by rw [← rl.len, ← rl2.len]; exact (zipL_len _ _).symm⟩
        obtain ⟨b1, b2, hb1, hb2, rfl⟩ := zipL_get hi
        obtain ⟨x, hx, rx⟩ := rl.get hb1
        obtain ⟨y, hy, ry⟩ := rl2.get hb2
        refine ⟨⟨ws, ws2, x, y, hw, hw2, hx, hy⟩, ?_⟩
        rintro v' H' ⟨P, x', y', rfl, hP, rfl, hx', hy'⟩
        have := hx' ws hw
        rw [hx] at this; cases this
        have := hy' ws2 hw2
        rw [hy] at this; cases this
        exact ⟨Ext.laid hP, s2.laid hP, RepV.pair s2 hP rx ry⟩
      · cases hf
    · cases hf) h
end
end MM

set_option Elab.async false
set_option linter.all false
set_option maxRecDepth 100000
set_option maxHeartbeats 4000000
/-! ## MM: functions -/
namespace MM
open PySem PySem.Spec PyProof.Rows L2

/-! ### what leaves a function -/
/-- no cell from n on is meant -/
def okN (n : Nat) : MV → Bool
  | .ref i => decide (i < n)
  | .tup xs => okNs n xs
  | .lst xs => okNs n xs
  | _ => true
where okNs (n : Nat) : List MV → Bool
  | [] => true
  | x :: xs => okN n x && okNs n xs
def okC (n : Nat) : Cell → Bool
  | .dead => true
  | .lst xs => okN.okNs n xs
/-- cells from n on become values -/
def frzN (n : Nat) (μ : Mem) : Nat → MV → MV
  | 0, d => d
  | k + 1, .ref i => if i < n then .ref i else (match μ[i]? with
    | some (.lst xs) => .lst (frzNs n μ k xs)
    | _ => .ref i)
  | k + 1, .tup xs => .tup (frzNs n μ k xs)
  | k + 1, .lst xs => .lst (frzNs n μ k xs)
  | _ + 1, d => d
where frzNs (n : Nat) (μ : Mem) (k : Nat) : List MV → List MV
  | [] => []
  | x :: xs => frzN n μ k x :: frzNs n μ k xs
/-- what leaves: all cells of the function's own go, if nothing means them any more -/
def chopO (n : Nat) : Out MV → Out MV
  | .ok d μ => if okN n (frzN n μ 9 d) && (μ.take n).all (okC n) then .ok (frzN n μ 9 d) (μ.take n) else .ok d μ
  | .exc x μ => if (μ.take n).all (okC n) then .exc x (μ.take n) else .exc x μ
  | .bad => .bad
def chopI (n : Nat) (ι : Io) : Io := ⟨ι.cs.take n, ι.hid⟩
section
variable {K : Frag} {T : Tbs} {ι ι' : Io} {μ : Mem} {H H' : Hp} {n : Nat}
theorem chop_own {a : Addr} (h : Own (chopI n ι) a) : Own ι a := h.elim (fun q => .inl (List.mem_of_mem_take q)) .inr
theorem chop_get {i : Nat} (hi : i < n) : (chopI n ι).cs[i]? = ι.cs[i]? := List.getElem?_take_of_lt hi
mutual
theorem RepV.chop : ∀ (d : MV) (v : V), okN n d = true → RepV K H ι d v → RepV K H (chopI n ι) d v
  | .non, _, _, q => q
  | .bl _, _, _, q => q
  | .int _, _, _, q => q
  | .str _, _, _, q => q
  | .cst _, _, _, q => q
  | .scr ns, v, _, q => by
    unfold RepV at q ⊢
    obtain ⟨a, e1, f⟩ := q
    exact ⟨a, e1, f.elim (fun q => .inl ⟨q.1, fun z => q.2 (chop_own z)⟩) .inr⟩
  | .tup xs, v, o, q => by
    unfold RepV at q ⊢
    unfold okN at o
    obtain ⟨a, vs, e1, f, r⟩ := q
    exact ⟨a, vs, e1, f.elim (fun q => .inl ⟨q.1, fun z => q.2 (chop_own z)⟩) .inr, RepL.chop xs vs o r⟩
  | .lst xs, v, o, q => by
    unfold RepV at q ⊢
    unfold okN at o
    obtain ⟨a, vs, e1, f, r⟩ := q
    exact ⟨a, vs, e1, ⟨f.1, fun z => f.2 (chop_own z)⟩, RepL.chop xs vs o r⟩
  | .ref i, v, o, q => by
    unfold RepV at q ⊢
    unfold okN at o
    rw [chop_get (of_decide_eq_true o)]
    exact q
theorem RepL.chop : ∀ (xs : List MV) (vs : List V), okN.okNs n xs = true → RepL K H ι xs vs → RepL K H (chopI n ι) xs vs
  | [], _, _, q => by rw [RepL.nil_iff] at q ⊢; exact q
  | x :: xs, vs, o, q => by
    rw [RepL.cons_iff] at q ⊢
    unfold okN.okNs at o
    rw [Bool.and_eq_true] at o
    obtain ⟨v, r, e1, h1, h2⟩ := q
    exact ⟨v, r, e1, RepV.chop x v o.1 h1, RepL.chop xs r o.2 h2⟩
end
/-- a value with cells from n on made values, seen where these are no cells -/
theorem rep_frz (s : SR K T ι μ H) : ∀ (k : Nat), (∀ (d : MV) (v : V), okN n (frzN n μ k d) = true → RepV K H ι d v → RepV K H (chopI n ι) (frzN n μ k d) v) ∧
    ∀ (xs : List MV) (vs : List V), okN.okNs n (frzN.frzNs n μ k xs) = true → RepL K H ι xs vs → RepL K H (chopI n ι) (frzN.frzNs n μ k xs) vs := by
  intro k
  induction k with
  | zero =>
    have h1 : ∀ (d : MV) (v : V), okN n (frzN n μ 0 d) = true → RepV K H ι d v → RepV K H (chopI n ι) (frzN n μ 0 d) v := fun d v o q => by
      unfold frzN at o ⊢
      exact RepV.chop d v o q
    refine ⟨h1, fun xs => ?_⟩
    induction xs with
    | nil => intro vs _ q; unfold frzN.frzNs; rw [RepL.nil_iff] at q ⊢; exact q
    | cons x xs ih =>
      intro vs o q
      unfold frzN.frzNs at o ⊢
      unfold okN.okNs at o
      rw [Bool.and_eq_true] at o
      rw [RepL.cons_iff] at q ⊢
      obtain ⟨v, r, e1, a1, a2⟩ := q
      exact ⟨v, r, e1, h1 x v o.1 a1, ih r o.2 a2⟩
  | succ k ihk =>
    obtain ⟨i1, i2⟩ := ihk
    have h1 : ∀ (d : MV) (v : V), okN n (frzN n μ (k + 1) d) = true → RepV K H ι d v → RepV K H (chopI n ι) (frzN n μ (k + 1) d) v := fun d v o q => by
      cases d with
      | ref i =>
        unfold frzN at o ⊢
        split at o
        · rename_i hi
          rw [if_pos hi]
          exact RepV.chop (.ref i) v (by unfold okN; exact decide_eq_true hi) q
        · rename_i hi
          rw [if_neg hi]
          split at o
          · rename_i xs hx
            obtain ⟨a, vs, e, hc, ha, l⟩ := s.cel q hx
            subst e
            unfold okN at o
            unfold RepV
            refine ⟨a, vs, rfl, ⟨Rd.of ha, fun z => ?_⟩, i2 xs vs o l⟩
            rcases z with z | z
            · obtain ⟨j, hj⟩ := List.getElem?_of_mem z
              have hjn : j < n := by
                rcases Nat.lt_or_ge j n with y | y
                · exact y
                · have : (ι.cs.take n)[j]? = none := List.getElem?_eq_none (by simp; omega)
                  rw [show (chopI n ι).cs = ι.cs.take n from rfl, this] at hj; cases hj
              rw [chop_get hjn] at hj
              have := s.nd i j a hc hj
              omega
            · exact (s.hid a z).1 (List.mem_of_getElem? hc)
          · unfold okN at o
            exact absurd (of_decide_eq_true o) hi
      | tup xs =>
        unfold frzN at o ⊢
        unfold okN at o
        unfold RepV at q ⊢
        obtain ⟨a, vs, e1, f, r⟩ := q
        exact ⟨a, vs, e1, f.elim (fun q => .inl ⟨q.1, fun z => q.2 (chop_own z)⟩) .inr, i2 xs vs o r⟩
      | lst xs =>
        unfold frzN at o ⊢
        unfold okN at o
        unfold RepV at q ⊢
        obtain ⟨a, vs, e1, f, r⟩ := q
        exact ⟨a, vs, e1, ⟨f.1, fun z => f.2 (chop_own z)⟩, i2 xs vs o r⟩
      | scr ns => unfold frzN; exact RepV.chop _ v (by unfold okN; rfl) q
      | non => unfold frzN; exact RepV.chop _ v (by unfold okN; rfl) q
      | bl b => unfold frzN; exact RepV.chop _ v (by unfold okN; rfl) q
      | int b => unfold frzN; exact RepV.chop _ v (by unfold okN; rfl) q
      | str b => unfold frzN; exact RepV.chop _ v (by unfold okN; rfl) q
      | cst b => unfold frzN; exact RepV.chop _ v (by unfold okN; rfl) q
    refine ⟨h1, fun xs => ?_⟩
    induction xs with
    | nil => intro vs _ q; unfold frzN.frzNs; rw [RepL.nil_iff] at q ⊢; exact q
    | cons x xs ih =>
      intro vs o q
      unfold frzN.frzNs at o ⊢
      unfold okN.okNs at o
      rw [Bool.and_eq_true] at o
      rw [RepL.cons_iff] at q ⊢
      obtain ⟨v, r, e1, a1, a2⟩ := q
      exact ⟨v, r, e1, h1 x v o.1 a1, ih r o.2 a2⟩
theorem SR.chop (s : SR K T ι μ H) (h : (μ.take n).all (okC n) = true) : SR K T (chopI n ι) (μ.take n) H := by
  rw [List.all_eq_true] at h
  have lt : ∀ {i : Nat} {o : Option Addr}, (chopI n ι).cs[i]? = some o → i < n := fun {i o} e => by
    rcases Nat.lt_or_ge i n with y | y
    · exact y
    · have : (ι.cs.take n)[i]? = none := List.getElem?_eq_none (by simp; omega)
      rw [show (chopI n ι).cs = ι.cs.take n from rfl, this] at e; cases e
  refine ⟨by simp [chopI, s.len], fun i j a hi hj => ?_, fun i c hc => ?_, s.tabs, fun a ha => ?_⟩
  · rw [chop_get (lt hi)] at hi
    rw [chop_get (lt hj)] at hj
    exact s.nd i j a hi hj
  · have hin : i < n := by
      rcases Nat.lt_or_ge i n with y | y
      · exact y
      · rw [List.getElem?_eq_none (by simp; omega)] at hc; cases hc
    have hm := h c (List.mem_of_getElem? hc)
    rw [List.getElem?_take_of_lt hin] at hc
    obtain ⟨o, h1, h2⟩ := s.cell i c hc
    refine ⟨o, by rw [chop_get hin]; exact h1, ?_⟩
    cases c with
    | dead => exact h2
    | lst xs =>
      obtain ⟨a, vs, e1, e2, e3⟩ := h2
      exact ⟨a, vs, e1, e2, RepL.chop xs vs hm e3⟩
  · obtain ⟨h1, h2⟩ := s.hid a ha
    exact ⟨fun z => h1 (List.mem_of_mem_take z), h2⟩
theorem Ext.chop (e : Ext ι H ι' H') (h : ι.cs.length = n) : Ext ι H (chopI n ι') H' :=
  ⟨by simp [chopI]; have := e.len; omega, fun i hi => by rw [chop_get (by omega)]; exact e.sub i hi, e.hid, fun a q => e.own a (chop_own q), e.keep, e.hkeep⟩
end

/-- what a call promises -/
def PostF (K : Frag) (mg : Gm) (T : Tbs) (ι : Io) (H : Hp) (Q : VK) (E : XK) : Out MV → Prop
  | .ok d μ' => ∀ v ι' H', Ext ι H ι' H' → SR K T ι' μ' H' → RepV K H' ι' d v → Q v H'
  | .exc x μ' => ∀ cls dd ι' H', Ext ι H ι' H' → SR K T ι' μ' H' → ExcRep mg x cls dd → E cls dd H'
  | .bad => False
theorem PostF.chop {K : Frag} {mg : Gm} {T : Tbs} {ι : Io} {H : Hp} {Q : VK} {E : XK} {n : Nat} {o : Out MV} (h : PostF K mg T ι H Q E (chopO n o)) (hn : ι.cs.length = n) : PostF K mg T ι H Q E o := by
  cases o with
  | ok d μ =>
    dsimp only [chopO] at h
    split at h
    · rename_i hc
      rw [Bool.and_eq_true] at hc
      exact fun v ι' H' e s r => h v _ H' (e.chop hn) (s.chop hc.2) ((rep_frz s 9).1 d v hc.1 r)
    · exact h
  | exc x μ =>
    dsimp only [chopO] at h
    split at h
    · rename_i hc
      exact fun cls dd ι' H' e s r => h cls dd _ H' (e.chop hn) (s.chop hc) r
    · exact h
  | bad => exact h
abbrev FM := List MV → Mem → Out MV
def spM (K : Frag) (mg : Gm) (T : Tbs) (n : Nat) (F : FM) : Sp := fun vs H Q E => ∃ ι μ ds, SR K T ι μ H ∧ RepL K H ι ds vs ∧ ds.length = n ∧ PostF K mg T ι H Q E (F ds μ)
/-- a function that is F -/
structure FnG (P : Program) (w : World) (K : Frag) (mg : Gm) (base : Heap) (T : Tbs) (k : Nat) (f : Addr) (fd : FuncData) (ps : List Str) (F : FM) : Prop where
  run : ∀ (A : Around) (outer : List PySem.Env) (s : Shared) (H : Hp) (args : Args) (us : List Value) (vs : List V) (Q : VK) (E : XK), Room k A → A.guards = some [] → Env0 P w K mg base A outer s H → BindsTo s fd args (ps.zip us) → Vals vs us → spM K mg T ps.length F vs H Q E →
    codeAny (model P w) A (.call (.ref f) args) (CR (L2N.CX P w) outer P w H s Q E) s
def envS (N : List Str) (ds : List MV) : Env := ds.map some ++ List.replicate (N.length - ds.length) none
def outS : SOut → Out MV
  | .nx _ μ => .ok .non μ
  | .rt d μ => .ok d μ
  | .exc x μ => .exc x μ
  | _ => .bad
/-- a def's own -/
def runF (N : List Str) (b : SM) : FM := fun ds μ => outS (b (envS N ds) μ)
/-- .. without what it made -/
def runC (N : List Str) (b : SM) : FM := fun ds μ => chopO μ.length (outS (b (envS N ds) μ))
theorem envS_start {K : Frag} {H : Hp} {ι : Io} {N : List Str} {ds : List MV} {vs : List V} (r : RepL K H ι ds vs) : EnvR K H ι (envS N ds) (L2.start N vs) := by
  have hl := r.len
  refine ⟨by simp [envS, L2.start, hl], fun i d h => ?_⟩
  unfold envS at h
  unfold L2.start
  rcases Nat.lt_or_ge i ds.length with hi | hi
  · rw [List.getElem?_append_left (by simpa using hi)] at h
    rw [List.getElem?_append_left (by simpa [← hl] using hi)]
    rw [List.getElem?_map] at h ⊢
    cases hd : ds[i]? with
    | none => rw [hd] at h; cases h
    | some d0 =>
      rw [hd] at h
      cases h
      obtain ⟨v, hv, rv⟩ := r.get hd
      exact ⟨v, by rw [hv]; rfl, rv⟩
  · rw [List.getElem?_append_right (by simpa using hi)] at h
    have := List.mem_of_getElem? h
    rw [List.mem_replicate] at this
    cases this.2
abbrev wE (E : XK) : WX := fun cls d _ H => E cls d H
section
variable {P : Program} {w : World} {K : Frag} {mg : Gm} {base : Heap} {T : Tbs} {k : Nat} {f : Addr} {name qual : Str} {params : Arguments} {body : List Stmt} {scope : Scope} {dV kV doc pm cdv ct oc : Value} {an od : Option Addr} {osl : Array (Option Value)} {N ps : List Str} {b : SM}
theorem post_of {ι : Io} {H : Hp} {Q : VK} {E : XK} {o : SOut} (h : PostF K mg T ι H Q E (outS o)) : SPost K mg T (wE E) ι H { nx := fun _ H' => Q .non H', rt := Q } o := by
  cases o with
  | nx ρ μ => exact fun σ' ι' H' e s r => h .non ι' H' e s RepV.non
  | rt d μ => exact fun v ι' H' e s r => h v ι' H' e s r
  | bk ρ μ => exact h.elim
  | ct ρ μ => exact h.elim
  | exc x μ => exact fun cls dd σ' ι' H' e s r => h cls dd ι' H' e s r
  | bad => exact h
theorem FnG.mk' (lk : K.lookup f = some ⟨oc, od, .func (PySem.W.fnOf name qual params body scope dV kV doc pm an cdv ct), osl⟩) (hcd : PySem.W.codeIn K cdv qual = true) (S : FnScope N ps scope)
    (hb : ∀ (A : Around) (outer : List PySem.Env) (s : Shared) (H : Hp) (E : XK), Room k (A.deeper (envOfC qual scope s.heap.objs.size f cdv)) → A.guards = some [] → RSs (cxOf (L2N.CX P w) P w K mg base N qual scope f cdv A outer s H E) T (wE E) body b) :
    FnG P w K mg base T (k + 1) f (PySem.W.fnOf name qual params body scope dV kV doc pm an cdv ct) ps (runF N b) :=
  ⟨fun A outer s H args us vs Q E hr hg e0 hbt r ⟨ι, μ, ds, sr, rl, hl, h⟩ => by
    refine LamX.run_ofS lk hcd S hr e0 hbt r (by rw [← rl.len, hl]) fun hr' => ⟨_, hb A outer s H E hr' hg, ι, envS N ds, μ, sr, envS_start rl, post_of h⟩⟩
/-- the same, chopped -/
theorem FnG.chop {fd : FuncData} (F : FnG P w K mg base T k f fd ps (runF N b)) : FnG P w K mg base T k f fd ps (runC N b) :=
  ⟨fun A outer s H args us vs Q E hr hg e0 hbt r ⟨ι, μ, ds, sr, rl, hl, h⟩ => F.run A outer s H args us vs Q E hr hg e0 hbt r ⟨ι, μ, ds, sr, rl, hl, PostF.chop h sr.len⟩⟩
theorem FnG.mono {fd : FuncData} {F : FM} {j : Nat} (G : FnG P w K mg base T k f fd ps F) (h : k ≤ j) : FnG P w K mg base T j f fd ps F :=
  ⟨fun A outer s H args us vs Q E hr => G.run A outer s H args us vs Q E (hr.mono h)⟩
end
end MM

set_option Elab.async false
set_option linter.all false
set_option maxRecDepth 100000
set_option maxHeartbeats 4000000
/-! ## MM: calls of functions -/
namespace MM
open PySem PySem.Spec PyProof.Rows L2
def mCall (n : Nat) (F : FM) (ms : Ev (List MV)) : Ev MV := mB ms fun ds => fun _ μ => if ds.length = n then F ds μ else .bad
theorem postF_of {K : Frag} {mg : Gm} {T : Tbs} {W : WX} {σ : L2.St} {ι : Io} {H : Hp} {Q : VK} {o : Out MV} (h : Post (RV K) K mg T W σ ι H Q o) : PostF K mg T ι H Q (fun cls d H' => W cls d σ H') o := by
  cases o with
  | ok d μ => exact h
  | exc x μ => exact h
  | bad => exact h
/-- the arguments are as the callee wants them -/
theorem call_args {K : Frag} {mg : Gm} {T : Tbs} {W : WX} {n : Nat} {F : FM} {ms : Ev (List MV)} {σ : L2.St} {H : Hp} {Q : VK} (h : tG (RV K) K mg T W (mCall n F ms) σ H Q) :
    tG (RLs K) K mg T W ms σ H fun vs H1 => vs.length = n ∧ spM K mg T n F vs H1 Q fun cls d H' => W cls d σ H' := by
  obtain ⟨ι, ρ, μ, s, e, h⟩ := h
  refine ⟨ι, ρ, μ, s, e, bindr h fun ds vs μ1 ι1 H1 _ E1 s1 r1 h1 => ?_⟩
  have h1 : Post (RV K) K mg T W σ ι1 H1 Q (if ds.length = n then F ds μ1 else .bad) := h1
  split at h1
  · rename_i hl
    exact ⟨by rw [← RepL.len r1, hl], ι1, μ1, ds, s1, r1, hl, postF_of h1⟩
  · exact h1.elim
section
variable {X : Cx} {T : Tbs} {W : WX} {k : Nat} {f : Addr} {fd : FuncData} {ps : List Str} {F : FM} {x : Str} {p pos : Pos} {e : Expr} {es : List Expr} {ms : Ev (List MV)}
theorem run_G {pins : List (Addr × Obj)} {σ : L2.St} {H : Hp} {s : Shared} {Q : VK} {us : List Value} {vs : List V} (G : FnG X.prog X.w X.K X.mg X.base T k f fd ps F) (hr : Room k X.A) (hgd : X.A.guards = some []) (hb : L2.Binds X.K fd ps []) (tk : L2N.Takes X W)
    (I : Inv X pins σ H s) (r : Vals vs us) (hl : vs.length = ps.length) (h : spM X.K X.mg T ps.length F vs H Q fun cls d H' => W cls d σ H') : wpAny (model X.prog X.w) X.A (call (.ref f) us) (EP X pins σ Q) X.xe s := by
  have hlu : us.length = ps.length := by rw [← r.length]; exact hl
  have b2 := hb s us I.kIn (by rw [List.append_nil]; exact hlu)
  rw [List.append_nil] at b2
  refine wpAny_call (codeAny_mono (G.run X.A X.stack s H ⟨us, []⟩ us vs Q _ hr hgd I.env0 b2 r h) fun r s' hq => ?_)
  cases r with
  | error e => exact tk e s' (L2N.XE.of_call I (fun _ _ _ h => h) hq)
  | ok fl =>
    cases fl with
    | ret u => exact I.after hq
    | next => exact False.elim hq
    | brk => exact False.elim hq
    | cont => exact False.elim hq
theorem re_call (G : FnG X.prog X.w X.K X.mg X.base T k f fd ps F) (hr : Room k X.A) (hgd : X.A.guards = some []) (hg : Gl X x) (hm : X.mg x = some (.ref f)) (hk : PySem.W.keepIn X.K (.ref f) = true) (hb : L2.Binds X.K fd ps []) (tk : L2N.Takes X W)
    (ha : RA X T W (e :: es) ms) (hdb : (x == ("__debug__" : Str)) = false := by decide) (he : starEach (e :: es) X.env = (false, eval e X.env) :: starEach es X.env := by rfl) (hpl : (backTo pos (starEach es X.env)).any (·.1) = false := by rfl) :
    RE X T W (.Call (.Name x p) (e :: es) [] pos) (mCall ps.length F ms) := by
  refine ⟨fun pins s σ H Q I h => ?_⟩
  refine wpAny_Call_Name_kw (ld_glob I hg hm ?_ hdb)
  refine PySem.W.callWith_K (h₀ := X.base) I.ok.mod.kin hk (thn (ha.run pos pins s σ H _ I (call_args h)) fun us s1 ⟨vs, H1, I1, r, q1, q2⟩ => ⟨I1.kIn, ?_⟩) he hpl
  exact run_G G hr hgd hb tk I1 r q1 q2
end
end MM

set_option Elab.async false
set_option linter.all false
set_option maxRecDepth 100000
set_option maxHeartbeats 4000000
/-! ## MM: a comprehension over a range while an exception is handled -/
namespace MM
open PySem PySem.Spec PyProof.Rows L2
/-- X handles the exception at x1, whose record stays -/
def HotP (X : Cx) (q : Addr × Obj) : Prop := L2H.Hot1 X.A q ∧ q ∈ X.pn
section
variable {X : Cx} {q : Addr × Obj} {pins : List (Addr × Obj)} {σ : L2.St} {H : Hp} {s : Shared}
theorem HotP.at_ (c : HotP X q) (J : Inv X pins σ H s) : HotX.HotAt X.A q.1 s.heap := by
  obtain ⟨⟨hh, v1, e1, c1⟩, hp⟩ := c
  exact ⟨hh, q.2, v1, (J.pin q (List.mem_append_left _ hp)).1, e1, c1⟩
/-- a range of small bounds, walked -/
def iHot (ta : TA) : L2.St → Hp → (Nat → Hp → Prop) → Prop := fun σ H R => ta σ H fun vs H1 => ∃ j : Int, vs = [.int j] ∧ -(2 ^ 62) ≤ j ∧ j < 2 ^ 62 ∧ R j.toNat H1
def PIR (X : Cx) (iter : Expr) (wi : L2.St → Hp → (Nat → Hp → Prop) → Prop) : Prop :=
  ∀ (pins : List (Addr × Obj)) (s : Shared) (σ : L2.St) (H : Hp) (R : Nat → Hp → Prop), Inv X pins σ H s → wi σ H R →
    wpAny (model X.prog X.w) X.A (eval iter X.env) (fun v s1 => wpAny (model X.prog X.w) X.A (pyIter v) (fun itv s2 => ∃ (it : Addr) (n : Nat) (H' : Hp), itv = .ref it ∧ Inv X pins σ H' s2 ∧ IsRangeIter s2.heap it 0 n 1 ∧ FpOk X pins H' it ∧ R n H') X.xe s1) X.xe s
theorem pir_range {a : Expr} {ta : TA} {p pos : Pos} (hg : Gl X "range") (hm : X.mg "range" = none) (ha : PA X [a] ta) (hs : starEach [a] X.env = [(false, eval a X.env)] := by rfl) : PIR X (.Call (.Name "range" p) [a] [] pos) (iHot ta) := by
  intro pins s σ H R J h
  refine Call_ (ld_blt J hg hm boot_range (PyProof.Rows.callWith_type1 (thn (ha.run pos pins s σ H _ J h) fun us s1 ⟨vs, H1, J1, r1, q1⟩ => ?_) hs rfl))
  obtain ⟨j, e, b1, b2, q⟩ := q1
  subst e
  cases r1 with
  | cons r rr =>
    cases rr
    obtain ⟨t, rfl⟩ := r
    refine call_range_1 (wpAny_pyIter_range (IsRange.new ..) (small_one (by omega) (by omega) b1 b2) ?_)
    generalize hR : ({ cls := .type "range", data := .fields #[.int 0 _, .int j _, .int 1 _] } : Obj) = orng
    have J2 : Inv X pins σ H1 { s1 with heap := s1.heap.push orng } := J1.kept (t' := s1.toks) fun b o e => Heap.get?_push_of_some _ e
    refine ⟨_, j.toNat, H1, rfl, J2.kept fun b o e => Heap.get?_push_of_some _ e, ?_, J2.fpOk (Nat.le_refl _) (J2.hok.fresh (Nat.le_refl _)), q⟩
    have e2 : ((j.toNat : Nat) : Int) = Builtin.Range.rangeSize 0 j 1 := by rw [rangeSize_one]; split <;> omega
    rw [e2]
    exact Heap.get?_push_size _ rfl
/-- the next number, the end -/
theorem hot_item {x1 it : Addr} {i n : Nat} {A : Around} {P : Program} {w : World} {tg : Expr} {E : Value → Shared → Prop} (J : Inv X pins σ H s) (hf : FpOk X pins H it) (st : IsRangeIter s.heap it ((i : Nat) : Int) ((n : Int) - (i : Nat)) 1) (hi : i < n) :
    wpAny (model X.prog X.w) X.A (pyNext (.ref it)) (fun r s1 => ∃ u, r = some u ∧
      wpAny (model X.prog X.w) X.A (letOwnedTupleGo tg (.ref it) u) (fun _ s2 => Inv X pins σ H s2 ∧ RelV (.int ((i : Nat) : Int)) u ∧ IsRangeIter s2.heap it ((i + 1 : Nat) : Int) ((n : Int) - (i + 1 : Nat)) 1) E s1) E s := by
  obtain ⟨f0, f1, f2, f3, f4, f5⟩ := hf
  refine wpAny_pyNext_range_item st (by omega) fun h' st' sb => ?_
  have st2 : IsRangeIter h' it ((i + 1 : Nat) : Int) ((n : Int) - ((i + 1 : Nat) : Int)) 1 := by
    have e1 : ((i : Nat) : Int) + 1 = ((i + 1 : Nat) : Int) := by omega
    have e2 : (n : Int) - ((i : Nat) : Int) - 1 = (n : Int) - ((i + 1 : Nat) : Int) := by omega
    rw [e1, e2] at st'
    exact st'
  have J1 : Inv X pins σ H { s with heap := h', toks := s.toks + 1 } := J.turned (fun b o hb e => (sb.2 b hb).trans e) f0 f1 f3 f4 f5
  exact ⟨_, rfl, go_of (s := { s with heap := h', toks := s.toks + 1 }) (n := "range_iterator") st2 rfl rfl (by decide) ⟨J1, ⟨s.toks, rfl⟩, st2⟩⟩
theorem hot_done {x1 it : Addr} {i n : Nat} {E : Value → Shared → Prop} (hot : HotX.HotAt X.A x1 s.heap) (J : Inv X pins σ H s) (hf : FpOk X pins H it) (st : IsRangeIter s.heap it ((i : Nat) : Int) ((n : Int) - (i : Nat)) 1) (hi : n ≤ i) :
    wpAny (model X.prog X.w) X.A (pyNext (.ref it)) (fun r s1 => r = none ∧ Inv X pins σ H s1) E s := by
  obtain ⟨f0, f1, f2, f3, f4, f5⟩ := hf
  exact HotX.pyNext_range_end_hot hot st (by omega) fun h' eb => ⟨rfl, J.turned (t' := s.toks) (fun b o _ e => eb b o e) f0 f1 f3 f4 f5⟩
/-- the comprehension's own walk: own copies of what stands in the calm one, for a handled exception -/
theorem hot_core {Q : VK} {elt tg iter : Expr} {ifs : List Expr} {scope : Scope} {own : List (Str × Nat)} {pos pos' : Pos} {wi : L2.St → Hp → (Nat → Hp → Prop) → Prop} {g : TG} {tt : TT} {te : TE} {use : Option (Value → Sem Unit)} {Qf : Value → Shared → Prop}
    (hot : HotP X q) (hN : X.N.Nodup) (J0 : Inv X pins σ H s) (hi : PIR X iter wi) (ok : BlkOk X.N X.env.scope scope own)
    (gB : ∀ (s : Shared) (H : Hp) (C : Addr) (cl : List (Str × Addr)) (fp : List Addr), PG (X.blk s H scope (compEnvC scope cl C X.env) fp) tg g) (tB : ∀ (s : Shared) (H : Hp) (C : Addr) (cl : List (Str × Addr)) (fp : List Addr), PTs (X.blk s H scope (compEnvC scope cl C X.env) fp) ifs tt)
    (eB : ∀ (s : Shared) (H : Hp) (C : Addr) (cl : List (Str × Addr)) (fp : List Addr), PE (X.blk s H scope (compEnvC scope cl C X.env) fp) elt te) (hs : ∀ x, foldedSetIterable iter X.env x = pure x)
    (want : wi σ H fun n H1 => ∀ D, H1 D = none → ∃ W : Nat → Nat → Hp → Prop, (∃ m, W 0 m (upd H1 D (.lst []))) ∧ ∀ i m H, W i m H →
      ((Itr 0 n).stop i H ∧ Q (.ref D) H) ∨ ((Itr 0 n).go i H ∧ ∃ Nx : Hp → Prop, (∀ H', Nx H' → ∃ m', m' < m ∧ W (i + 1) m' H') ∧ ∀ x H', (Itr 0 n).yld i H x H' → g x (L2.wipe σ (own.map (·.2))) H' fun σ2 H2 => L2.wipe σ2 (own.map (·.2)) = L2.wipe σ (own.map (·.2)) ∧ tt σ2 H2 fun b H3 =>
        if b = true then te σ2 H3 fun y H4 => ∃ acc, H4 D = some (.lst acc) ∧ acc.length < sizeLine ∧ Nx (upd H4 D (.lst (acc ++ [y]))) else Nx H3))
    (back : ∀ D C s' m H', Inv X pins σ H' s' → Q (.ref D) H' → s'.heap.Ns C m → FpOk X pins H' C → compPost (model X.prog X.w) X.A X.xe use Qf (.ref D) C (.ok .next) s') :
    wpAny (model X.prog X.w) X.A (comprehension (.ListComp elt [⟨tg, iter, ifs, 0⟩] scope pos) scope X.env pos' (newList []) false (eval iter X.env) use) Qf X.xe s := by
  have frees : ∀ y ∈ scope.names, y.2 = .free → ∃ c, X.env.cells.lookup y.1 = some c := fun y hy e =>
    (ok.free y hy e).elim (fun z => J0.ok.has _ (.inl z)) fun z => J0.ok.has _ (.inr z)
  refine wpAny_comprehension_free (use := use) rfl hs (closure_ok frees) ok.kind (fun y hy e => by rw [ok.uniq y hy, e])
    (thn (hi pins s σ H _ J0 want) fun _ sA hA => thn hA fun itv sB hB => ?_)
  obtain ⟨it, n, HB, e, JB, stB, fB, turnF⟩ := hB
  subst e
  refine wpAny_newObj_type (newEnv_comp ?_) (by show 0 ≤ sizeLine; decide)
  generalize hD : sB.heap.objs.size = D
  have freeD : HB D = none := JB.hok.fresh (Nat.le_of_eq hD)
  obtain ⟨W, ⟨mA, wA⟩, turn⟩ := turnF D freeD
  generalize hsC : ({ sB with heap := sB.heap.push { cls := .type "list", data := .seq ([] : List Value).toArray } } : Shared) = sC
  have heapC : sC.heap = sB.heap.push { cls := .type "list", data := .seq ([] : List Value).toArray } := by rw [← hsC]
  have JC : Inv X pins σ (upd HB D (.lst [])) sC := by
    rw [← hsC]
    refine JB.laid (t' := sB.toks) (fun b o z => Heap.get?_push_of_some _ z) (Nat.le_of_eq hD) ⟨Nat.zero_le _, [], 0, .nil, ?_⟩
    rw [← hD]
    exact Heap.get?_push_size _ rfl
  have itlt : it < sB.heap.objs.size := Heap.lt_size stB
  have fC : FpOk X pins (upd HB D (.lst [])) it ∧ it < sC.heap.objs.size := by
    refine ⟨⟨?_, fB.2⟩, by rw [heapC, Heap.size_push]; exact Nat.lt_succ_of_lt itlt⟩
    rw [upd_ne (by rw [← hD]; exact Nat.ne_of_lt itlt)]
    exact fB.1
  have fC' : ∀ b ∈ [it], FpOk X pins (upd HB D (.lst [])) b ∧ b < sC.heap.objs.size := fun b hb => by
    rw [List.mem_singleton.mp hb]
    exact fC
  have stC : IsRangeIter sC.heap it 0 n 1 := by
    rw [heapC]
    exact Heap.get?_push_of_some _ stB
  have JD := block_start JC ok hN fC'
  have pg := gB sC (upd HB D (.lst [])) sC.heap.objs.size (cellsFrom (sC.heap.objs.size + 1) scope.names (cloFrom X.env.cells scope.names [])) [it]
  have pt := tB sC (upd HB D (.lst [])) sC.heap.objs.size (cellsFrom (sC.heap.objs.size + 1) scope.names (cloFrom X.env.cells scope.names [])) [it]
  have pe := eB sC (upd HB D (.lst [])) sC.heap.objs.size (cellsFrom (sC.heap.objs.size + 1) scope.names (cloFrom X.env.cells scope.names [])) [it]
  show codeAny _ _ (.compStart (.ListComp elt [⟨tg, iter, ifs, 0⟩] scope pos) 0 (.ref it) (.ref D) (compEnvC scope (cellsFrom (sC.heap.objs.size + 1) scope.names (cloFrom X.env.cells scope.names [])) sC.heap.objs.size X.env)) (compPost (model X.prog X.w) X.A X.xe use Qf (.ref D) sC.heap.objs.size) { sC with heap := pushCells (sC.heap.push { cls := .type "dict", data := .dict #[] }) scope.names }
  have itC : (upd HB D (.lst [])) it = none := fC.1.1
  have pinq := JC.pin q (List.mem_append_left _ hot.2)
  generalize hcE : compEnvC scope (cellsFrom (sC.heap.objs.size + 1) scope.names (cloFrom X.env.cells scope.names [])) sC.heap.objs.size X.env = cE at JD pg pt pe ⊢
  have locE : cE.locals = sC.heap.objs.size := by subst hcE; rfl
  generalize hHC : upd HB D (.lst []) = HC at JC JD pg pt pe wA itC fC fC' pinq
  generalize hsD : ({ sC with heap := pushCells (sC.heap.push { cls := .type "dict", data := .dict #[] }) scope.names } : Shared) = sD at JD ⊢
  have stD : IsRangeIter sD.heap it 0 n 1 := by
    rw [← hsD]
    exact pushCells_keeps _ _ _ _ (Heap.get?_push_of_some _ stC)
  have fpB : ∀ {σ' : L2.St} {H' : Hp} {s' : Shared}, Inv (X.blk sC HC scope cE [it]) [] σ' H' s' → H' it = none → FpOk (X.blk sC HC scope cE [it]) [] H' it := fun {σ' H' s'} J' z =>
    ⟨z, (J'.ok.exf it (by simp)).1, J'.ok.exfs it (by simp), .inl (by simp), fun x c e => (J'.ok.exf it (by simp)).2 x c e, fun p hp => absurd (show p ∈ ([] : List (Addr × Obj)) ++ [] from hp) (by simp)⟩
  have itq : q.1 ≠ it := fC.1.2.2.2.2.2 q (List.mem_append_left _ hot.2)
  have hotB : ∀ {σ' : L2.St} {H' : Hp} {s' : Shared}, Inv (X.blk sC HC scope cE [it]) [] σ' H' s' → HotX.HotAt X.A q.1 s'.heap := fun {σ' H' s'} J' => by
    obtain ⟨⟨hh, v1, e1, c1⟩, _⟩ := hot
    obtain ⟨a1, a2, a3, a4, _⟩ := pinq
    exact ⟨hh, q.2, v1, J'.base.keep q.1 q.2 a1 a2 (fun z => (List.mem_cons.mp (JC.stkSub q.1 z)).elim a3 a4) (fun z => itq (List.mem_singleton.mp z)), e1, c1⟩
  have loop : codeAny (model X.prog X.w) X.A (.compLoop (.ListComp elt [⟨tg, iter, ifs, 0⟩] scope pos) 0 (.ref it) (.ref D) cE) (compPost (model X.prog X.w) X.A X.xe use Qf (.ref D) sC.heap.objs.size) sD := by
    refine compLoop_any (fun k s' => ∃ i H', Inv (X.blk sC HC scope cE [it]) [] (L2.wipe σ (own.map (·.2))) H' s' ∧ IsRangeIter s'.heap it ((i : Nat) : Int) ((n : Int) - (i : Nat)) 1 ∧ H' it = none ∧ W i k H') ?_ mA ⟨0, HC, JD, by simpa using stD, itC, wA⟩
    rintro k sE ⟨i, HE, JE, stE, nE, wE'⟩
    rcases turn i k HE wE' with ⟨stop, qq⟩ | ⟨go, Nx, goes, step⟩
    · refine thnF (hot_done (X := X.blk sC HC scope cE [it]) (hotB JE) JE (fpB JE nE) stE stop) fun r sF ⟨hr, JF⟩ => ?_
      subst hr
      have JG : Inv X pins σ HE sF := JC.call' (ch := [it]) JF.os JF.base JF.hok JF.bare fun b hb => ⟨(fC' b hb).1.2.2.2.1, (fC' b hb).1.2.1, (fC' b hb).1.2.2.2.2.1, (fC' b hb).1.2.2.2.2.2⟩
      have nC : HE sC.heap.objs.size = none := by
        have z : HE cE.locals = none := JF.free
        rw [locE] at z
        exact z
      obtain ⟨m, hn, _⟩ := JF.loc
      have hn : sF.heap.Ns cE.locals m := hn
      rw [locE] at hn
      exact back D sC.heap.objs.size sF m HE JG qq hn (JC.fpOk (Nat.le_refl _) nC)
    · refine thnF (hot_item (X := X.blk sC HC scope cE [it]) (tg := tg) (x1 := q.1) (A := X.A) (P := X.prog) (w := X.w) JE (fpB JE nE) stE go) fun r sF ⟨u, hr, hF⟩ => ?_
      subst hr
      refine thnF hF fun _ sG ⟨JG, rG, stG⟩ => ?_
      have objs : ∀ b ∈ [it], ∃ o, sG.heap.get? b = some o ∧ ∀ v, o.data ≠ .cell v := fun b hb => by
        rw [List.mem_singleton.mp hb]
        exact ⟨_, stG, fun v z => by cases z⟩
      have JG' := JG.pinned (fun b hb => by rw [List.mem_singleton.mp hb]; exact fpB JG nE) objs
      refine thnF (pg.run _ sG _ HE (.int ((i : Nat) : Int)) u _ JG' rG (step (.int ((i : Nat) : Int)) HE ⟨rfl, by rw [Int.zero_add]⟩)) fun _ sI ⟨σI, HI, JI, hwI, qI⟩ => ?_
      refine thnF (pt.run _ sI σI HI _ JI qI) fun b sK ⟨HK, JK, qK⟩ => ?_
      have fin : ∀ {s' : Shared} {H' : Hp}, Inv (X.blk sC HC scope cE [it]) ([] ++ pinsAt [it] sG.heap) σI H' s' → Nx H' → ∃ m, m < k ∧ ∃ i H', Inv (X.blk sC HC scope cE [it]) [] (L2.wipe σ (own.map (·.2))) H' s' ∧ IsRangeIter s'.heap it ((i : Nat) : Int) ((n : Int) - (i : Nat)) 1 ∧ H' it = none ∧ W i m H' := fun {s' H'} J' nx => by
        obtain ⟨m', hm, w'⟩ := goes H' nx
        have pz := J'.pin (it, _) (List.mem_append_right _ (List.mem_append_right _ (mem_pinsAt (fp := [it]) (by simp) stG)))
        have hl : (L2.wipe σ (own.map (·.2))).length = σI.length := by rw [← hwI, wipe_length]
        refine ⟨m', hm, i + 1, H', (J'.unpinned (pins := [])).weak hl (fun j v e => ?_), pz.1, pz.2.1, w'⟩
        rw [← hwI] at e
        exact (wipe_some e).1
      cases b with
      | false =>
        simp only [Bool.false_eq_true, if_false] at qK ⊢
        exact fin JK qK
      | true =>
        simp only [if_true] at qK ⊢
        refine thnF (pe.run _ sK σI HK _ JK qK) fun z sL ⟨yv, HL, JL, rL, acc, hDL, hzL, nx⟩ => ?_
        exact app_ok (X := X.blk sC HC scope cE [it]) JL hDL hzL rL fun sM JM => fin JM nx
  exact codeAny_compStart_list loop (wpAny_pyIter_rangeiter stD loop)
end
end MM

set_option Elab.async false
set_option linter.all false
set_option maxRecDepth 100000
set_option maxHeartbeats 4000000
/-! ## MM: lambdas without parameters, called by their name -/
namespace MM
open PySem PySem.Spec PyProof.Rows L2
/-- the names of a lambda's body among the slots of who made it -/
structure LamP (sc scope : Scope) (N N' : List Str) : Prop where
  kind : scope.kind = .function
  co : scope.isCoroutine = false
  gen : scope.isGenerator = false
  cell : ∀ y ∈ scope.names, y.2 ≠ .cell
  own : ∀ y ∈ scope.names, y.2 = .local → y.1 ∉ N'
  free : ∀ y ∈ scope.names, y.2 = .free → sc.names.lookup y.1 = some .cell ∨ sc.names.lookup y.1 = some .free
  len : N'.length = N.length
  same : ∀ (i : Nat) (y : Str), N'[i]? = some y → scope.names.lookup y = some .free → N[i]? = some y
def lamPB (sc scope : Scope) (N N' : List Str) : Bool :=
  decide (scope.kind = .function) && !scope.isCoroutine && !scope.isGenerator && (scope.names.all fun y => !decide (y.2 = .cell) && (!decide (y.2 = .local) || decide (y.1 ∉ N')) && (!decide (y.2 = .free) || decide (sc.names.lookup y.1 = some .cell) || decide (sc.names.lookup y.1 = some .free))) &&
    decide (N'.length = N.length) && ((List.range N'.length).all fun i => match N'[i]? with
      | some y => !decide (scope.names.lookup y = some .free) || decide (N[i]? = some y)
      | none => true)
theorem lamP_by {sc scope : Scope} {N N' : List Str} (h : lamPB sc scope N N' = true) : LamP sc scope N N' := by
  unfold lamPB at h
  simp only [Bool.and_eq_true, Bool.or_eq_true, Bool.not_eq_true', decide_eq_true_eq, decide_eq_false_iff_not, List.all_eq_true] at h
  obtain ⟨⟨⟨⟨⟨h1, h2⟩, h3⟩, h4⟩, h5⟩, h6⟩ := h
  refine ⟨h1, h2, h3, fun y hy => (h4 y hy).1.1, fun y hy e => ((h4 y hy).1.2).elim (fun z => absurd e z) id, fun y hy e => ?_, h5, fun i y e hl => ?_⟩
  · rcases (h4 y hy).2 with (z | z) | z
    · exact absurd e z
    · exact .inl z
    · exact .inr z
  · have hi : i < N'.length := (List.getElem?_eq_some_iff.mp e).1
    have q := h6 i (List.mem_range.mpr hi)
    rw [e] at q
    simp only [Bool.or_eq_true, Bool.not_eq_true', decide_eq_true_eq, decide_eq_false_iff_not] at q
    exact q.elim (fun z => absurd hl z) id
theorem LamP.has {X : Cx} {scope : Scope} {N' : List Str} (L : LamP X.env.scope scope X.N N') (ok : X.Ok) : ∀ y ∈ scope.names, y.2 = .free → ∃ c, X.env.cells.lookup y.1 = some c := fun y hy e =>
  (L.free y hy e).elim (fun k => ok.has _ (.inl k)) fun k => ok.has _ (.inr k)
/-- the context of the lambda's body, entered at s from the frames outer -/
def lamC (X : Cx) (N' : List Str) (A : Around) (outer : List PySem.Env) (s : Shared) (H : Hp) (E : XK) (scope : Scope) (f c' : Addr) : Cx where
  prog := X.prog
  w := X.w
  K := X.K
  mg := X.mg
  base := X.base
  A := A.deeper (LamX.lamEnv X scope s.heap.objs.size f c')
  N := N'
  s_0 := s
  H_0 := H
  env := LamX.lamEnv X scope s.heap.objs.size f c'
  outer := outer
  stack := LamX.lamEnv X scope s.heap.objs.size f c' :: outer
  ex := []
  fn := fun _ => false
  calm := true
  pn := []
  xe := fun e s' => wpAny (model X.prog X.w) (A.deeper (LamX.lamEnv X scope s.heap.objs.size f c')) (leaving (LamX.lamEnv X scope s.heap.objs.size f c') e) (fun _ s'' => L2N.CX X.prog X.w outer H s E e s'') (fun e' s'' => L2N.CX X.prog X.w outer H s E e' s'') s'
section
variable {X : Cx} {pins : List (Addr × Obj)} {σ : L2.St} {H HZ : Hp} {s s1 : Shared} {N' : List Str}
theorem lam_inv {A : Around} {outer : List PySem.Env} {E : XK} {scope : Scope} {f c' : Addr} {h₁ : Heap} {tk : Nat} {mp : Str → Option Value} (J : Inv X pins σ H s) (L : LamP X.env.scope scope X.N N') (e0 : Env0 X.prog X.w X.K X.mg X.base A outer s1 HZ) (hd : A.handled = none)
    (un : Un (frs X.stack) [] H HZ s.heap s1.heap) (hns : h₁.Ns s1.heap.objs.size mp) (kp : ∀ b o, s1.heap.get? b = some o → h₁.get? b = some o) :
    Inv (lamC X N' A outer s1 HZ E scope f c') [] σ HZ { s1 with heap := h₁, toks := tk } := by
  have frees := L.has J.ok
  have orig : ∀ {y c}, (cloFrom X.env.cells scope.names []).lookup y = some c → X.env.cells.lookup y = some c := fun {y c} e => by
    rcases cloFrom_mem (PySem.mem_of_lookup e) with hm | ⟨h1, h2⟩
    · cases hm
    · obtain ⟨c1, hc⟩ := frees _ h1 rfl
      have hc : X.env.cells.lookup y = some c1 := hc
      have e2 : c = c1 := by
        rw [h2, hc] <;> rfl
      rw [e2]
      exact hc
  have found : ∀ {y}, scope.names.lookup y = some .free → ∃ c, (cloFrom X.env.cells scope.names []).lookup y = some c := fun {y} hl => by
    have hy : (y, NameKind.free) ∈ scope.names := PySem.mem_of_lookup hl
    exact mem_lookup (cloFrom_has (cells := X.env.cells) (acc := []) hy)
  have cellIs : ∀ {c : Addr} {v : Option Value}, H c = none → s.heap.IsCell c v → h₁.IsCell c v := fun {c v} n ⟨o, ho, hd⟩ => by
    obtain ⟨sl, q⟩ := un.any ho n (by simp)
    exact ⟨_, kp _ _ q, hd⟩
  have noEx : ∀ b : Addr, b ∉ (lamC X N' A outer s1 HZ E scope f c').ex := fun b z => absurd (show b ∈ ([] : List Addr) from z) (by simp)
  refine ⟨⟨e0.mod, L.kind, rfl, rfl, Nat.le_refl _, fun y z c e1 e2 => J.ok.inj y z c (orig e1) (orig e2), fun y hy => ?_, fun y c z _ => ?_, fun _ => hd, Around.frames_deeper e0.frames, .inr ⟨rfl, rfl⟩, fun b z => absurd z (noEx b), e0.bs, e0.bsz, fun b _ _ => noEx b,
      fun b z => absurd z (noEx b), e0.funs, e0.frf⟩,
    rfl, e0.bare, Un.kept kp, ⟨_, hns, fun i y v e1 e2 e3 => ?_⟩, fun y c e => ?_, e0.hok.fresh (Nat.le_refl _), fun y c e => ?_, fun q hq => absurd (show q ∈ ([] : List (Addr × Obj)) ++ [] from hq) (by simp), e0.hok.kept kp, J.len.trans L.len.symm⟩
  · have hy : scope.names.lookup y = some .cell ∨ scope.names.lookup y = some .free := hy
    rcases hy with hy | hy
    · exact absurd rfl (L.cell _ (PySem.mem_of_lookup hy))
    · exact found hy
  · have z : false = true := z
    cases z
  · have e3 : Vis scope y := e3
    have e1 : N'[i]? = some y := e1
    rcases e3 with k | k | k
    · exact absurd (List.mem_of_getElem? e1) (L.own _ (PySem.mem_of_lookup k) rfl)
    · exact absurd rfl (L.cell _ (PySem.mem_of_lookup k))
    · obtain ⟨m, hn, hl⟩ := J.loc
      have hvis : Vis X.env.scope y := (L.free _ (PySem.mem_of_lookup k) rfl).elim (fun k => .inr (.inl k)) (fun k => .inr (.inr k))
      obtain ⟨w', r, q⟩ := hl i y v (L.same i y e1 k) e2 hvis
      obtain ⟨c2, h2⟩ := found k
      refine ⟨w', r, .inr ⟨.inr k, c2, h2, ?_⟩⟩
      have c1 := orig h2
      rcases q with ⟨k', _⟩ | ⟨_, c3, e', z⟩
      · have k' : X.env.scope.names.lookup y = some .local := k'
        rcases L.free _ (PySem.mem_of_lookup k) rfl with k2 | k2 <;> rw [show X.env.scope.names.lookup y = _ from k2] at k' <;> cases k'
      · rw [c1] at e'
        cases e'
        exact cellIs (J.freeC y _ c1) z
  · obtain ⟨w', z⟩ := J.cell y c (orig e)
    exact ⟨w', cellIs (J.freeC y c (orig e)) z⟩
  · obtain ⟨v, o, ho, hd⟩ := J.cell y c (orig e)
    exact un.free c o ho (J.freeC y c (orig e)) (by simp)
/-- the lambda made: what is tracked is kept but for the tables -/
theorem ext_of {K : Frag} {T : Tbs} {ι : Io} {μ : Mem} {H1 : Hp} (s : SR K T ι μ H) (e : LamX.ExtN H H1) : Ext ι H ι H1 :=
  ⟨Nat.le_refl _, fun _ _ => .inl rfl, rfl, fun _ h => .inl h, fun a o h _ n => e a o h n, fun a o m h => by
    obtain ⟨_, xs, q⟩ := s.hid a m
    rw [q] at h; cases h
    exact e a _ q fun ps z => by cases z⟩
theorem sr_of {K : Frag} {T : Tbs} {ι : Io} {μ : Mem} {H1 : Hp} (s : SR K T ι μ H) (e : LamX.ExtN H H1) (t : LamX.Tabs T H1) : SR K T ι μ H1 :=
  ⟨s.len, s.nd, fun i c hc => by
    obtain ⟨o, h1, h2⟩ := s.cell i c hc
    exact ⟨o, h1, h2.ext (ext_of s e) fun b xs _ hb => e b _ hb fun ps z => by cases z⟩, t, fun a m => by
    obtain ⟨h1, xs, q⟩ := s.hid a m
    exact ⟨h1, xs, e a _ q fun ps z => by cases z⟩⟩
/-- a(): the lambda that a def got. Z: that def's context, entered at s -/
theorem act_lam {Ez : XK} {Ng : List Str} {qg : Str} {sg : Scope} {g f c' : Addr} {cdg pm ctv : Value} {params : Arguments} {body : Expr} {scope : Scope} {k i : Nat} {a : Str} {pn : List (Addr × Obj)} {xe : Value → Shared → Prop} {W : WX} {tb : XK → TE} {p1 p2 : Pos}
    (J : Inv X pins σ H s) (L : LamP X.env.scope scope X.N N') (hf : s.heap.get? f = some (PySem.W.kla_obj "<lambda>" (X.env.qual ++ "<lambda>") params body scope (cloFrom X.env.cells scope.names []) pm c' ctv)) (hfn : H f = none) (hfr : f ∉ frs X.stack)
    (hown : ∀ y ∈ scope.names, y.2 ≠ .local)
    (hbind : bindArgs (PySem.W.kla_fn "<lambda>" (X.env.qual ++ "<lambda>") params body scope (cloFrom X.env.cells scope.names []) pm (.ref c') ctv) ⟨[], []⟩ = pure [])
    (tk : L2N.Takes ((cxOf (L2N.CX X.prog X.w) X.prog X.w X.K X.mg X.base Ng qg sg g cdg X.A X.stack s H Ez).tr pn xe) W) (hr : Room (k + 1) (X.A.deeper (envOfC qg sg s.heap.objs.size g cdg))) (hgd : X.A.guards = some [])
    (hbody : ∀ (A : Around) (outer : List PySem.Env) (s : Shared) (H : Hp) (E : XK), Room k (A.deeper (LamX.lamEnv X scope s.heap.objs.size f c')) → A.guards = some [] → PE (lamC X N' A outer s H E scope f c') body (tb E))
    (hN : Ng[i]? = some a) (hv : Vis sg a) (hd : (a == ("__debug__" : Str)) = false := by decide) (hcd : (a == ("__classdict__" : Str)) = false := by decide) :
    PE ((cxOf (L2N.CX X.prog X.w) X.prog X.w X.K X.mg X.base Ng qg sg g cdg X.A X.stack s H Ez).tr pn xe) (.Call (.Name a p1) [] [] p2)
      (fun σZ HZ Q => σZ[i]? = some (some (.ref f)) ∧ HZ c' = some (LamX.CodeO c' (X.env.qual ++ "<lambda>")) ∧ tb (fun cls d H' => W cls d σZ H') σ HZ Q) := by
  refine ⟨fun pinsZ sZ σZ HZ Q JZ h => ?_⟩
  obtain ⟨hs, hc, ht⟩ := h
  refine wpAny_Call_Name_kw (thn ((pe_var (pos := p1) (i := i) hN hv hd hcd).run pinsZ sZ σZ HZ (fun v H1 => v = .ref f ∧ H1 = HZ) JZ ⟨.ref f, hs, rfl, rfl⟩) fun u s2 ⟨v, H1, J1, r1, q1⟩ => ?_)
  obtain ⟨ev, eH⟩ := q1
  subst ev
  rw [eH] at J1
  obtain rfl : u = Value.ref f := r1
  have there : s2.heap.get? f = some (PySem.W.kla_obj "<lambda>" (X.env.qual ++ "<lambda>") params body scope (cloFrom X.env.cells scope.names []) pm c' ctv) := J1.base.keep f _ hf hfn hfr (fun z => nomatch (show f ∈ ([] : List Addr) from z))
  refine PySem.W.callWith_F0 ⟨_, _, _, _, there⟩ ?_
  have un : Un (frs X.stack) [] H HZ s.heap s2.heap := J1.base
  obtain ⟨⟨oc, vs, t, hoc, hdc, hvc⟩, _, _⟩ := J1.hok c' _ hc
  have rc : codeAny (model X.prog X.w) (X.A.deeper (envOfC qg sg s.heap.objs.size g cdg)) (.call (.ref f) ⟨[], []⟩) (CR (L2N.CX X.prog X.w) (envOfC qg sg s.heap.objs.size g cdg :: X.stack) X.prog X.w HZ s2 Q (fun cls d H' => W cls d σZ H')) s2 := by
    refine PySem.W.kla_callFunE hr.depth there rfl L.co L.gen rfl ⟨c', oc, vs, t, rfl, hoc, hdc, hvc⟩ ?_
    rw [hbind]
    refine wpAny_pure (wpAny_newFunctionEnv L.cell (fun y hy => absurd hy (by simp)) (fun h₁ hns hsb => ⟨J1.nolimit.fresh _ hsb, ?_⟩) L.kind)
    show codeAny _ _ (.expr body (LamX.lamEnv X scope s2.heap.objs.size f c')) _ _
    have kp : ∀ b o, s2.heap.get? b = some o → h₁.get? b = some o := fun b o e => hsb.extBut b o (Nat.ne_of_lt (Heap.lt_size e)) (Heap.get?_push_of_some _ e)
    have J3 : Inv (lamC X N' (X.A.deeper (envOfC qg sg s.heap.objs.size g cdg)) (envOfC qg sg s.heap.objs.size g cdg :: X.stack) s2 HZ (fun cls d H' => W cls d σZ H') scope f c') [] σ HZ { s2 with heap := h₁, toks := s2.toks + ([] : List (Str × Value)).length } :=
      lam_inv J L J1.env0 hr.hd un hns kp
    refine PySem.W.kla_codeExpr (wpAny_mono ((hbody _ _ s2 HZ _ (hr.deeper _) hgd).run [] _ _ HZ Q J3 ht) (fun v s' hq => ?_) fun e s' hq => hq)
    obtain ⟨w', H', J', rv, q⟩ := hq
    exact ⟨w', H', J'.os, J'.bare, J'.base, J'.hok, rv, q⟩
  refine wpAny_call (codeAny_mono rc fun r s' hq => ?_)
  cases r with
  | error e => exact tk e s' (L2N.XE.of_call J1 (fun _ _ _ h => h) hq)
  | ok fl =>
    cases fl with
    | ret u => exact J1.after hq
    | next => exact False.elim hq
    | brk => exact False.elim hq
    | cont => exact False.elim hq
end
end MM

set_option Elab.async false
set_option linter.all false
set_option maxRecDepth 100000
set_option maxHeartbeats 4000000
/-! ## MM: what a def tells of a lambda's end -/
namespace MM
open PySem PySem.Spec PyProof.Rows L2
/-! ### rules of the suite -/
theorem in_lookup {β : Type} {a : Nat} {b : β} : ∀ {l : List (Nat × β)}, l.lookup a = some b → (a, b) ∈ l
  | [], h => by cases h
  | (x, y) :: r, h => by
    unfold List.lookup at h
    split at h
    · rename_i e
      cases h
      have : a = x := by simpa using e
      rw [this]; exact List.mem_cons_self
    · exact List.mem_cons_of_mem _ (in_lookup h)
theorem mB_assoc {α β γ : Type} {m : Ev α} {f : α → Ev β} {g : β → Ev γ} : mB (mB m f) g = mB m (fun a => mB (f a) g) := by
  funext ρ μ
  unfold mB
  cases m ρ μ <;> rfl
theorem rng1_some {ds : List MV} {t : Itm} (h : rng1 ds = some t) : ∃ j : Int, ds = [.int j] ∧ Rg62 j ∧ t = ⟨intsL 0 j.toNat, []⟩ := by
  unfold rng1 at h
  split at h
  · rename_i j
    split at h
    · rename_i hj
      cases h
      exact ⟨j, rfl, hj, rfl⟩
    · cases h
  · cases h
section
variable {X : Cx} {T : Tbs} {W : WX} {tg iter elt : Expr} {ifs : List Expr} {scope : Scope} {own : List (Str × Nat)} {pos spos py : Pos} {g : TgM} {c : Ev Bool} {e : Ev MV} {ws : List Nat} {q : Addr × Obj} {ms : Ev (List MV)}
/-- name = [.. for .. in range(..)] -/
theorem s_setHot {i : Nat} {y : Str} {a : Expr} {p rpos : Pos} (hot : HotP X q) (hN : X.N.Nodup) (hy : X.N[i]? = some y) (hyl : X.env.scope.names.lookup y = some .local)
    (hsw : swapsWith (.ListComp elt [⟨tg, .Call (.Name "range" p) [a] [] rpos, ifs, 0⟩] scope pos) (some (.Name y py)) spos.line X.env = pure true) (hgr : Gl X "range") (hmr : X.mg "range" = none) (ha : RA X T W [a] ms)
    (ok : BlkOk X.N X.env.scope scope own) (hw : ∀ i ∈ ws, i ∈ own.map (·.2))
    (hg : Blk X scope fun X => RG X T ws tg g) (ht : Blk X scope fun X => PTs X ifs (tG RB X.K X.mg T W0 c)) (he : Blk X scope fun X => RE X T W0 elt e) (hsa : starEach [a] X.env = [(false, eval a X.env)] := by rfl)
    (hs : ∀ x, foldedSetIterable (.Call (.Name "range" p) [a] [] rpos) X.env x = pure x := by intro _; rfl) :
    RS X T W (.Assign [.Name y py] (.ListComp elt [⟨tg, .Call (.Name "range" p) [a] [] rpos, ifs, 0⟩] scope pos) spos) (sAsg (mComp (own.map (·.2)) (mRng rng1 ms) g c e) (gN i)) := by
  refine ⟨fun pins s σ H D J h => ?_⟩
  rw [exec_Assign_Name_used _ _ _ _ hsw]
  refine wpAny_bind (wpAny_standAt (wpAny_bind ?_))
  show wpAny _ X.A (do let _ ← comprehension (.ListComp elt [⟨tg, .Call (.Name "range" p) [a] [] rpos, ifs, 0⟩] scope pos) scope X.env (firstIterPos [⟨tg, .Call (.Name "range" p) [a] [] rpos, ifs, 0⟩] pos) (newList []) false (eval (.Call (.Name "range" p) [a] [] rpos) X.env) (some (assign (.Name y py) X.env))) _ _ s
  obtain ⟨ι, ρ, μ, sr, en, h⟩ := nameM D σ H h
  have h : Post (RV X.K) X.K X.mg T W σ ι H (fun x H1 => gName i x σ H1 D.nx) (mB ms (fun ds => mB (fun ρ μ => oO (rng1 ds) ρ μ) (fun t => mB (fun ρ μ => oOm (compT t g c e (wipeE ρ (own.map (·.2))) μ)) (fun ds => mRet (.lst ds)))) ρ μ) := by
    unfold mComp mCompL mRng at h
    rw [mB_assoc, mB_assoc] at h
    exact h
  have want : iHot (tG (RLs X.K) X.K X.mg T W ms) σ H fun n H1 => ∀ D' , H1 D' = none → ∃ W : Nat → Nat → Hp → Prop, (∃ m, W 0 m (upd H1 D' (.lst []))) ∧ ∀ i' m H, W i' m H →
      ((Itr 0 n).stop i' H ∧ gName i (.ref D') σ H D.nx) ∨ ((Itr 0 n).go i' H ∧ ∃ Nx : Hp → Prop, (∀ H', Nx H' → ∃ m', m' < m ∧ W (i' + 1) m' H') ∧ ∀ x H', (Itr 0 n).yld i' H x H' → tGt X.K T ws g x (L2.wipe σ (own.map (·.2))) H' fun σ2 H2 => L2.wipe σ2 (own.map (·.2)) = L2.wipe σ (own.map (·.2)) ∧ tG RB X.K X.mg T W0 c σ2 H2 fun b H3 =>
        if b = true then tG (RV X.K) X.K X.mg T W0 e σ2 H3 fun y H4 => ∃ acc, H4 D' = some (.lst acc) ∧ acc.length < sizeLine ∧ Nx (upd H4 D' (.lst (acc ++ [y]))) else Nx H3) :=
    ⟨ι, ρ, μ, sr, en, bindr h fun ds vs μ1 ι1 H1 _ E1 s1 r1 h1 => by
      unfold mB at h1
      dsimp only at h1
      cases hr : rng1 ds with
      | none => rw [hr] at h1; exact h1.elim
      | some t =>
        rw [hr] at h1
        obtain ⟨j, rfl, hj, rfl⟩ := rng1_some hr
        obtain ⟨v, rr, rfl, b1, b2⟩ := RepL.cons_iff.mp r1
        rw [RepL.nil_iff] at b2; subst b2
        cases b1.int_inv
        refine ⟨j, rfl, hj.1, hj.2, ?_⟩
        dsimp only [oO] at h1
        cases hc : compT ⟨intsL 0 j.toNat, []⟩ g c e (wipeE ρ (own.map (·.2))) μ1 with
        | none => rw [hc] at h1; exact h1.elim
        | some pr =>
          obtain ⟨ds, μ'⟩ := pr
          rw [hc] at h1
          unfold compT at hc
          split at hc
          · rename_i hl
            exact comp_core (K := X.K) (mg := X.mg) (Q := fun v H1 => gName i v σ H1 D.nx) hw s1 (en.ext E1) (itr_ok (K := X.K) (T := T) (ι := ι1) (H := H1)) ds μ' hl hc (compF (ρ := ρ) h1)
          · cases hc⟩
  refine wpAny_bind (thn (hot_core (Q := fun v H1 => gName i v σ H1 D.nx) (Qf := fun _ s' => SP X pins D .next s') hot hN J (pir_range hgr hmr ha hsa) ok hg ht he hs want fun L C s' m H' J' q hn f => ?_) fun _ s' hq => wpAny_pure (wpAny_pure hq))
  show wpAny _ _ (assign (.Name y py) X.env (.ref L)) _ _ _
  refine wpAny_assign_Name (store_ok2 (v := V.ref L) J' hN hy (.inl hyl) rfl (fun s2 J2 ⟨a, sb, ha⟩ => ?_) (.inr hyl))
  obtain ⟨f0, f1, f2, f3, f4, f5⟩ := f
  have apart : C ≠ a := by
    rcases ha with z | z
    · rw [z]; exact f1
    · exact fun e => f4 y a z e.symm
  refine ⟨m, hn.sameBut sb apart, fun h3 sb3 => ?_⟩
  exact ⟨_, H', J2.turned (t' := s2.toks) (fun b o hb e => (sb3.2 b hb).trans e) f0 f1 f3 f4 f5, q⟩
/-- isinstance(e, c) of the exception that is held, of the class at D; bs tells of classes -/
def isEM (bs : List (Addr × Bool)) (a : Addr) : OpC := fun _ ds => match ds with
  | [.cst (.ref b), .cst (.ref C)] => if b = a then (bs.lookup C).map .bl else none
  | _ => none
theorem c_isE {D a : Addr} {oe : Obj} {pn : List (Addr × Obj)} {bs : List (Addr × Bool)} (C : ExcC X.K D) (hz : Zc (.ref D) none oe) (hf : ∃ vs, oe.data = .fields vs) (hk : ∀ p ∈ bs, PySem.W.kitOne X.K (.ref D) (.ref p.1) = some p.2) :
    CallR (X.suite a ((a, oe) :: pn)) (.builtin "isinstance") (rC X.K T (isEM bs a)) := by
  intro pins s σ H xs us Q J r h
  refine call_isE C hz hf pins s σ H xs us Q J r ?_
  obtain ⟨ι, μ, ds, sr, rl, d, hd, k⟩ := h
  unfold isEM at hd
  split at hd
  · rename_i b C'
    split at hd
    · rename_i hb
      subst hb
      obtain ⟨bo, hl, rfl⟩ := Option.map_eq_some_iff.mp hd
      obtain ⟨v, rr, rfl, b1, b2⟩ := RepL.cons_iff.mp rl
      obtain ⟨v2, rr, rfl, b3, b4⟩ := RepL.cons_iff.mp b2
      rw [RepL.nil_iff] at b4; subst b4
      cases b1.cst_inv
      cases b3.cst_inv
      exact ⟨.ref C', .ref C', bo, rfl, fun u e => e, hk (C', bo) (in_lookup hl), k _ H Ext.refl sr RepV.bl⟩
    · cases hd
  · cases hd
end
end MM

set_option Elab.async false
set_option linter.all false
set_option maxRecDepth 100000
set_option maxHeartbeats 4000000
/-! ## MM: told(lambda: body) -/
namespace MM
open PySem PySem.Spec PyProof.Rows L2
/-- an error's name: its class, what it is told as -/
structure Kind where
  name : Str
  cls : Addr
  told : Str
abbrev NoX : XK := fun _ _ _ => False
def kindOf (ks : List Kind) (x : Str) : Option Str := (ks.find? fun k => decide (k.name = x)).map (·.told)
/-- what is told of m's end -/
def toldO (ks : List Kind) : Out MV → Out MV
  | .ok d μ => .ok (.tup [.str "told", d]) μ
  | .exc x μ => match kindOf ks x.name with
    | some k => .ok (.tup [.str k]) μ
    | none => .bad
  | .bad => .bad
def mTold (ks : List Kind) (m : Ev MV) : Ev MV := fun ρ μ => toldO ks (m ρ μ)
/-- the frame of the def that tells -/
abbrev toldX (X : Cx) (Ng : List Str) (x : Str) (sg : Scope) (g : Addr) (cdv : Value) (s : Shared) (H : Hp) : Cx := cxOf (L2N.CX X.prog X.w) X.prog X.w X.K X.mg X.base Ng x sg g cdv X.A X.stack s H NoX
theorem PSs.ex {α : Type} {X : Cx} {e : List Stmt} {t : α → TS} (h : ∀ a, PSs X e (t a)) : PSs X e (fun D σ H => ∃ a, t a D σ H) := ⟨fun pins s σ H D I ⟨a, q⟩ => (h a).run pins s σ H D I q⟩
theorem PSs.and {p : Prop} {X : Cx} {e : List Stmt} {t : TS} (h : p → PSs X e t) : PSs X e (fun D σ H => p ∧ t D σ H) := ⟨fun pins s σ H D I ⟨a, q⟩ => (h a).run pins s σ H D I q⟩
theorem kindOf_some {ks : List Kind} {x k : Str} (h : kindOf ks x = some k) : ∃ kd ∈ ks, kd.name = x ∧ kd.told = k := by
  unfold kindOf at h
  obtain ⟨kd, h1, h2⟩ := Option.map_eq_some_iff.mp h
  have h3 := List.find?_some h1
  exact ⟨kd, List.mem_of_find?_eq_some h1, of_decide_eq_true h3, h2⟩
section
variable {X : Cx} {T : Tbs} {W : WX}
/-- told(lambda: body): Zs, the suite's reading for each kind -/
theorem re_told {ks : List Kind} {x a ce en : Str} {g c P CS : Addr} {k j kt : Nat} {pg : Arguments} {b₀ : Stmt} {suite : List Stmt} {sg : Scope} {dV kV doc pm cdv ct oc : Value} {an od : Option Addr} {osl : Array (Option Value)} {Ng : List Str} {N' : List Str}
    {params : Arguments} {body : Expr} {scope : Scope} {mb : Ev MV} {p lpos pos p1 p2 p3 p4 p5 p6 p7 p8 : Pos} {sm : Addr → Kind → SM}
    (hg : Gl X x) (hm : X.mg x = some (.ref g)) (hk : PySem.W.keepIn X.K (.ref g) = true)
    (lk : X.K.lookup g = some ⟨oc, od, .func (PySem.W.fnOf x x pg [.Try [.Return (some (.Tuple [.Constant (.str "told") j p3, .Call (.Name a p1) [] [] p2] kt p4)) p5] [.ExceptHandler (some (.Name ce p6)) (some en) (b₀ :: suite) p7] [] [] p8] sg dV kV doc pm an cdv ct), osl⟩)
    (hcg : PySem.W.codeIn X.K cdv x = true) (hb : L2.Binds X.K (PySem.W.fnOf x x pg [.Try [.Return (some (.Tuple [.Constant (.str "told") j p3, .Call (.Name a p1) [] [] p2] kt p4)) p5] [.ExceptHandler (some (.Name ce p6)) (some en) (b₀ :: suite) p7] [] [] p8] sg dV kV doc pm an cdv ct) [a] []) (Sg : FnScope Ng [a] sg)
    (hNa : Ng[0]? = some a) (hva : Vis sg a) (hNe : Ng[1]? = some en) (hle : sg.names.lookup en = some .local) (hgc : sg.names.lookup ce = some .globalImplicit) (hmc : X.mg ce = some (.ref CS)) (hdc : (ce == ("__debug__" : Str)) = false)
    (hks : ∀ kd ∈ ks, X.mg kd.name = some (.ref kd.cls) ∧ PySem.W.exmOne X.K (.ref kd.cls) (.ref CS) = some true)
    (hsu : ∀ kd ∈ ks, ∀ (s : Shared) (H : Hp) (e : Addr) (oe : Obj) (pn : List (Addr × Obj)), L2N.Zn (.ref kd.cls) none oe → (∃ vs, oe.data = .fields vs) → HotP ((toldX X Ng x sg g cdv s H).suite e ((e, oe) :: pn)) (e, oe) →
      RSs ((toldX X Ng x sg g cdv s H).suite e ((e, oe) :: pn)) T W0 (b₀ :: suite) (sm e kd))
    (hsm : ∀ kd ∈ ks, ∀ (e : Addr) (d : MV) (μ : Mem), sm e kd ((envS Ng [d]).set 1 (some (.cst (.ref e)))) μ = .rt (.tup [.str kd.told]) μ)
    (TB : LamX.TabB X.base X.mg c P) (hcode : X.env.code = .ref c) (hmT : (P, X.env.qual ++ "<lambda>") ∈ T) (hu : ∀ p ∈ T, p.1 = P → p.2 = X.env.qual ++ "<lambda>") (hr : Room (k + 2) X.A) (hgd : X.A.guards = some [])
    (L : LamP X.env.scope scope X.N N') (hown : ∀ y ∈ scope.names, y.2 ≠ .local) (hdef : defaultsOf params X.env = ([], []))
    (hbind : ∀ (q : Str) (cl : List (Str × Addr)) (pm cv ctv : Value), bindArgs (PySem.W.kla_fn "<lambda>" q params body scope cl pm cv ctv) ⟨[], []⟩ = pure [])
    (hbody : ∀ (A : Around) (outer : List PySem.Env) (s : Shared) (H : Hp) (E : XK) (f c' : Addr), Room k (A.deeper (LamX.lamEnv X scope s.heap.objs.size f c')) → A.guards = some [] → RE (lamC X N' A outer s H E scope f c') T (wE E) body mb)
    (hdb : (x == ("__debug__" : Str)) = false := by decide) (hd : (a == ("__debug__" : Str)) = false := by decide) (hcd : (a == ("__classdict__" : Str)) = false := by decide) :
    RE X T W (.Call (.Name x p) [.Lambda params body scope lpos] [] pos) (mTold ks mb) := by
  refine ⟨fun pins s σ H Q J h => ?_⟩
  obtain ⟨ι, ρ, μ, sr, en', h⟩ := h
  refine wpAny_Call_Name_kw (ld_glob J hg hm ?_ hdb)
  refine PySem.W.callWith_K (h₀ := X.base) J.ok.mod.kin hk ?_ (by rfl) (by rfl)
  show wpAny _ _ (spliced ((false, eval (.Lambda params body scope lpos) X.env) :: backTo pos (starEach [] X.env))) _ _ s
  refine Calls.spliced_cons (LamX.lam_make2 J TB hcode hmT hu sr.tabs hdef (L.has J.ok) fun f c' pm' ctv H1 s' J1 eN T1 hf hfn hfr hco => ?_)
  refine Calls.spliced_nil ⟨J1.kIn, ?_⟩
  have E1 : Ext ι H ι H1 := ext_of sr eN
  have sr1 : SR X.K T ι μ H1 := sr_of sr eN T1
  have en1 : EnvR X.K H1 ι ρ σ := en'.ext E1
  -- what the call of the lambda must meet
  have rc : codeAny (model X.prog X.w) X.A (.call (.ref g) ⟨[.ref f], []⟩) (CR (L2N.CX X.prog X.w) X.stack X.prog X.w H1 s' Q NoX) s' := by
    refine LamX.run_ofS (N := Ng) (ps := [a]) (us := [.ref f]) (vs := [.ref f]) lk hcg Sg hr J1.env0 (hb s' [.ref f] J1.kIn rfl) (.cons rfl .nil) rfl fun hr' => ?_
    have Zt : L2N.Takes (toldX X Ng x sg g cdv s' H1) (wE NoX) := L2N.takes_of (E := NoX) rfl rfl rfl rfl
    -- the two roads
    let tb : WX → TS := fun W' D σZ HZ => σZ[0]? = some (some (.ref f)) ∧ HZ c' = some (LamX.CodeO c' (X.env.qual ++ "<lambda>")) ∧ tG (RV X.K) X.K X.mg T (wE fun cls d H' => W' cls d σZ H') mb σ HZ fun v H2 => ∀ p, H2 p = none → D.rt (.ref p) (upd H2 p (.tup [.str "told", v]))
    let ts : Addr → Value → Option Addr → TS := fun e cls d D σZ HZ => ∃ kd : Kind, (kd ∈ ks ∧ cls = .ref kd.cls ∧ d = none) ∧ tS X.K X.mg T W0 (sm e kd) D σZ HZ
    have body_ok : ∀ (W' : WX) (pn : List (Addr × Obj)) (xe : Value → Shared → Prop), L2N.Takes ((toldX X Ng x sg g cdv s' H1).tr pn xe) W' → PSs ((toldX X Ng x sg g cdv s' H1).tr pn xe) [.Return (some (.Tuple [.Constant (.str "told") j p3, .Call (.Name a p1) [] [] p2] kt p4)) p5] (tb W') := fun W' pn xe tk => by
      have act := act_lam (p1 := p1) (p2 := p2) (tb := fun E => tG (RV X.K) X.K X.mg T (wE E) mb) J1 L hf hfn hfr hown (hbind _ _ _ _ _) tk hr' hgd (fun A outer s H E hr2 hg2 => hbody A outer s H E f c' hr2 hg2) hNa hva hd hcd
      refine pss_one (PS.mono (ps_ret (pe_tup (pa_cons pe_str (pa_cons act pa_nil)))) fun D σZ HZ q => ?_)
      obtain ⟨q1, q2, ι2, ρ2, μ2, a1, a2, a3⟩ := q
      refine ⟨q1, q2, ι2, ρ2, μ2, a1, a2, ?_⟩
      cases hmb : mb ρ2 μ2 with
      | ok d μ3 =>
        rw [hmb] at a3
        exact fun v ι3 H3 e3 s3 r3 => ⟨by show 2 ≤ sizeLine; decide, a3 v ι3 H3 e3 s3 r3⟩
      | exc x μ3 => rw [hmb] at a3; exact a3
      | bad => rw [hmb] at a3; exact a3
    have suite_ok : ∀ (e : Addr) (oe : Obj) (cls : Value) (d : Option Addr) (pn : List (Addr × Obj)), L2N.Zn cls d oe → (∃ vs, oe.data = .fields vs) → PSs ((toldX X Ng x sg g cdv s' H1).suite e ((e, oe) :: pn)) (b₀ :: suite) (ts e cls d) := fun e oe cls d pn hz hf' =>
      PSs.ex fun kd => PSs.and fun ⟨m1, m2, m3⟩ => by
        subst m2 m3
        refine hsu kd m1 s' H1 e oe pn hz hf' ⟨⟨rfl, ?_⟩, List.mem_cons_self⟩
        obtain ⟨vs, hv⟩ := hf'
        exact ⟨vs, hv, hz.2.2 vs hv⟩
    refine ⟨_, pss_one (L2N.ps_try_as (i := 1) (c := .ref CS) (tb := tb) (ts := ts) (Wout := wE NoX) rfl rfl Sg.nd hNe hle ⟨hgc, hdc, .inl hmc⟩ Zt (fun W' pn xe tk _ => body_ok W' pn xe tk) suite_ok), ?_⟩
    have st0 : (L2.start Ng [V.ref f])[0]? = some (some (.ref f)) := rfl
    refine ⟨st0, hco, ι, ρ, μ, sr1, en1, ?_⟩
    have h : Post (RV X.K) X.K X.mg T W σ ι H Q (toldO ks (mb ρ μ)) := h
    cases hmb : mb ρ μ with
    | bad => rw [hmb] at h; exact h.elim
    | ok d μ1 =>
      rw [hmb] at h
      intro v ι2 H2 e2 s2 r2 p hp
      refine h _ ι2 _ (E1.trans (e2.trans (Ext.laid hp))) (s2.laid hp) (RepV.tup s2 hp (RepL.cons_iff.mpr ⟨.str "told", [v], rfl, RepV.str, RepL.one r2⟩))
    | exc ex μ1 =>
      rw [hmb] at h
      intro cls dd ι2 H2 e2 s2 r2
      obtain ⟨r1, r3, r4⟩ := r2
      have h : Post (RV X.K) X.K X.mg T W σ ι H Q (match kindOf ks ex.name with
        | some k => .ok (.tup [.str k]) μ1
        | none => .bad) := h
      cases hko : kindOf ks ex.name with
      | none => rw [hko] at h; exact h.elim
      | some kt =>
        rw [hko] at h
        obtain ⟨kd, hmem, hnm, htd⟩ := kindOf_some hko
        obtain ⟨k1, k2⟩ := hks kd hmem
        rw [hnm, r4] at k1
        cases k1
        refine ⟨true, k2, fun _ e hne => ⟨kd, ⟨hmem, rfl, r3⟩, ?_⟩, fun z => by cases z⟩
        refine ⟨ι2, (envS Ng [.cst (.ref f)]).set 1 (some (.cst (.ref e))), μ1, s2, EnvR.set (envS_start (RepL.one RepV.cst)) RepV.cst, ?_⟩
        rw [hsm kd hmem e (.cst (.ref f)) μ1]
        intro v ι3 H3 e3 s3 r3'
        rw [htd] at r3'
        exact h v ι3 H3 (E1.trans (e2.trans e3)) s3 r3'
  refine wpAny_call (codeAny_mono rc fun r s2 hq => ?_)
  cases r with
  | error e =>
    obtain ⟨_, _, _, _, _, _, _, _, _, _, _, _, z⟩ := (show L2N.CX X.prog X.w X.stack H1 s' NoX e s2 from hq)
    exact z.elim
  | ok fl =>
    cases fl with
    | ret u => exact J1.after hq
    | next => exact False.elim hq
    | brk => exact False.elim hq
    | cont => exact False.elim hq
end
end MM

set_option Elab.async false
set_option linter.all false
set_option maxRecDepth 100000
set_option maxHeartbeats 4000000
/-! ## MM: raise -/
namespace MM
open PySem PySem.Spec PyProof.Rows L2
def sRaise (x : Str) : SM := fun _ μ => .exc ⟨x, none⟩ μ
section
variable {X : Cx} {T : Tbs} {W : WX} {pos p p2 cp : Pos}
theorem s_raise {C : Addr} {bmB : List Value} {B newId initId : String} {x m : Str} {j : Nat} (hc : X.calm = true) (tk : L2N.Takes X W) (F : ExcBaseFacts B newId initId bmB) (q : PySem.W.excIn X.K C bmB newId = true) (gC : X.mg x = some (.ref C)) (kC : PySem.W.keepIn X.K (.ref C) = true) (r : Raises X (.ref C)) (hg : Gl X x)
    (hdb : (x == ("__debug__" : Str)) = false := by decide) : RS X T W (.Raise (some (.Call (.Name x p) [.Constant (.str m) j p2] [] cp)) none pos) (sRaise x) :=
  PS.mono (L2N.ps_raise hc tk (L2N.pmk_own F q gC kC r hg hdb)) fun D σ H ⟨ι, ρ, μ, s, e, h⟩ => h (.ref C) none σ ι H Ext.refl s ⟨rfl, rfl, gC⟩
end
end MM

set_option Elab.async false
set_option linter.all false
set_option maxRecDepth 100000
set_option maxHeartbeats 4000000
/-! ## MM: methods of lists, items stored -/
namespace MM
open PySem PySem.Spec PyProof.Rows L2
/-- a method: of the thing, the arguments -/
abbrev OpM := Mem → MV → List MV → Option (MV × Mem)
def oM (o : Option (MV × Mem)) : Ev MV := fun _ _ => match o with
  | some (d, μ) => .ok d μ
  | none => .bad
def isLst (μ : Mem) (d : MV) : Ev MV := fun _ _ => match lstOf μ d with
  | some _ => .ok d μ
  | none => .bad
def mMeth (op : OpM) (mo : Ev MV) (ms : Ev (List MV)) : Ev MV := mB mo fun d => mB (fun ρ μ => isLst μ d ρ μ) fun d => mB ms fun ds => fun ρ μ => oM (op μ d ds) ρ μ
def appM : OpM := fun μ d ds => match d, ds with
  | .ref i, [y] => match μ[i]? with
    | some (.lst xs) => if xs.length < sizeLine then some (.non, μ.set i (.lst (xs ++ [y]))) else none
    | _ => none
  | _, _ => none
def extM : OpM := fun μ d ds => match d, ds with
  | .ref i, [y] => match μ[i]?, lstOf μ y with
    | some (.lst xs), some ys => if xs.length + ys.length ≤ sizeLine then some (.non, μ.set i (.lst (xs ++ ys))) else none
    | _, _ => none
  | _, _ => none
def popM : OpM := fun μ d ds => match d, ds with
  | .ref i, [] => match μ[i]? with
    | some (.lst xs) => match xs[xs.length - 1]? with
      | some y => some (y, μ.set i (.lst xs.dropLast))
      | none => none
    | _ => none
  | _, _ => none
def popAtM : OpM := fun μ d ds => match d, ds with
  | .ref i, [.int k] => match μ[i]? with
    | some (.lst xs) => if Rg62 k then (match seqIndex? k xs.length with
      | some j => match xs[j]? with
        | some y => some (y, μ.set i (.lst (xs.eraseIdx j)))
        | none => none
      | none => none) else none
    | _ => none
  | _, _ => none
/-- the first place of an equal one -/
def firstD (d : PyData) : List PyData → Nat → Option Nat
  | [], _ => none
  | z :: zs, n => if PyData.eqv z d = true then some n else firstD d zs (n + 1)
def idxM : OpM := fun μ d ds => match ds with
  | [y] => match (lstOf μ d).bind (pdL μ), pd μ y with
    | some zs, some p => if SeqAt.shaped (.list zs) = true ∧ SeqAt.shaped p = true then (firstD p zs 0).map fun j => (.int (j : Nat), μ) else none
    | _, _ => none
  | _ => none
theorem firstD_spec {d : PyData} : ∀ {zs : List PyData} {n j : Nat}, firstD d zs n = some j → ∃ k z, j = n + k ∧ zs[k]? = some z ∧ PyData.eqv z d = true ∧ ∀ (m : Nat) (z' : PyData), m < k → zs[m]? = some z' → PyData.eqv z' d = false
  | [], _, _, h => by cases h
  | z :: zs, n, j, h => by
    unfold firstD at h
    split at h
    · rename_i e
      cases h
      exact ⟨0, z, by omega, rfl, e, fun m z' hm => absurd hm (Nat.not_lt_zero _)⟩
    · rename_i e
      obtain ⟨k, z', h1, h2, h3, h4⟩ := firstD_spec h
      refine ⟨k + 1, z', by omega, by simpa using h2, h3, fun m z'' hm hz => ?_⟩
      cases m with
      | zero =>
        simp at hz
        subst hz
        exact Bool.eq_false_iff.mpr e
      | succ m => exact h4 m z'' (Nat.lt_of_succ_lt_succ hm) (by simpa using hz)
section
variable {X : Cx} {T : Tbs} {W : WX} {apos cpos : Pos} {o e : Expr} {es : List Expr} {mo : Ev MV} {ms : Ev (List MV)} {op : OpM} {name : Str} {id : String}
/-- what the method does is r -/
def MetM (X : Cx) (T : Tbs) (op : OpM) (r : V → List V → Hp → VK → Prop) : Prop := ∀ (x : V) (vs : List V) (H : Hp) (Q : VK) (ι : Io) (μ : Mem) (d : MV) (ds : List MV) (y : MV) (μ' : Mem), SR X.K T ι μ H → RepV X.K H ι d x → RepL X.K H ι ds vs → op μ d ds = some (y, μ') →
  (∀ v ι' H', Ext ι H ι' H' → SR X.K T ι' μ' H' → RepV X.K H' ι' y v → Q v H') → r x vs H Q
theorem methM {r : V → List V → Hp → VK → Prop} (hr : MetM X T op r) : ∀ σ H Q, tG (RV X.K) X.K X.mg T W (mMeth op mo ms) σ H Q → tBM X.K "list" r (tG (RV X.K) X.K X.mg T W mo) (tG (RLs X.K) X.K X.mg T W ms) σ H Q :=
  fun σ H Q ⟨ι, ρ, μ, s, en, h⟩ => ⟨ι, ρ, μ, s, en, bindr h fun d x μ1 ι1 H1 _ E1 s1 r1 h1 => by
    have h1 : Post (RV X.K) X.K X.mg T W σ ι1 H1 Q (mB (fun ρ μ => isLst μ d ρ μ) (fun d => mB ms fun ds => fun ρ μ => oM (op μ d ds) ρ μ) ρ μ1) := h1
    unfold mB at h1
    dsimp only [isLst] at h1
    cases hl : lstOf μ1 d with
    | none => rw [hl] at h1; exact h1.elim
    | some xs =>
      rw [hl] at h1
      obtain ⟨a, vs, rfl, q, _⟩ := s1.lst r1 hl
      refine ⟨.inl ⟨rfl, vs, q⟩, ι1, ρ, μ1, s1, en.ext E1, bindr (m := ms) (f := fun ds => fun ρ μ => oM (op μ d ds) ρ μ) h1 fun ds us μ2 ι2 H2 _ E2 s2 r2 h2 => ?_⟩
      have h2 : Post (RV X.K) X.K X.mg T W σ ι2 H2 Q (oM (op μ2 d ds) ρ μ2) := h2
      cases ho : op μ2 d ds with
      | none => rw [ho] at h2; exact h2.elim
      | some p =>
        obtain ⟨y, μ'⟩ := p
        rw [ho] at h2
        exact hr _ _ _ _ ι2 μ2 d ds y μ' s2 (r1.ext E2) r2 ho h2⟩
theorem re_meth {r : V → List V → Hp → VK → Prop} (hr : MetM X T op r) (hm : MtR X id r) (slot : Slot "list" name id) (hty : typeOf (.builtin id) = pure (.type "method_descriptor")) (ho : RE X T W o mo) (ha : RA X T W (e :: es) ms)
    (hbase : attributeBase o name X.env (eval o X.env) = eval o X.env := by rfl)
    (hfew : ((backTo cpos (starEach (e :: es) X.env)).all (fun x => !x.1) && (backToKw cpos (keywordEach [] X.env)).all (fun x => x.1.isSome)
      && decide ((e :: es).length + ([] : List Keyword).length + (if ([] : List Keyword).isEmpty then 0 else 1) < 30)) = true := by rfl)
    (hline : (apos.endLine == cpos.line) = true := by rfl) (hs : starEach (e :: es) X.env = (false, eval e X.env) :: starEach es X.env := by rfl) (hplain : (backTo cpos (starEach es X.env)).any (·.1) = false := by rfl) :
    RE X T W (.Call (.Attribute o name apos) (e :: es) [] cpos) (mMeth op mo ms) :=
  PE.mono (pe_bm F.plainAttrs_list slot hty hm ho ha hbase hfew hline hs hplain) (methM hr)
theorem met_app : MetM X T appM rAppend := fun x vs H Q ι μ d ds y μ' s r1 r2 ho k => by
  unfold appM at ho
  split at ho
  · rename_i i z
    split at ho
    · rename_i xs hx
      split at ho
      · rename_i hz
        cases ho
        obtain ⟨a, us, rfl, hc, ha, l⟩ := s.cel r1 hx
        obtain ⟨v, rr, rfl, b1, b2⟩ := RepL.cons_iff.mp r2
        rw [RepL.nil_iff] at b2; subst b2
        exact ⟨a, us, v, rfl, rfl, ha, by rw [← l.len]; exact hz, k .non ι _ (Ext.written s hc) (s.written hc ha (l.app (RepL.one b1))) RepV.non⟩
      · cases ho
    · cases ho
  · cases ho
theorem met_pop : MetM X T popM rPop := fun x vs H Q ι μ d ds y μ' s r1 r2 ho k => by
  unfold popM at ho
  split at ho
  · rename_i i
    split at ho
    · rename_i xs hx
      split at ho
      · rename_i z hz
        cases ho
        obtain ⟨a, us, rfl, hc, ha, l⟩ := s.cel r1 hx
        rw [RepL.nil_iff] at r2; subst r2
        obtain ⟨v, hv, rv⟩ := l.get hz
        have ld : RepL X.K H ι xs.dropLast us.dropLast := by rw [List.dropLast_eq_take, List.dropLast_eq_take, l.len]; exact RepL.take _ l
        exact ⟨a, us, v, rfl, rfl, ha, by rw [← l.len]; exact hv, k v ι _ (Ext.written s hc) (s.written hc ha ld) (rv.ext (Ext.written s hc).w)⟩
      · cases ho
    · cases ho
  · cases ho
theorem met_idx : MetM X T idxM (rIndexD X.K) := fun x vs H Q ι μ d ds y μ' s r1 r2 ho k => by
  unfold idxM at ho
  split at ho
  · rename_i z
    split at ho
    · rename_i zs p h1 h2
      split at ho
      · rename_i hsh
        obtain ⟨j, hj, e⟩ := Option.map_eq_some_iff.mp ho
        cases e
        obtain ⟨xs, hx1, hx2⟩ := Option.bind_eq_some_iff.mp h1
        obtain ⟨a, us, rfl, q, l⟩ := s.lst r1 hx1
        obtain ⟨v, rr, rfl, b1, b2⟩ := RepL.cons_iff.mp r2
        rw [RepL.nil_iff] at b2; subst b2
        obtain ⟨k', z', e1, e2, e3, e4⟩ := firstD_spec hj
        have e1 : j = k' := by omega
        subst e1
        exact ⟨a, v, p, zs, j, z', rfl, rfl, .lst q (pdL_dp s xs us zs l hx2), pd_dp s z v p b1 h2, hsh.1, hsh.2, e2, e3, e4, k _ ι H Ext.refl s RepV.int⟩
      · cases ho
    · cases ho
  · cases ho
theorem re_append (ho : RE X T W o mo) (ha : RA X T W [e] ms) (hbase : attributeBase o "append" X.env (eval o X.env) = eval o X.env := by rfl)
    (hfew : ((backTo cpos (starEach [e] X.env)).all (fun x => !x.1) && (backToKw cpos (keywordEach [] X.env)).all (fun x => x.1.isSome)
      && decide ([e].length + ([] : List Keyword).length + (if ([] : List Keyword).isEmpty then 0 else 1) < 30)) = true := by rfl)
    (hline : (apos.endLine == cpos.line) = true := by rfl) (hs : starEach [e] X.env = (false, eval e X.env) :: starEach [] X.env := by rfl) (hplain : (backTo cpos (starEach [] X.env)).any (·.1) = false := by rfl) :
    RE X T W (.Call (.Attribute o "append" apos) [e] [] cpos) (mMeth appM mo ms) := re_meth met_app mt_append F.slot_list_append F.type_list_append ho ha hbase hfew hline hs hplain
theorem re_index (hu : X.A.units + 65 < cLine) (ho : RE X T W o mo) (ha : RA X T W [e] ms) (hbase : attributeBase o "index" X.env (eval o X.env) = eval o X.env := by rfl)
    (hfew : ((backTo cpos (starEach [e] X.env)).all (fun x => !x.1) && (backToKw cpos (keywordEach [] X.env)).all (fun x => x.1.isSome)
      && decide ([e].length + ([] : List Keyword).length + (if ([] : List Keyword).isEmpty then 0 else 1) < 30)) = true := by rfl)
    (hline : (apos.endLine == cpos.line) = true := by rfl) (hs : starEach [e] X.env = (false, eval e X.env) :: starEach [] X.env := by rfl) (hplain : (backTo cpos (starEach [] X.env)).any (·.1) = false := by rfl) :
    RE X T W (.Call (.Attribute o "index" apos) [e] [] cpos) (mMeth idxM mo ms) := re_meth met_idx (mt_indexD hu) F.slot_list_index F.type_list_index ho ha hbase hfew hline hs hplain
/-! ### items stored -/
def gIx (mo mi : Ev MV) : TgM := fun v ρ μ => match mo ρ μ with
  | .ok (.ref i) μ1 => match mi ρ μ1 with
    | .ok (.int k) μ2 => match μ2[i]? with
      | some (.lst xs) => match ixN xs.length k with
        | some j => some (ρ, μ2.set i (.lst (xs.set j v)))
        | none => none
      | _ => none
    | _ => none
  | _ => none
theorem g_ix {i : Expr} {mi : Ev MV} {pos : Pos} (ho : RE X T W0 o mo) (hi : RE X T W0 i mi)
    (ha : ∀ v, assign (.Subscript o i pos) X.env v = (do
      let ov ← holding [v] (eval o X.env)
      let iv ← holding [v, ov] (eval i X.env)
      standAt pos
      holding [v, ov, iv] (setItem ov iv v)
      release [v, ov, iv] []) := by intro _; rfl) : RG X T [] (.Subscript o i pos) (gIx mo mi) :=
  PG.mono (pg_sub ho hi set_list ha) fun v σ H Q ⟨ι, ρ, μ, d, s, en, r, ρ', μ', hg, h⟩ => by
    unfold gIx at hg
    split at hg
    · rename_i j μ1 h1
      split at hg
      · rename_i k μ2 h2
        split at hg
        · rename_i xs h3
          split at hg
          · rename_i m h4
            cases hg
            refine ⟨ι, ρ, μ, s, en, ?_⟩
            rw [h1]
            intro x ι1 H1 E1 s1 r1
            refine ⟨ι1, ρ, μ1, s1, en.ext E1, ?_⟩
            rw [h2]
            intro y ι2 H2 E2 s2 r2
            cases r2.int_inv
            obtain ⟨a, us, rfl, hc, hH, l⟩ := s2.cel (r1.ext E2) h3
            have E12 := E1.trans E2
            exact ⟨a, us, k, m, rfl, rfl, hH, by rw [← l.len]; exact h4, h σ ι2 _ (E12.trans (Ext.written s2 hc)) (s2.written hc hH (RepL.set m l (r.ext E12))) (en.ext (E12.trans (Ext.written s2 hc))) ⟨rfl, fun _ _ => rfl⟩⟩
          · cases hg
        · cases hg
      · cases hg
    · cases hg
end
end MM

set_option Elab.async false
set_option linter.all false
set_option maxRecDepth 100000
set_option maxHeartbeats 4000000
/-! ## MM: comprehensions over two -/
namespace MM
open PySem PySem.Spec PyProof.Rows L2
open Classical in
noncomputable def compL2 (t : Itm) (g : TgM) (c : Ev Bool) (mi1 : Ev Itm) (g1 : TgM) (c1 : Ev Bool) (e : Ev MV) (vs1 : List Nat) (ρ : Env) : List MV → Mem → Option (List MV × Mem)
  | [], μ => if t.ok μ then some ([], μ) else none
  | x :: xs, μ => if t.ok μ then (match g x ρ μ with
    | some (ρ1, μ1) => (match c ρ1 μ1 with
      | .ok true μ2 => (match mi1 ρ1 μ2 with
        | .ok t1 μ3 => (match compL t1 g1 c1 e (wipeE ρ1 vs1) t1.items μ3 with
          | some (ds1, μ4) => (match compL2 t g c mi1 g1 c1 e vs1 ρ xs μ4 with
            | some (ds, μ5) => some (ds1 ++ ds, μ5)
            | none => none)
          | none => none)
        | _ => none)
      | .ok false μ2 => compL2 t g c mi1 g1 c1 e vs1 ρ xs μ2
      | _ => none)
    | none => none) else none
open Classical in
noncomputable def compT2 (t : Itm) (g : TgM) (c : Ev Bool) (mi1 : Ev Itm) (g1 : TgM) (c1 : Ev Bool) (e : Ev MV) (vs1 : List Nat) (ρ : Env) (μ : Mem) : Option (List MV × Mem) :=
  match compL2 t g c mi1 g1 c1 e vs1 ρ t.items μ with
  | some (ds, μ') => if ds.length ≤ sizeLine then some (ds, μ') else none
  | none => none
noncomputable def mCompL2 (vs vs1 : List Nat) (m : Ev Itm) (g : TgM) (c : Ev Bool) (mi1 : Ev Itm) (g1 : TgM) (c1 : Ev Bool) (e : Ev MV) : Ev (List MV) := mB m fun t => fun ρ μ => oOm (compT2 t g c mi1 g1 c1 e vs1 (wipeE ρ vs) μ)
noncomputable def mComp2 (vs vs1 : List Nat) (m : Ev Itm) (g : TgM) (c : Ev Bool) (mi1 : Ev Itm) (g1 : TgM) (c1 : Ev Bool) (e : Ev MV) : Ev MV := mB (mCompL2 vs vs1 m g c mi1 g1 c1 e) fun ds => mRet (.lst ds)
noncomputable def mCompC2 (vs vs1 : List Nat) (m : Ev Itm) (g : TgM) (c : Ev Bool) (mi1 : Ev Itm) (g1 : TgM) (c1 : Ev Bool) (e : Ev MV) : Ev MV := mB (mCompL2 vs vs1 m g c mi1 g1 c1 e) fun ds => fun _ μ => .ok (.ref μ.length) (μ ++ [.lst ds])
section
variable {X : Cx} {T : Tbs} {W : WX} {g g1 : TgM} {c c1 : Ev Bool} {e : Ev MV} {vs ws vs1 ws1 : List Nat} {mi mi1 : Ev Itm}
theorem comp2_core {K : Frag} {mg : Gm} {Q : VK} {σ : L2.St} {ι : Io} {H : Hp} {ρ : Env} {μ : Mem} {t : Itm} {J : It} (hw : ∀ i ∈ ws, i ∈ vs) (hw1 : ∀ i ∈ ws1, i ∈ vs1) (s : SR K T ι μ H) (en : EnvR K H ι ρ σ) (r : ItR K T J t ι H) (ds : List MV) (μ' : Mem) (hl : ds.length ≤ sizeLine)
    (hc : compL2 t g c mi1 g1 c1 e vs1 (wipeE ρ vs) t.items μ = some (ds, μ'))
    (fin : ∀ (D : Addr) (vs : List V) (ι' : Io) (H' : Hp), Ext ι H ι' H' → SR K T (ι'.hide D) μ' H' → ¬ Own ι' D → H D = none → H' D = some (.lst vs) → RepL K H' (ι'.hide D) ds vs → Q (.ref D) H') :
    ∀ D, H D = none → ∃ Wv : Nat → Nat → Hp → Prop, (∃ m, Wv 0 m (upd H D (.lst []))) ∧ ∀ i m H, Wv i m H →
      (J.stop i H ∧ Q (.ref D) H) ∨ (J.go i H ∧ ∃ Nx : Hp → Prop, (∀ H', Nx H' → ∃ m', m' < m ∧ Wv (i + 1) m' H') ∧ ∀ x H', J.yld i H x H' → tGt K T ws g x (L2.wipe σ vs) H' fun σ2 H2 => L2.wipe σ2 vs = L2.wipe σ vs ∧ tG RB K mg T W0 c σ2 H2 fun b H3 =>
        if b = true then tG (RJ K T) K mg T W0 mi1 σ2 H3 fun J1 H4 => ∃ W1 : Nat → Nat → Hp → Prop, (∃ m, W1 0 m H4) ∧ ∀ j k H, W1 j k H →
          (J1.stop j H ∧ Nx H) ∨ (J1.go j H ∧ ∃ Nx1 : Hp → Prop, (∀ H', Nx1 H' → ∃ k', k' < k ∧ W1 (j + 1) k' H') ∧ ∀ x H', J1.yld j H x H' → tGt K T ws1 g1 x (L2.wipe σ2 vs1) H' fun σ3 H5 => L2.wipe σ3 vs1 = L2.wipe σ2 vs1 ∧ tG RB K mg T W0 c1 σ3 H5 fun b H6 =>
            if b = true then tG (RV K) K mg T W0 e σ3 H6 fun y H7 => ∃ acc, H7 D = some (.lst acc) ∧ acc.length < sizeLine ∧ Nx1 (upd H7 D (.lst (acc ++ [y]))) else Nx1 H6)
        else Nx H3) := by
  intro D hD
  let St : Nat → Hp → Prop := fun i H' => ∃ ι1 μ1 acc accM rest, Ext ι H ι1 H' ∧ SR K T (ι1.hide D) μ1 H' ∧ H' D = some (.lst acc) ∧ RepL K H' (ι1.hide D) accM acc ∧ EnvR K H' (ι1.hide D) ρ σ ∧ accM ++ rest = ds ∧ compL2 t g c mi1 g1 c1 e vs1 (wipeE ρ vs) (t.items.drop i) μ1 = some (rest, μ')
  refine ⟨fun i m H' => m = t.items.length - i ∧ i ≤ t.items.length ∧ St i H', ⟨t.items.length, by simp, Nat.zero_le _, ι, μ, [], [], ds, Ext.after Ext.refl hD, s.begin hD, upd_same, RepL.nil_iff.mpr rfl, en.begin hD, rfl, hc⟩, ?_⟩
  rintro i m H1 ⟨rfl, hi, ι1, μ1, acc, accM, rest, E1, s1, hd1, ra, en1, hap, hcl⟩
  have EW : ExtW ι H (ι1.hide D) H1 := ExtW.begin E1 hD
  cases hd : t.items.drop i with
  | nil =>
    rw [hd] at hcl
    unfold compL2 at hcl
    split at hcl
    · rename_i ok
      cases hcl
      have := drop_none hi hd
      subst this
      refine .inl ⟨(r _ _ H1 EW s1 ok).2, ?_⟩
      have nd : ¬ Own ι1 D := fun q => by
        rcases q with q | q
        · exact (s1.hid D List.mem_cons_self).1 q
        · rw [E1.hid] at q
          exact s.fresh hD (.inr q)
      rw [List.append_nil] at hap
      subst hap
      exact fin D acc ι1 H1 E1 s1 nd hD hd1 ra
    · cases hcl
  | cons x xs =>
    rw [hd] at hcl
    unfold compL2 at hcl
    split at hcl
    · rename_i ok
      obtain ⟨hx, hdr, hlt⟩ := drop_get hd
      obtain ⟨go, yl⟩ := (r _ μ1 H1 EW s1 ok).1 i x hx
      refine .inr ⟨go, St (i + 1), fun H' h' => ⟨t.items.length - (i + 1), by omega, rfl, hlt, h'⟩, fun v H2 y => ?_⟩
      obtain ⟨E2, s2, r2⟩ := yl v H2 y
      split at hcl
      · rename_i ρ1 μ2 hg
        refine ⟨ι1.hide D, wipeE ρ vs, μ1, x, s2, (en1.ext E2).wipe vs, r2, ρ1, μ2, hg, fun σ3 ι3 H3 E3 s3 e3 b3 => ⟨wipe_but b3 hw, ι3, ρ1, μ2, s3, e3, ?_⟩⟩
        have E23 := E2.trans E3
        split at hcl
        · rename_i μ3 hc3
          rw [hc3]
          intro k ι4 H4 E4 s4 r4
          cases r4
          rw [if_pos rfl]
          refine ⟨ι4, ρ1, μ3, s4, e3.ext E4, ?_⟩
          have E24 := E23.trans E4
          split at hcl
          · rename_i t1 μ4 hm1
            rw [hm1]
            intro J1 ι5 H5 E5 s5 r5
            have E25 := E24.trans E5
            obtain ⟨F1, F2, F3⟩ := Ext.unhide s5 E25 hd1
            have hm5 : D ∈ ι5.hid := by rw [F2]; exact List.mem_cons_self
            split at hcl
            · rename_i ds1 μ5 hin
              split at hcl
              · rename_i ds2 μ6 hrec
                cases hcl
                have e5 : EnvR K H5 ι5 ρ1 σ3 := e3.ext (E4.trans E5)
                -- the inner loop
                let In : Nat → Hp → Prop := fun j H' => ∃ ι6 μ6 acc accM rest1, Ext ι H ι6 H' ∧ SR K T (ι6.hide D) μ6 H' ∧ H' D = some (.lst acc) ∧ RepL K H' (ι6.hide D) accM acc ∧ EnvR K H' (ι6.hide D) ρ σ ∧ EnvR K H' (ι6.hide D) ρ1 σ3 ∧ ExtW ι5 H5 (ι6.hide D) H' ∧ accM ++ (rest1 ++ ds2) = ds ∧ compL t1 g1 c1 e (wipeE ρ1 vs1) (t1.items.drop j) μ6 = some (rest1, μ5)
                refine ⟨fun j k H' => k = t1.items.length - j ∧ j ≤ t1.items.length ∧ In j H', ⟨t1.items.length, by simp, Nat.zero_le _, ⟨ι5.cs, ι1.hid⟩, μ4, acc, accM, ds1, E1.trans F1, by rw [← F2]; exact s5, F3, by rw [← F2]; exact RepL.ext E25 _ _ ra, by rw [← F2]; exact en1.ext E25, by rw [← F2]; exact e5, by rw [← F2]; exact Ext.refl.w, hap, hin⟩, ?_⟩
                rintro j k H6 ⟨rfl, hj, ι6, μ6, acc6, accM6, rest6, E6, s6, hd6, ra6, en6, e6, X6, hap6, hcl6⟩
                cases hdj : t1.items.drop j with
                | nil =>
                  rw [hdj] at hcl6
                  unfold compL at hcl6
                  split at hcl6
                  · rename_i ok6
                    cases hcl6
                    have := drop_none hj hdj
                    subst this
                    exact .inl ⟨(r5 _ _ H6 X6 s6 ok6).2, ι6, _, acc6, accM6, ds2, E6, s6, hd6, ra6, en6, by simpa using hap6, by rw [hdr]; exact hrec⟩
                  · cases hcl6
                | cons x1 xs1 =>
                  rw [hdj] at hcl6
                  unfold compL at hcl6
                  split at hcl6
                  · rename_i ok6
                    obtain ⟨hx1, hdr1, hlt1⟩ := drop_get hdj
                    obtain ⟨go1, yl1⟩ := (r5 _ μ6 H6 X6 s6 ok6).1 j x1 hx1
                    refine .inr ⟨go1, In (j + 1), fun H' h' => ⟨t1.items.length - (j + 1), by omega, rfl, hlt1, h'⟩, fun v1 H7 y1 => ?_⟩
                    obtain ⟨E7, s7, r7⟩ := yl1 v1 H7 y1
                    split at hcl6
                    · rename_i ρ2 μ7 hg1
                      refine ⟨ι6.hide D, wipeE ρ1 vs1, μ6, x1, s7, (e6.ext E7).wipe vs1, r7, ρ2, μ7, hg1, fun σ8 ι8 H8 E8 s8 e8 b8 => ⟨wipe_but b8 hw1, ι8, ρ2, μ7, s8, e8, ?_⟩⟩
                      have E78 := E7.trans E8
                      split at hcl6
                      · rename_i μ8 hc8
                        rw [hc8]
                        intro k9 ι9 H9 E9 s9 r9
                        cases r9
                        rw [if_pos rfl]
                        refine ⟨ι9, ρ2, μ8, s9, e8.ext E9, ?_⟩
                        have E79 := E78.trans E9
                        split at hcl6
                        · rename_i d μ9 he
                          rw [he]
                          intro w ιa Ha Ea sa ra'
                          have E7a := E79.trans Ea
                          obtain ⟨G1, G2, G3⟩ := Ext.unhide sa E7a hd6
                          split at hcl6
                          · rename_i ds' μa hrec1
                            cases hcl6
                            have hm : D ∈ ιa.hid := by rw [G2]; exact List.mem_cons_self
                            have raA : RepL K Ha ιa accM6 acc6 := RepL.ext E7a _ _ ra6
                            have hla : acc6.length < sizeLine := by
                              have := congrArg List.length hap6
                              simp at this
                              rw [← ra6.len]; omega
                            refine ⟨acc6, G3, hla, ⟨ιa.cs, ι6.hid⟩, μ9, acc6 ++ [w], accM6 ++ [d], ds', Ext.after (E6.trans G1) hD, ?_, upd_same, ?_, ?_, ?_, ?_, by simpa using hap6, by rw [hdr1]; exact hrec1⟩
                            · rw [← G2]; exact SR.grow sa hm G3
                            · rw [← G2]; exact RepL.grow hm (raA.app (RepL.one ra'))
                            · rw [← G2]; exact EnvR.grow hm (en6.ext E7a)
                            · rw [← G2]; exact EnvR.grow hm (e6.ext E7a)
                            · rw [← G2]; exact (X6.trans E7a.w).grown (.inr hm5)
                          · cases hcl6
                        · cases hcl6
                      · rename_i μ8 hc8
                        rw [hc8]
                        intro k9 ι9 H9 E9 s9 r9
                        cases r9
                        rw [if_neg Bool.false_ne_true]
                        have E79 := E78.trans E9
                        obtain ⟨G1, G2, G3⟩ := Ext.unhide s9 E79 hd6
                        refine ⟨⟨ι9.cs, ι6.hid⟩, μ8, acc6, accM6, rest6, E6.trans G1, by rw [← G2]; exact s9, G3, ?_, ?_, ?_, ?_, hap6, by rw [hdr1]; exact hcl6⟩
                        · rw [← G2]; exact RepL.ext E79 _ _ ra6
                        · rw [← G2]; exact en6.ext E79
                        · rw [← G2]; exact e6.ext E79
                        · rw [← G2]; exact X6.trans E79.w
                      · cases hcl6
                    · cases hcl6
                  · cases hcl6
              · cases hcl
            · cases hcl
          · cases hcl
        · rename_i μ3 hc3
          rw [hc3]
          intro k ι4 H4 E4 s4 r4
          cases r4
          rw [if_neg Bool.false_ne_true]
          have E24 := E23.trans E4
          obtain ⟨F1, F2, F3⟩ := Ext.unhide s4 E24 hd1
          refine ⟨⟨ι4.cs, ι1.hid⟩, μ3, acc, accM, rest, E1.trans F1, by rw [← F2]; exact s4, F3, ?_, ?_, hap, by rw [hdr]; exact hcl⟩
          · rw [← F2]; exact RepL.ext E24 _ _ ra
          · rw [← F2]; exact en1.ext E24
        · cases hcl
      · cases hcl
    · cases hcl
theorem compM2 {K : Frag} {mg : Gm} (hw : ∀ i ∈ ws, i ∈ vs) (hw1 : ∀ i ∈ ws1, i ∈ vs1) (f : List MV → Ev MV)
    (hf : ∀ {σ ι H Q ρ μ' ds}, Post (RV K) K mg T W σ ι H Q (f ds ρ μ') → ∀ (D : Addr) (vs : List V) (ι' : Io) (H' : Hp), Ext ι H ι' H' → SR K T (ι'.hide D) μ' H' → ¬ Own ι' D → H D = none → H' D = some (.lst vs) → RepL K H' (ι'.hide D) ds vs → Q (.ref D) H') :
    ∀ σ H Q, tG (RV K) K mg T W (mB (mCompL2 vs vs1 mi g c mi1 g1 c1 e) f) σ H Q → tLc2 (tG (RJ K T) K mg T W mi) (tGt K T ws g) (tG RB K mg T W0 c) (tG (RJ K T) K mg T W0 mi1) (tGt K T ws1 g1) (tG RB K mg T W0 c1) (tG (RV K) K mg T W0 e) vs vs1 σ H Q :=
  fun σ H Q ⟨ι, ρ, μ, s, en, h⟩ => ⟨ι, ρ, μ, s, en, by
    unfold mCompL2 at h
    rw [mB_assoc] at h
    exact bindr h fun t J μ1 ι1 H1 _ E1 s1 r1 h1 => by
      unfold mB at h1
      dsimp only at h1
      cases hc : compT2 t g c mi1 g1 c1 e vs1 (wipeE ρ vs) μ1 with
      | none => rw [hc] at h1; exact h1.elim
      | some p =>
        obtain ⟨ds, μ'⟩ := p
        rw [hc] at h1
        unfold compT2 at hc
        split at hc
        · rename_i ds0 μ0 hc0
          split at hc
          · rename_i hl
            cases hc
            exact comp2_core hw hw1 s1 (en.ext E1) r1 ds μ' hl hc0 (hf h1)
          · cases hc
        · cases hc⟩
variable {tg iter tg1 iter1 elt : Expr} {ifs ifs1 : List Expr} {scope : Scope} {own : List (Str × Nat)} {pos spos py : Pos}
theorem re_comp2 (hc : X.calm = true) (hN : X.N.Nodup) (hi : RI X T W tg iter mi) (ok : BlkOk X.N X.env.scope scope own) (hv : ∀ i ∈ vs1, i ∈ own.map (·.2)) (hw : ∀ i ∈ ws, i ∈ own.map (·.2)) (hw1 : ∀ i ∈ ws1, i ∈ vs1)
    (hg : Blk X scope fun X => RG X T ws tg g) (ht : Blk X scope fun X => PTs X ifs (tG RB X.K X.mg T W0 c)) (hi1 : Blk X scope fun X => RI X T W0 tg1 iter1 mi1) (hg1 : Blk X scope fun X => RG X T ws1 tg1 g1) (ht1 : Blk X scope fun X => PTs X ifs1 (tG RB X.K X.mg T W0 c1)) (he : Blk X scope fun X => RE X T W0 elt e)
    (hs : ∀ x, foldedSetIterable iter X.env x = pure x := by intro _; rfl) (hs1 : ∀ env x, foldedSetIterable iter1 env x = pure x := by intro _ _; rfl) :
    RE X T W (.ListComp elt [⟨tg, iter, ifs, 0⟩, ⟨tg1, iter1, ifs1, 0⟩] scope pos) (mComp2 (own.map (·.2)) vs1 mi g c mi1 g1 c1 e) :=
  PE.mono (pe_lc2 hc hN hi ok hv hg ht hi1 hg1 ht1 he hs hs1) (compM2 hw hw1 (fun ds => mRet (.lst ds)) fun {σ ι H Q ρ μ' ds} h => compF (ρ := ρ) h)
theorem re_compC2 (hc : X.calm = true) (hN : X.N.Nodup) (hi : RI X T W tg iter mi) (ok : BlkOk X.N X.env.scope scope own) (hv : ∀ i ∈ vs1, i ∈ own.map (·.2)) (hw : ∀ i ∈ ws, i ∈ own.map (·.2)) (hw1 : ∀ i ∈ ws1, i ∈ vs1)
    (hg : Blk X scope fun X => RG X T ws tg g) (ht : Blk X scope fun X => PTs X ifs (tG RB X.K X.mg T W0 c)) (hi1 : Blk X scope fun X => RI X T W0 tg1 iter1 mi1) (hg1 : Blk X scope fun X => RG X T ws1 tg1 g1) (ht1 : Blk X scope fun X => PTs X ifs1 (tG RB X.K X.mg T W0 c1)) (he : Blk X scope fun X => RE X T W0 elt e)
    (hs : ∀ x, foldedSetIterable iter X.env x = pure x := by intro _; rfl) (hs1 : ∀ env x, foldedSetIterable iter1 env x = pure x := by intro _ _; rfl) :
    RE X T W (.ListComp elt [⟨tg, iter, ifs, 0⟩, ⟨tg1, iter1, ifs1, 0⟩] scope pos) (mCompC2 (own.map (·.2)) vs1 mi g c mi1 g1 c1 e) :=
  PE.mono (pe_lc2 hc hN hi ok hv hg ht hi1 hg1 ht1 he hs hs1) (compM2 hw hw1 (fun ds => fun _ μ => .ok (.ref μ.length) (μ ++ [.lst ds])) fun {σ ι H Q ρ μ' ds} h => compCF (ρ := ρ) h)
theorem s_setComp2 {i : Nat} {y : Str} {m : Ev MV} (hc : X.calm = true) (hN : X.N.Nodup) (hy : X.N[i]? = some y) (hyl : X.env.scope.names.lookup y = some .local)
    (hsw : swapsWith (.ListComp elt [⟨tg, iter, ifs, 0⟩, ⟨tg1, iter1, ifs1, 0⟩] scope pos) (some (.Name y py)) spos.line X.env = pure true) (hi : RI X T W tg iter mi) (ok : BlkOk X.N X.env.scope scope own) (hv : ∀ i ∈ vs1, i ∈ own.map (·.2)) (hw : ∀ i ∈ ws, i ∈ own.map (·.2)) (hw1 : ∀ i ∈ ws1, i ∈ vs1)
    (hg : Blk X scope fun X => RG X T ws tg g) (ht : Blk X scope fun X => PTs X ifs (tG RB X.K X.mg T W0 c)) (hi1 : Blk X scope fun X => RI X T W0 tg1 iter1 mi1) (hg1 : Blk X scope fun X => RG X T ws1 tg1 g1) (ht1 : Blk X scope fun X => PTs X ifs1 (tG RB X.K X.mg T W0 c1)) (he : Blk X scope fun X => RE X T W0 elt e)
    (hm : ∀ K mg σ H Q, tG (RV K) K mg T W m σ H Q → tLc2 (tG (RJ K T) K mg T W mi) (tGt K T ws g) (tG RB K mg T W0 c) (tG (RJ K T) K mg T W0 mi1) (tGt K T ws1 g1) (tG RB K mg T W0 c1) (tG (RV K) K mg T W0 e) (own.map (·.2)) vs1 σ H Q)
    (hs : ∀ x, foldedSetIterable iter X.env x = pure x := by intro _; rfl) (hs1 : ∀ env x, foldedSetIterable iter1 env x = pure x := by intro _ _; rfl) :
    RS X T W (.Assign [.Name y py] (.ListComp elt [⟨tg, iter, ifs, 0⟩, ⟨tg1, iter1, ifs1, 0⟩] scope pos) spos) (sAsg m (gN i)) :=
  PS.mono (ps_setLc2 hc hN hy hyl hsw hi ok hv hg ht hi1 hg1 ht1 he hs hs1) fun D σ H h => hm _ _ _ _ _ (nameM D σ H h)
end
end MM

set_option Elab.async false
set_option linter.all false
set_option maxRecDepth 100000
set_option maxHeartbeats 4000000
/-! ## MM: defs by name; the law's end -/
namespace MM
open PySem PySem.Spec PyProof.Rows L2
/-- the global x is a def that is F -/
def CalM (P : Program) (w : World) (K : Frag) (mg : Gm) (base : Heap) (T : Tbs) (k : Nat) (x : Str) (ps : List Str) (F : FM) : Prop :=
  ∃ (f : Addr) (fd : FuncData), FnG P w K mg base T k f fd ps F ∧ mg x = some (.ref f) ∧ PySem.W.keepIn K (.ref f) = true ∧ L2.Binds K fd ps []
theorem CalM.mono {P : Program} {w : World} {K : Frag} {mg : Gm} {base : Heap} {T : Tbs} {k j : Nat} {x : Str} {ps : List Str} {F : FM} (c : CalM P w K mg base T k x ps F) (h : k ≤ j) : CalM P w K mg base T j x ps F := by
  obtain ⟨f, fd, G, a, b, d⟩ := c
  exact ⟨f, fd, G.mono h, a, b, d⟩
section
variable {X : Cx} {T : Tbs} {W : WX} {k : Nat} {ps : List Str} {F : FM} {x : Str} {p pos : Pos} {e : Expr} {es : List Expr} {ms : Ev (List MV)}
theorem re_cal (c : CalM X.prog X.w X.K X.mg X.base T k x ps F) (hr : Room k X.A) (hgd : X.A.guards = some []) (hg : Gl X x) (tk : L2N.Takes X W)
    (ha : RA X T W (e :: es) ms) (hdb : (x == ("__debug__" : Str)) = false := by decide) (he : starEach (e :: es) X.env = (false, eval e X.env) :: starEach es X.env := by rfl) (hpl : (backTo pos (starEach es X.env)).any (·.1) = false := by rfl) :
    RE X T W (.Call (.Name x p) (e :: es) [] pos) (mCall ps.length F ms) := by
  obtain ⟨f, fd, G, hm, hk, hb⟩ := c
  exact re_call G hr hgd hg hm hk hb tk ha hdb he hpl
end
section
variable {P : Program} {w : World} {K : Frag} {mg : Gm} {base : Heap} {T : Tbs} {k : Nat} {f : Addr} {x : Str} {params : Arguments} {body : List Stmt} {scope : Scope} {N ps : List Str} {b : SM}
theorem CalM.of (F : ∃ fd, FunD K x x params body scope [] [] f fd) (g : mg x = some (.ref f))
    (hbind : ∀ (kV doc pm : Value) (an : Option Addr) (cdv ct : Value) (us : List Value), us.length = ps.length → bindArgs (PySem.W.fnOf x x params body scope .none kV doc pm an cdv ct) ⟨us, []⟩ = pure (ps.zip us)) (S : FnScope N ps scope)
    (hb : ∀ (cdv : Value) (A : Around) (outer : List PySem.Env) (s : Shared) (H : Hp) (E : XK), Room k (A.deeper (envOfC x scope s.heap.objs.size f cdv)) → A.guards = some [] → RSs (cxOf (L2N.CX P w) P w K mg base N x scope f cdv A outer s H E) T (wE E) body b) :
    CalM P w K mg base T (k + 1) x ps (runC N b) := by
  obtain ⟨fd, F⟩ := F
  have hB := F.bindsN hbind
  obtain ⟨oc, od, dV, kV, doc, pm, an, cdv, ct, osl, rfl, lk, hcd, _, _⟩ := F.ex
  exact ⟨f, _, FnG.chop (FnG.mk' lk hcd S fun A outer s H E hr hg => hb cdv A outer s H E hr hg), g, F.kp, hB⟩
end
end MM

set_option Elab.async false
set_option linter.all false
set_option maxRecDepth 100000
set_option maxHeartbeats 4000000
/-! ## MM: the law is called -/
namespace MM
open PySem PySem.Spec PyProof.Rows L2
/-- what is tracked at the law's call: the script (where it is no part of K), the empty tables -/
noncomputable def endH (K : Frag) (a : Addr) (vs : List Value) (ns : List Int) (ts : List Addr) : Hp := fun b =>
  if b = a then (match K.lookup a with
    | some _ => none
    | none => some (.frz { cls := .type "list", data := .seq vs.toArray } (.lst (ns.map V.int))))
  else if b ∈ ts then some (.tbl #[]) else none
section
variable {K : Frag} {a : Addr} {vs : List Value} {ns : List Int} {ts : List Addr}
theorem endH_tab {b : Addr} (h : b ∈ ts) (n : b ≠ a) : endH K a vs ns ts b = some (.tbl #[]) := by
  unfold endH
  rw [if_neg n, if_pos h]
theorem endH_off {b : Addr} (h : b ∉ ts) (n : b ≠ a) : endH K a vs ns ts b = none := by
  unfold endH
  rw [if_neg n, if_neg h]
theorem endH_at : endH K a vs ns ts a = (match K.lookup a with
    | some _ => none
    | none => some (.frz { cls := .type "list", data := .seq vs.toArray } (.lst (ns.map V.int)))) := by
  unfold endH
  rw [if_pos rfl]
/-- b's object is tracked as it stands, or a table, or not at all -/
theorem endH_cases (b : Addr) (aT : a ∉ ts) : endH K a vs ns ts b = none ∨ (b ∈ ts ∧ endH K a vs ns ts b = some (.tbl #[])) ∨ (b = a ∧ K.lookup a = none ∧ endH K a vs ns ts b = some (.frz { cls := .type "list", data := .seq vs.toArray } (.lst (ns.map V.int)))) := by
  by_cases h1 : b = a
  · subst h1
    rw [endH_at]
    cases K.lookup b with
    | some o => exact .inl rfl
    | none => exact .inr (.inr ⟨rfl, rfl, rfl⟩)
  · by_cases h2 : b ∈ ts
    · exact .inr (.inl ⟨h2, endH_tab h2 h1⟩)
    · exact .inl (endH_off h2 h1)
end
section
variable {P : Program} {w : World} {K : Frag} {mg mb : Str → Option Value} {k : Nat} {fa a : Addr} {cs : List (Addr × Addr)} {fd : FuncData} {x : Str} {F : FM} {T : Tbs} {s₁ : Shared} {vs : List Value} {ns : List Int}
theorem end_call (KX : K.In s₁.heap) (gns : s₁.heap.Ns mainGlobals mg) (bns : s₁.heap.Ns builtinsNs mb) (bbt : ∀ x : Str, x ≠ "__name__" → mb x = bootBuiltins x) (lim : s₁.heap.NoLimit) (gen : s₁.gens = #[])
    (tabs : ∀ p ∈ cs, s₁.heap.get? p.2 = some { cls := .none, data := .fields #[] }) (noK : ∀ p ∈ cs, K.lookup p.2 = none) (codes : ∀ p ∈ cs, PySem.W.CodeHd s₁.heap p.1 p.2)
    (bmod : ∃ (bm : Addr) (ob : Obj), mg "__builtins__" = some (.ref bm) ∧ bm ≠ builtinsNs ∧ s₁.heap.get? bm = some ob ∧ ob.cls = .type "module" ∧ ob.dict = some builtinsNs ∧ ob.data = .plain)
    (scr : s₁.heap.get? a = some { cls := .type "list", data := .seq vs.toArray }) (hin : IntsAre vs ns) (few : ns.length ≤ sizeLine) (hr : Room k callerA)
    (G : ∀ base : Heap, K.In base → base.Ns mainGlobals mg → (∀ p ∈ cs, LamX.TabB base mg p.1 p.2) → FnG P w K mg base T k fa fd [x] F) (hbind : ∀ (s : Shared) (u : Value), BindsTo s fd ⟨[u], []⟩ [(x, u)])
    (hT : ∀ p ∈ T, p.1 ∈ cs.map (·.2)) (holds : ∃ μ', F [.scr ns] [] = .ok (.bl true) μ') :
    codeAny (model P w) callerA (.call (.ref fa) ⟨[.ref a], []⟩) (fun r s' => r = .ok (.ret (.bool true)) ∧ OldK s₁.heap s'.heap ∧ s'.os = s₁.os ∧ AllBare s'.gens) s₁ := by
  have rv := vals_ints hin
  have lenV := hin.length
  generalize hts : cs.map (·.2) = ts at hT
  have isT : ∀ b : Addr, b ∈ ts → s₁.heap.get? b = some { cls := .none, data := .fields #[] } := fun b hb => by
    rw [← hts] at hb
    obtain ⟨p, hp, e⟩ := List.mem_map.mp hb
    rw [← e]
    exact tabs p hp
  have tsK : ∀ b : Addr, b ∈ ts → K.lookup b = none := fun b hb => by
    rw [← hts] at hb
    obtain ⟨p, hp, e⟩ := List.mem_map.mp hb
    rw [← e]
    exact noK p hp
  have aT : a ∉ ts := fun z => by
    have q := isT a z
    rw [scr] at q
    have z' : Data.seq vs.toArray _ = Data.fields #[] := congrArg Obj.data (Option.some.inj q)
    cases z'
  have inT : ∀ p ∈ cs, p.2 ∈ ts := fun p hp => by rw [← hts]; exact List.mem_map.mpr ⟨p, hp, rfl⟩
  have tab_at : ∀ b ∈ ts, endH K a vs ns ts b = some (.tbl #[]) := fun b hb => endH_tab hb fun z => aT (z ▸ hb)
  obtain ⟨H, hH⟩ : ∃ H : Hp, H = endH K a vs ns ts := ⟨_, rfl⟩
  have cas : ∀ b, H b = none ∨ (b ∈ ts ∧ H b = some (.tbl #[])) ∨ (b = a ∧ K.lookup a = none ∧ H b = some (.frz { cls := .type "list", data := .seq vs.toArray } (.lst (ns.map V.int)))) := fun b => by rw [hH]; exact endH_cases b aT
  -- an object that is neither a sequence nor an empty table is not tracked
  have free_of : ∀ {b : Addr} {o : Obj}, s₁.heap.get? b = some o → (∀ vs n, o.data ≠ .seq vs n) → o.data ≠ .fields #[] → H b = none := fun {b o} e h1 h2 => by
    rcases cas b with z | ⟨z, _⟩ | ⟨z, _⟩
    · exact z
    · rw [isT b z] at e; cases e
      exact (h2 rfl).elim
    · subst z
      rw [scr] at e; cases e
      exact (h1 _ _ rfl).elim
  have hok : HOk P w H s₁.heap := fun b u z => by
    rcases cas b with y | ⟨y, y2⟩ | ⟨y, _, y2⟩
    · rw [y] at z; cases z
    · rw [y2] at z; cases z
      exact isT b y
    · rw [y2] at z; cases z
      subst y
      exact ⟨scr, by rw [List.length_map]; exact few, vs, _, rv, scr⟩
  have in_base : ∀ {b : Addr} {o : Obj}, s₁.heap.get? b = some o → H b = none → (hidT s₁.heap H).get? b = some o := fun e n => hidT_get e n
  have dict_free : ∀ {b : Addr} {o : Obj} {es : Array DictEntry} {ep : Nat}, s₁.heap.get? b = some o → o.data = .dict es ep → H b = none := fun {b o es ep} e d =>
    free_of e (fun vs n z => by rw [d] at z; cases z) fun z => by rw [d] at z; cases z
  have ns_base : ∀ {b : Addr} {m : Str → Option Value}, s₁.heap.Ns b m → (hidT s₁.heap H).Ns b m := fun {b m} ⟨o, es, ep, e, d, r⟩ => ⟨o, es, ep, in_base e (dict_free e d), d, r⟩
  have K_base : K.In (hidT s₁.heap H) := fun b o e => in_base (KX b o e) (by
    rcases cas b with z | ⟨z, _⟩ | ⟨z, z2, _⟩
    · exact z
    · rw [tsK b z] at e; cases e
    · subst z; rw [z2] at e; cases e)
  have md : L2.Mod K mg (hidT s₁.heap H) := ⟨K_base, ns_base gns, ⟨mb, ns_base bns, bbt⟩, let ⟨mc, h1, h2⟩ := lim; ⟨mc, ns_base h1, h2⟩⟩
  have TB : ∀ p ∈ cs, LamX.TabB (hidT s₁.heap H) mg p.1 p.2 := fun p hp => by
    have hTp := tabs p hp
    refine ⟨?_, ?_, fun z => ?_⟩
    · obtain ⟨o, us, file, tf, flags, tg, inF, text, tt, e1, r1, r2, r3, r4, r5, r6, r7, r8, hne⟩ := codes p hp
      refine ⟨o, us, file, tf, flags, tg, inF, text, tt, in_base e1 (free_of e1 (fun vs n z => by rw [r2] at z; cases z) fun z => ?_), r1, r2, r3, r4, r5, r6, r7, r8, hne⟩
      rw [r2] at z
      cases z
      simp at r3
    · obtain ⟨bm, ob, b1, b2, b3, b4, b5, b6⟩ := bmod
      refine ⟨bm, ob, b1, b2, fun q => ?_, fun q => ?_, in_base b3 (free_of b3 (fun vs n z => by rw [b6] at z; cases z) fun z => by rw [b6] at z; cases z), b4, b5, b6⟩
      · obtain ⟨o, es, ep, e, hd, _⟩ := gns
        rw [q, e] at b3
        cases b3
        rw [hd] at b6
        cases b6
      · rw [q, hTp] at b3
        cases b3
        cases b6
    · obtain ⟨o, es, ep, e, hd, _⟩ := gns
      rw [z, hTp] at e
      cases e
      cases hd
  have e0 : Env0 P w K mg (hidT s₁.heap H) callerA [] s₁ H := ⟨rfl, md, fun b o e => of_hidT e, Nat.le_of_eq (hidT_size _ _), trivial, fun b hb => absurd (show b ∈ ([] : List Addr) from hb) (by simp), hok, .of_eq gen⟩
  obtain ⟨μ', hF⟩ := holds
  have sp : spM K mg T [x].length F [.ref a] H (fun v _ => v = .bl true) fun _ _ _ => False := by
    refine ⟨⟨[], []⟩, [], [.scr ns], ⟨rfl, fun i j b h => by simp at h, fun i c h => by simp at h, fun p hp => ?_, fun b h => by cases h⟩, RepL.one ?_, rfl, ?_⟩
    · exact LamX.TabS.nil (by rw [hH]; exact tab_at _ (hT p hp))
    · unfold RepV
      refine ⟨a, rfl, ?_⟩
      cases hk : K.lookup a with
      | none => exact .inl ⟨.inr ⟨_, by rw [hH, endH_at, hk]⟩, fun z => by rcases z with z | z <;> cases z⟩
      | some o =>
        have e := KX a o hk
        rw [scr] at e
        cases e
        exact .inr ⟨_, vs.toArray, _, hk, rfl, rfl, rfl, by rw [List.size_toArray, lenV]; exact few, by simpa using rv⟩
    · rw [hF]
      exact fun v ι' H' _ _ r => r.bl_inv
  refine codeAny_mono ((G _ K_base (ns_base gns) TB).run callerA [] s₁ H ⟨[.ref a], []⟩ [.ref a] [.ref a] _ _ hr rfl e0 (hbind s₁ (.ref a)) (.cons rfl .nil) sp) fun r s' h => ?_
  cases r with
  | error e =>
    obtain ⟨_, _, _, _, _, _, _, _, _, _, _, _, z⟩ := (show L2N.CX P w [] H s₁ (fun _ _ _ => False) e s' from h)
    exact z.elim
  | ok fl =>
    cases fl with
    | next => exact False.elim h
    | brk => exact False.elim h
    | cont => exact False.elim h
    | ret u =>
      obtain ⟨v, H', os, bare, un, hok', r', q⟩ := h
      have q' : v = .bl true := q
      subst q'
      obtain rfl : u = Value.bool true := r'
      have same : ∀ b o, b ∉ ts → s₁.heap.get? b = some o → s'.heap.get? b = some o := fun b o nb e => by
        rcases cas b with z | ⟨z, _⟩ | ⟨z, _, z2⟩
        · exact un.keep b o e z (by intro z; exact absurd (show b ∈ ([] : List Addr) from z) (by simp)) (by simp)
        · exact absurd z nb
        · have z3 := un.frzs b _ _ z2
          obtain ⟨e2, _⟩ := hok' b _ z3
          subst z
          rw [scr] at e; cases e
          exact e2
      have more : ∀ p ∈ cs, ∃ m : Array Value, s'.heap.get? p.2 = some { cls := .none, data := .fields m } := fun p hp => by
        obtain ⟨m, z⟩ := un.tbls p.2 #[] (by rw [hH]; exact tab_at _ (inT p hp))
        exact ⟨_, hok' p.2 _ z⟩
      refine ⟨rfl, ⟨fun b o e => ?_, fun b o e => ?_⟩, os, bare⟩
      · by_cases hb : b ∈ ts
        · rw [← hts] at hb
          obtain ⟨p, hp, ep⟩ := List.mem_map.mp hb
          obtain ⟨m, hm⟩ := more p hp
          rw [← ep] at e ⊢
          rw [tabs p hp] at e
          cases e
          exact .inr (.inl ⟨((codes p hp).tab (tabs p hp)).isCodeTable, rfl, #[], m, rfl, by rw [Array.empty_append]; exact hm⟩)
        · exact .inl (same b o hb e)
      · by_cases hb : b ∈ ts
        · rw [← hts] at hb
          obtain ⟨p, hp, ep⟩ := List.mem_map.mp hb
          obtain ⟨m, hm⟩ := more p hp
          rw [← ep]
          exact ⟨_, hm⟩
        · exact ⟨o, same b o hb e⟩
end
/-- the row's walk, from the law's def -/
theorem walk_end {l : PySem.W.OpenLaw} {n k : Nat} {q : Program} {loose : List Str} {XP : (Str → Option Value) → Heap → Prop} {YP : World → Heap → Prop} {d : DefRec} {x : Str}
    (hn : l.most = some n) (hn2 : n ≤ sizeLine) (hdf : d.params.defaults = []) (hr : Room k callerA)
    (look : ∀ (w : World) (mg : Str → Option Value) (fa : Addr) (h : Heap), YP w h → h.Ns mainGlobals mg → mg d.name = some (.ref fa) →
      ∃ (K : Frag) (fd : FuncData) (cs : List (Addr × Addr)) (T : Tbs) (F : FM), K.In h ∧ (∀ p ∈ cs, h.get? p.2 = some { cls := .none, data := .fields #[] }) ∧ (∀ p ∈ cs, K.lookup p.2 = none) ∧ (∀ p ∈ cs, PySem.W.CodeHd h p.1 p.2) ∧ (∀ (s : Shared) (u : Value), BindsTo s fd ⟨[u], []⟩ [(x, u)]) ∧ (∀ p ∈ T, p.1 ∈ cs.map (·.2)) ∧
        (∀ ns : List Int, ns.length ≤ n → (∀ z ∈ ns, Builtin.Int.intBits z ≤ 1048576) → ∃ μ', F [.scr ns] [] = .ok (.bl true) μ') ∧
        ∀ base : Heap, K.In base → base.Ns mainGlobals mg → (∀ p ∈ cs, LamX.TabB base mg p.1 p.2) → FnG l.prog w K mg base T k fa fd [x] F) :
    PySem.W.WalkO q loose XP YP l.row.toRowW d [] (fun f vs => PySem.call f vs) := by
  refine Att.attach_callB hn hdf fun w s₀ s₁ mg mb fa o pm cd doc a vs ns G Y ho hd hcd hmg hobj hints hlen hbits hg => ?_
  obtain ⟨K, fd, cs, T, F, KX, c1, c2, c3, c4, c5, c6, c7⟩ := look w mg fa _ Y G.T.g hmg
  exact end_call KX G.T.g G.T.b G.T.builtins G.T.nolimit hg c1 c2 c3 G.T.bmain hobj hints (Nat.le_trans hlen hn2) hr c7 c4 c5 (c6 ns hlen hbits)
end MM

set_option Elab.async false
set_option linter.all false
set_option maxRecDepth 100000
set_option maxHeartbeats 4000000
/-! ## MM: starred items; least and greatest; sorted; reversed; the bundle of a context -/
namespace MM
open PySem PySem.Spec PyProof.Rows L2
/-! ### starred items -/
def mStar (ma : Ev MV) (ms : Ev (List MV)) : Ev (List MV) := mB ma fun d => mB (fun _ μ => match seqOf μ d with
  | some xs => .ok xs μ
  | none => .bad) fun xs => mB ms fun ds => mRet (xs ++ ds)
section
variable {X : Cx} {T : Tbs} {W : WX} {pos p : Pos} {a : Expr} {es : List Expr} {ma : Ev MV} {ms : Ev (List MV)}
theorem ra_star (ha : RE X T W a ma) (hr : RA X T W es ms) (hs : starEach (.Starred a p :: es) X.env = (true, eval a X.env) :: starEach es X.env := by rfl) : RA X T W (.Starred a p :: es) (mStar ma ms) :=
  PA.mono (StX.pa_star ha hr hs) fun σ H Q ⟨ι, ρ, μ, s, e, h⟩ => ⟨ι, ρ, μ, s, e, bindr h fun d v μ1 ι1 H1 _ E1 s1 r1 h1 => by
    cases hq : seqOf μ1 d with
    | none =>
      unfold mB at h1
      simp only [hq] at h1
      exact h1.elim
    | some xs =>
      obtain ⟨b, vs, ev, t, l⟩ := seq_inv s1 r1 hq
      have h2 : Post (RLs X.K) X.K X.mg T W σ ι1 H1 (fun ys H2 => Q ys H2) (mB ms (fun ds => mRet (xs ++ ds)) ρ μ1) := by
        unfold mB at h1
        simp only [hq] at h1
        exact h1
      exact ⟨b, vs, ev, t.elim .inr .inl, ι1, ρ, μ1, s1, e.ext E1, bindr h2 fun ds us μ2 ι2 H2 _ E2 s2 r2 h3 => h3 (vs ++ us) ι2 H2 Ext.refl s2 ((RepL.ext E2 _ _ l).app r2)⟩⟩
end

/-! ### least, greatest -/
mutual
def unPd : PyData → Option MV
  | .none => some .non
  | .bool b => some (.bl b)
  | .int i => some (.int i)
  | .str x => some (.str x)
  | .tuple xs => (unPdL xs).map .tup
  | .list xs => (unPdL xs).map .lst
  | _ => none
def unPdL : List PyData → Option (List MV)
  | [] => some []
  | x :: xs => match unPd x, unPdL xs with
    | some d, some ds => some (d :: ds)
    | _, _ => none
end
mutual
theorem unPd_pd : ∀ (d : MV) (p : PyData), pd0 d = some p → unPd p = some d
  | .non, p, h => by cases h; rfl
  | .bl b, p, h => by cases h; rfl
  | .int i, p, h => by cases h; rfl
  | .str x, p, h => by cases h; rfl
  | .ref _, _, h => by cases h
  | .cst _, _, h => by cases h
  | .scr _, _, h => by cases h
  | .tup xs, p, h => by
    unfold pd0 at h
    obtain ⟨ps, h1, rfl⟩ := Option.map_eq_some_iff.mp h
    unfold unPd
    rw [unPdL_pd xs ps h1]
    rfl
  | .lst xs, p, h => by
    unfold pd0 at h
    obtain ⟨ps, h1, rfl⟩ := Option.map_eq_some_iff.mp h
    unfold unPd
    rw [unPdL_pd xs ps h1]
    rfl
theorem unPdL_pd : ∀ (xs : List MV) (ps : List PyData), pd0L xs = some ps → unPdL ps = some xs
  | [], ps, h => by cases h; rfl
  | x :: xs, ps, h => by
    unfold pd0L at h
    split at h
    · rename_i d ds h1 h2
      cases h
      unfold unPdL
      rw [unPd_pd x d h1, unPdL_pd xs ds h2]
    · cases h
end
theorem pd0L_at : ∀ {xs : List MV} {ps : List PyData} {i : Nat} {d : MV}, pd0L xs = some ps → xs[i]? = some d → ∃ p, ps[i]? = some p ∧ pd0 d = some p
  | [], _, _, _, _, h => by simp at h
  | x :: xs, ps, i, d, h, e => by
    unfold pd0L at h
    split at h
    · rename_i p1 ps1 h1 h2
      cases h
      cases i with
      | zero => cases e; exact ⟨p1, rfl, h1⟩
      | succ i => exact pd0L_at (xs := xs) (i := i) h2 (by simpa using e)
    · cases h
def alikeB (ps : List PyData) : Bool := ps.all (fun x => ps.all fun y => PySem.W.alike x y) && ps.all fun x => match x with
  | .none => false
  | _ => true
theorem alikeB_all {ps : List PyData} (h : alikeB ps = true) : PySem.W.AlikeAll ps := by
  unfold alikeB at h
  rw [Bool.and_eq_true, List.all_eq_true, List.all_eq_true] at h
  refine ⟨fun x hx y hy => (List.all_eq_true.mp (h.1 x hx)) y hy, fun x hx e => ?_⟩
  have := h.2 x hx
  rw [e] at this
  cases this
def bestM (f : PyData → List PyData → PyData) : OpC := fun μ ds => match ds with
  | [d] => (seqOf μ d).bind fun xs => (pd0L xs).bind fun ps => match ps with
    | [] => none
    | p :: r => if alikeB (p :: r) = true ∧ PyData.depthAll (p :: r) ≤ 100 then unPd (f p r) else none
  | _ => none
def minM : OpC := bestM PySem.W.minD
def maxM : OpC := bestM PySem.W.maxD
section
variable {X : Cx} {T : Tbs}
theorem best_inv {f : PyData → List PyData → PyData} {K : Frag} {H : Hp} {ι : Io} {μ : Mem} {ds : List MV} {xs : List V} {d : MV} (sr : SR K T ι μ H) (r1 : RepL K H ι ds xs) (e : bestM f μ ds = some d) :
    ∃ a vs zs p r, xs = [.ref a] ∧ (SqL K H a vs ∨ SqT K H a vs) ∧ RepL K H ι zs vs ∧ pd0L zs = some (p :: r) ∧ PySem.W.AlikeAll (p :: r) ∧ PyData.depthAll (p :: r) ≤ 100 ∧ unPd (f p r) = some d := by
  unfold bestM at e
  split at e
  · obtain ⟨zs, h1, e⟩ := Option.bind_eq_some_iff.mp e
    obtain ⟨ps, h2, e⟩ := Option.bind_eq_some_iff.mp e
    obtain ⟨v, rfl, r⟩ := r1.one_inv
    obtain ⟨a, vs, rfl, t, l⟩ := seq_inv sr r h1
    cases ps with
    | nil => cases e
    | cons p q =>
      have e : (if alikeB (p :: q) = true ∧ PyData.depthAll (p :: q) ≤ 100 then unPd (f p q) else none) = some d := e
      split at e
      · rename_i hh
        exact ⟨a, vs, zs, p, q, rfl, t, l, h2, alikeB_all hh.1, hh.2, e⟩
      · cases e
  · cases e
theorem best_end {f : PyData → List PyData → PyData} {pins : List (Addr × Obj)} {σ : L2.St} {H : Hp} {s : Shared} {Q : VK} {ι : Io} {μ : Mem} {zs : List MV} {vs : List V} {us : List Value} {p : PyData} {r : List PyData} {d : MV} (I : Inv X pins σ H s) (sr : SR X.K T ι μ H) (l : RepL X.K H ι zs vs) (rv : Vals vs us)
    (hp : pd0L zs = some (p :: r)) (hd : unPd (f p r) = some d) (q : ∀ v H', Ext ι H ι H' → SR X.K T ι μ H' → RepV X.K H' ι d v → Q v H')
    {i : Nat} {v : Value} {h' : Heap} {tk : Nat} {bs : List Addr} (hv : us.toArray[i]? = some v) (hr : Reads h' v (f p r) bs) (hk : ∀ b o, s.heap.get? b = some o → h'.get? b = some o) :
    EP X pins σ Q v { s with heap := h', toks := tk } := by
  have hi : i < us.length := by
    have := (Array.getElem?_eq_some_iff.mp hv).1
    simpa using this
  have hi2 : i < vs.length := by rw [rv.length]; exact hi
  obtain ⟨u, hu, ru⟩ := rv.get (i := i) (x := vs[i]) (by simp [hi2])
  have hv' : us[i]? = some v := by simpa using hv
  rw [hv'] at hu
  cases hu
  obtain ⟨d2, hd2, rd2⟩ := l.get' (i := i) (v := vs[i]) (by simp [hi2])
  obtain ⟨p2, hp2, hpd⟩ := pd0L_at hp hd2
  have hdp := pd0_dp sr d2 _ p2 rd2 hpd
  have I2 : Inv X pins σ H { s with heap := h', toks := tk } := I.kept hk
  obtain ⟨as, r2⟩ := Dp.reads I2 p2 _ v hdp ru
  obtain ⟨e, _⟩ := Reads.unique hr p2 as r2
  rw [e, unPd_pd d2 p2 hpd] at hd
  cases hd
  exact ⟨vs[i], H, I2, ru, q _ H Ext.refl sr rd2⟩
theorem c_min (hc : X.calm = true) (hu : X.A.units + 101 < cLine) : CallR X (.builtin "min") (rC X.K T minM) := by
  intro pins s σ H xs us Q I rx ⟨ι, μ, ds, sr, r1, d, e, q⟩
  obtain ⟨a, vs, zs, p, r, rfl, t, l, h2, h3, h4, h5⟩ := best_inv sr r1 e
  rw [Vals.ref1 rx]
  rcases t with t | t
  · obtain ⟨its, rv, hl, _⟩ := I.list t
    obtain ⟨as, hr⟩ := Dp.readsAll I (p :: r) vs its (pd0L_dp sr zs vs _ l h2) rv
    exact PySem.W.min_list_data (I.ok.hd hc) hl.isList (by simpa using hr) h3 (by omega) fun i v h' tk bs hv hrd hk => best_end I sr l rv h2 h5 q hv hrd hk
  · obtain ⟨its, rv, hl, _⟩ := I.tuple t
    obtain ⟨as, hr⟩ := Dp.readsAll I (p :: r) vs its (pd0L_dp sr zs vs _ l h2) rv
    exact PySem.W.min_tuple_data (I.ok.hd hc) hl (by simpa using hr) h3 (by omega) fun i v h' tk bs hv hrd hk => best_end I sr l rv h2 h5 q hv hrd hk
theorem c_max (hc : X.calm = true) (hu : X.A.units + 101 < cLine) : CallR X (.builtin "max") (rC X.K T maxM) := by
  intro pins s σ H xs us Q I rx ⟨ι, μ, ds, sr, r1, d, e, q⟩
  obtain ⟨a, vs, zs, p, r, rfl, t, l, h2, h3, h4, h5⟩ := best_inv sr r1 e
  rw [Vals.ref1 rx]
  rcases t with t | t
  · obtain ⟨its, rv, hl, _⟩ := I.list t
    obtain ⟨as, hr⟩ := Dp.readsAll I (p :: r) vs its (pd0L_dp sr zs vs _ l h2) rv
    exact PySem.W.max_list_data (I.ok.hd hc) hl.isList (by simpa using hr) h3 (by omega) fun i v h' tk bs hv hrd hk => best_end I sr l rv h2 h5 q hv hrd hk
  · obtain ⟨its, rv, hl, _⟩ := I.tuple t
    obtain ⟨as, hr⟩ := Dp.readsAll I (p :: r) vs its (pd0L_dp sr zs vs _ l h2) rv
    exact PySem.W.max_tuple_data (I.ok.hd hc) hl (by simpa using hr) h3 (by omega) fun i v h' tk bs hv hrd hk => best_end I sr l rv h2 h5 q hv hrd hk
def max2M : OpC := fun _ ds => match ds with
  | [.int i, .int j] => some (.int (if j > i then j else i))
  | _ => none
def min2M : OpC := fun _ ds => match ds with
  | [.int i, .int j] => some (.int (if j < i then j else i))
  | _ => none
theorem c_max2 (hc : X.calm = true) : CallR X (.builtin "max") (rC X.K T max2M) := by
  intro pins s σ H xs us Q I rx ⟨ι, μ, ds, sr, r1, d, e, q⟩
  unfold max2M at e
  split at e
  · cases e
    obtain ⟨v, u, rfl, h1, h2⟩ := r1.two_inv
    cases h1.int_inv
    cases h2.int_inv
    exact call_max2 hc pins s σ H _ us Q I rx ⟨_, _, rfl, q _ H Ext.refl sr RepV.int⟩
  · cases e
theorem c_min2 (hc : X.calm = true) : CallR X (.builtin "min") (rC X.K T min2M) := by
  intro pins s σ H xs us Q I rx ⟨ι, μ, ds, sr, r1, d, e, q⟩
  unfold min2M at e
  split at e
  · cases e
    obtain ⟨v, u, rfl, h1, h2⟩ := r1.two_inv
    cases h1.int_inv
    cases h2.int_inv
    exact call_min2 hc pins s σ H _ us Q I rx ⟨_, _, rfl, q _ H Ext.refl sr RepV.int⟩
  · cases e
/-! ### sorted, whole numbers -/
def sortI (ns : List Int) : List Int := ns.mergeSort (fun a b => decide (a ≤ b))
def sortedM : OpC := fun μ ds => match ds with
  | [d] => (lstOf μ d).bind fun xs => (intsOf xs).map fun ns => .lst ((sortI ns).map .int)
  | _ => none
theorem sortI_eq {ns ms : List Int} (p : ms.Perm ns) (s : ms.Pairwise (· ≤ ·)) : ms = sortI ns := by
  have h1 : (sortI ns).Perm ns := List.mergeSort_perm _ _
  have h2 : (sortI ns).Pairwise (· ≤ ·) := by
    have := List.pairwise_mergeSort (le := fun a b : Int => decide (a ≤ b)) (fun a b c h1 h2 => by simp at *; omega) (fun a b => by simp; omega) ns
    exact this.imp fun h => of_decide_eq_true h
  exact List.Perm.eq_of_pairwise (fun a b _ _ h1 h2 => Int.le_antisymm h1 h2) s h2 (p.trans h1.symm)
theorem c_sorted : CallR X (.builtin "sorted") (rC X.K T sortedM) := by
  intro pins s σ H xs us Q I rx ⟨ι, μ, ds, sr, r1, d, e, q⟩
  unfold sortedM at e
  split at e
  · obtain ⟨ys, h1, e⟩ := Option.bind_eq_some_iff.mp e
    obtain ⟨ns, h2, rfl⟩ := Option.map_eq_some_iff.mp e
    obtain ⟨v, rfl, r⟩ := r1.one_inv
    obtain ⟨a, vs, rfl, t, l⟩ := sr.lst r h1
    rw [intsOf_rep l h2] at t
    refine cr_sortedI pins s σ H _ us Q I rx ⟨a, ns, rfl, t, fun ms p hp hs hn => ?_⟩
    rw [sortI_eq hp hs]
    exact q _ _ (Ext.laid hn) (sr.laid hn) (RepV.lst sr hn (RepL.ints _))
  · cases e
end
/-! ### xs[::-1] -/
def revM : Mem → MV → Option MV := fun μ d => (lstOf μ d).map fun xs => .lst xs.reverse
section
variable {X : Cx} {T : Tbs} {W : WX} {pos p1 p2 p3 : Pos} {a : Expr} {ma : Ev MV} {k : Nat}
theorem re_rev (ha : RE X T W a ma) : RE X T W (.Subscript a (.Slice none none (some (.UnaryOp .USub (.Constant (.int 1) k p1) p2)) p3) pos) (mUn revM ma) :=
  PE.mono (pe_revL ha) fun σ H Q ⟨ι, ρ, μ, s, e, h⟩ => ⟨ι, ρ, μ, s, e, bindr h fun d v μ1 ι1 H1 _ E1 s1 r1 h1 => by
    obtain ⟨d', hd, q⟩ := h1.po
    obtain ⟨xs, h2, rfl⟩ := Option.map_eq_some_iff.mp hd
    obtain ⟨b, vs, rfl, t, l⟩ := s1.lst r1 h2
    exact ⟨b, vs, rfl, t, fun p hp => q _ _ (Ext.laid hp) (s1.laid hp) (RepV.lst s1 hp l.rev)⟩⟩
end
end MM

set_option Elab.async false
set_option linter.all false
set_option maxRecDepth 100000
set_option maxHeartbeats 4000000
/-! ## MM: the bundle of a context; short words -/
namespace MM
open PySem PySem.Spec PyProof.Rows L2
structure Cg (X : Cx) (k : Nat) : Prop where
  hc : X.calm = true
  hN : X.N.Nodup
  rm : Room k X.A
  gd : X.A.guards = some []
theorem Cg.u64 {X : Cx} {k : Nat} (g : Cg X k) : X.A.units + 64 < cLine := by have := g.rm.un; omega
theorem Cg.u65 {X : Cx} {k : Nat} (g : Cg X k) : X.A.units + 65 < cLine := by have := g.rm.un; omega
theorem Cg.u101 {X : Cx} {k : Nat} (g : Cg X k) : X.A.units + 101 < cLine := by have := g.rm.un; omega
theorem Cg.b {X : Cx} {k : Nat} (g : Cg X k) {s : Shared} {H : Hp} {scope : Scope} {ce : PySem.Env} {fp : List Addr} : Cg (X.blk s H scope ce fp) k := ⟨g.hc, g.hN, g.rm, g.gd⟩
theorem tk0 {X : Cx} : L2N.Takes X W0 := fun u s' ⟨a, B, sI, pins, σ, H, cls, d, e, I, nb, up, sky, na, os, ag, w⟩ => w.elim
/-- the built-ins that are not hidden -/
structure Blt (mg : Gm) : Prop where
  len : mg "len" = none
  abs : mg "abs" = none
  int : mg "int" = none
  str : mg "str" = none
  sum : mg "sum" = none
  any : mg "any" = none
  all : mg "all" = none
  tuple : mg "tuple" = none
  list : mg "list" = none
  repr : mg "repr" = none
  range : mg "range" = none
  enumerate : mg "enumerate" = none
  zip : mg "zip" = none
  min : mg "min" = none
  max : mg "max" = none
  sorted : mg "sorted" = none
  isinstance : mg "isinstance" = none
  set : mg "set" = none
  dict : mg "dict" = none
section
variable {X : Cx} {T : Tbs} {W : WX} {k : Nat} {pos p p2 : Pos} {a b e e2 tg : Expr} {es elts : List Expr} {ms : Ev (List MV)} {ma mb me : Ev MV} {n : Nat}
theorem xv (i : Nat) {x : Str} (hN : X.N[i]? = some x := by rfl) (hv : Vis X.env.scope x := by first | exact Or.inl rfl | exact Or.inr (Or.inl rfl) | exact Or.inr (Or.inr rfl)) (hd : (x == ("__debug__" : Str)) = false := by decide)
    (hcd : (x == ("__classdict__" : Str)) = false := by decide) : RE X T W (.Name x pos) (mVar i) := re_var i hN hv hd hcd
theorem xlen (bl : Blt X.mg) (ha : RA X T W [e] ms) (hg : Gl X "len" := by rfl) (hs : starEach [e] X.env = (false, eval e X.env) :: starEach [] X.env := by rfl) (hpl : (backTo pos (starEach [] X.env)).any (·.1) = false := by rfl) : RE X T W (.Call (.Name "len" p) [e] [] pos) (mCB lenM ms) := re_callB c_len hg bl.len boot_len ha (by decide) (by decide) hs hpl
theorem xabs (bl : Blt X.mg) (ha : RA X T W [e] ms) (hg : Gl X "abs" := by rfl) (hs : starEach [e] X.env = (false, eval e X.env) :: starEach [] X.env := by rfl) (hpl : (backTo pos (starEach [] X.env)).any (·.1) = false := by rfl) : RE X T W (.Call (.Name "abs" p) [e] [] pos) (mCB absM ms) := re_callB c_abs hg bl.abs (by rfl) ha (by decide) (by decide) hs hpl
theorem xint (bl : Blt X.mg) (ha : RA X T W [e] ms) (hg : Gl X "int" := by rfl) (hs : starEach [e] X.env = (false, eval e X.env) :: starEach [] X.env := by rfl) (hpl : (backTo pos (starEach [] X.env)).any (·.1) = false := by rfl) : RE X T W (.Call (.Name "int" p) [e] [] pos) (mCB intM ms) := re_callTy c_int hg bl.int (by rfl) ha (by decide) (by decide) hs hpl
theorem xstr (bl : Blt X.mg) (ha : RA X T W [e] ms) (hg : Gl X "str" := by rfl) (hs : starEach [e] X.env = (false, eval e X.env) :: starEach [] X.env := by rfl) (hpl : (backTo pos (starEach [] X.env)).any (·.1) = false := by rfl) : RE X T W (.Call (.Name "str" p) [e] [] pos) (mCB strM ms) := re_callTy c_str hg bl.str (by rfl) ha (by decide) (by decide) hs hpl
theorem xsum (g : Cg X k) (bl : Blt X.mg) (ha : RA X T W [e] ms) (hg : Gl X "sum" := by rfl) (hs : starEach [e] X.env = (false, eval e X.env) :: starEach [] X.env := by rfl) (hpl : (backTo pos (starEach [] X.env)).any (·.1) = false := by rfl) : RE X T W (.Call (.Name "sum" p) [e] [] pos) (mCB sumM ms) := re_callB (c_sum g.hc) hg bl.sum (by rfl) ha (by decide) (by decide) hs hpl
theorem xany (g : Cg X k) (bl : Blt X.mg) (ha : RA X T W [e] ms) (hg : Gl X "any" := by rfl) (hs : starEach [e] X.env = (false, eval e X.env) :: starEach [] X.env := by rfl) (hpl : (backTo pos (starEach [] X.env)).any (·.1) = false := by rfl) : RE X T W (.Call (.Name "any" p) [e] [] pos) (mCB anyM ms) := re_callB (c_any g.hc) hg bl.any (by rfl) ha (by decide) (by decide) hs hpl
theorem xall (g : Cg X k) (bl : Blt X.mg) (ha : RA X T W [e] ms) (hg : Gl X "all" := by rfl) (hs : starEach [e] X.env = (false, eval e X.env) :: starEach [] X.env := by rfl) (hpl : (backTo pos (starEach [] X.env)).any (·.1) = false := by rfl) : RE X T W (.Call (.Name "all" p) [e] [] pos) (mCB allM ms) := re_callB (c_all g.hc) hg bl.all (by rfl) ha (by decide) (by decide) hs hpl
theorem xtuple (bl : Blt X.mg) (ha : RA X T W [e] ms) (hg : Gl X "tuple" := by rfl) (hs : starEach [e] X.env = (false, eval e X.env) :: starEach [] X.env := by rfl) (hpl : (backTo pos (starEach [] X.env)).any (·.1) = false := by rfl) : RE X T W (.Call (.Name "tuple" p) [e] [] pos) (mCB tupleM ms) := re_callTy c_tuple hg bl.tuple (by rfl) ha (by decide) (by decide) hs hpl
theorem xlist (bl : Blt X.mg) (ha : RA X T W [e] ms) (hg : Gl X "list" := by rfl) (hs : starEach [e] X.env = (false, eval e X.env) :: starEach [] X.env := by rfl) (hpl : (backTo pos (starEach [] X.env)).any (·.1) = false := by rfl) : RE X T W (.Call (.Name "list" p) [e] [] pos) (mCB listM ms) := re_callTy c_list hg bl.list (by rfl) ha (by decide) (by decide) hs hpl
theorem xrepr (g : Cg X k) (bl : Blt X.mg) (ha : RA X T W [e] ms) (hg : Gl X "repr" := by rfl) (hs : starEach [e] X.env = (false, eval e X.env) :: starEach [] X.env := by rfl) (hpl : (backTo pos (starEach [] X.env)).any (·.1) = false := by rfl) : RE X T W (.Call (.Name "repr" p) [e] [] pos) (mCB reprM ms) := re_callB (c_repr g.u64 g.gd) hg bl.repr (by rfl) ha (by decide) (by decide) hs hpl
theorem xmin (g : Cg X k) (bl : Blt X.mg) (ha : RA X T W [e] ms) (hg : Gl X "min" := by rfl) (hs : starEach [e] X.env = (false, eval e X.env) :: starEach [] X.env := by rfl) (hpl : (backTo pos (starEach [] X.env)).any (·.1) = false := by rfl) : RE X T W (.Call (.Name "min" p) [e] [] pos) (mCB minM ms) := re_callB (c_min g.hc g.u101) hg bl.min (by rfl) ha (by decide) (by decide) hs hpl
theorem xmax (g : Cg X k) (bl : Blt X.mg) (ha : RA X T W [e] ms) (hg : Gl X "max" := by rfl) (hs : starEach [e] X.env = (false, eval e X.env) :: starEach [] X.env := by rfl) (hpl : (backTo pos (starEach [] X.env)).any (·.1) = false := by rfl) : RE X T W (.Call (.Name "max" p) [e] [] pos) (mCB maxM ms) := re_callB (c_max g.hc g.u101) hg bl.max (by rfl) ha (by decide) (by decide) hs hpl
theorem xsorted (bl : Blt X.mg) (ha : RA X T W [e] ms) (hg : Gl X "sorted" := by rfl) (hs : starEach [e] X.env = (false, eval e X.env) :: starEach [] X.env := by rfl) (hpl : (backTo pos (starEach [] X.env)).any (·.1) = false := by rfl) : RE X T W (.Call (.Name "sorted" p) [e] [] pos) (mCB sortedM ms) := re_callB c_sorted hg bl.sorted (by rfl) ha (by decide) (by decide) hs hpl
theorem xmax2 (g : Cg X k) (bl : Blt X.mg) (ha : RA X T W [e, e2] ms) (hg : Gl X "max" := by rfl) (hs : starEach [e, e2] X.env = (false, eval e X.env) :: starEach [e2] X.env := by rfl) (hpl : (backTo pos (starEach [e2] X.env)).any (·.1) = false := by rfl) : RE X T W (.Call (.Name "max" p) [e, e2] [] pos) (mCB max2M ms) := re_callB (c_max2 g.hc) hg bl.max (by rfl) ha (by decide) (by decide) hs hpl
theorem xmin2 (g : Cg X k) (bl : Blt X.mg) (ha : RA X T W [e, e2] ms) (hg : Gl X "min" := by rfl) (hs : starEach [e, e2] X.env = (false, eval e X.env) :: starEach [e2] X.env := by rfl) (hpl : (backTo pos (starEach [e2] X.env)).any (·.1) = false := by rfl) : RE X T W (.Call (.Name "min" p) [e, e2] [] pos) (mCB min2M ms) := re_callB (c_min2 g.hc) hg bl.min (by rfl) ha (by decide) (by decide) hs hpl
/-- what is walked -/
theorem irng1 (bl : Blt X.mg) (ha : RA X T W [a] ms) (hg : Gl X "range" := by rfl) (hs : starEach [a] X.env = [(false, eval a X.env)] := by rfl) : RI X T W tg (.Call (.Name "range" p) [a] [] pos) (mRng rng1 ms) := ri_rng1 hg bl.range ha hs
theorem irng2 (bl : Blt X.mg) (ha : RA X T W [a, b] ms) (hg : Gl X "range" := by rfl) (hs : starEach [a, b] X.env = [(false, eval a X.env), (false, eval b X.env)] := by rfl) (hs2 : starEach [b] X.env = [(false, eval b X.env)] := by rfl) : RI X T W tg (.Call (.Name "range" p) [a, b] [] pos) (mRng rng2 ms) := ri_rng2 hg bl.range ha hs hs2
theorem irng3 {c : Expr} (bl : Blt X.mg) (ha : RA X T W [a, b, c] ms) (hg : Gl X "range" := by rfl) (hs : starEach [a, b, c] X.env = (false, eval a X.env) :: starEach [b, c] X.env := by rfl) (hpl : (backTo pos (starEach [b, c] X.env)).any (·.1) = false := by rfl) : RI X T W tg (.Call (.Name "range" p) [a, b, c] [] pos) (mRng rng3 ms) := ri_rng3 hg bl.range ha hs hpl
theorem ienum (bl : Blt X.mg) (ha : RA X T W [e] ms) (hg : Gl X "enumerate" := by rfl) (hs : starEach [e] X.env = [(false, eval e X.env)] := by rfl) {kk : Nat} {tpos : Pos} : RI X T W (.Tuple elts kk tpos) (.Call (.Name "enumerate" p) [e] [] pos) (mEnum ms) := ri_enum hg bl.enumerate ha hs
theorem izip (bl : Blt X.mg) (ha : RA X T W [e, e2] ms) (hg : Gl X "zip" := by rfl) (hs : starEach [e, e2] X.env = (false, eval e X.env) :: starEach [e2] X.env := by rfl) (hpl : (backTo pos (starEach [e2] X.env)).any (·.1) = false := by rfl) {kk : Nat} {tpos : Pos} :
    RI X T W (.Tuple elts kk tpos) (.Call (.Name "zip" p) [e, e2] [] pos) (mZip ms) := ri_zip hg bl.zip ha hs hpl
/-- comparisons -/
theorem xcmp {o : CmpOp} {op : Op2} (ho : OpR X (compareOp o) (rM X.K T op)) (ha : RE X T W a ma) (hb : RE X T W b mb) (hm : behindInMarks o b = false := by first | exact nomark _ | with_unfolding_all rfl) : RE X T W (.Compare a [o] [b] pos) (mOp op ma mb) := re_cmp ho ha hb hm
theorem tcmp {o : CmpOp} {op : Op2} (ho : OpR X (compareOp o) (rM X.K T op)) (ha : RE X T W a ma) (hb : RE X T W b mb) (hm : behindInMarks o b = false := by first | exact nomark _ | with_unfolding_all rfl) : RT X T W (.Compare a [o] [b] pos) (mT (mOp op ma mb)) := PTt.cmp ho ha hb hm
theorem xix (ha : RE X T W a ma) (hb : RE X T W b mb) (hs : PlainIx b := by intro _ _; rfl) : RE X T W (.Subscript a b pos) (mOp ixM ma mb) := re_ix m_ix ha hb hs
/-- targets -/
theorem gn (g : Cg X k) (i : Nat) {x : Str} (hi : X.N[i]? = some x := by rfl) (hx : Loc X.env.scope x := by first | exact Or.inl rfl | exact Or.inr rfl) (hf : X.fn x = true ∨ X.env.scope.names.lookup x = some .local := by first | exact Or.inl rfl | exact Or.inr rfl) : RG X T [i] (.Name x pos) (gN i) := g_name g.hN hi hx hf
theorem gt (g : Cg X k) {ts : List Expr} {j n : Nat} {ws : List Nat} {gs : List TgM} (h : RGs X T ws ts gs) (hl : gs.length = n := by rfl) (hn : (assignEach ts X.env).length = n := by rfl) (hst : (assignEach ts X.env).findIdx? (·.1) = none := by rfl) : RG X T ws (.Tuple ts j pos) (gT gs) := g_tup g.hc h hl hn hst
/-- statements -/
theorem sset (g : Cg X k) (i : Nat) {x : Str} {pos' : Pos} (he : RE X T W e me) (hi : X.N[i]? = some x := by rfl) (hx : Loc X.env.scope x := by first | exact Or.inl rfl | exact Or.inr rfl) (hf : X.fn x = true ∨ X.env.scope.names.lookup x = some .local := by first | exact Or.inl rfl | exact Or.inr rfl)
    (hs : swapsWith e (some (.Name x pos')) pos.line X.env = pure false := by rfl) : RS X T W (.Assign [.Name x pos'] e pos) (sAsg me (gN i)) := s_set g.hN hi hx he hf hs
end
end MM

set_option Elab.async false
set_option linter.all false
set_option maxRecDepth 100000
set_option maxHeartbeats 4000000
/-! ## MM: short words, more -/
namespace MM
open PySem PySem.Spec PyProof.Rows L2
/-- an own class of exceptions -/
structure ExcG (K : Frag) (mg : Gm) (x : Str) (C : Addr) : Prop where
  gl : mg x = some (.ref C)
  ex : PySem.W.excIn K C He.veBase "ValueError.__new__" = true
  kp : PySem.W.keepIn K (.ref C) = true
  sb : PySem.W.subIn K (.ref C) (.type "BaseException") = some true
  ty : PySem.W.typeIn K (.ref C) = some (.type "type")
section
variable {X : Cx} {T : Tbs} {W : WX} {k : Nat} {pos p p2 py spos cp : Pos} {a b e e2 tg iter elt tg1 iter1 : Expr} {ifs ifs1 : List Expr} {es elts : List Expr} {ms : Ev (List MV)} {ma mb me : Ev MV} {n : Nat} {scope : Scope} {own : List (Str × Nat)} {gg gg1 : TgM} {c c1 : Ev Bool} {el : Ev MV} {mi mi1 : Ev Itm} {ws ws1 vs1 : List Nat}
theorem xraise (g : Cg X k) (tk : L2N.Takes X W) {x m : Str} {j : Nat} {C : Addr} (h : ExcG X.K X.mg x C) (hg : Gl X x := by rfl) (hdb : (x == ("__debug__" : Str)) = false := by decide) : RS X T W (.Raise (some (.Call (.Name x p) [.Constant (.str m) j p2] [] cp)) none pos) (sRaise x) :=
  s_raise g.hc tk PySem.F.excBase_ValueError h.ex h.gl h.kp (raises_own h.sb h.ty) hg hdb
theorem xgi {x : Str} {i : Int} (h : ∃ t, X.mg x = some (.int i t)) (hg : Gl X x := by rfl) (hdb : (x == ("__debug__" : Str)) = false := by decide) : RE X T W (.Name x p) (mRet (.int i)) := by
  obtain ⟨t, h⟩ := h
  exact re_glob hg h (v := .int i) ⟨t, rfl⟩ (fun _ _ _ => RepV.int) hdb
theorem xcall (g : Cg X k) (tk : L2N.Takes X W) {ps : List Str} {F : FM} {x : Str} (c : CalM X.prog X.w X.K X.mg X.base T k x ps F) (ha : RA X T W (e :: es) ms) (hg : Gl X x := by rfl) (hdb : (x == ("__debug__" : Str)) = false := by decide)
    (he : starEach (e :: es) X.env = (false, eval e X.env) :: starEach es X.env := by rfl) (hpl : (backTo pos (starEach es X.env)).any (·.1) = false := by rfl) : RE X T W (.Call (.Name x p) (e :: es) [] pos) (mCall ps.length F ms) := re_cal c g.rm g.gd hg tk ha hdb he hpl
abbrev BG (X : Cx) (T : Tbs) (scope : Scope) (ws : List Nat) (tg : Expr) (gg : TgM) : Prop := Blk X scope fun X => RG X T ws tg gg
abbrev BT (X : Cx) (T : Tbs) (scope : Scope) (ifs : List Expr) (c : Ev Bool) : Prop := Blk X scope fun X => PTs X ifs (tG RB X.K X.mg T W0 c)
abbrev BE (X : Cx) (T : Tbs) (scope : Scope) (elt : Expr) (e : Ev MV) : Prop := Blk X scope fun X => RE X T W0 elt e
theorem xcomp (g : Cg X k) (own : List (Str × Nat)) (hi : RI X T W tg iter mi) (hg : BG X T scope ws tg gg) (ht : BT X T scope ifs c) (he : BE X T scope elt el) (ok : blkC X.N X.env.scope scope own = true := by rfl) (hw : ∀ i ∈ ws, i ∈ own.map (·.2) := by decide)
    (hs : ∀ x, foldedSetIterable iter X.env x = pure x := by intro _; rfl) : RE X T W (.ListComp elt [⟨tg, iter, ifs, 0⟩] scope pos) (mComp (own.map (·.2)) mi gg c el) := re_comp g.hc g.hN hi (blkOk_by ok) hw hg ht he hs
theorem xcompC (g : Cg X k) (own : List (Str × Nat)) (hi : RI X T W tg iter mi) (hg : BG X T scope ws tg gg) (ht : BT X T scope ifs c) (he : BE X T scope elt el) (ok : blkC X.N X.env.scope scope own = true := by rfl) (hw : ∀ i ∈ ws, i ∈ own.map (·.2) := by decide)
    (hs : ∀ x, foldedSetIterable iter X.env x = pure x := by intro _; rfl) : RE X T W (.ListComp elt [⟨tg, iter, ifs, 0⟩] scope pos) (mCompC (own.map (·.2)) mi gg c el) := re_compC g.hc g.hN hi (blkOk_by ok) hw hg ht he hs
theorem scomp (g : Cg X k) (i : Nat) {y : Str} (own : List (Str × Nat)) (hi : RI X T W tg iter mi) (hg : BG X T scope ws tg gg) (ht : BT X T scope ifs c) (he : BE X T scope elt el) (ok : blkC X.N X.env.scope scope own = true := by rfl) (hw : ∀ i ∈ ws, i ∈ own.map (·.2) := by decide)
    (hy : X.N[i]? = some y := by rfl) (hyl : X.env.scope.names.lookup y = some .local := by rfl) (hsw : swapsWith (.ListComp elt [⟨tg, iter, ifs, 0⟩] scope pos) (some (.Name y py)) spos.line X.env = pure true := by rfl)
    (hs : ∀ x, foldedSetIterable iter X.env x = pure x := by intro _; rfl) : RS X T W (.Assign [.Name y py] (.ListComp elt [⟨tg, iter, ifs, 0⟩] scope pos) spos) (sAsg (mComp (own.map (·.2)) mi gg c el) (gN i)) :=
  s_setComp g.hc g.hN hy hyl hsw hi (blkOk_by ok) hw hg ht he (fun K mg => compM hw (fun ds => mRet (.lst ds)) fun {σ ι H Q ρ μ' ds} h => compF (ρ := ρ) h) hs
theorem scompC (g : Cg X k) (i : Nat) {y : Str} (own : List (Str × Nat)) (hi : RI X T W tg iter mi) (hg : BG X T scope ws tg gg) (ht : BT X T scope ifs c) (he : BE X T scope elt el) (ok : blkC X.N X.env.scope scope own = true := by rfl) (hw : ∀ i ∈ ws, i ∈ own.map (·.2) := by decide)
    (hy : X.N[i]? = some y := by rfl) (hyl : X.env.scope.names.lookup y = some .local := by rfl) (hsw : swapsWith (.ListComp elt [⟨tg, iter, ifs, 0⟩] scope pos) (some (.Name y py)) spos.line X.env = pure true := by rfl)
    (hs : ∀ x, foldedSetIterable iter X.env x = pure x := by intro _; rfl) : RS X T W (.Assign [.Name y py] (.ListComp elt [⟨tg, iter, ifs, 0⟩] scope pos) spos) (sAsg (mCompC (own.map (·.2)) mi gg c el) (gN i)) :=
  s_setComp g.hc g.hN hy hyl hsw hi (blkOk_by ok) hw hg ht he (fun K mg => compM hw (fun ds => fun _ μ => .ok (.ref μ.length) (μ ++ [.lst ds])) fun {σ ι H Q ρ μ' ds} h => compCF (ρ := ρ) h) hs
theorem xcomp2 (g : Cg X k) (own : List (Str × Nat)) (vs1 : List Nat) (hi : RI X T W tg iter mi) (hg : BG X T scope ws tg gg) (ht : BT X T scope ifs c) (hi1 : Blk X scope fun X => RI X T W0 tg1 iter1 mi1) (hg1 : BG X T scope ws1 tg1 gg1) (ht1 : BT X T scope ifs1 c1) (he : BE X T scope elt el)
    (ok : blkC X.N X.env.scope scope own = true := by rfl) (hv : ∀ i ∈ vs1, i ∈ own.map (·.2) := by decide) (hw : ∀ i ∈ ws, i ∈ own.map (·.2) := by decide) (hw1 : ∀ i ∈ ws1, i ∈ vs1 := by decide)
    (hs : ∀ x, foldedSetIterable iter X.env x = pure x := by intro _; rfl) (hs1 : ∀ env x, foldedSetIterable iter1 env x = pure x := by intro _ _; rfl) : RE X T W (.ListComp elt [⟨tg, iter, ifs, 0⟩, ⟨tg1, iter1, ifs1, 0⟩] scope pos) (mComp2 (own.map (·.2)) vs1 mi gg c mi1 gg1 c1 el) :=
  re_comp2 g.hc g.hN hi (blkOk_by ok) hv hw hw1 hg ht hi1 hg1 ht1 he hs hs1
theorem xcomp2C (g : Cg X k) (own : List (Str × Nat)) (vs1 : List Nat) (hi : RI X T W tg iter mi) (hg : BG X T scope ws tg gg) (ht : BT X T scope ifs c) (hi1 : Blk X scope fun X => RI X T W0 tg1 iter1 mi1) (hg1 : BG X T scope ws1 tg1 gg1) (ht1 : BT X T scope ifs1 c1) (he : BE X T scope elt el)
    (ok : blkC X.N X.env.scope scope own = true := by rfl) (hv : ∀ i ∈ vs1, i ∈ own.map (·.2) := by decide) (hw : ∀ i ∈ ws, i ∈ own.map (·.2) := by decide) (hw1 : ∀ i ∈ ws1, i ∈ vs1 := by decide)
    (hs : ∀ x, foldedSetIterable iter X.env x = pure x := by intro _; rfl) (hs1 : ∀ env x, foldedSetIterable iter1 env x = pure x := by intro _ _; rfl) : RE X T W (.ListComp elt [⟨tg, iter, ifs, 0⟩, ⟨tg1, iter1, ifs1, 0⟩] scope pos) (mCompC2 (own.map (·.2)) vs1 mi gg c mi1 gg1 c1 el) :=
  re_compC2 g.hc g.hN hi (blkOk_by ok) hv hw hw1 hg ht hi1 hg1 ht1 he hs hs1
theorem scomp2 (g : Cg X k) (i : Nat) {y : Str} (own : List (Str × Nat)) (vs1 : List Nat) (hi : RI X T W tg iter mi) (hg : BG X T scope ws tg gg) (ht : BT X T scope ifs c) (hi1 : Blk X scope fun X => RI X T W0 tg1 iter1 mi1) (hg1 : BG X T scope ws1 tg1 gg1) (ht1 : BT X T scope ifs1 c1) (he : BE X T scope elt el)
    (ok : blkC X.N X.env.scope scope own = true := by rfl) (hv : ∀ i ∈ vs1, i ∈ own.map (·.2) := by decide) (hw : ∀ i ∈ ws, i ∈ own.map (·.2) := by decide) (hw1 : ∀ i ∈ ws1, i ∈ vs1 := by decide)
    (hy : X.N[i]? = some y := by rfl) (hyl : X.env.scope.names.lookup y = some .local := by rfl) (hsw : swapsWith (.ListComp elt [⟨tg, iter, ifs, 0⟩, ⟨tg1, iter1, ifs1, 0⟩] scope pos) (some (.Name y py)) spos.line X.env = pure true := by rfl)
    (hs : ∀ x, foldedSetIterable iter X.env x = pure x := by intro _; rfl) (hs1 : ∀ env x, foldedSetIterable iter1 env x = pure x := by intro _ _; rfl) : RS X T W (.Assign [.Name y py] (.ListComp elt [⟨tg, iter, ifs, 0⟩, ⟨tg1, iter1, ifs1, 0⟩] scope pos) spos) (sAsg (mComp2 (own.map (·.2)) vs1 mi gg c mi1 gg1 c1 el) (gN i)) :=
  s_setComp2 g.hc g.hN hy hyl hsw hi (blkOk_by ok) hv hw hw1 hg ht hi1 hg1 ht1 he (fun K mg => compM2 hw hw1 (fun ds => mRet (.lst ds)) fun {σ ι H Q ρ μ' ds} h => compF (ρ := ρ) h) hs hs1
theorem spar (g : Cg X k) (i j : Nat) {x y : Str} {px py pt pt2 : Pos} {kt k2 : Nat} {q1 q2 : Expr} (ha : RA X T W [q1, q2] ms) (hi : X.N[i]? = some x := by rfl) (hj : X.N[j]? = some y := by rfl) (hij : i ≠ j := by decide) (hx : X.env.scope.names.lookup x = some .local := by rfl) (hy : X.env.scope.names.lookup y = some .local := by rfl)
    (hw : swappedStores [.Tuple [.Name x px, .Name y py] kt pt] (.Tuple [q1, q2] k2 pt2) X.env = pure (some [x, y]) := by rfl) (hs : swapsWithSole [.Tuple [.Name x px, .Name y py] kt pt] (.Tuple [q1, q2] k2 pt2) pos.line X.env = pure false := by rfl) :
    RS X T W (.Assign [.Tuple [.Name x px, .Name y py] kt pt] (.Tuple [q1, q2] k2 pt2) pos) (sPar i j ms) := s_par g.hc g.hN hi hj hij hx hy ha hw hs
end
end MM

set_option Elab.async false
set_option linter.all false
set_option maxRecDepth 100000
set_option maxHeartbeats 4000000
/-! ## MM: told(lambda: body), the rule by facts -/
namespace MM
open PySem PySem.Spec PyProof.Rows L2
/-- x(lambda: body) in X is told -/
def TellR (X : Cx) (T : Tbs) (W : WX) (x : Str) (ks : List Kind) (k : Nat) : Prop :=
  ∀ {params : Arguments} {body : Expr} {scope : Scope} {mb : Ev MV} {p lpos pos : Pos} (N' : List Str), lamPB X.env.scope scope X.N N' = true → (∀ y ∈ scope.names, y.2 ≠ .local) → defaultsOf params X.env = ([], []) →
    (∀ (q : Str) (cl : List (Str × Addr)) (pm cv ctv : Value), bindArgs (PySem.W.kla_fn "<lambda>" q params body scope cl pm cv ctv) ⟨[], []⟩ = pure []) →
    (∀ (A : Around) (outer : List PySem.Env) (s : Shared) (H : Hp) (E : XK) (f c' : Addr), Room k (A.deeper (LamX.lamEnv X scope s.heap.objs.size f c')) → A.guards = some [] → RE (lamC X N' A outer s H E scope f c') T (wE E) body mb) →
    RE X T W (.Call (.Name x p) [.Lambda params body scope lpos] [] pos) (mTold ks mb)
/-- the classes of errors that are told apart -/
structure Errs (K : Frag) (mg : Gm) (C : Fin 5 → Addr) : Prop where
  g0 : mg "NotAllowed" = some (.ref (C 0))
  g1 : mg "TooLarge" = some (.ref (C 1))
  g2 : mg "Missing" = some (.ref (C 2))
  g3 : mg "BadForm" = some (.ref (C 3))
  g4 : mg "Broken" = some (.ref (C 4))
  ex : ∀ i : Fin 5, i.val < 3 → ExcC K (C i)
  is : ∀ i j : Fin 5, i.val < 3 → PySem.W.kitOne K (.ref (C i)) (.ref (C j)) = some (decide (i = j))
def bsE (C : Fin 5 → Addr) (i : Fin 5) : List (Addr × Bool) := [(C 0, decide (i = 0)), (C 1, decide (i = 1)), (C 2, decide (i = 2)), (C 3, decide (i = 3)), (C 4, decide (i = 4))]
theorem bsE_ok {K : Frag} {mg : Gm} {C : Fin 5 → Addr} (h : Errs K mg C) (i : Fin 5) (hi : i.val < 3) : ∀ p ∈ bsE C i, PySem.W.kitOne K (.ref (C i)) (.ref p.1) = some p.2 := by
  intro p hp
  unfold bsE at hp
  simp only [List.mem_cons, List.not_mem_nil, or_false] at hp
  rcases hp with rfl | rfl | rfl | rfl | rfl <;> exact h.is i _ hi
def ksE (C : Fin 5 → Addr) : List Kind := [⟨"NotAllowed", C 0, "refused"⟩, ⟨"TooLarge", C 1, "large"⟩, ⟨"Missing", C 2, "missing"⟩]
theorem Errs.ne {K : Frag} {mg : Gm} {C : Fin 5 → Addr} (h : Errs K mg C) (i j : Fin 5) (hi : i.val < 3) (hn : i ≠ j) : C i ≠ C j := fun e => by
  have h1 := h.is i i hi
  have h2 := h.is i j hi
  rw [← e, h1] at h2
  simp [hn] at h2
def errIx (C : Fin 5 → Addr) (kd : Kind) : Fin 5 := if kd.name = "NotAllowed" then 0 else if kd.name = "TooLarge" then 1 else 2
/-- the suite that names the error -/
noncomputable def smE (C : Fin 5 → Addr) (e : Addr) (kd : Kind) : SM :=
  sSeq (sAsg (mLst (mCons (mCB (isEM (bsE C (errIx C kd)) e) (mCons (mVar 1) (mCons (mRet (.cst (.ref (C 0)))) mNil)))
      (mCons (mCB (isEM (bsE C (errIx C kd)) e) (mCons (mVar 1) (mCons (mRet (.cst (.ref (C 1)))) mNil)))
      (mCons (mCB (isEM (bsE C (errIx C kd)) e) (mCons (mVar 1) (mCons (mRet (.cst (.ref (C 2)))) mNil)))
      (mCons (mCB (isEM (bsE C (errIx C kd)) e) (mCons (mVar 1) (mCons (mRet (.cst (.ref (C 3)))) mNil)))
      (mCons (mCB (isEM (bsE C (errIx C kd)) e) (mCons (mVar 1) (mCons (mRet (.cst (.ref (C 4)))) mNil))) mNil)))))) (gN 2))
  (sSeq (sAsg (mComp (List.map (·.2) ([("k", 4)] : List (Str × Nat))) (mRng rng1 (mCons (mRet (.int 5)) mNil)) (gN 4) (mT (mOp ixM (mVar 2) (mVar 4)))
      (mOp ixM (mLst (mCons (mRet (.str "refused")) (mCons (mRet (.str "large")) (mCons (mRet (.str "missing")) (mCons (mRet (.str "form")) (mCons (mRet (.str "broken")) mNil)))))) (mVar 4))) (gN 3))
  (sRet (mTup (mCons (mOp ixM (mLst (mCons (mRet (.str "odd")) (mCons (mOp ixM (mOp addM (mVar 3) (mLst (mCons (mRet (.str "")) mNil))) (mRet (.int 0))) mNil)))
      (mCB intM (mCons (mOp eqM (mCB lenM (mCons (mVar 3) mNil)) (mRet (.int 1))) mNil))) mNil))))
theorem smE_ok {K : Frag} {mg : Gm} {C : Fin 5 → Addr} (h : Errs K mg C) : ∀ kd ∈ ksE C, ∀ (e : Addr) (d : MV) (μ : Mem), smE C e kd ((envS ["call", "e", "kinds", "names", "k"] [d]).set 1 (some (.cst (.ref e)))) μ = .rt (.tup [.str kd.told]) μ := by
  have n01 := h.ne 0 1 (by decide) (by decide)
  have n02 := h.ne 0 2 (by decide) (by decide)
  have n03 := h.ne 0 3 (by decide) (by decide)
  have n04 := h.ne 0 4 (by decide) (by decide)
  have n12 := h.ne 1 2 (by decide) (by decide)
  have n13 := h.ne 1 3 (by decide) (by decide)
  have n14 := h.ne 1 4 (by decide) (by decide)
  have n23 := h.ne 2 3 (by decide) (by decide)
  have n24 := h.ne 2 4 (by decide) (by decide)
  intro kd hk e d μ
  have key : ∀ i : Fin 5, i.val < 3 → (bsE C i).lookup (C 0) = some (decide (i = 0)) ∧ (bsE C i).lookup (C 1) = some (decide (i = 1)) ∧ (bsE C i).lookup (C 2) = some (decide (i = 2)) ∧ (bsE C i).lookup (C 3) = some (decide (i = 3)) ∧ (bsE C i).lookup (C 4) = some (decide (i = 4)) := by
    intro i hi
    have b : ∀ {x y : Addr}, x ≠ y → (x == y) = false := fun q => by simpa using q
    by_cases q34 : C 4 = C 3
    · have f3 : i ≠ 3 := fun z => by rw [z] at hi; exact absurd hi (by decide)
      have f4 : i ≠ 4 := fun z => by rw [z] at hi; exact absurd hi (by decide)
      simp [bsE, List.lookup, b n01, b n02, b n03, b n04, b n12, b n13, b n14, b n23, b n24, b n01.symm, b n02.symm, b n03.symm, b n04.symm, b n12.symm, b n13.symm, b n14.symm, b n23.symm, b n24.symm, q34, f3, f4]
    · simp [bsE, List.lookup, b n01, b n02, b n03, b n04, b n12, b n13, b n14, b n23, b n24, b n01.symm, b n02.symm, b n03.symm, b n04.symm, b n12.symm, b n13.symm, b n14.symm, b n23.symm, b n24.symm, b q34]
  unfold ksE at hk
  simp only [List.mem_cons, List.not_mem_nil, or_false] at hk
  have e0 : errIx C ⟨"NotAllowed", C 0, "refused"⟩ = 0 := by unfold errIx; exact if_pos rfl
  have m1 : ¬ ("TooLarge" : Str) = "NotAllowed" := by decide
  have m2 : ¬ ("Missing" : Str) = "NotAllowed" := by decide
  have m3 : ¬ ("Missing" : Str) = "TooLarge" := by decide
  have e1 : errIx C ⟨"TooLarge", C 1, "large"⟩ = 1 := by unfold errIx; exact (if_neg m1).trans (if_pos rfl)
  have e2 : errIx C ⟨"Missing", C 2, "missing"⟩ = 2 := by unfold errIx; exact (if_neg m2).trans (if_neg m3)
  have r5 : rng1 [MV.int 5] = some ⟨[.int 0, .int 1, .int 2, .int 3, .int 4], []⟩ := by
    have : Rg62 5 := by decide
    show (if Rg62 5 then some (⟨intsL 0 (5 : Int).toNat, []⟩ : Itm) else none) = _
    rw [if_pos this]
    rfl
  have s5 : (5 : Nat) ≤ sizeLine := by decide
  have s2 : (2 : Nat) ≤ sizeLine := by decide
  have s1 : (1 : Nat) ≤ sizeLine := by decide
  have ixl : ∀ (μ : Mem) (xs : List MV) (i : Int), ixM μ (.lst xs) (.int i) = atI xs i := fun _ _ _ => rfl
  have adl : ∀ (μ : Mem) (xs ys : List MV), addM μ (.lst xs) (.lst ys) = if xs.length + ys.length ≤ sizeLine then some (.lst (xs ++ ys)) else none := fun _ _ _ => rfl
  have len1 : ∀ (μ : Mem) (xs : List MV), lenM μ [.lst xs] = some (.int xs.length) := fun _ _ => rfl
  have eq1 : ∀ μ : Mem, eqM μ (.int 1) (.int 1) = some (.bl true) := fun _ => rfl
  have in1 : ∀ μ : Mem, intM μ [.bl true] = some (.int 1) := fun _ => rfl
  rcases hk with rfl | rfl | rfl
  · obtain ⟨k0, k1, k2, k3, k4⟩ := key 0 (by decide)
    simp [smE, sSeq, sAsg, sRet, sE, mTup, mLst, mCons, mNil, mB, mRet, mCB, mVar, envS, isEM, oO, e0, k0, k1, k2, k3, k4, gN, mComp, mCompL, mRng, r5, oOm, compT, compL, Itm.ok, wipeE, mT, mOp, asB, s5, s2, s1, ixl, atI, ixN, adl, len1, eq1, in1]
  · obtain ⟨k0, k1, k2, k3, k4⟩ := key 1 (by decide)
    simp [smE, sSeq, sAsg, sRet, sE, mTup, mLst, mCons, mNil, mB, mRet, mCB, mVar, envS, isEM, oO, e1, k0, k1, k2, k3, k4, gN, mComp, mCompL, mRng, r5, oOm, compT, compL, Itm.ok, wipeE, mT, mOp, asB, s5, s2, s1, ixl, atI, ixN, adl, len1, eq1, in1]
  · obtain ⟨k0, k1, k2, k3, k4⟩ := key 2 (by decide)
    simp [smE, sSeq, sAsg, sRet, sE, mTup, mLst, mCons, mNil, mB, mRet, mCB, mVar, envS, isEM, oO, e2, k0, k1, k2, k3, k4, gN, mComp, mCompL, mRng, r5, oOm, compT, compL, Itm.ok, wipeE, mT, mOp, asB, s5, s2, s1, ixl, atI, ixN, adl, len1, eq1, in1]

/-! ### the rule -/
section
variable {K : Frag} {mg : Gm} {C : Fin 5 → Addr} {base : Heap} {T : Tbs} {W : WX}
theorem xis {X : Cx} {a : Addr} {oe : Obj} {pn : List (Addr × Obj)} {i : Fin 5} {n cn : Str} {u : Addr} {p p1 p2 pos : Pos} (h : Errs X.K X.mg C) (hi : i.val < 3) (bl : Blt X.mg) (hz : L2N.Zn (.ref (C i)) none oe) (hf : ∃ vs, oe.data = .fields vs) (hm : X.mg cn = some (.ref u)) {j : Nat}
    (hN : X.N[j]? = some n := by rfl) (hv : Vis X.env.scope n := by first | exact Or.inl rfl | exact Or.inr (Or.inl rfl)) (hg : Gl X "isinstance" := by rfl) (hgc : Gl X cn := by rfl) (hd : (n == ("__debug__" : Str)) = false := by decide) (hcd : (n == ("__classdict__" : Str)) = false := by decide) (hdc : (cn == ("__debug__" : Str)) = false := by decide) :
    RE (X.suite a ((a, oe) :: pn)) T W (.Call (.Name "isinstance" p) [.Name n p1, .Name cn p2] [] pos) (mCB (isEM (bsE C i) a) (mCons (mVar j) (mCons (mRet (.cst (.ref u))) mNil))) :=
  re_callB (X := X.suite a ((a, oe) :: pn)) (c_isE (h.ex i hi) hz.zc hf (bsE_ok h i hi)) hg bl.isinstance (by rfl) (ra_cons (re_var j hN hv hd hcd) (ra_cons (re_glob (d := .cst (.ref u)) (v := .ref u) hgc hm rfl (fun _ _ _ => RepV.cst) hdc) ra_nil)) (by decide) (by decide) (by rfl) (by rfl)
theorem sset0 {X : Cx} (hN : X.N.Nodup) (i : Nat) {x : Str} {e : Expr} {me : Ev MV} {pos pos' : Pos} (he : RE X T W e me) (hi : X.N[i]? = some x := by rfl) (hx : Loc X.env.scope x := by first | exact Or.inl rfl | exact Or.inr rfl) (hf : X.fn x = true ∨ X.env.scope.names.lookup x = some .local := by first | exact Or.inl rfl | exact Or.inr rfl)
    (hs : swapsWith e (some (.Name x pos')) pos.line X.env = pure false := by rfl) : RS X T W (.Assign [.Name x pos'] e pos) (sAsg me (gN i)) := s_set hN hi hx he hf hs
theorem lamCg {X : Cx} {N' : List Str} {A : Around} {outer : List PySem.Env} {s : Shared} {H : Hp} {E : XK} {scope : Scope} {f c' : Addr} {k : Nat} (nd : N'.Nodup) (hr : Room k (A.deeper (LamX.lamEnv X scope s.heap.objs.size f c'))) (hg : A.guards = some []) : Cg (lamC X N' A outer s H E scope f c') k := ⟨rfl, nd, hr, hg⟩
theorem gn0 {X : Cx} (hN : X.N.Nodup) (i : Nat) {x : Str} {pos : Pos} (hi : X.N[i]? = some x := by rfl) (hx : Loc X.env.scope x := by first | exact Or.inl rfl | exact Or.inr rfl) (hf : X.fn x = true ∨ X.env.scope.names.lookup x = some .local := by first | exact Or.inl rfl | exact Or.inr rfl) : RG X T [i] (.Name x pos) (gN i) := g_name hN hi hx hf
/-- x tells: by its text -/
theorem tellR_of {X : Cx} {k : Nat} {x a ce en : Str} {g c P CS : Addr} {fd : FuncData} {j kt : Nat} {pg : Arguments} {b₀ : Stmt} {suite : List Stmt} {sg : Scope} {p1 p2 p3 p4 p5 p6 p7 p8 : Pos} {Ng : List Str}
    (F : FunD X.K x x pg [.Try [.Return (some (.Tuple [.Constant (.str "told") j p3, .Call (.Name a p1) [] [] p2] kt p4)) p5] [.ExceptHandler (some (.Name ce p6)) (some en) (b₀ :: suite) p7] [] [] p8] sg [] [] g fd) (hm : X.mg x = some (.ref g)) (hmc : X.mg ce = some (.ref CS))
    (hbind : ∀ (kV doc pm : Value) (an : Option Addr) (cdv ct : Value) (us : List Value), us.length = [a].length → bindArgs (PySem.W.fnOf x x pg [.Try [.Return (some (.Tuple [.Constant (.str "told") j p3, .Call (.Name a p1) [] [] p2] kt p4)) p5] [.ExceptHandler (some (.Name ce p6)) (some en) (b₀ :: suite) p7] [] [] p8] sg .none kV doc pm an cdv ct) ⟨us, []⟩ = pure ([a].zip us))
    (Sg : FnScope Ng [a] sg) (hNa : Ng[0]? = some a) (hva : Vis sg a) (hNe : Ng[1]? = some en) (hle : sg.names.lookup en = some .local) (hgc : sg.names.lookup ce = some .globalImplicit) (hdc : (ce == ("__debug__" : Str)) = false)
    (er : Errs X.K X.mg C) (hx : ∀ i : Fin 5, i.val < 3 → PySem.W.exmOne X.K (.ref (C i)) (.ref CS) = some true)
    (TB : LamX.TabB X.base X.mg c P) (hcode : X.env.code = .ref c) (hmT : (P, X.env.qual ++ "<lambda>") ∈ T) (hu : ∀ p ∈ T, p.1 = P → p.2 = X.env.qual ++ "<lambda>") (hr : Room (k + 2) X.A) (hgd : X.A.guards = some [])
    (hgx : Gl X x) (hdx : (x == ("__debug__" : Str)) = false) (hda : (a == ("__debug__" : Str)) = false) (hdl : (a == ("__classdict__" : Str)) = false)
    (hNg : Ng = (["call", "e", "kinds", "names", "k"] : List Str))
    (hsu : ∀ (i : Fin 5) (cdv : Value) (kd : Kind), i.val < 3 → ∀ (s : Shared) (H : Hp) (e : Addr) (oe : Obj) (pn : List (Addr × Obj)), errIx C kd = i → L2N.Zn (.ref (C i)) none oe → (∃ vs, oe.data = .fields vs) → HotP ((toldX X Ng x sg g cdv s H).suite e ((e, oe) :: pn)) (e, oe) → 
      RSs ((toldX X Ng x sg g cdv s H).suite e ((e, oe) :: pn)) T W0 (b₀ :: suite) (smE C e kd)) : TellR X T W x (ksE C) k := by
  intro params body scope mb p lpos pos N' hL hown hdef hb2 hbody
  have hB := F.bindsN hbind
  obtain ⟨oc, od, dV, kV, doc, pm, an, cdv, ct, osl, rfl, lk, hcd, _, _⟩ := F.ex
  have q0 : errIx C ⟨"NotAllowed", C 0, "refused"⟩ = 0 := by unfold errIx; exact if_pos rfl
  have q1 : errIx C ⟨"TooLarge", C 1, "large"⟩ = 1 := by unfold errIx; exact (if_neg (by decide : ¬ ("TooLarge" : Str) = "NotAllowed")).trans (if_pos rfl)
  have q2 : errIx C ⟨"Missing", C 2, "missing"⟩ = 2 := by unfold errIx; exact (if_neg (by decide : ¬ ("Missing" : Str) = "NotAllowed")).trans (if_neg (by decide : ¬ ("Missing" : Str) = "TooLarge"))
  refine re_told (ks := ksE C) (sm := smE C) hgx hm F.kp lk hcd hB Sg hNa hva hNe hle hgc hmc hdc ?_ ?_ ?_ TB hcode hmT hu hr hgd (lamP_by hL) hown hdef hb2 hbody hdx hda hdl
  · intro kd hk
    unfold ksE at hk
    simp only [List.mem_cons, List.not_mem_nil, or_false] at hk
    rcases hk with rfl | rfl | rfl
    · exact ⟨er.g0, hx 0 (by decide)⟩
    · exact ⟨er.g1, hx 1 (by decide)⟩
    · exact ⟨er.g2, hx 2 (by decide)⟩
  · intro kd hk s H e oe pn hz hf hot
    unfold ksE at hk
    simp only [List.mem_cons, List.not_mem_nil, or_false] at hk
    rcases hk with rfl | rfl | rfl
    · exact hsu 0 cdv _ (by decide) s H e oe pn q0 hz hf hot
    · exact hsu 1 cdv _ (by decide) s H e oe pn q1 hz hf hot
    · exact hsu 2 cdv _ (by decide) s H e oe pn q2 hz hf hot
  · intro kd hk e d μ
    subst hNg
    exact smE_ok er kd hk e d μ
end
end MM

set_option Elab.async false
set_option linter.all false
set_option maxRecDepth 100000
set_option maxHeartbeats 4000000
/-! ## MM: facts for the head -/
namespace MM
open PySem PySem.Spec PyProof.Rows L2
def errA (K : Frag) (i : Fin 5) : Addr := match i with
  | 0 => He.ga K "NotAllowed"
  | 1 => He.ga K "TooLarge"
  | 2 => He.ga K "Missing"
  | 3 => He.ga K "BadForm"
  | 4 => He.ga K "Broken"
def excCB (K : Frag) (D : Addr) : Bool :=
  decide (PySem.W.findIn K (.ref D) "__getattribute__" = some (some (.builtin "BaseException.__getattribute__"))) && decide (PySem.W.findIn K (.ref D) "__getattr__" = some none) && decide (PySem.W.subIn K (.ref D) (.type "BaseException") = some true) &&
  PySem.W.hasDictIn K D && decide (PySem.W.findIn K (.ref D) "__class__" = some (some (.builtin "object.__class__"))) && decide (PySem.W.specialIn K (.builtin "object.__class__") "__get__" = some (some (.builtin "getset_descriptor.__get__"))) &&
  decide (PySem.W.takesIn K (.builtin "object.__class__") = some true) && decide (PySem.W.mroIn K D (.type "object") = some true)
theorem excCB_ok {K : Frag} {D : Addr} (h : excCB K D = true) : ExcC K D := by
  unfold excCB at h
  simp only [Bool.and_eq_true, decide_eq_true_eq] at h
  obtain ⟨⟨⟨⟨⟨⟨⟨h1, h2⟩, h3⟩, h4⟩, h5⟩, h6⟩, h7⟩, h8⟩ := h
  exact ⟨h1, h2, h3, h4, h5, h6, h7, h8⟩
def errB (K : Frag) : Bool := ([0, 1, 2] : List (Fin 5)).all fun i => excCB K (errA K i) && ([0, 1, 2, 3, 4] : List (Fin 5)).all fun j => decide (PySem.W.kitOne K (.ref (errA K i)) (.ref (errA K j)) = some (decide (i = j)))
def faE : List He.Fa := [.glo "NotAllowed", .glo "TooLarge", .glo "Missing", .glo "BadForm", .glo "Broken", .glo "ChooseError", .exc "NotAllowed", .exc "TooLarge", .exc "Missing", .exm "NotAllowed" "ChooseError" true, .exm "TooLarge" "ChooseError" true, .exm "Missing" "ChooseError" true,
  .free "len", .free "abs", .free "int", .free "str", .free "sum", .free "any", .free "all", .free "tuple", .free "list", .free "repr", .free "range", .free "enumerate", .free "zip", .free "min", .free "max", .free "sorted", .free "isinstance", .free "set", .free "dict"]
section
variable {K : Frag} {mg : Gm} {h : Heap} {fa : List He.Fa}
theorem errs_ok (b : errB K = true) (X : K.In h) (G : h.Ns mainGlobals mg) (f : ∀ x ∈ faE, x.ok K = true) : Errs K mg (errA K) := by
  unfold errB at b
  rw [List.all_eq_true] at b
  have key : ∀ i : Fin 5, i.val < 3 → ExcC K (errA K i) ∧ ∀ j : Fin 5, PySem.W.kitOne K (.ref (errA K i)) (.ref (errA K j)) = some (decide (i = j)) := by
    intro i hi
    have hm : i ∈ ([0, 1, 2] : List (Fin 5)) := by revert i; decide
    have q := b i hm
    rw [Bool.and_eq_true, List.all_eq_true] at q
    refine ⟨excCB_ok q.1, fun j => of_decide_eq_true (q.2 j ?_)⟩
    revert j; decide
  refine ⟨He.glo_ok X G (f _ (by simp [faE])), He.glo_ok X G (f _ (by simp [faE])), He.glo_ok X G (f _ (by simp [faE])), He.glo_ok X G (f _ (by simp [faE])), He.glo_ok X G (f _ (by simp [faE])), fun i hi => (key i hi).1, fun i j hi => (key i hi).2 j⟩
theorem errs_sup (f : ∀ x ∈ faE, x.ok K = true) : ∀ i : Fin 5, i.val < 3 → PySem.W.exmOne K (.ref (errA K i)) (.ref (He.ga K "ChooseError")) = some true := by
  intro i hi
  have h0 := He.exm_ok (f (.exm "NotAllowed" "ChooseError" true) (by simp [faE]))
  have h1 := He.exm_ok (f (.exm "TooLarge" "ChooseError" true) (by simp [faE]))
  have h2 := He.exm_ok (f (.exm "Missing" "ChooseError" true) (by simp [faE]))
  match i, hi with
  | 0, _ => exact h0
  | 1, _ => exact h1
  | 2, _ => exact h2
theorem errs_exc (X : K.In h) (G : h.Ns mainGlobals mg) (f : ∀ x ∈ faE, x.ok K = true) : ExcG K mg "NotAllowed" (errA K 0) ∧ ExcG K mg "TooLarge" (errA K 1) ∧ ExcG K mg "Missing" (errA K 2) := by
  have key : ∀ x : Str, He.Fa.exc x ∈ faE → He.Fa.glo x ∈ faE → ExcG K mg x (He.ga K x) := fun x h1 h2 => by
    obtain ⟨a, b, c, d⟩ := He.exc_ok (f _ h1)
    exact ⟨He.glo_ok X G (f _ h2), a, b, c, d⟩
  exact ⟨key "NotAllowed" (by simp [faE]) (by simp [faE]), key "TooLarge" (by simp [faE]) (by simp [faE]), key "Missing" (by simp [faE]) (by simp [faE])⟩
theorem blt_ok (X : K.In h) (G : h.Ns mainGlobals mg) (f : ∀ x ∈ faE, x.ok K = true) : Blt mg := by
  constructor <;> exact He.free_ok X G (f _ (by simp [faE]))
end
end MM

set_option Elab.async false
set_option linter.all false
set_option maxRecDepth 100000
set_option maxHeartbeats 4000000
/-! ## MM: a list or a tuple some times -/
namespace MM
open PySem PySem.Spec PyProof.Rows L2
/-- once, or of nothing: the tuple itself -/
theorem tupOnce (p : Addr) (us : Array Value) (m : Nat) (dd : Option Addr) (sl : Array (Option Value)) (k : Int) (u : Tok) (h1 : (decide (k < -(2 ^ 63)) || decide (k ≥ 2 ^ 63)) = false) (h2 : (us.isEmpty || k == 1) = true) :
    Meets (Builtin.«tuple.__mul__» ⟨[.ref p, .int k u], []⟩) (fun _ R s => s.heap.get? p = some { cls := .type "tuple", dict := dd, data := .seq us m, slots := sl } ∧ R (.ok (.ret (Value.ref p))) s) :=
  .of_wp fun prog w A R s h => by
    obtain ⟨hp, g, d, tk, os⟩ := s
    obtain ⟨hq, h⟩ := h
    have f1 := AutoSeq1.idx_int
    wp_walk using wpAny_loadPart' hq
    repeat (first
      | (refine wpAny_ite_false (decide_eq_false (by rw [h1]; exact Bool.false_ne_true)) ?_; wp_walk using wpAny_loadPart' hq)
      | (refine wpAny_ite_true (decide_eq_true h2) ?_; wp_walk using wpAny_loadPart' hq))
    exact ⟨_, rfl, h⟩
/-- no times: an empty tuple -/
theorem tupNone (p : Addr) (us : Array Value) (m : Nat) (dd : Option Addr) (sl : Array (Option Value)) (k : Int) (u : Tok) (h1 : (decide (k < -(2 ^ 63)) || decide (k ≥ 2 ^ 63)) = false) (h2 : (us.isEmpty || k == 1) = false) (h3 : (decide (k ≤ 0) || us.isEmpty) = true) :
    Meets (Builtin.«tuple.__mul__» ⟨[.ref p, .int k u], []⟩) (fun _ R s => s.heap.get? p = some { cls := .type "tuple", dict := dd, data := .seq us m, slots := sl } ∧ R (.ok (.ret (Value.ref s.heap.objs.size))) { s with heap := s.heap.push { cls := Value.type "tuple", data := Data.seq #[] }, toks := s.toks }) :=
  .of_wp fun prog w A R s h => by
    obtain ⟨hp, g, d, tk, os⟩ := s
    obtain ⟨hq, h⟩ := h
    have f1 := AutoSeq1.idx_int
    wp_walk using wpAny_loadPart' hq
    repeat (first
      | (refine wpAny_ite_false (decide_eq_false (by rw [h1]; exact Bool.false_ne_true)) ?_; wp_walk using wpAny_loadPart' hq)
      | (refine wpAny_ite_false (decide_eq_false (by rw [h2]; exact Bool.false_ne_true)) ?_; wp_walk using wpAny_loadPart' hq)
      | (refine wpAny_ite_true (decide_eq_true h3) ?_; wp_walk using wpAny_loadPart' hq))
    exact ⟨_, rfl, h⟩
section
variable {X : Cx}
def rMulT1 (K : Frag) : R2 := fun x y H Q => ∃ l k xs, x = .ref l ∧ y = .int k ∧ SqT K H l xs ∧ -(2 ^ 63) ≤ k ∧ k < 2 ^ 63 ∧ ((k = 1 ∧ Q (.ref l) H) ∨ (k ≤ 0 ∧ xs ≠ [] ∧ ∀ p, H p = none → Q (.ref p) (upd H p (.tup []))))
theorem op_mulT1 : OpR X (binaryOp .Mult) (rMulT1 X.K) := by
  intro pins s σ H x y v u Q I rx ry h
  obtain ⟨l, k, xs, rfl, rfl, hT, b1, b2, q⟩ := h
  cases rx
  obtain ⟨t, rfl⟩ := ry
  obtain ⟨its, r, ⟨⟨cls, dd, data, sl⟩, ho, hc, n, hd⟩, hs⟩ := I.tuple hT
  simp only at hc hd
  subst hc hd
  have h1 : (decide (k < -(2 ^ 63)) || decide (k ≥ 2 ^ 63)) = false := by
    rw [decide_eq_false (by omega), decide_eq_false (by omega)]
    rfl
  rcases q with ⟨e, q⟩ | ⟨e, hne, q⟩
  · have h2 : (its.toArray.isEmpty || k == 1) = true := by rw [e]; simp
    exact wpAny_binaryOp_repeat_ref (T := "tuple") (U := "int") (by decide) ⟨_, ho, rfl⟩ (fun s' => typeIs_int s' k t) noFill_tuple_mul F.fills_int_mul F.slot_int_rmul repeat_tuple F.slot_int_index.lookup
      (call_meets F.slot_int_rmul (typeIs_int s k t) F.entry_int_rmul (F.args_int_rmul_2 _ _) (int_rmul_tuple k t l its.toArray n dd sl)
        ⟨ho, rfl, ⟨_, ho, rfl⟩, call_meets F.slot_tuple_mul ⟨_, ho, rfl⟩ F.entry_tuple_mul (F.args_tuple_mul_2 _ _) (tupOnce l its.toArray n dd sl k t h1 h2) ⟨ho, .ref l, H, I, rfl, q⟩⟩)
  · have hn : its ≠ [] := fun z => hne (by
      have := r.length
      rw [z] at this
      exact List.eq_nil_of_length_eq_zero this)
    have h2 : (its.toArray.isEmpty || k == 1) = false := by
      cases its with
      | nil => exact absurd rfl hn
      | cons a b =>
        have : (k == 1) = false := beq_eq_false_iff_ne.mpr (by omega)
        rw [this]
        rfl
    have h3 : (decide (k ≤ 0) || its.toArray.isEmpty) = true := by rw [decide_eq_true e]; rfl
    refine wpAny_binaryOp_repeat_ref (T := "tuple") (U := "int") (by decide) ⟨_, ho, rfl⟩ (fun s' => typeIs_int s' k t) noFill_tuple_mul F.fills_int_mul F.slot_int_rmul repeat_tuple F.slot_int_index.lookup
      (call_meets F.slot_int_rmul (typeIs_int s k t) F.entry_int_rmul (F.args_int_rmul_2 _ _) (int_rmul_tuple k t l its.toArray n dd sl)
        ⟨ho, rfl, ⟨_, ho, rfl⟩, call_meets F.slot_tuple_mul ⟨_, ho, rfl⟩ F.entry_tuple_mul (F.args_tuple_mul_2 _ _) (tupNone l its.toArray n dd sl k t h1 h2 h3) ⟨ho, ?_⟩⟩)
    exact ⟨.ref s.heap.objs.size, _, I.laid (t' := s.toks) (o := .tup []) (fun b ob q => Heap.get?_push_of_some _ q) (Nat.le_refl _) ⟨Nat.zero_le _, _, .nil, IsTup.new _ _⟩, rfl, q _ (I.hok.fresh (Nat.le_refl _))⟩
/-- a list some times -/
def rMulL : R2 := fun x y H Q => ∃ l k xs, x = .ref l ∧ y = .int k ∧ Rd H l (.lst xs) ∧ -(2 ^ 63) ≤ k ∧ k < 2 ^ 63 ∧ xs.length * k.toNat ≤ sizeLine ∧ ∀ p, H p = none → Q (.ref p) (upd H p (.lst (List.replicate k.toNat xs).flatten))
theorem op_mulL : OpR X (binaryOp .Mult) rMulL := by
  intro pins s σ H x y v u Q I rx ry h
  obtain ⟨l, k, xs, rfl, rfl, hR, b1, b2, hz, q⟩ := h
  cases rx
  obtain ⟨t, rfl⟩ := ry
  obtain ⟨z, its, n, r, e⟩ := hR.ok I.hok
  have hl := r.length
  have size1 : its.toArray.size * k.toNat ≤ sizeLine := by rw [List.size_toArray, ← hl]; exact hz
  have room : ¬ its.toArray.size * k.toNat > (2 ^ 63 - 1) / 8 := by
    have : (sizeLine : Nat) ≤ (2 ^ 63 - 1) / 8 := by decide
    omega
  have fit : ¬ (!Builtin.List.listFitsIndex k) = true := by rw [fitsIndex_both b1 b2]; decide
  have short : ¬ Builtin.List.listTooLong (its.toArray.size * k.toNat) = true := by rw [notLongL size1]; decide
  have made : List.foldl (fun a b => a ++ b) #[] (List.replicate (if its.toArray.isEmpty = true then 0 else k.toNat) its.toArray) = (List.replicate k.toNat its).flatten.toArray := by
    cases its with
    | nil =>
      have : (#[] : Array Value).isEmpty = true := rfl
      simp
    | cons a its =>
      rw [if_neg (by simp)]
      exact size_rep (a :: its) k.toNat
  refine wpAny_binaryOp_repeat_ref (T := "list") (U := "int") (by decide) ⟨_, e, rfl⟩ (fun s' => typeIs_int s' k t) noFill_list_mul F.fills_int_mul F.slot_int_rmul repeat_list F.slot_int_index.lookup
    (call_meets F.slot_int_rmul (typeIs_int s k t) F.entry_int_rmul (F.args_int_rmul_2 _ _) (int___rmul___int_list k t l its.toArray n) ⟨e, rfl, ⟨_, e, rfl⟩, call_meets F.slot_list_mul ⟨_, e, rfl⟩ F.entry_list_mul (F.args_list_mul_2 _ _) (AutoListH.list___mul___list_int_3 l its.toArray n k t fit room short) ⟨e, ?_⟩⟩)
  rw [made]
  exact ⟨.ref _, _, I.lnew (t' := s.toks) (r.rep k.toNat) (by rw [PyProof.Rows.lm_len_rep_flat, Nat.mul_comm]; exact hz), rfl, q _ I.fresh⟩
end
/-! ### mulM with all of it -/
def mulM2 : Op2 := fun μ a b => match a, b with
  | .int i, .int j => if okMul i j then some (.int (i * j)) else none
  | .tup xs, .int k => if k = 1 then some (.tup xs) else if xs ≠ [] ∧ k ≤ 0 ∧ -(2 ^ 63) ≤ k then some (.tup []) else if xs ≠ [] ∧ 2 ≤ k ∧ k ≤ 1000 ∧ xs.length ≤ 1000 then some (.tup (List.replicate k.toNat xs).flatten) else none
  | a, .int k => (lstOf μ a).bind fun xs => if -(2 ^ 63) ≤ k ∧ k < 2 ^ 63 ∧ xs.length * k.toNat ≤ sizeLine then some (.lst (List.replicate k.toNat xs).flatten) else none
  | _, _ => none
section
variable {X : Cx} {T : Tbs}
theorem m_mul2 : OpR X (binaryOp .Mult) (rM X.K T mulM2) := by
  intro pins s σ H x y v u Q I rx ry ⟨ι, μ, d1, d2, sr, r1, r2, d, e, q⟩
  unfold mulM2 at e
  split at e
  · split at e
    · rename_i hc
      cases e
      exact op_mulW pins s σ H x y v u Q I rx ry ⟨_, _, r1.int_inv, r2.int_inv, hc, q _ H Ext.refl sr RepV.int⟩
    · cases e
  · split at e
    · rename_i hc
      cases e
      subst hc
      obtain ⟨a, vs, rfl, t1, l1⟩ := r1.tup_inv
      exact op_mulT1 pins s σ H _ y v u Q I rx ry ⟨a, 1, vs, rfl, r2.int_inv, t1, by decide, by decide, .inl ⟨rfl, q _ H Ext.refl sr r1⟩⟩
    · split at e
      · rename_i hc
        cases e
        obtain ⟨a, vs, rfl, t1, l1⟩ := r1.tup_inv
        refine op_mulT1 pins s σ H _ y v u Q I rx ry ⟨a, _, vs, rfl, r2.int_inv, t1, hc.2.2, by omega, .inr ⟨hc.2.1, fun z => hc.1 ((Vals.unlen l1).mpr z), fun p hp => ?_⟩⟩
        exact q _ _ (Ext.laid hp) (sr.laid hp) (RepV.tup sr hp (RepL.nil_iff.mpr rfl))
      · split at e
        · rename_i hc
          cases e
          obtain ⟨a, vs, rfl, t1, l1⟩ := r1.tup_inv
          have hl := l1.len
          refine op_repT pins s σ H _ y v u Q I rx ry ⟨a, _, vs, rfl, r2.int_inv, t1, fun z => hc.1 ((Vals.unlen l1).mpr z), hc.2.1, hc.2.2.1, by omega, fun p hp => ?_⟩
          exact q _ _ (Ext.laid hp) (sr.laid hp) (RepV.tup sr hp (l1.rep _))
        · cases e
  · obtain ⟨xs, h1, e⟩ := Option.bind_eq_some_iff.mp e
    split at e
    · rename_i hc
      cases e
      obtain ⟨a, vs, rfl, t1, l1⟩ := sr.lstR r1 h1
      have hl := l1.len
      refine op_mulL pins s σ H _ y v u Q I rx ry ⟨a, _, vs, rfl, r2.int_inv, t1, hc.1, hc.2.1, by rw [← hl]; exact hc.2.2, fun p hp => ?_⟩
      exact q _ _ (Ext.laid hp) (sr.laid hp) (RepV.lst sr hp (l1.rep _))
    · cases e
  · cases e
end
end MM

set_option Elab.async false
set_option linter.all false
set_option maxRecDepth 100000
set_option maxHeartbeats 4000000
/-! ## MM: comparisons of four, as tests -/
namespace MM
open PySem PySem.Spec PyProof.Rows L2
def tCh3 (q1 q2 q3 : R2) (ta tb tc td : TE) : TE := fun σ H Q => ta σ H fun x1 Ha => tb σ Ha fun x2 Hb => q1 x1 x2 Hb fun z1 Hc => ∃ k, z1 = .bl k ∧
  (if k = true then tc σ Hc fun x3 Hd => q2 x2 x3 Hd fun z2 He => ∃ k2, z2 = .bl k2 ∧ (if k2 = true then td σ He fun x4 Hf => q3 x3 x4 Hf Q else Q (.bl false) He) else Q (.bl false) Hc)
section
variable {X : Cx} {a b c d : Expr} {ta tb tc td : TE} {pos : Pos}
theorem pt_ch3 {o1 o2 o3 : CmpOp} {q1 q2 q3 : R2} (h1 : OpR X (compareOp o1) q1) (h2 : OpR X (compareOp o2) q2) (h3 : OpR X (compareOp o3) q3) (ha : PE X a ta) (hb : PE X b tb) (hc : PE X c tc) (hd : PE X d td)
    (hm : lastMarks [o1, o2, o3] [b, c, d] = false := by with_unfolding_all rfl) : PT X (.Compare a [o1, o2, o3] [b, c, d] pos) (tTest (tCh3 q1 q2 q3 ta tb tc td)) := by
  refine ⟨fun pins s0 σ Ha Q I0 w0 => isTrue_chain (thn (ha.run pins s0 σ Ha _ I0 w0) fun v1 s1 ⟨x1, Hb, I1, r1, w1⟩ => test_link (thn (hb.run pins s1 σ Hb _ I1 w1) fun v2 s2 ⟨x2, Hc, I2, r2, w2⟩ => thn (h1 pins s2 σ Hc x1 x2 v1 v2 _ I2 r1 r2 w2) fun t1 s3 ⟨z1, Hd, I3, r3, k, e, w3⟩ => ?_)) hm⟩
  subst e
  cases r3
  refine wpAny_truthy_bool ?_
  cases k with
  | false =>
    obtain ⟨k', e', w'⟩ := w3
    cases e'
    exact ite_ff ⟨Hd, I3, w'⟩
  | true =>
    refine ite_tt (test_link (thn (hc.run pins s3 σ Hd _ I3 w3) fun v3 s4 ⟨x3, He, I4, r4, w4⟩ => thn (h2 pins s4 σ He x2 x3 v2 v3 _ I4 r2 r4 w4) fun t2 s5 ⟨z2, Hf, I5, r5, k2, e2, w5⟩ => ?_))
    subst e2
    cases r5
    refine wpAny_truthy_bool ?_
    cases k2 with
    | false =>
      obtain ⟨k', e', w'⟩ := w5
      cases e'
      exact ite_ff ⟨Hf, I5, w'⟩
    | true =>
      refine ite_tt (test_last (thn (hd.run pins s5 σ Hf _ I5 w5) fun v4 s6 ⟨x4, Hg, I6, r6, w6⟩ => thn (h3 pins s6 σ Hg x3 x4 v3 v4 _ I6 r4 r6 w6) fun t3 s7 ⟨z3, Hh, I7, r7, k3, e3, w7⟩ => ?_))
      subst e3
      cases r7
      exact wpAny_truthy_bool ⟨Hh, I7, w7⟩
end
/-- a o1 b o2 c o3 d -/
def mCh3 (o1 o2 o3 : Op2) (ma mb mc md : Ev MV) : Ev MV := mB ma fun x => mB mb fun y => fun ρ μ => match o1 μ x y with
  | some (.bl true) => mB mc (fun z => fun ρ μ => match o2 μ y z with
    | some (.bl true) => mB md (fun w => fun ρ μ => oO (o3 μ z w) ρ μ) ρ μ
    | some (.bl false) => .ok (.bl false) μ
    | _ => .bad) ρ μ
  | some (.bl false) => .ok (.bl false) μ
  | _ => .bad
section
variable {X : Cx} {T : Tbs} {W : WX} {a b c d : Expr} {ma mb mc md : Ev MV} {pos : Pos}
theorem ch3T {o1 o2 o3 : Op2} : ∀ σ H Q, tG (RV X.K) X.K X.mg T W (mCh3 o1 o2 o3 ma mb mc md) σ H Q → tCh3 (rM X.K T o1) (rM X.K T o2) (rM X.K T o3) (tG (RV X.K) X.K X.mg T W ma) (tG (RV X.K) X.K X.mg T W mb) (tG (RV X.K) X.K X.mg T W mc) (tG (RV X.K) X.K X.mg T W md) σ H Q :=
  fun σ H Q ⟨ι, ρ, μ, s, e, h⟩ => ⟨ι, ρ, μ, s, e, bindr h fun d1 x μ1 ι1 H1 _ E1 s1 r1 h1 => ⟨ι1, ρ, μ1, s1, e.ext E1, bindr h1 fun d2 y μ2 ι2 H2 _ E2 s2 r2 h2 => by
    refine ⟨ι2, μ2, d1, d2, s2, r1.ext E2, r2, ?_⟩
    have h2 : Post (RV X.K) X.K X.mg T W σ ι2 H2 Q (match o1 μ2 d1 d2 with
      | some (.bl true) => mB mc (fun z => fun ρ μ => match o2 μ d2 z with
        | some (.bl true) => mB md (fun w => fun ρ μ => oO (o3 μ z w) ρ μ) ρ μ
        | some (.bl false) => .ok (.bl false) μ
        | _ => .bad) ρ μ2
      | some (.bl false) => .ok (.bl false) μ2
      | _ => .bad) := h2
    split at h2
    · rename_i ho
      refine ⟨_, ho, fun v H3 E3 s3 r3 => ⟨true, r3.bl_inv, ?_⟩⟩
      refine ⟨ι2, ρ, μ2, s3, (e.ext (E1.trans E2)).ext E3, bindr (f := fun z => fun ρ μ => match o2 μ d2 z with
        | some (.bl true) => mB md (fun w => fun ρ μ => oO (o3 μ z w) ρ μ) ρ μ
        | some (.bl false) => .ok (.bl false) μ
        | _ => .bad) (h2.mono E3) fun d3 z μ3 ι4 H4 _ E4 s4 r4 h4 => ?_⟩
      refine ⟨ι4, μ3, d2, d3, s4, (r2.ext E3).ext E4.w, r4, ?_⟩
      have h4 : Post (RV X.K) X.K X.mg T W σ ι4 H4 Q (match o2 μ3 d2 d3 with
        | some (.bl true) => mB md (fun w => fun ρ μ => oO (o3 μ d3 w) ρ μ) ρ μ3
        | some (.bl false) => .ok (.bl false) μ3
        | _ => .bad) := h4
      split at h4
      · rename_i ho2
        refine ⟨_, ho2, fun v2 H5 E5 s5 r5 => ⟨true, r5.bl_inv, ?_⟩⟩
        exact ⟨ι4, ρ, μ3, s5, ((((e.ext (E1.trans E2)).ext E3).ext E4).ext E5), bindr (h4.mono E5) fun d4 w μ5 ι6 H6 _ E6 s6 r6 h6 => ⟨ι6, μ5, d3, d4, s6, (r4.ext E5).ext E6.w, r6, h6.po⟩⟩
      · rename_i ho2
        exact ⟨_, ho2, fun v2 H5 E5 s5 r5 => ⟨false, r5.bl_inv, h4 _ ι4 H5 E5 s5 RepV.bl⟩⟩
      · exact h4.elim
    · rename_i ho
      exact ⟨_, ho, fun v H3 E3 s3 r3 => ⟨false, r3.bl_inv, h2 _ ι2 H3 E3 s3 RepV.bl⟩⟩
    · exact h2.elim⟩⟩
theorem rt_ch3 {o1 o2 o3 : Op2} {p1 p2 p3 : CmpOp} (h1 : OpR X (compareOp p1) (rM X.K T o1)) (h2 : OpR X (compareOp p2) (rM X.K T o2)) (h3 : OpR X (compareOp p3) (rM X.K T o3)) (ha : RE X T W a ma) (hb : RE X T W b mb) (hc : RE X T W c mc) (hd : RE X T W d md)
    (hm : lastMarks [p1, p2, p3] [b, c, d] = false := by with_unfolding_all rfl) : RT X T W (.Compare a [p1, p2, p3] [b, c, d] pos) (mT (mCh3 o1 o2 o3 ma mb mc md)) :=
  PT.mono (pt_ch3 h1 h2 h3 ha hb hc hd hm) fun σ H Q h => by
    obtain ⟨ι, ρ, μ, s, e, h⟩ := toB σ H Q h
    exact ch3T (W := W) _ _ _ ⟨ι, ρ, μ, s, e, h⟩
end
/-! ### xs + ys, list(xs): as a cell -/
def rCatL : R2 := fun x y H Q => ∃ a b vs ws, x = .ref a ∧ y = .ref b ∧ Rd H a (.lst vs) ∧ Rd H b (.lst ws) ∧ vs.length + ws.length ≤ sizeLine ∧ ∀ p, H p = none → Q (.ref p) (upd H p (.lst (vs ++ ws)))
section
variable {X : Cx} {T : Tbs} {W : WX} {a b : Expr} {ma mb : Ev MV} {pos : Pos}
theorem op_catL : OpR X (binaryOp .Add) rCatL := by
  intro pins s σ H x y v u Q I rx ry h
  obtain ⟨a, b, vs, ws, ex, ey, t1, t2, hz, q⟩ := h
  subst ex ey
  cases rx
  cases ry
  obtain ⟨z1, as, n1, v1, g1⟩ := Rd.at I t1
  obtain ⟨z2, bs, n2, v2, g2⟩ := Rd.at I t2
  refine PySem.P.add_list g1 g2 ?_ (by simp only [List.size_toArray]; rw [← v1.length, ← v2.length]; exact hz)
  have hp := I.hok.fresh (Nat.le_refl s.heap.objs.size)
  rw [show as.toArray ++ bs.toArray = (as ++ bs).toArray from List.append_toArray as bs]
  exact ⟨.ref s.heap.objs.size, _, I.lnew (t' := s.toks) (v1.append v2) (by rw [List.length_append]; exact hz), rfl, q _ hp⟩
def mAddC (ma mb : Ev MV) : Ev MV := mB ma fun x => mB mb fun y => fun _ μ => match lstOf μ x, lstOf μ y with
  | some xs, some ys => if xs.length + ys.length ≤ sizeLine then .ok (.ref μ.length) (μ ++ [.lst (xs ++ ys)]) else .bad
  | _, _ => .bad
theorem re_addC (ha : RE X T W a ma) (hb : RE X T W b mb) : RE X T W (.BinOp a .Add b pos) (mAddC ma mb) :=
  PE.mono (pe_op op_catL ha hb) fun σ H Q ⟨ι, ρ, μ, s, e, h⟩ => ⟨ι, ρ, μ, s, e, bindr h fun d1 x μ1 ι1 H1 _ E1 s1 r1 h1 => ⟨ι1, ρ, μ1, s1, e.ext E1, bindr h1 fun d2 y μ2 ι2 H2 _ E2 s2 r2 h2 => by
    have h2 : Post (RV X.K) X.K X.mg T W σ ι2 H2 Q (match lstOf μ2 d1, lstOf μ2 d2 with
      | some xs, some ys => if xs.length + ys.length ≤ sizeLine then .ok (.ref μ2.length) (μ2 ++ [.lst (xs ++ ys)]) else .bad
      | _, _ => .bad) := h2
    split at h2
    · rename_i xs ys e1 e2
      split at h2
      · rename_i hz
        obtain ⟨p, vs, ev, t1, l1⟩ := s2.lstR (r1.ext E2) e1
        obtain ⟨q, ws, ew, t2, l2⟩ := s2.lstR r2 e2
        exact ⟨p, q, vs, ws, ev, ew, t1, t2, by rw [← l1.len, ← l2.len]; exact hz, fun n hn => h2 _ _ _ (Ext.laidC hn) (s2.laidC hn (l1.app l2)) (by rw [← s2.len]; exact RepV.cell)⟩
      · exact h2.elim
    · exact h2.elim⟩⟩
end
end MM

set_option Elab.async false
set_option linter.all false
set_option maxRecDepth 100000
set_option maxHeartbeats 4000000
/-! ## MM: sorted(set(ns)), ns a list of whole numbers -/
namespace MM
open PySem PySem.Spec PyProof.Rows L2
/-- a set with nothing in it -/
abbrev emptyS (w : World) : Obj := { cls := .type "set", dict := none, data := .set #[] 0 (.fresh 0 0 (!w.params.followText "set-order")) }
section
variable {P : Program} {w : World} {A : Around} {E : Value → Shared → Prop} {s : Shared}
set_option maxHeartbeats 8000000 in
/-- set(l): what is in it -/
theorem call_setL {l : Addr} {its : Array Value} (ns : List Int) {R : Value → Shared → Prop} (a0 : A.handled = none) (lt : s.heap.IsList l its) (iv : IntsAre its.toList ns) (few : ns.length + 1 < scanBound)
    (k : ∀ (g : Heap) (tk c : Nat), SetR w g s.heap.objs.size (fun j => decide (j ∈ ns)) c → c ≤ ns.length → (∀ b o, s.heap.get? b = some o → g.get? b = some o) → R (.ref s.heap.objs.size) { s with heap := g, toks := tk }) :
    wpAny (model P w) A (call (.type "set") [.ref l]) R E s := by
  have size : its.size = ns.length := by
    have := IntsAre.length iv
    rwa [Array.length_toList] at this
  have new : (s.heap.push (emptyS w)).get? s.heap.objs.size = some (emptyS w) := Heap.get?_push_size _ rfl
  obtain ⟨m1, m2, mro⟩ := F.called_set.mro
  have f1 := F.called_set.made
  have f2 := F.called_set.sub
  have f3 := F.called_set.notType
  have f4 := F.called_set.canCreate
  have f5 := F.typeCall_set_1 (.ref l)
  refine wpAny_call (codeAny_of_tree ?_)
  show wpAny _ _ (callAny (Value.type "set") _) _ _ _
  refine wpAny_pure ⟨Code.quiet_builtin _ (by decide +kernel), codeAny_builtin F.entry_type_call ?_⟩
  rw [Around.under_plain (weight_type_call_type "set" [.ref l] []) rfl]
  repeat (any_goals (first | assumption | wp_step))
  refine codeAny_mono (code_set_led1 (.ref l) (E := E) (Q₁ := fun x t => x = .ref s.heap.objs.size ∧ t = { s with heap := s.heap.push (emptyS w) }) ⟨rfl, rfl⟩) fun q t hq => ?_
  cases q with
  | error e => exact hq
  | ok fl =>
    cases fl with
    | ret x =>
      obtain ⟨rfl, rfl⟩ := hq
      have ty : Shared.TypeIs { s with heap := s.heap.push (emptyS w) } (.ref s.heap.objs.size) "set" := ⟨_, new, rfl⟩
      have i1 := F.called_set.init.lookup
      have i2 := F.called_set.init.bind (.ref s.heap.objs.size)
      repeat (any_goals (first | assumption | wp_step))
      refine codeAny_mono (codeAny_call_builtin (R := wants (fun y t => y = .none ∧ ∃ g tk c, t = { s with heap := g, toks := tk } ∧ SetR w g s.heap.objs.size (fun j => decide (j ∈ ns)) c ∧ c ≤ ns.length ∧ (∀ b o, s.heap.get? b = some o → g.get? b = some o)) E) F.called_set.init.plain F.entry_set_init (check_set_init_1 ty ?_)) fun q2 t2 hq2 => ?_
      · obtain ⟨⟨cl, dd, dt, sl⟩, there, e1, n1, e2⟩ := lt
        simp only at e1 e2
        subst e1 e2
        have there2 : (s.heap.push (emptyS w)).get? l = some { cls := .type "list", dict := dd, data := .seq its n1, slots := sl } := Heap.get?_push_of_some _ there
        have lt2 : (s.heap.push (emptyS w)).IsList l its := ⟨_, there2, rfl, n1, rfl⟩
        have u1 := F.sub_list_set
        have u2 := F.sub_list_frozenset
        have u3 : (Value.type "list" == Value.type "dict") = false := by decide
        unfold Builtin.«set.__init__» noKeywords Builtin.Frozenset.updateFrom
        generalize it : pyIter = It
        wp_walk
        subst it
        refine wpAny_pyIter_list lt2 ?_
        refine wpAny_bind (wpAny_runValue ?_)
        have below : l < s.heap.objs.size := Heap.lt_size there
        have sz2 : (s.heap.push (emptyS w)).objs.size = s.heap.objs.size + 1 := Heap.size_push ..
        have apart : l ≠ (s.heap.push (emptyS w)).objs.size := by rw [sz2]; exact Nat.ne_of_lt (Nat.lt_succ_of_lt below)
        have out : s.heap.objs.size ∉ [(s.heap.push (emptyS w)).objs.size, l] := by
          rw [sz2]
          simp only [List.mem_cons, List.not_mem_nil, or_false, not_or]
          exact ⟨Nat.ne_of_lt (Nat.lt_succ_self _), Nat.ne_of_gt below⟩
        have vals : ∀ (i : Nat) (v : Value), its[i]? = some v → ∃ z t, ns[i]? = some z ∧ v = .int z t := fun i v hv => by
          have hi : i < ns.length := by rw [← size]; exact (Array.getElem?_eq_some_iff.mp hv).1
          obtain ⟨t, e⟩ := PyProof.Rows.IntsAre.int_at iv i v (by rw [Array.getElem?_toList]; exact hv)
          exact ⟨ns[i], t, List.getElem?_eq_getElem hi, by rw [e, List.getD_eq_getElem?_getD, List.getElem?_eq_getElem hi]; rfl⟩
        have a3 : A.in1.in1.in1.handled = none := by simp [a0]
        refine set_update_ints ((Walks.list a3 _ l apart its).toS) s.heap.objs.size out ns size few vals its.size 0 _ rfl (Nat.zero_le _) ⟨⟨_, Heap.get?_push_size _ rfl, rfl, rfl⟩, lt2.push _⟩ ⟨0, Nat.le_refl 0, setR_new_at (Heap.get?_push_of_some _ new)⟩ fun t c mv hc hS => ?_
        obtain ⟨g, g2, d2, tk, os2⟩ := t
        have eg : g2 = s.gens := mv.gens
        have ed : d2 = s.drawn := mv.drawn
        have eo : os2 = s.os := mv.os
        subst eg ed eo
        show wpAny _ _ _ _ _ _
        refine wpAny_pure ?_
        show wpAny _ _ (ret Value.none) _ _ _
        refine wpAny_pure ⟨rfl, g, tk, c, rfl, hS, by omega, fun b o e => ?_⟩
        have hb := Heap.lt_size e
        refine mv.heap b o ?_ (Heap.get?_push_of_some _ (Heap.get?_push_of_some _ e))
        rw [sz2]
        simp only [List.mem_cons, List.not_mem_nil, or_false, not_or]
        exact ⟨Nat.ne_of_lt hb, Nat.ne_of_lt (Nat.lt_succ_of_lt hb)⟩
      · cases q2 with
        | error e => exact hq2
        | ok fl2 =>
          cases fl2 with
          | ret y =>
            obtain ⟨rfl, g, tk, c, rfl, z1, z2, z3⟩ := hq2
            repeat (any_goals (first | assumption | wp_step))
            exact k _ _ _ z1 z2 z3
          | _ => exact hq2.elim
    | _ => exact hq.elim
end
end MM

set_option Elab.async false
set_option linter.all false
set_option maxRecDepth 100000
set_option maxHeartbeats 4000000
/-! ## MM: sorted(set(ns)) as one built-in -/
namespace MM
open PySem PySem.Spec PyProof.Rows L2
/-- each once -/
def onceI : List Int → List Int
  | [] => []
  | z :: r => if z ∈ onceI r then onceI r else z :: onceI r
theorem mem_onceI : ∀ {ns : List Int} {z : Int}, z ∈ onceI ns ↔ z ∈ ns
  | [], z => by simp [onceI]
  | y :: r, z => by
    unfold onceI
    by_cases h : y ∈ onceI r
    · rw [if_pos h, mem_onceI, List.mem_cons]
      have h' := mem_onceI.mp h
      constructor
      · exact .inr
      · rintro (rfl | q)
        · exact h'
        · exact q
    · rw [if_neg h, List.mem_cons, List.mem_cons, mem_onceI]
theorem nodup_onceI : ∀ ns : List Int, (onceI ns).Nodup
  | [] => by simp [onceI]
  | y :: r => by
    unfold onceI
    by_cases h : y ∈ onceI r
    · rw [if_pos h]; exact nodup_onceI r
    · rw [if_neg h]; exact List.nodup_cons.mpr ⟨h, nodup_onceI r⟩
def srtSetM : OpC := fun μ ds => match ds with
  | [d] => (lstOf μ d).bind fun xs => (intsOf xs).bind fun ns => if ns.length < 60 then some (.lst ((sortI (onceI ns)).map .int)) else none
  | _ => none
theorem once_sorted {ns ms : List Int} (s : ms.Pairwise (· < ·)) (m : ∀ k, k ∈ ms ↔ k ∈ ns) : ms = sortI (onceI ns) := by
  have nd : ms.Nodup := s.imp fun h => Int.ne_of_lt h
  refine sortI_eq ((List.perm_ext_iff_of_nodup nd (nodup_onceI ns)).mpr fun k => ?_) (s.imp fun h => Int.le_of_lt h)
  rw [m, mem_onceI]
/-- set(l), l a list of whole numbers -/
def rSetL (K : PySem.W.Frag) (w : World) : List V → Hp → VK → Prop := fun vs H Q => ∃ (p : Addr) (ns : List Int), vs = [.ref p] ∧ SqL K H p (ns.map V.int) ∧ ns.length < 60 ∧ ∀ (a : Addr) (c : Nat), c ≤ ns.length → H a = none → Q (.ref a) (upd H a (SetO w a (fun j => decide (j ∈ ns)) c))
section
variable {X : Cx} {T : Tbs} {W : WX} {pos pos2 p p2 : Pos} {e : Expr} {ms : Ev (List MV)}
theorem cr_setL (hc : X.calm = true) : CallR X (.type "set") (rSetL X.K X.w) := by
  intro pins s σ H vs us Q I r h
  obtain ⟨p, ns, rfl, hl, few, q⟩ := h
  rw [Vals.ref1 r]
  obtain ⟨its, rv, pl, hz⟩ := I.list hl
  refine call_setL (P := X.prog) (w := X.w) ns (I.ok.hd hc) pl.isList (ints_of_vals rv) (Nat.lt_of_lt_of_le (show ns.length + 1 < 61 by omega) (by decide)) fun g tk c R hcn k => ?_
  exact ⟨.ref s.heap.objs.size, _, I.laid (t' := tk) k (Nat.le_refl _) (setO_new R), rfl, q _ c hcn (I.hok.fresh (Nat.le_refl _))⟩
theorem re_srtSet (hc : X.calm = true) (hg : Gl X "sorted") (hm : X.mg "sorted" = none) (hg2 : Gl X "set") (hm2 : X.mg "set" = none) (ha : RA X T W [e] ms)
    (h1 : starEach [Expr.Call (.Name "set" p2) [e] [] pos2] X.env = (false, eval (Expr.Call (.Name "set" p2) [e] [] pos2) X.env) :: starEach [] X.env := by rfl) (h2 : (backTo pos (starEach [] X.env)).any (·.1) = false := by rfl)
    (h3 : starEach [e] X.env = (false, eval e X.env) :: starEach [] X.env := by rfl) (h4 : (backTo pos2 (starEach [] X.env)).any (·.1) = false := by rfl) :
    RE X T W (.Call (.Name "sorted" p) [.Call (.Name "set" p2) [e] [] pos2] [] pos) (mCB srtSetM ms) :=
  PE.mono (pe_callB (cr_sortedSet hc) hg hm (by rfl) (pa_cons (pe_callTy (cr_setL hc) hg2 hm2 (by rfl) ha (by decide) (by decide) h3 h4) pa_nil h1) (by decide) (by decide) h1 h2) fun σ H Q ⟨ι, ρ, μ, s, en, h⟩ => ⟨ι, ρ, μ, s, en, bindr h fun ds vs μ1 ι1 H1 _ E1 s1 r1 k1 => by
    obtain ⟨d, hd, q⟩ := k1.po
    unfold srtSetM at hd
    split at hd
    · obtain ⟨xs, g1, hd⟩ := Option.bind_eq_some_iff.mp hd
      obtain ⟨ns, g2, hd⟩ := Option.bind_eq_some_iff.mp hd
      split at hd
      · rename_i few
        cases hd
        obtain ⟨v, rfl, r⟩ := r1.one_inv
        obtain ⟨a, ws, rfl, t, l⟩ := s1.lst r g1
        rw [intsOf_rep l g2] at t
        refine ⟨a, ns, rfl, t, few, fun b c hcn hb => ⟨b, fun j => decide (j ∈ ns), c, rfl, ?_, by omega, fun zs p' hs hmem hlen hp' => ?_⟩⟩
        · simp [upd]
        · have e1 := once_sorted (ns := ns) hs fun k => by rw [hmem k]; exact decide_eq_true_iff
          rw [e1]
          have hp1 : H1 p' = none := by
            have := hp'
            unfold upd at this
            split at this
            · cases this
            · exact this
          have s2 := s1.laid (o := SetO X.w b (fun j => decide (j ∈ ns)) c) hb
          exact q _ _ ((Ext.laid hb).trans (Ext.laid hp')) (s2.laid hp') (RepV.lst s2 hp' (RepL.ints _))
      · cases hd
    · cases hd⟩
end
end MM
namespace MM
open PySem PySem.Spec PyProof.Rows L2
section
variable {X : Cx} {T : Tbs} {W : WX} {pos pos2 p p2 : Pos} {e : Expr} {ms : Ev (List MV)} {k : Nat}
theorem xsrtSet (g : Cg X k) (bl : Blt X.mg) (ha : RA X T W [e] ms) (hg : Gl X "sorted" := by rfl) (hg2 : Gl X "set" := by rfl)
    (h1 : starEach [Expr.Call (.Name "set" p2) [e] [] pos2] X.env = (false, eval (Expr.Call (.Name "set" p2) [e] [] pos2) X.env) :: starEach [] X.env := by rfl) (h2 : (backTo pos (starEach [] X.env)).any (·.1) = false := by rfl)
    (h3 : starEach [e] X.env = (false, eval e X.env) :: starEach [] X.env := by rfl) (h4 : (backTo pos2 (starEach [] X.env)).any (·.1) = false := by rfl) :
    RE X T W (.Call (.Name "sorted" p) [.Call (.Name "set" p2) [e] [] pos2] [] pos) (mCB srtSetM ms) := re_srtSet g.hc hg bl.sorted hg2 bl.set ha h1 h2 h3 h4
end
end MM

set_option Elab.async false
set_option linter.all false
set_option maxRecDepth 100000
set_option maxHeartbeats 4000000
/-! ## MM: [x] * n, kept as a cell -/
namespace MM
open PySem PySem.Spec PyProof.Rows L2
def mulCO (o : Option (List MV)) (d : MV) (μ : Mem) : Out MV := match o, d with
  | some xs, .int k => if -(2 ^ 63) ≤ k ∧ k < 2 ^ 63 ∧ xs.length * k.toNat ≤ sizeLine then .ok (.ref μ.length) (μ ++ [.lst (List.replicate k.toNat xs).flatten]) else .bad
  | _, _ => .bad
def mMulC (ma mb : Ev MV) : Ev MV := mB ma fun x => mB mb fun y => fun _ μ => mulCO (lstOf μ x) y μ
section
variable {X : Cx} {T : Tbs} {W : WX} {pos : Pos} {a b : Expr} {ma mb : Ev MV}
theorem re_mulC (ha : RE X T W a ma) (hb : RE X T W b mb) : RE X T W (.BinOp a .Mult b pos) (mMulC ma mb) :=
  PE.mono (pe_op op_mulL ha hb) fun σ H Q ⟨ι, ρ, μ, s, e, h⟩ => ⟨ι, ρ, μ, s, e, bindr h fun d1 x μ1 ι1 H1 _ E1 s1 r1 h1 => ⟨ι1, ρ, μ1, s1, e.ext E1, bindr h1 fun d2 y μ2 ι2 H2 _ E2 s2 r2 h2 => by
    have h2 : Post (RV X.K) X.K X.mg T W σ ι2 H2 Q (mulCO (lstOf μ2 d1) d2 μ2) := h2
    unfold mulCO at h2
    split at h2
    · rename_i xs k e1 e2 h0
      split at h2
      · rename_i hz
        obtain ⟨p, vs, ev, t1, l1⟩ := s2.lstR (r1.ext E2) e1
        have hl := l1.len
        exact ⟨p, k, vs, ev, r2.int_inv, t1, hz.1, hz.2.1, by rw [← hl]; exact hz.2.2, fun n hn => h2 _ _ _ (Ext.laidC hn) (s2.laidC hn (l1.rep _)) (by rw [← s2.len]; exact RepV.cell)⟩
      · exact h2.elim
    · exact h2.elim⟩⟩
end
end MM

set_option Elab.async false
set_option linter.all false
set_option maxRecDepth 100000
set_option maxHeartbeats 4000000
/-! ## MM: sum, of a list or of a tuple -/
namespace MM
open PySem PySem.Spec PyProof.Rows L2
section
variable {prog : Program} {w : World} {A : Around} {E : Value → Shared → Prop} {s : Shared}
theorem sum_tup {t : Addr} {its : List Value} {ns : List Int} {R : Value → Shared → Prop} (a0 : A.handled = none) (pt : s.heap.IsTuple t its.toArray) (iv : IntsAre its ns)
    (k : ∀ g tk u, (∀ b o, s.heap.get? b = some o → g.get? b = some o) → R (.int ns.sum u) { s with heap := g, toks := tk }) : wpAny (model prog w) A (call (.builtin "sum") [.ref t]) R E s := by
  obtain ⟨zs, ez⟩ := iv.allInts.items
  have en : numsOf (intItems zs).toList = ns := by rw [← ez]; exact iv.numsOf
  rw [nums_intItems] at en
  rw [ez] at pt
  refine PySem.W.ktm_sumG a0 pt fun g tk u hk => ?_
  have q := k g tk u hk
  rw [preSum_eq, List.take_of_length_le (by simp), en]
  exact q
end
def sumSM : OpC := fun μ ds => match ds with
  | [d] => (seqOf μ d).bind fun xs => (intsOf xs).map fun ns => .int ns.sum
  | _ => none
section
variable {X : Cx} {T : Tbs} {W : WX} {pos p : Pos} {e : Expr} {ms : Ev (List MV)} {k : Nat}
theorem c_sumS (hc : X.calm = true) : CallR X (.builtin "sum") (rC X.K T sumSM) := by
  intro pins s σ H xs us Q I rx ⟨ι, μ, ds, sr, r1, d, e, q⟩
  unfold sumSM at e
  split at e
  · obtain ⟨ys, h1, e⟩ := Option.bind_eq_some_iff.mp e
    obtain ⟨ns, h2, rfl⟩ := Option.map_eq_some_iff.mp e
    obtain ⟨v, rfl, r⟩ := r1.one_inv
    obtain ⟨a, vs, rfl, t, l⟩ := seq_inv sr r h1
    rw [intsOf_rep l h2] at t
    rcases t with t | t
    · exact cr_sum hc pins s σ H _ us Q I rx ⟨a, ns, rfl, t, q _ H Ext.refl sr RepV.int⟩
    · obtain ⟨its, rv, pt, _⟩ := I.tuple t
      rw [Vals.ref1 rx]
      exact sum_tup (I.ok.hd hc) pt rv.ints fun g tk u hk => ⟨.int _, H, I.kept hk, ⟨_, rfl⟩, q _ H Ext.refl sr RepV.int⟩
  · cases e
theorem xsumS (g : Cg X k) (bl : Blt X.mg) (ha : RA X T W [e] ms) (hg : Gl X "sum" := by rfl) (hs : starEach [e] X.env = (false, eval e X.env) :: starEach [] X.env := by rfl) (hpl : (backTo pos (starEach [] X.env)).any (·.1) = false := by rfl) : RE X T W (.Call (.Name "sum" p) [e] [] pos) (mCB sumSM ms) := re_callB (c_sumS g.hc) hg bl.sum (by rfl) ha (by decide) (by decide) hs hpl
end
end MM

set_option Elab.async false
set_option linter.all false
set_option maxRecDepth 100000
set_option maxHeartbeats 4000000
namespace K33
open PySem PySem.Spec PyProof.Rows L2 MM
def top (i : Nat) : Stmt := PySem.Challenge.pw_bothchoose_k33_whole_crowds_that_rest.main.body.getD i (.Pass ⟨0, 0, 0, 0⟩)
noncomputable section
variable {P : Program} {w : World} {K : PySem.W.Frag} {mg : Str → Option Value} {base : Heap} {T : Tbs} {k : Nat}

abbrev N_p_is_way : List Str := ["many", "way", "one", "other", "thing"]
abbrev st_p_is_way : Stmt := top 14
def M_p_is_way : SM := (sSeq (sIf (mT (mOr (mOp eqM (mCB lenM (mCons (mVar 1) mNil)) (mRet (.int 0))) (mNot (mCB allM (mCons (mComp (List.map (·.2) ([("thing", 4)] : List (Str × Nat))) (mItm (mVar 1)) (gN 4) mYes (mChain leM ltM (mRet (.int 0)) (mVar 4) (mVar 0))) mNil))))) (sRet (mRet (.bl false))) sPass)
  (sRet (mCB allM (mCons (mComp (List.map (·.2) ([("one", 2), ("other", 3)] : List (Str × Nat))) (mZip (mCons (mVar 1) (mCons (mSlice (mVar 1) (mPart (mRet (.int 1))) mNoPart) mNil))) (gT ((gN 2) :: ((gN 3) :: []))) mYes (mOp ltM (mVar 2) (mVar 3))) mNil))))
def F_p_is_way : FM := runC N_p_is_way M_p_is_way
theorem sc_p_is_way : FnScope N_p_is_way ["many", "way"] (defScope st_p_is_way) := C8.fnScope_by (by decide +kernel)
theorem d_p_is_way (bl : Blt mg) {f : Addr} {cdv : Value} {A : Around} {outer : List PySem.Env} {s : Shared} {H : Hp} {E : XK} (hr : Room k (A.deeper (envOfC "is_way" (defScope st_p_is_way) s.heap.objs.size f cdv))) (hgd : A.guards = some []) :
    RSs (cxOf (L2N.CX P w) P w K mg base N_p_is_way "is_way" (defScope st_p_is_way) f cdv A outer s H E) T (wE E) (defBody st_p_is_way) M_p_is_way := by
  have g : Cg (cxOf (L2N.CX P w) P w K mg base N_p_is_way "is_way" (defScope st_p_is_way) f cdv A outer s H E) k := ⟨rfl, sc_p_is_way.nd, hr, hgd⟩
  have tk : L2N.Takes (cxOf (L2N.CX P w) P w K mg base N_p_is_way "is_way" (defScope st_p_is_way) f cdv A outer s H E) (wE E) := L2N.takes_of rfl rfl rfl rfl
  have hp := passes_of (X := cxOf (L2N.CX P w) P w K mg base N_p_is_way "is_way" (defScope st_p_is_way) f cdv A outer s H E) rfl
  exact (ss_cons (s_if (rt_bop (rw_or (tcmp (m_eq g.u64) (xlen bl (ra_cons (xv 1) ra_nil)) re_int) (rw_or1 (rt_not (rt_val (xall g bl (ra_cons (xcomp g ([("thing", 4)] : List (Str × Nat)) (ri_seq (xv 1)) (fun _ _ _ _ _ => (gn g.b 4)) (fun _ _ _ _ _ => rts_nil) (fun _ _ _ _ _ => (re_chain m_le m_lt re_int (xv 4) (xv 0)))) ra_nil))))))) (ss_one (s_ret re_bl)) ss_nil)
  (ss_one (s_ret (xall g bl (ra_cons (xcomp g ([("one", 2), ("other", 3)] : List (Str × Nat)) (izip bl (ra_cons (xv 1) (ra_cons (re_slice (xv 1) (rp_some re_int) rp_none) ra_nil))) (fun _ _ _ _ _ => (gt g.b (gs_cons (gn g.b 2) (gs_cons (gn g.b 3) gs_nil)))) (fun _ _ _ _ _ => rts_nil) (fun _ _ _ _ _ => (xcmp m_lt (xv 2) (xv 3)))) ra_nil)))))
theorem c_p_is_way (bl : Blt mg) {f : Addr} (F : ∃ fd, FunD K "is_way" "is_way" (defArgs st_p_is_way) (defBody st_p_is_way) (defScope st_p_is_way) [] [] f fd) (hm : mg "is_way" = some (.ref f)) : CalM P w K mg base T (k + 1) "is_way" ["many", "way"] F_p_is_way :=
  CalM.of F hm (fun _ _ _ _ _ _ us hl => match us, hl with | [_, _], _ => rfl) sc_p_is_way fun cdv A outer s H E hr hg => d_p_is_way  bl hr hg

abbrev N_p_count_rows : List Str := ["ways", "found", "row"]
abbrev st_p_count_rows : Stmt := top 15
abbrev B1_p_count_rows : SM := (sAsg (mOp mulM2 (mVar 1) (mCB lenM (mCons (mVar 2) mNil))) (gN 1))
def M_p_count_rows : SM := (sSeq (sAsg (mRet (.int 1)) (gN 1))
  (sSeq (sFor (mItm (mVar 0)) (gN 2) B1_p_count_rows)
  (sRet (mVar 1))))
def F_p_count_rows : FM := runC N_p_count_rows M_p_count_rows
theorem sc_p_count_rows : FnScope N_p_count_rows ["ways"] (defScope st_p_count_rows) := C8.fnScope_by (by decide +kernel)
theorem d_p_count_rows (bl : Blt mg) {f : Addr} {cdv : Value} {A : Around} {outer : List PySem.Env} {s : Shared} {H : Hp} {E : XK} (hr : Room k (A.deeper (envOfC "count_rows" (defScope st_p_count_rows) s.heap.objs.size f cdv))) (hgd : A.guards = some []) :
    RSs (cxOf (L2N.CX P w) P w K mg base N_p_count_rows "count_rows" (defScope st_p_count_rows) f cdv A outer s H E) T (wE E) (defBody st_p_count_rows) M_p_count_rows := by
  have g : Cg (cxOf (L2N.CX P w) P w K mg base N_p_count_rows "count_rows" (defScope st_p_count_rows) f cdv A outer s H E) k := ⟨rfl, sc_p_count_rows.nd, hr, hgd⟩
  have tk : L2N.Takes (cxOf (L2N.CX P w) P w K mg base N_p_count_rows "count_rows" (defScope st_p_count_rows) f cdv A outer s H E) (wE E) := L2N.takes_of rfl rfl rfl rfl
  have hp := passes_of (X := cxOf (L2N.CX P w) P w K mg base N_p_count_rows "count_rows" (defScope st_p_count_rows) f cdv A outer s H E) rfl
  exact (ss_cons (sset g 1 re_int)
  (ss_cons (s_for hp g.hc (ri_seq (xv 0)) (gn g 2) (ss_one (sset g 1 (re_op m_mul2 (xv 1) (xlen bl (ra_cons (xv 2) ra_nil))))))
  (ss_one (s_ret (xv 1)))))
theorem c_p_count_rows (bl : Blt mg) {f : Addr} (F : ∃ fd, FunD K "count_rows" "count_rows" (defArgs st_p_count_rows) (defBody st_p_count_rows) (defScope st_p_count_rows) [] [] f fd) (hm : mg "count_rows" = some (.ref f)) : CalM P w K mg base T (k + 1) "count_rows" ["ways"] F_p_count_rows :=
  CalM.of F hm (fun _ _ _ _ _ _ us hl => match us, hl with | [_], _ => rfl) sc_p_count_rows fun cdv A outer s H E hr hg => d_p_count_rows  bl hr hg

abbrev N_p_check_crowd : List Str := ["costs", "ways", "row", "cost", "way"]
abbrev st_p_check_crowd : Stmt := top 13
abbrev B1_p_check_crowd : SM := (sIf (mT (mOr (mOp neM (mCB lenM (mCons (mVar 2) mNil)) (mCB lenM (mCons (mVar 1) mNil))) (mNot (mCB allM (mCons (mComp (List.map (·.2) ([("cost", 3)] : List (Str × Nat))) (mItm (mVar 2)) (gN 3) mYes (mChain leM leM (mRet (.int 0)) (mVar 3) (mRet (.int 99)))) mNil))))) (sRaise "NotAllowed") sPass)
abbrev B2_p_check_crowd : SM := (sIf (mT (mOr (mNot (mChain leM leM (mRet (.int 1)) (mCB lenM (mCons (mVar 2) mNil)) (mRet (.int 6)))) (mNot (mCB allM (mCons (mComp (List.map (·.2) ([("way", 4)] : List (Str × Nat))) (mItm (mVar 2)) (gN 4) mYes (mCall 2 F_p_is_way (mCons (mCB lenM (mCons (mVar 0) mNil)) (mCons (mVar 4) mNil)))) mNil))))) (sRaise "NotAllowed") sPass)
def M_p_check_crowd : SM := (sSeq (sIf (mT (mOr (mNot (mChain leM leM (mRet (.int 1)) (mCB lenM (mCons (mVar 0) mNil)) (mRet (.int 6)))) (mNot (mChain leM leM (mRet (.int 1)) (mCB lenM (mCons (mVar 1) mNil)) (mRet (.int 4)))))) (sRaise "NotAllowed") sPass)
  (sSeq (sFor (mItm (mVar 0)) (gN 2) B1_p_check_crowd)
  (sSeq (sFor (mItm (mVar 1)) (gN 2) B2_p_check_crowd)
  (sIf (mT (mOp gtM (mCall 1 F_p_count_rows (mCons (mVar 1) mNil)) (mRet (.int 700)))) (sRaise "TooLarge") sPass))))
def F_p_check_crowd : FM := runC N_p_check_crowd M_p_check_crowd
theorem sc_p_check_crowd : FnScope N_p_check_crowd ["costs", "ways"] (defScope st_p_check_crowd) := C8.fnScope_by (by decide +kernel)
theorem d_p_check_crowd (h_MAX_COST : ∃ t, mg "MAX_COST" = some (.int 99 t)) (h_MAX_ROWS : ∃ t, mg "MAX_ROWS" = some (.int 700 t)) (h_MAX_THINGS : ∃ t, mg "MAX_THINGS" = some (.int 6 t)) (h_MAX_USERS : ∃ t, mg "MAX_USERS" = some (.int 4 t)) (h_MAX_WAYS : ∃ t, mg "MAX_WAYS" = some (.int 6 t)) {C_NotAllowed : Addr} (x_NotAllowed : ExcG K mg "NotAllowed" C_NotAllowed) {C_TooLarge : Addr} (x_TooLarge : ExcG K mg "TooLarge" C_TooLarge) (h_p_count_rows : CalM P w K mg base T k "count_rows" ["ways"] F_p_count_rows) (h_p_is_way : CalM P w K mg base T k "is_way" ["many", "way"] F_p_is_way) (bl : Blt mg) {f : Addr} {cdv : Value} {A : Around} {outer : List PySem.Env} {s : Shared} {H : Hp} {E : XK} (hr : Room k (A.deeper (envOfC "check_crowd" (defScope st_p_check_crowd) s.heap.objs.size f cdv))) (hgd : A.guards = some []) :
    RSs (cxOf (L2N.CX P w) P w K mg base N_p_check_crowd "check_crowd" (defScope st_p_check_crowd) f cdv A outer s H E) T (wE E) (defBody st_p_check_crowd) M_p_check_crowd := by
  have g : Cg (cxOf (L2N.CX P w) P w K mg base N_p_check_crowd "check_crowd" (defScope st_p_check_crowd) f cdv A outer s H E) k := ⟨rfl, sc_p_check_crowd.nd, hr, hgd⟩
  have tk : L2N.Takes (cxOf (L2N.CX P w) P w K mg base N_p_check_crowd "check_crowd" (defScope st_p_check_crowd) f cdv A outer s H E) (wE E) := L2N.takes_of rfl rfl rfl rfl
  have hp := passes_of (X := cxOf (L2N.CX P w) P w K mg base N_p_check_crowd "check_crowd" (defScope st_p_check_crowd) f cdv A outer s H E) rfl
  exact (ss_cons (s_if (rt_bop (rw_or (rt_not (rt_chain m_le m_le re_int (xlen bl (ra_cons (xv 0) ra_nil)) (xgi h_MAX_THINGS))) (rw_or1 (rt_not (rt_chain m_le m_le re_int (xlen bl (ra_cons (xv 1) ra_nil)) (xgi h_MAX_USERS)))))) (ss_one (xraise g tk x_NotAllowed)) ss_nil)
  (ss_cons (s_for hp g.hc (ri_seq (xv 0)) (gn g 2) (ss_one (s_if (rt_bop (rw_or (tcmp (m_ne g.u64) (xlen bl (ra_cons (xv 2) ra_nil)) (xlen bl (ra_cons (xv 1) ra_nil))) (rw_or1 (rt_not (rt_val (xall g bl (ra_cons (xcomp g ([("cost", 3)] : List (Str × Nat)) (ri_seq (xv 2)) (fun _ _ _ _ _ => (gn g.b 3)) (fun _ _ _ _ _ => rts_nil) (fun _ _ _ _ _ => (re_chain m_le m_le re_int (xv 3) (xgi h_MAX_COST)))) ra_nil))))))) (ss_one (xraise g tk x_NotAllowed)) ss_nil)))
  (ss_cons (s_for hp g.hc (ri_seq (xv 1)) (gn g 2) (ss_one (s_if (rt_bop (rw_or (rt_not (rt_chain m_le m_le re_int (xlen bl (ra_cons (xv 2) ra_nil)) (xgi h_MAX_WAYS))) (rw_or1 (rt_not (rt_val (xall g bl (ra_cons (xcomp g ([("way", 4)] : List (Str × Nat)) (ri_seq (xv 2)) (fun _ _ _ _ _ => (gn g.b 4)) (fun _ _ _ _ _ => rts_nil) (fun _ _ _ _ _ => (xcall g.b tk0 h_p_is_way (ra_cons (xlen bl (ra_cons (xv 0) ra_nil)) (ra_cons (xv 4) ra_nil))))) ra_nil))))))) (ss_one (xraise g tk x_NotAllowed)) ss_nil)))
  (ss_one (s_if (tcmp m_gt (xcall g tk h_p_count_rows (ra_cons (xv 1) ra_nil)) (xgi h_MAX_ROWS)) (ss_one (xraise g tk x_TooLarge)) ss_nil)))))
theorem c_p_check_crowd (h_MAX_COST : ∃ t, mg "MAX_COST" = some (.int 99 t)) (h_MAX_ROWS : ∃ t, mg "MAX_ROWS" = some (.int 700 t)) (h_MAX_THINGS : ∃ t, mg "MAX_THINGS" = some (.int 6 t)) (h_MAX_USERS : ∃ t, mg "MAX_USERS" = some (.int 4 t)) (h_MAX_WAYS : ∃ t, mg "MAX_WAYS" = some (.int 6 t)) {C_NotAllowed : Addr} (x_NotAllowed : ExcG K mg "NotAllowed" C_NotAllowed) {C_TooLarge : Addr} (x_TooLarge : ExcG K mg "TooLarge" C_TooLarge) (h_p_count_rows : CalM P w K mg base T k "count_rows" ["ways"] F_p_count_rows) (h_p_is_way : CalM P w K mg base T k "is_way" ["many", "way"] F_p_is_way) (bl : Blt mg) {f : Addr} (F : ∃ fd, FunD K "check_crowd" "check_crowd" (defArgs st_p_check_crowd) (defBody st_p_check_crowd) (defScope st_p_check_crowd) [] [] f fd) (hm : mg "check_crowd" = some (.ref f)) : CalM P w K mg base T (k + 1) "check_crowd" ["costs", "ways"] F_p_check_crowd :=
  CalM.of F hm (fun _ _ _ _ _ _ us hl => match us, hl with | [_, _], _ => rfl) sc_p_check_crowd fun cdv A outer s H E hr hg => d_p_check_crowd h_MAX_COST h_MAX_ROWS h_MAX_THINGS h_MAX_USERS h_MAX_WAYS x_NotAllowed x_TooLarge h_p_count_rows h_p_is_way bl hr hg

abbrev N_p_rows_of : List Str := ["ways", "found", "row", "choices", "choice"]
abbrev st_p_rows_of : Stmt := top 16
abbrev B1_p_rows_of : SM := (sAsg (mComp2 (List.map (·.2) ([("choices", 3), ("choice", 4)] : List (Str × Nat))) [4] (mItm (mVar 1)) (gN 3) mYes (mRng rng1 (mCons (mCB lenM (mCons (mVar 2) mNil)) mNil)) (gN 4) mYes (mTup (mStar (mVar 3) (mCons (mVar 4) mNil)))) (gN 1))
def M_p_rows_of : SM := (sSeq (sAsg (mLst (mCons (mTup mNil) mNil)) (gN 1))
  (sSeq (sFor (mItm (mVar 0)) (gN 2) B1_p_rows_of)
  (sRet (mVar 1))))
def F_p_rows_of : FM := runC N_p_rows_of M_p_rows_of
theorem sc_p_rows_of : FnScope N_p_rows_of ["ways"] (defScope st_p_rows_of) := C8.fnScope_by (by decide +kernel)
theorem d_p_rows_of (bl : Blt mg) {f : Addr} {cdv : Value} {A : Around} {outer : List PySem.Env} {s : Shared} {H : Hp} {E : XK} (hr : Room k (A.deeper (envOfC "rows_of" (defScope st_p_rows_of) s.heap.objs.size f cdv))) (hgd : A.guards = some []) :
    RSs (cxOf (L2N.CX P w) P w K mg base N_p_rows_of "rows_of" (defScope st_p_rows_of) f cdv A outer s H E) T (wE E) (defBody st_p_rows_of) M_p_rows_of := by
  have g : Cg (cxOf (L2N.CX P w) P w K mg base N_p_rows_of "rows_of" (defScope st_p_rows_of) f cdv A outer s H E) k := ⟨rfl, sc_p_rows_of.nd, hr, hgd⟩
  have tk : L2N.Takes (cxOf (L2N.CX P w) P w K mg base N_p_rows_of "rows_of" (defScope st_p_rows_of) f cdv A outer s H E) (wE E) := L2N.takes_of rfl rfl rfl rfl
  have hp := passes_of (X := cxOf (L2N.CX P w) P w K mg base N_p_rows_of "rows_of" (defScope st_p_rows_of) f cdv A outer s H E) rfl
  exact (ss_cons (sset g 1 (re_lst (ra_cons (re_tup ra_nil) ra_nil)))
  (ss_cons (s_for hp g.hc (ri_seq (xv 0)) (gn g 2) (ss_one (scomp2 g 1 ([("choices", 3), ("choice", 4)] : List (Str × Nat)) [4] (ri_seq (xv 1)) (fun _ _ _ _ _ => (gn g.b 3)) (fun _ _ _ _ _ => rts_nil) (fun _ _ _ _ _ => (irng1 bl (ra_cons (xlen bl (ra_cons (xv 2) ra_nil)) ra_nil))) (fun _ _ _ _ _ => (gn g.b 4)) (fun _ _ _ _ _ => rts_nil) (fun _ _ _ _ _ => (re_tup (ra_star (xv 3) (ra_cons (xv 4) ra_nil)))))))
  (ss_one (s_ret (xv 1)))))
theorem c_p_rows_of (bl : Blt mg) {f : Addr} (F : ∃ fd, FunD K "rows_of" "rows_of" (defArgs st_p_rows_of) (defBody st_p_rows_of) (defScope st_p_rows_of) [] [] f fd) (hm : mg "rows_of" = some (.ref f)) : CalM P w K mg base T (k + 1) "rows_of" ["ways"] F_p_rows_of :=
  CalM.of F hm (fun _ _ _ _ _ _ us hl => match us, hl with | [_], _ => rfl) sc_p_rows_of fun cdv A outer s H E hr hg => d_p_rows_of  bl hr hg

abbrev N_p_check_row : List Str := ["costs", "ways", "row", "choice", "own"]
abbrev st_p_check_row : Stmt := top 17
def M_p_check_row : SM := (sSeq (sDrop (mCall 2 F_p_check_crowd (mCons (mVar 0) (mCons (mVar 1) mNil))))
  (sIf (mT (mOr (mOp neM (mCB lenM (mCons (mVar 2) mNil)) (mCB lenM (mCons (mVar 1) mNil))) (mNot (mCB allM (mCons (mComp (List.map (·.2) ([("choice", 3), ("own", 4)] : List (Str × Nat))) (mZip (mCons (mVar 2) (mCons (mVar 1) mNil))) (gT ((gN 3) :: ((gN 4) :: []))) mYes (mChain leM ltM (mRet (.int 0)) (mVar 3) (mCB lenM (mCons (mVar 4) mNil)))) mNil))))) (sRaise "NotAllowed") sPass))
def F_p_check_row : FM := runC N_p_check_row M_p_check_row
theorem sc_p_check_row : FnScope N_p_check_row ["costs", "ways", "row"] (defScope st_p_check_row) := C8.fnScope_by (by decide +kernel)
theorem d_p_check_row {C_NotAllowed : Addr} (x_NotAllowed : ExcG K mg "NotAllowed" C_NotAllowed) (h_p_check_crowd : CalM P w K mg base T k "check_crowd" ["costs", "ways"] F_p_check_crowd) (bl : Blt mg) {f : Addr} {cdv : Value} {A : Around} {outer : List PySem.Env} {s : Shared} {H : Hp} {E : XK} (hr : Room k (A.deeper (envOfC "check_row" (defScope st_p_check_row) s.heap.objs.size f cdv))) (hgd : A.guards = some []) :
    RSs (cxOf (L2N.CX P w) P w K mg base N_p_check_row "check_row" (defScope st_p_check_row) f cdv A outer s H E) T (wE E) (defBody st_p_check_row) M_p_check_row := by
  have g : Cg (cxOf (L2N.CX P w) P w K mg base N_p_check_row "check_row" (defScope st_p_check_row) f cdv A outer s H E) k := ⟨rfl, sc_p_check_row.nd, hr, hgd⟩
  have tk : L2N.Takes (cxOf (L2N.CX P w) P w K mg base N_p_check_row "check_row" (defScope st_p_check_row) f cdv A outer s H E) (wE E) := L2N.takes_of rfl rfl rfl rfl
  have hp := passes_of (X := cxOf (L2N.CX P w) P w K mg base N_p_check_row "check_row" (defScope st_p_check_row) f cdv A outer s H E) rfl
  exact (ss_cons (s_expr (xcall g tk h_p_check_crowd (ra_cons (xv 0) (ra_cons (xv 1) ra_nil))))
  (ss_one (s_if (rt_bop (rw_or (tcmp (m_ne g.u64) (xlen bl (ra_cons (xv 2) ra_nil)) (xlen bl (ra_cons (xv 1) ra_nil))) (rw_or1 (rt_not (rt_val (xall g bl (ra_cons (xcomp g ([("choice", 3), ("own", 4)] : List (Str × Nat)) (izip bl (ra_cons (xv 2) (ra_cons (xv 1) ra_nil))) (fun _ _ _ _ _ => (gt g.b (gs_cons (gn g.b 3) (gs_cons (gn g.b 4) gs_nil)))) (fun _ _ _ _ _ => rts_nil) (fun _ _ _ _ _ => (re_chain m_le m_lt re_int (xv 3) (xlen bl (ra_cons (xv 4) ra_nil))))) ra_nil))))))) (ss_one (xraise g tk x_NotAllowed)) ss_nil)))
theorem c_p_check_row {C_NotAllowed : Addr} (x_NotAllowed : ExcG K mg "NotAllowed" C_NotAllowed) (h_p_check_crowd : CalM P w K mg base T k "check_crowd" ["costs", "ways"] F_p_check_crowd) (bl : Blt mg) {f : Addr} (F : ∃ fd, FunD K "check_row" "check_row" (defArgs st_p_check_row) (defBody st_p_check_row) (defScope st_p_check_row) [] [] f fd) (hm : mg "check_row" = some (.ref f)) : CalM P w K mg base T (k + 1) "check_row" ["costs", "ways", "row"] F_p_check_row :=
  CalM.of F hm (fun _ _ _ _ _ _ us hl => match us, hl with | [_, _, _], _ => rfl) sc_p_check_row fun cdv A outer s H E hr hg => d_p_check_row x_NotAllowed h_p_check_crowd bl hr hg

abbrev N_p_known_loads : List Str := ["costs", "ways", "row", "found", "choice", "own", "thing"]
abbrev st_p_known_loads : Stmt := top 18
abbrev B1_p_known_loads : SM := (sAsg (mOp addM (mOp ixM (mVar 3) (mVar 6)) (mRet (.int 1))) (gIx (mVar 3) (mVar 6)))
abbrev B2_p_known_loads : SM := (sFor (mItm (mOp ixM (mVar 5) (mVar 4))) (gN 6) B1_p_known_loads)
def M_p_known_loads : SM := (sSeq (sAsg (mMulC (mLst (mCons (mRet (.int 0)) mNil)) (mCB lenM (mCons (mVar 0) mNil))) (gN 3))
  (sSeq (sFor (mZip (mCons (mVar 2) (mCons (mVar 1) mNil))) (gT ((gN 4) :: ((gN 5) :: []))) B2_p_known_loads)
  (sRet (mVar 3))))
def F_p_known_loads : FM := runC N_p_known_loads M_p_known_loads
theorem sc_p_known_loads : FnScope N_p_known_loads ["costs", "ways", "row"] (defScope st_p_known_loads) := C8.fnScope_by (by decide +kernel)
theorem d_p_known_loads (bl : Blt mg) {f : Addr} {cdv : Value} {A : Around} {outer : List PySem.Env} {s : Shared} {H : Hp} {E : XK} (hr : Room k (A.deeper (envOfC "known_loads" (defScope st_p_known_loads) s.heap.objs.size f cdv))) (hgd : A.guards = some []) :
    RSs (cxOf (L2N.CX P w) P w K mg base N_p_known_loads "known_loads" (defScope st_p_known_loads) f cdv A outer s H E) T (wE E) (defBody st_p_known_loads) M_p_known_loads := by
  have g : Cg (cxOf (L2N.CX P w) P w K mg base N_p_known_loads "known_loads" (defScope st_p_known_loads) f cdv A outer s H E) k := ⟨rfl, sc_p_known_loads.nd, hr, hgd⟩
  have tk : L2N.Takes (cxOf (L2N.CX P w) P w K mg base N_p_known_loads "known_loads" (defScope st_p_known_loads) f cdv A outer s H E) (wE E) := L2N.takes_of rfl rfl rfl rfl
  have hp := passes_of (X := cxOf (L2N.CX P w) P w K mg base N_p_known_loads "known_loads" (defScope st_p_known_loads) f cdv A outer s H E) rfl
  exact (ss_cons (sset g 3 (re_mulC (re_lst (ra_cons re_int ra_nil)) (xlen bl (ra_cons (xv 0) ra_nil))))
  (ss_cons (s_for hp g.hc (izip bl (ra_cons (xv 2) (ra_cons (xv 1) ra_nil))) (gt g (gs_cons (gn g 4) (gs_cons (gn g 5) gs_nil))) (ss_one (s_for hp g.hc (ri_seq (xix (xv 5) (xv 4))) (gn g 6) (ss_one (s_asg (re_op m_add (xix (xv 3) (xv 6)) re_int) (g_ix (xv 3) (xv 6)))))))
  (ss_one (s_ret (xv 3)))))
theorem c_p_known_loads (bl : Blt mg) {f : Addr} (F : ∃ fd, FunD K "known_loads" "known_loads" (defArgs st_p_known_loads) (defBody st_p_known_loads) (defScope st_p_known_loads) [] [] f fd) (hm : mg "known_loads" = some (.ref f)) : CalM P w K mg base T (k + 1) "known_loads" ["costs", "ways", "row"] F_p_known_loads :=
  CalM.of F hm (fun _ _ _ _ _ _ us hl => match us, hl with | [_, _, _], _ => rfl) sc_p_known_loads fun cdv A outer s H E hr hg => d_p_known_loads  bl hr hg

abbrev N_p_loads : List Str := ["costs", "ways", "row"]
abbrev st_p_loads : Stmt := top 19
def M_p_loads : SM := (sSeq (sDrop (mCall 3 F_p_check_row (mCons (mVar 0) (mCons (mVar 1) (mCons (mVar 2) mNil)))))
  (sRet (mCB tupleM (mCons (mCall 3 F_p_known_loads (mCons (mVar 0) (mCons (mVar 1) (mCons (mVar 2) mNil)))) mNil))))
def F_p_loads : FM := runC N_p_loads M_p_loads
theorem sc_p_loads : FnScope N_p_loads ["costs", "ways", "row"] (defScope st_p_loads) := C8.fnScope_by (by decide +kernel)
theorem d_p_loads (h_p_check_row : CalM P w K mg base T k "check_row" ["costs", "ways", "row"] F_p_check_row) (h_p_known_loads : CalM P w K mg base T k "known_loads" ["costs", "ways", "row"] F_p_known_loads) (bl : Blt mg) {f : Addr} {cdv : Value} {A : Around} {outer : List PySem.Env} {s : Shared} {H : Hp} {E : XK} (hr : Room k (A.deeper (envOfC "loads" (defScope st_p_loads) s.heap.objs.size f cdv))) (hgd : A.guards = some []) :
    RSs (cxOf (L2N.CX P w) P w K mg base N_p_loads "loads" (defScope st_p_loads) f cdv A outer s H E) T (wE E) (defBody st_p_loads) M_p_loads := by
  have g : Cg (cxOf (L2N.CX P w) P w K mg base N_p_loads "loads" (defScope st_p_loads) f cdv A outer s H E) k := ⟨rfl, sc_p_loads.nd, hr, hgd⟩
  have tk : L2N.Takes (cxOf (L2N.CX P w) P w K mg base N_p_loads "loads" (defScope st_p_loads) f cdv A outer s H E) (wE E) := L2N.takes_of rfl rfl rfl rfl
  have hp := passes_of (X := cxOf (L2N.CX P w) P w K mg base N_p_loads "loads" (defScope st_p_loads) f cdv A outer s H E) rfl
  exact (ss_cons (s_expr (xcall g tk h_p_check_row (ra_cons (xv 0) (ra_cons (xv 1) (ra_cons (xv 2) ra_nil)))))
  (ss_one (s_ret (xtuple bl (ra_cons (xcall g tk h_p_known_loads (ra_cons (xv 0) (ra_cons (xv 1) (ra_cons (xv 2) ra_nil)))) ra_nil)))))
theorem c_p_loads (h_p_check_row : CalM P w K mg base T k "check_row" ["costs", "ways", "row"] F_p_check_row) (h_p_known_loads : CalM P w K mg base T k "known_loads" ["costs", "ways", "row"] F_p_known_loads) (bl : Blt mg) {f : Addr} (F : ∃ fd, FunD K "loads" "loads" (defArgs st_p_loads) (defBody st_p_loads) (defScope st_p_loads) [] [] f fd) (hm : mg "loads" = some (.ref f)) : CalM P w K mg base T (k + 1) "loads" ["costs", "ways", "row"] F_p_loads :=
  CalM.of F hm (fun _ _ _ _ _ _ us hl => match us, hl with | [_, _, _], _ => rfl) sc_p_loads fun cdv A outer s H E hr hg => d_p_loads h_p_check_row h_p_known_loads bl hr hg

abbrev N_p_known_pays : List Str := ["costs", "ways", "row", "told", "choice", "own", "thing"]
abbrev st_p_known_pays : Stmt := top 20
def M_p_known_pays : SM := (sSeq (sAsg (mCall 3 F_p_known_loads (mCons (mVar 0) (mCons (mVar 1) (mCons (mVar 2) mNil)))) (gN 3))
  (sRet (mComp (List.map (·.2) ([("choice", 4), ("own", 5)] : List (Str × Nat))) (mZip (mCons (mVar 2) (mCons (mVar 1) mNil))) (gT ((gN 4) :: ((gN 5) :: []))) mYes (mCB sumSM (mCons (mComp (List.map (·.2) ([("thing", 6)] : List (Str × Nat))) (mItm (mOp ixM (mVar 5) (mVar 4))) (gN 6) mYes (mOp ixM (mOp ixM (mVar 0) (mVar 6)) (mOp subM (mOp ixM (mVar 3) (mVar 6)) (mRet (.int 1))))) mNil)))))
def F_p_known_pays : FM := runC N_p_known_pays M_p_known_pays
theorem sc_p_known_pays : FnScope N_p_known_pays ["costs", "ways", "row"] (defScope st_p_known_pays) := C8.fnScope_by (by decide +kernel)
theorem d_p_known_pays (h_p_known_loads : CalM P w K mg base T k "known_loads" ["costs", "ways", "row"] F_p_known_loads) (bl : Blt mg) {f : Addr} {cdv : Value} {A : Around} {outer : List PySem.Env} {s : Shared} {H : Hp} {E : XK} (hr : Room k (A.deeper (envOfC "known_pays" (defScope st_p_known_pays) s.heap.objs.size f cdv))) (hgd : A.guards = some []) :
    RSs (cxOf (L2N.CX P w) P w K mg base N_p_known_pays "known_pays" (defScope st_p_known_pays) f cdv A outer s H E) T (wE E) (defBody st_p_known_pays) M_p_known_pays := by
  have g : Cg (cxOf (L2N.CX P w) P w K mg base N_p_known_pays "known_pays" (defScope st_p_known_pays) f cdv A outer s H E) k := ⟨rfl, sc_p_known_pays.nd, hr, hgd⟩
  have tk : L2N.Takes (cxOf (L2N.CX P w) P w K mg base N_p_known_pays "known_pays" (defScope st_p_known_pays) f cdv A outer s H E) (wE E) := L2N.takes_of rfl rfl rfl rfl
  have hp := passes_of (X := cxOf (L2N.CX P w) P w K mg base N_p_known_pays "known_pays" (defScope st_p_known_pays) f cdv A outer s H E) rfl
  exact (ss_cons (sset g 3 (xcall g tk h_p_known_loads (ra_cons (xv 0) (ra_cons (xv 1) (ra_cons (xv 2) ra_nil)))))
  (ss_one (s_ret (xcomp g ([("choice", 4), ("own", 5)] : List (Str × Nat)) (izip bl (ra_cons (xv 2) (ra_cons (xv 1) ra_nil))) (fun _ _ _ _ _ => (gt g.b (gs_cons (gn g.b 4) (gs_cons (gn g.b 5) gs_nil)))) (fun _ _ _ _ _ => rts_nil) (fun _ _ _ _ _ => (xsumS g.b bl (ra_cons (xcomp g.b ([("thing", 6)] : List (Str × Nat)) (ri_seq (xix (xv 5) (xv 4))) (fun _ _ _ _ _ => (gn g.b.b 6)) (fun _ _ _ _ _ => rts_nil) (fun _ _ _ _ _ => (xix (xix (xv 0) (xv 6)) (re_op m_sub (xix (xv 3) (xv 6)) re_int)))) ra_nil)))))))
theorem c_p_known_pays (h_p_known_loads : CalM P w K mg base T k "known_loads" ["costs", "ways", "row"] F_p_known_loads) (bl : Blt mg) {f : Addr} (F : ∃ fd, FunD K "known_pays" "known_pays" (defArgs st_p_known_pays) (defBody st_p_known_pays) (defScope st_p_known_pays) [] [] f fd) (hm : mg "known_pays" = some (.ref f)) : CalM P w K mg base T (k + 1) "known_pays" ["costs", "ways", "row"] F_p_known_pays :=
  CalM.of F hm (fun _ _ _ _ _ _ us hl => match us, hl with | [_, _, _], _ => rfl) sc_p_known_pays fun cdv A outer s H E hr hg => d_p_known_pays h_p_known_loads bl hr hg

abbrev N_p_pays : List Str := ["costs", "ways", "row"]
abbrev st_p_pays : Stmt := top 21
def M_p_pays : SM := (sSeq (sDrop (mCall 3 F_p_check_row (mCons (mVar 0) (mCons (mVar 1) (mCons (mVar 2) mNil)))))
  (sRet (mCB tupleM (mCons (mCall 3 F_p_known_pays (mCons (mVar 0) (mCons (mVar 1) (mCons (mVar 2) mNil)))) mNil))))
def F_p_pays : FM := runC N_p_pays M_p_pays
theorem sc_p_pays : FnScope N_p_pays ["costs", "ways", "row"] (defScope st_p_pays) := C8.fnScope_by (by decide +kernel)
theorem d_p_pays (h_p_check_row : CalM P w K mg base T k "check_row" ["costs", "ways", "row"] F_p_check_row) (h_p_known_pays : CalM P w K mg base T k "known_pays" ["costs", "ways", "row"] F_p_known_pays) (bl : Blt mg) {f : Addr} {cdv : Value} {A : Around} {outer : List PySem.Env} {s : Shared} {H : Hp} {E : XK} (hr : Room k (A.deeper (envOfC "pays" (defScope st_p_pays) s.heap.objs.size f cdv))) (hgd : A.guards = some []) :
    RSs (cxOf (L2N.CX P w) P w K mg base N_p_pays "pays" (defScope st_p_pays) f cdv A outer s H E) T (wE E) (defBody st_p_pays) M_p_pays := by
  have g : Cg (cxOf (L2N.CX P w) P w K mg base N_p_pays "pays" (defScope st_p_pays) f cdv A outer s H E) k := ⟨rfl, sc_p_pays.nd, hr, hgd⟩
  have tk : L2N.Takes (cxOf (L2N.CX P w) P w K mg base N_p_pays "pays" (defScope st_p_pays) f cdv A outer s H E) (wE E) := L2N.takes_of rfl rfl rfl rfl
  have hp := passes_of (X := cxOf (L2N.CX P w) P w K mg base N_p_pays "pays" (defScope st_p_pays) f cdv A outer s H E) rfl
  exact (ss_cons (s_expr (xcall g tk h_p_check_row (ra_cons (xv 0) (ra_cons (xv 1) (ra_cons (xv 2) ra_nil)))))
  (ss_one (s_ret (xtuple bl (ra_cons (xcall g tk h_p_known_pays (ra_cons (xv 0) (ra_cons (xv 1) (ra_cons (xv 2) ra_nil)))) ra_nil)))))
theorem c_p_pays (h_p_check_row : CalM P w K mg base T k "check_row" ["costs", "ways", "row"] F_p_check_row) (h_p_known_pays : CalM P w K mg base T k "known_pays" ["costs", "ways", "row"] F_p_known_pays) (bl : Blt mg) {f : Addr} (F : ∃ fd, FunD K "pays" "pays" (defArgs st_p_pays) (defBody st_p_pays) (defScope st_p_pays) [] [] f fd) (hm : mg "pays" = some (.ref f)) : CalM P w K mg base T (k + 1) "pays" ["costs", "ways", "row"] F_p_pays :=
  CalM.of F hm (fun _ _ _ _ _ _ us hl => match us, hl with | [_, _, _], _ => rfl) sc_p_pays fun cdv A outer s H E hr hg => d_p_pays h_p_check_row h_p_known_pays bl hr hg

abbrev N_p_known_height : List Str := ["costs", "ways", "row", "told", "thing", "many"]
abbrev st_p_known_height : Stmt := top 23
def M_p_known_height : SM := (sSeq (sAsg (mCall 3 F_p_known_loads (mCons (mVar 0) (mCons (mVar 1) (mCons (mVar 2) mNil)))) (gN 3))
  (sRet (mCB sumSM (mCons (mComp (List.map (·.2) ([("thing", 4), ("many", 5)] : List (Str × Nat))) (mEnum (mCons (mVar 3) mNil)) (gT ((gN 4) :: ((gN 5) :: []))) mYes (mCB sumSM (mCons (mSlice (mOp ixM (mVar 0) (mVar 4)) mNoPart (mPart (mVar 5))) mNil))) mNil))))
def F_p_known_height : FM := runC N_p_known_height M_p_known_height
theorem sc_p_known_height : FnScope N_p_known_height ["costs", "ways", "row"] (defScope st_p_known_height) := C8.fnScope_by (by decide +kernel)
theorem d_p_known_height (h_p_known_loads : CalM P w K mg base T k "known_loads" ["costs", "ways", "row"] F_p_known_loads) (bl : Blt mg) {f : Addr} {cdv : Value} {A : Around} {outer : List PySem.Env} {s : Shared} {H : Hp} {E : XK} (hr : Room k (A.deeper (envOfC "known_height" (defScope st_p_known_height) s.heap.objs.size f cdv))) (hgd : A.guards = some []) :
    RSs (cxOf (L2N.CX P w) P w K mg base N_p_known_height "known_height" (defScope st_p_known_height) f cdv A outer s H E) T (wE E) (defBody st_p_known_height) M_p_known_height := by
  have g : Cg (cxOf (L2N.CX P w) P w K mg base N_p_known_height "known_height" (defScope st_p_known_height) f cdv A outer s H E) k := ⟨rfl, sc_p_known_height.nd, hr, hgd⟩
  have tk : L2N.Takes (cxOf (L2N.CX P w) P w K mg base N_p_known_height "known_height" (defScope st_p_known_height) f cdv A outer s H E) (wE E) := L2N.takes_of rfl rfl rfl rfl
  have hp := passes_of (X := cxOf (L2N.CX P w) P w K mg base N_p_known_height "known_height" (defScope st_p_known_height) f cdv A outer s H E) rfl
  exact (ss_cons (sset g 3 (xcall g tk h_p_known_loads (ra_cons (xv 0) (ra_cons (xv 1) (ra_cons (xv 2) ra_nil)))))
  (ss_one (s_ret (xsumS g bl (ra_cons (xcomp g ([("thing", 4), ("many", 5)] : List (Str × Nat)) (ienum bl (ra_cons (xv 3) ra_nil)) (fun _ _ _ _ _ => (gt g.b (gs_cons (gn g.b 4) (gs_cons (gn g.b 5) gs_nil)))) (fun _ _ _ _ _ => rts_nil) (fun _ _ _ _ _ => (xsumS g.b bl (ra_cons (re_slice (xix (xv 0) (xv 4)) rp_none (rp_some (xv 5))) ra_nil)))) ra_nil)))))
theorem c_p_known_height (h_p_known_loads : CalM P w K mg base T k "known_loads" ["costs", "ways", "row"] F_p_known_loads) (bl : Blt mg) {f : Addr} (F : ∃ fd, FunD K "known_height" "known_height" (defArgs st_p_known_height) (defBody st_p_known_height) (defScope st_p_known_height) [] [] f fd) (hm : mg "known_height" = some (.ref f)) : CalM P w K mg base T (k + 1) "known_height" ["costs", "ways", "row"] F_p_known_height :=
  CalM.of F hm (fun _ _ _ _ _ _ us hl => match us, hl with | [_, _, _], _ => rfl) sc_p_known_height fun cdv A outer s H E hr hg => d_p_known_height h_p_known_loads bl hr hg

abbrev N_p_height : List Str := ["costs", "ways", "row"]
abbrev st_p_height : Stmt := top 22
def M_p_height : SM := (sSeq (sDrop (mCall 3 F_p_check_row (mCons (mVar 0) (mCons (mVar 1) (mCons (mVar 2) mNil)))))
  (sRet (mCall 3 F_p_known_height (mCons (mVar 0) (mCons (mVar 1) (mCons (mVar 2) mNil))))))
def F_p_height : FM := runC N_p_height M_p_height
theorem sc_p_height : FnScope N_p_height ["costs", "ways", "row"] (defScope st_p_height) := C8.fnScope_by (by decide +kernel)
theorem d_p_height (h_p_check_row : CalM P w K mg base T k "check_row" ["costs", "ways", "row"] F_p_check_row) (h_p_known_height : CalM P w K mg base T k "known_height" ["costs", "ways", "row"] F_p_known_height) (bl : Blt mg) {f : Addr} {cdv : Value} {A : Around} {outer : List PySem.Env} {s : Shared} {H : Hp} {E : XK} (hr : Room k (A.deeper (envOfC "height" (defScope st_p_height) s.heap.objs.size f cdv))) (hgd : A.guards = some []) :
    RSs (cxOf (L2N.CX P w) P w K mg base N_p_height "height" (defScope st_p_height) f cdv A outer s H E) T (wE E) (defBody st_p_height) M_p_height := by
  have g : Cg (cxOf (L2N.CX P w) P w K mg base N_p_height "height" (defScope st_p_height) f cdv A outer s H E) k := ⟨rfl, sc_p_height.nd, hr, hgd⟩
  have tk : L2N.Takes (cxOf (L2N.CX P w) P w K mg base N_p_height "height" (defScope st_p_height) f cdv A outer s H E) (wE E) := L2N.takes_of rfl rfl rfl rfl
  have hp := passes_of (X := cxOf (L2N.CX P w) P w K mg base N_p_height "height" (defScope st_p_height) f cdv A outer s H E) rfl
  exact (ss_cons (s_expr (xcall g tk h_p_check_row (ra_cons (xv 0) (ra_cons (xv 1) (ra_cons (xv 2) ra_nil)))))
  (ss_one (s_ret (xcall g tk h_p_known_height (ra_cons (xv 0) (ra_cons (xv 1) (ra_cons (xv 2) ra_nil)))))))
theorem c_p_height (h_p_check_row : CalM P w K mg base T k "check_row" ["costs", "ways", "row"] F_p_check_row) (h_p_known_height : CalM P w K mg base T k "known_height" ["costs", "ways", "row"] F_p_known_height) (bl : Blt mg) {f : Addr} (F : ∃ fd, FunD K "height" "height" (defArgs st_p_height) (defBody st_p_height) (defScope st_p_height) [] [] f fd) (hm : mg "height" = some (.ref f)) : CalM P w K mg base T (k + 1) "height" ["costs", "ways", "row"] F_p_height :=
  CalM.of F hm (fun _ _ _ _ _ _ us hl => match us, hl with | [_, _, _], _ => rfl) sc_p_height fun cdv A outer s H E hr hg => d_p_height h_p_check_row h_p_known_height bl hr hg

abbrev N_p_cheaper : List Str := ["costs", "ways", "row", "own", "user", "choices", "choice", "changed"]
abbrev st_p_cheaper : Stmt := top 24
abbrev B1_p_cheaper : SM := (sSeq (sAsg (mTup (mStar (mSlice (mVar 2) mNoPart (mPart (mVar 4))) (mCons (mVar 6) (mStar (mSlice (mVar 2) (mPart (mOp addM (mVar 4) (mRet (.int 1)))) mNoPart) mNil)))) (gN 7))
  (sIf (mT (mOp ltM (mOp ixM (mCall 3 F_p_known_pays (mCons (mVar 0) (mCons (mVar 1) (mCons (mVar 7) mNil)))) (mVar 4)) (mOp ixM (mVar 3) (mVar 4)))) (sRet (mTup (mCons (mVar 4) (mCons (mVar 6) mNil)))) sPass))
abbrev B2_p_cheaper : SM := (sFor (mRng rng1 (mCons (mCB lenM (mCons (mVar 5) mNil)) mNil)) (gN 6) B1_p_cheaper)
def M_p_cheaper : SM := (sSeq (sAsg (mCall 3 F_p_known_pays (mCons (mVar 0) (mCons (mVar 1) (mCons (mVar 2) mNil)))) (gN 3))
  (sSeq (sFor (mEnum (mCons (mVar 1) mNil)) (gT ((gN 4) :: ((gN 5) :: []))) B2_p_cheaper)
  (sRet (mRet .non))))
def F_p_cheaper : FM := runC N_p_cheaper M_p_cheaper
theorem sc_p_cheaper : FnScope N_p_cheaper ["costs", "ways", "row"] (defScope st_p_cheaper) := C8.fnScope_by (by decide +kernel)
theorem d_p_cheaper (h_p_known_pays : CalM P w K mg base T k "known_pays" ["costs", "ways", "row"] F_p_known_pays) (bl : Blt mg) {f : Addr} {cdv : Value} {A : Around} {outer : List PySem.Env} {s : Shared} {H : Hp} {E : XK} (hr : Room k (A.deeper (envOfC "cheaper" (defScope st_p_cheaper) s.heap.objs.size f cdv))) (hgd : A.guards = some []) :
    RSs (cxOf (L2N.CX P w) P w K mg base N_p_cheaper "cheaper" (defScope st_p_cheaper) f cdv A outer s H E) T (wE E) (defBody st_p_cheaper) M_p_cheaper := by
  have g : Cg (cxOf (L2N.CX P w) P w K mg base N_p_cheaper "cheaper" (defScope st_p_cheaper) f cdv A outer s H E) k := ⟨rfl, sc_p_cheaper.nd, hr, hgd⟩
  have tk : L2N.Takes (cxOf (L2N.CX P w) P w K mg base N_p_cheaper "cheaper" (defScope st_p_cheaper) f cdv A outer s H E) (wE E) := L2N.takes_of rfl rfl rfl rfl
  have hp := passes_of (X := cxOf (L2N.CX P w) P w K mg base N_p_cheaper "cheaper" (defScope st_p_cheaper) f cdv A outer s H E) rfl
  exact (ss_cons (sset g 3 (xcall g tk h_p_known_pays (ra_cons (xv 0) (ra_cons (xv 1) (ra_cons (xv 2) ra_nil)))))
  (ss_cons (s_for hp g.hc (ienum bl (ra_cons (xv 1) ra_nil)) (gt g (gs_cons (gn g 4) (gs_cons (gn g 5) gs_nil))) (ss_one (s_for hp g.hc (irng1 bl (ra_cons (xlen bl (ra_cons (xv 5) ra_nil)) ra_nil)) (gn g 6) (ss_cons (sset g 7 (re_tup (ra_star (re_slice (xv 2) rp_none (rp_some (xv 4))) (ra_cons (xv 6) (ra_star (re_slice (xv 2) (rp_some (re_op m_add (xv 4) re_int)) rp_none) ra_nil)))))
  (ss_one (s_if (tcmp m_lt (xix (xcall g tk h_p_known_pays (ra_cons (xv 0) (ra_cons (xv 1) (ra_cons (xv 7) ra_nil)))) (xv 4)) (xix (xv 3) (xv 4))) (ss_one (s_ret (re_tup (ra_cons (xv 4) (ra_cons (xv 6) ra_nil))))) ss_nil))))))
  (ss_one (s_ret re_non))))
theorem c_p_cheaper (h_p_known_pays : CalM P w K mg base T k "known_pays" ["costs", "ways", "row"] F_p_known_pays) (bl : Blt mg) {f : Addr} (F : ∃ fd, FunD K "cheaper" "cheaper" (defArgs st_p_cheaper) (defBody st_p_cheaper) (defScope st_p_cheaper) [] [] f fd) (hm : mg "cheaper" = some (.ref f)) : CalM P w K mg base T (k + 1) "cheaper" ["costs", "ways", "row"] F_p_cheaper :=
  CalM.of F hm (fun _ _ _ _ _ _ us hl => match us, hl with | [_, _, _], _ => rfl) sc_p_cheaper fun cdv A outer s H E hr hg => d_p_cheaper h_p_known_pays bl hr hg

abbrev N_p_first_cheaper : List Str := ["costs", "ways", "row"]
abbrev st_p_first_cheaper : Stmt := top 25
def M_p_first_cheaper : SM := (sSeq (sDrop (mCall 3 F_p_check_row (mCons (mVar 0) (mCons (mVar 1) (mCons (mVar 2) mNil)))))
  (sRet (mCall 3 F_p_cheaper (mCons (mVar 0) (mCons (mVar 1) (mCons (mVar 2) mNil))))))
def F_p_first_cheaper : FM := runC N_p_first_cheaper M_p_first_cheaper
theorem sc_p_first_cheaper : FnScope N_p_first_cheaper ["costs", "ways", "row"] (defScope st_p_first_cheaper) := C8.fnScope_by (by decide +kernel)
theorem d_p_first_cheaper (h_p_cheaper : CalM P w K mg base T k "cheaper" ["costs", "ways", "row"] F_p_cheaper) (h_p_check_row : CalM P w K mg base T k "check_row" ["costs", "ways", "row"] F_p_check_row) (bl : Blt mg) {f : Addr} {cdv : Value} {A : Around} {outer : List PySem.Env} {s : Shared} {H : Hp} {E : XK} (hr : Room k (A.deeper (envOfC "first_cheaper" (defScope st_p_first_cheaper) s.heap.objs.size f cdv))) (hgd : A.guards = some []) :
    RSs (cxOf (L2N.CX P w) P w K mg base N_p_first_cheaper "first_cheaper" (defScope st_p_first_cheaper) f cdv A outer s H E) T (wE E) (defBody st_p_first_cheaper) M_p_first_cheaper := by
  have g : Cg (cxOf (L2N.CX P w) P w K mg base N_p_first_cheaper "first_cheaper" (defScope st_p_first_cheaper) f cdv A outer s H E) k := ⟨rfl, sc_p_first_cheaper.nd, hr, hgd⟩
  have tk : L2N.Takes (cxOf (L2N.CX P w) P w K mg base N_p_first_cheaper "first_cheaper" (defScope st_p_first_cheaper) f cdv A outer s H E) (wE E) := L2N.takes_of rfl rfl rfl rfl
  have hp := passes_of (X := cxOf (L2N.CX P w) P w K mg base N_p_first_cheaper "first_cheaper" (defScope st_p_first_cheaper) f cdv A outer s H E) rfl
  exact (ss_cons (s_expr (xcall g tk h_p_check_row (ra_cons (xv 0) (ra_cons (xv 1) (ra_cons (xv 2) ra_nil)))))
  (ss_one (s_ret (xcall g tk h_p_cheaper (ra_cons (xv 0) (ra_cons (xv 1) (ra_cons (xv 2) ra_nil)))))))
theorem c_p_first_cheaper (h_p_cheaper : CalM P w K mg base T k "cheaper" ["costs", "ways", "row"] F_p_cheaper) (h_p_check_row : CalM P w K mg base T k "check_row" ["costs", "ways", "row"] F_p_check_row) (bl : Blt mg) {f : Addr} (F : ∃ fd, FunD K "first_cheaper" "first_cheaper" (defArgs st_p_first_cheaper) (defBody st_p_first_cheaper) (defScope st_p_first_cheaper) [] [] f fd) (hm : mg "first_cheaper" = some (.ref f)) : CalM P w K mg base T (k + 1) "first_cheaper" ["costs", "ways", "row"] F_p_first_cheaper :=
  CalM.of F hm (fun _ _ _ _ _ _ us hl => match us, hl with | [_, _, _], _ => rfl) sc_p_first_cheaper fun cdv A outer s H E hr hg => d_p_first_cheaper h_p_cheaper h_p_check_row bl hr hg

abbrev N_p_is_resting : List Str := ["costs", "ways", "row"]
abbrev st_p_is_resting : Stmt := top 26
def M_p_is_resting : SM := (sSeq (sDrop (mCall 3 F_p_check_row (mCons (mVar 0) (mCons (mVar 1) (mCons (mVar 2) mNil)))))
  (sRet (mOp isM (mCall 3 F_p_cheaper (mCons (mVar 0) (mCons (mVar 1) (mCons (mVar 2) mNil)))) (mRet .non))))
def F_p_is_resting : FM := runC N_p_is_resting M_p_is_resting
theorem sc_p_is_resting : FnScope N_p_is_resting ["costs", "ways", "row"] (defScope st_p_is_resting) := C8.fnScope_by (by decide +kernel)
theorem d_p_is_resting (h_p_cheaper : CalM P w K mg base T k "cheaper" ["costs", "ways", "row"] F_p_cheaper) (h_p_check_row : CalM P w K mg base T k "check_row" ["costs", "ways", "row"] F_p_check_row) (bl : Blt mg) {f : Addr} {cdv : Value} {A : Around} {outer : List PySem.Env} {s : Shared} {H : Hp} {E : XK} (hr : Room k (A.deeper (envOfC "is_resting" (defScope st_p_is_resting) s.heap.objs.size f cdv))) (hgd : A.guards = some []) :
    RSs (cxOf (L2N.CX P w) P w K mg base N_p_is_resting "is_resting" (defScope st_p_is_resting) f cdv A outer s H E) T (wE E) (defBody st_p_is_resting) M_p_is_resting := by
  have g : Cg (cxOf (L2N.CX P w) P w K mg base N_p_is_resting "is_resting" (defScope st_p_is_resting) f cdv A outer s H E) k := ⟨rfl, sc_p_is_resting.nd, hr, hgd⟩
  have tk : L2N.Takes (cxOf (L2N.CX P w) P w K mg base N_p_is_resting "is_resting" (defScope st_p_is_resting) f cdv A outer s H E) (wE E) := L2N.takes_of rfl rfl rfl rfl
  have hp := passes_of (X := cxOf (L2N.CX P w) P w K mg base N_p_is_resting "is_resting" (defScope st_p_is_resting) f cdv A outer s H E) rfl
  exact (ss_cons (s_expr (xcall g tk h_p_check_row (ra_cons (xv 0) (ra_cons (xv 1) (ra_cons (xv 2) ra_nil)))))
  (ss_one (s_ret (xcmp m_is (xcall g tk h_p_cheaper (ra_cons (xv 0) (ra_cons (xv 1) (ra_cons (xv 2) ra_nil)))) re_non))))
theorem c_p_is_resting (h_p_cheaper : CalM P w K mg base T k "cheaper" ["costs", "ways", "row"] F_p_cheaper) (h_p_check_row : CalM P w K mg base T k "check_row" ["costs", "ways", "row"] F_p_check_row) (bl : Blt mg) {f : Addr} (F : ∃ fd, FunD K "is_resting" "is_resting" (defArgs st_p_is_resting) (defBody st_p_is_resting) (defScope st_p_is_resting) [] [] f fd) (hm : mg "is_resting" = some (.ref f)) : CalM P w K mg base T (k + 1) "is_resting" ["costs", "ways", "row"] F_p_is_resting :=
  CalM.of F hm (fun _ _ _ _ _ _ us hl => match us, hl with | [_, _, _], _ => rfl) sc_p_is_resting fun cdv A outer s H E hr hg => d_p_is_resting h_p_cheaper h_p_check_row bl hr hg

abbrev N_p_resting_rows : List Str := ["costs", "ways", "row"]
abbrev st_p_resting_rows : Stmt := top 27
def M_p_resting_rows : SM := (sSeq (sDrop (mCall 2 F_p_check_crowd (mCons (mVar 0) (mCons (mVar 1) mNil))))
  (sRet (mComp (List.map (·.2) ([("row", 2)] : List (Str × Nat))) (mItm (mCall 1 F_p_rows_of (mCons (mVar 1) mNil))) (gN 2) (mT (mOp isM (mCall 3 F_p_cheaper (mCons (mVar 0) (mCons (mVar 1) (mCons (mVar 2) mNil)))) (mRet .non))) (mVar 2))))
def F_p_resting_rows : FM := runC N_p_resting_rows M_p_resting_rows
theorem sc_p_resting_rows : FnScope N_p_resting_rows ["costs", "ways"] (defScope st_p_resting_rows) := C8.fnScope_by (by decide +kernel)
theorem d_p_resting_rows (h_p_cheaper : CalM P w K mg base T k "cheaper" ["costs", "ways", "row"] F_p_cheaper) (h_p_check_crowd : CalM P w K mg base T k "check_crowd" ["costs", "ways"] F_p_check_crowd) (h_p_rows_of : CalM P w K mg base T k "rows_of" ["ways"] F_p_rows_of) (bl : Blt mg) {f : Addr} {cdv : Value} {A : Around} {outer : List PySem.Env} {s : Shared} {H : Hp} {E : XK} (hr : Room k (A.deeper (envOfC "resting_rows" (defScope st_p_resting_rows) s.heap.objs.size f cdv))) (hgd : A.guards = some []) :
    RSs (cxOf (L2N.CX P w) P w K mg base N_p_resting_rows "resting_rows" (defScope st_p_resting_rows) f cdv A outer s H E) T (wE E) (defBody st_p_resting_rows) M_p_resting_rows := by
  have g : Cg (cxOf (L2N.CX P w) P w K mg base N_p_resting_rows "resting_rows" (defScope st_p_resting_rows) f cdv A outer s H E) k := ⟨rfl, sc_p_resting_rows.nd, hr, hgd⟩
  have tk : L2N.Takes (cxOf (L2N.CX P w) P w K mg base N_p_resting_rows "resting_rows" (defScope st_p_resting_rows) f cdv A outer s H E) (wE E) := L2N.takes_of rfl rfl rfl rfl
  have hp := passes_of (X := cxOf (L2N.CX P w) P w K mg base N_p_resting_rows "resting_rows" (defScope st_p_resting_rows) f cdv A outer s H E) rfl
  exact (ss_cons (s_expr (xcall g tk h_p_check_crowd (ra_cons (xv 0) (ra_cons (xv 1) ra_nil))))
  (ss_one (s_ret (xcomp g ([("row", 2)] : List (Str × Nat)) (ri_seq (xcall g tk h_p_rows_of (ra_cons (xv 1) ra_nil))) (fun _ _ _ _ _ => (gn g.b 2)) (fun _ _ _ _ _ => (rts_one (tcmp m_is (xcall g.b tk0 h_p_cheaper (ra_cons (xv 0) (ra_cons (xv 1) (ra_cons (xv 2) ra_nil)))) re_non))) (fun _ _ _ _ _ => (xv 2))))))
theorem c_p_resting_rows (h_p_cheaper : CalM P w K mg base T k "cheaper" ["costs", "ways", "row"] F_p_cheaper) (h_p_check_crowd : CalM P w K mg base T k "check_crowd" ["costs", "ways"] F_p_check_crowd) (h_p_rows_of : CalM P w K mg base T k "rows_of" ["ways"] F_p_rows_of) (bl : Blt mg) {f : Addr} (F : ∃ fd, FunD K "resting_rows" "resting_rows" (defArgs st_p_resting_rows) (defBody st_p_resting_rows) (defScope st_p_resting_rows) [] [] f fd) (hm : mg "resting_rows" = some (.ref f)) : CalM P w K mg base T (k + 1) "resting_rows" ["costs", "ways"] F_p_resting_rows :=
  CalM.of F hm (fun _ _ _ _ _ _ us hl => match us, hl with | [_, _], _ => rfl) sc_p_resting_rows fun cdv A outer s H E hr hg => d_p_resting_rows h_p_cheaper h_p_check_crowd h_p_rows_of bl hr hg

abbrev N_p_way_down : List Str := ["costs", "ways", "row", "found", "step", "user", "choice"]
abbrev st_p_way_down : Stmt := top 28
abbrev B1_p_way_down : SM := (sSeq (sAsg (mVar 4) (gT ((gN 5) :: ((gN 6) :: []))))
  (sSeq (sDrop (mMeth appM (mVar 3) (mCons (mTup (mStar (mSlice (mOp ixM (mVar 3) (mUn negM (mRet (.int 1)))) mNoPart (mPart (mVar 5))) (mCons (mVar 6) (mStar (mSlice (mOp ixM (mVar 3) (mUn negM (mRet (.int 1)))) (mPart (mOp addM (mVar 5) (mRet (.int 1)))) mNoPart) mNil)))) mNil)))
  (sAsg (mCall 3 F_p_cheaper (mCons (mVar 0) (mCons (mVar 1) (mCons (mOp ixM (mVar 3) (mUn negM (mRet (.int 1)))) mNil)))) (gN 4))))
abbrev C2_p_way_down : Ev MV := (mOp isNotM (mVar 4) (mRet .non))
def M_p_way_down : SM := (sSeq (sDrop (mCall 3 F_p_check_row (mCons (mVar 0) (mCons (mVar 1) (mCons (mVar 2) mNil)))))
  (sSeq (sAsg (mLstC (mCons (mVar 2) mNil)) (gN 3))
  (sSeq (sAsg (mCall 3 F_p_cheaper (mCons (mVar 0) (mCons (mVar 1) (mCons (mVar 2) mNil)))) (gN 4))
  (sSeq (sWhile (mT C2_p_way_down) B1_p_way_down)
  (sRet (mVar 3))))))
def F_p_way_down : FM := runC N_p_way_down M_p_way_down
theorem sc_p_way_down : FnScope N_p_way_down ["costs", "ways", "row"] (defScope st_p_way_down) := C8.fnScope_by (by decide +kernel)
theorem d_p_way_down (h_p_cheaper : CalM P w K mg base T k "cheaper" ["costs", "ways", "row"] F_p_cheaper) (h_p_check_row : CalM P w K mg base T k "check_row" ["costs", "ways", "row"] F_p_check_row) (bl : Blt mg) {f : Addr} {cdv : Value} {A : Around} {outer : List PySem.Env} {s : Shared} {H : Hp} {E : XK} (hr : Room k (A.deeper (envOfC "way_down" (defScope st_p_way_down) s.heap.objs.size f cdv))) (hgd : A.guards = some []) :
    RSs (cxOf (L2N.CX P w) P w K mg base N_p_way_down "way_down" (defScope st_p_way_down) f cdv A outer s H E) T (wE E) (defBody st_p_way_down) M_p_way_down := by
  have g : Cg (cxOf (L2N.CX P w) P w K mg base N_p_way_down "way_down" (defScope st_p_way_down) f cdv A outer s H E) k := ⟨rfl, sc_p_way_down.nd, hr, hgd⟩
  have tk : L2N.Takes (cxOf (L2N.CX P w) P w K mg base N_p_way_down "way_down" (defScope st_p_way_down) f cdv A outer s H E) (wE E) := L2N.takes_of rfl rfl rfl rfl
  have hp := passes_of (X := cxOf (L2N.CX P w) P w K mg base N_p_way_down "way_down" (defScope st_p_way_down) f cdv A outer s H E) rfl
  exact (ss_cons (s_expr (xcall g tk h_p_check_row (ra_cons (xv 0) (ra_cons (xv 1) (ra_cons (xv 2) ra_nil)))))
  (ss_cons (sset g 3 (re_lstC (ra_cons (xv 2) ra_nil)))
  (ss_cons (sset g 4 (xcall g tk h_p_cheaper (ra_cons (xv 0) (ra_cons (xv 1) (ra_cons (xv 2) ra_nil)))))
  (ss_cons (s_while hp (tcmp m_isNot (xv 4) re_non) (ss_cons (s_asg (xv 4) (gt g (gs_cons (gn g 5) (gs_cons (gn g 6) gs_nil))))
  (ss_cons (s_expr (re_append (xv 3) (ra_cons (re_tup (ra_star (re_slice (xix (xv 3) (re_un m_neg re_int)) rp_none (rp_some (xv 5))) (ra_cons (xv 6) (ra_star (re_slice (xix (xv 3) (re_un m_neg re_int)) (rp_some (re_op m_add (xv 5) re_int)) rp_none) ra_nil)))) ra_nil)))
  (ss_one (sset g 4 (xcall g tk h_p_cheaper (ra_cons (xv 0) (ra_cons (xv 1) (ra_cons (xix (xv 3) (re_un m_neg re_int)) ra_nil)))))))))
  (ss_one (s_ret (xv 3)))))))
theorem c_p_way_down (h_p_cheaper : CalM P w K mg base T k "cheaper" ["costs", "ways", "row"] F_p_cheaper) (h_p_check_row : CalM P w K mg base T k "check_row" ["costs", "ways", "row"] F_p_check_row) (bl : Blt mg) {f : Addr} (F : ∃ fd, FunD K "way_down" "way_down" (defArgs st_p_way_down) (defBody st_p_way_down) (defScope st_p_way_down) [] [] f fd) (hm : mg "way_down" = some (.ref f)) : CalM P w K mg base T (k + 1) "way_down" ["costs", "ways", "row"] F_p_way_down :=
  CalM.of F hm (fun _ _ _ _ _ _ us hl => match us, hl with | [_, _, _], _ => rfl) sc_p_way_down fun cdv A outer s H E hr hg => d_p_way_down h_p_cheaper h_p_check_row bl hr hg

abbrev N_p_lowest : List Str := ["costs", "ways", "row"]
abbrev st_p_lowest : Stmt := top 29
def M_p_lowest : SM := (sSeq (sDrop (mCall 2 F_p_check_crowd (mCons (mVar 0) (mCons (mVar 1) mNil))))
  (sRet (mOp ixM (mCB minM (mCons (mComp (List.map (·.2) ([("row", 2)] : List (Str × Nat))) (mItm (mCall 1 F_p_rows_of (mCons (mVar 1) mNil))) (gN 2) mYes (mTup (mCons (mCall 3 F_p_known_height (mCons (mVar 0) (mCons (mVar 1) (mCons (mVar 2) mNil)))) (mCons (mVar 2) mNil)))) mNil)) (mRet (.int 1)))))
def F_p_lowest : FM := runC N_p_lowest M_p_lowest
theorem sc_p_lowest : FnScope N_p_lowest ["costs", "ways"] (defScope st_p_lowest) := C8.fnScope_by (by decide +kernel)
theorem d_p_lowest (h_p_check_crowd : CalM P w K mg base T k "check_crowd" ["costs", "ways"] F_p_check_crowd) (h_p_known_height : CalM P w K mg base T k "known_height" ["costs", "ways", "row"] F_p_known_height) (h_p_rows_of : CalM P w K mg base T k "rows_of" ["ways"] F_p_rows_of) (bl : Blt mg) {f : Addr} {cdv : Value} {A : Around} {outer : List PySem.Env} {s : Shared} {H : Hp} {E : XK} (hr : Room k (A.deeper (envOfC "lowest" (defScope st_p_lowest) s.heap.objs.size f cdv))) (hgd : A.guards = some []) :
    RSs (cxOf (L2N.CX P w) P w K mg base N_p_lowest "lowest" (defScope st_p_lowest) f cdv A outer s H E) T (wE E) (defBody st_p_lowest) M_p_lowest := by
  have g : Cg (cxOf (L2N.CX P w) P w K mg base N_p_lowest "lowest" (defScope st_p_lowest) f cdv A outer s H E) k := ⟨rfl, sc_p_lowest.nd, hr, hgd⟩
  have tk : L2N.Takes (cxOf (L2N.CX P w) P w K mg base N_p_lowest "lowest" (defScope st_p_lowest) f cdv A outer s H E) (wE E) := L2N.takes_of rfl rfl rfl rfl
  have hp := passes_of (X := cxOf (L2N.CX P w) P w K mg base N_p_lowest "lowest" (defScope st_p_lowest) f cdv A outer s H E) rfl
  exact (ss_cons (s_expr (xcall g tk h_p_check_crowd (ra_cons (xv 0) (ra_cons (xv 1) ra_nil))))
  (ss_one (s_ret (xix (xmin g bl (ra_cons (xcomp g ([("row", 2)] : List (Str × Nat)) (ri_seq (xcall g tk h_p_rows_of (ra_cons (xv 1) ra_nil))) (fun _ _ _ _ _ => (gn g.b 2)) (fun _ _ _ _ _ => rts_nil) (fun _ _ _ _ _ => (re_tup (ra_cons (xcall g.b tk0 h_p_known_height (ra_cons (xv 0) (ra_cons (xv 1) (ra_cons (xv 2) ra_nil)))) (ra_cons (xv 2) ra_nil))))) ra_nil)) re_int))))
theorem c_p_lowest (h_p_check_crowd : CalM P w K mg base T k "check_crowd" ["costs", "ways"] F_p_check_crowd) (h_p_known_height : CalM P w K mg base T k "known_height" ["costs", "ways", "row"] F_p_known_height) (h_p_rows_of : CalM P w K mg base T k "rows_of" ["ways"] F_p_rows_of) (bl : Blt mg) {f : Addr} (F : ∃ fd, FunD K "lowest" "lowest" (defArgs st_p_lowest) (defBody st_p_lowest) (defScope st_p_lowest) [] [] f fd) (hm : mg "lowest" = some (.ref f)) : CalM P w K mg base T (k + 1) "lowest" ["costs", "ways"] F_p_lowest :=
  CalM.of F hm (fun _ _ _ _ _ _ us hl => match us, hl with | [_, _], _ => rfl) sc_p_lowest fun cdv A outer s H E hr hg => d_p_lowest h_p_check_crowd h_p_known_height h_p_rows_of bl hr hg

abbrev N_p_judge_way : List Str := ["costs", "ways", "rows", "known", "before", "after", "users", "user", "row"]
abbrev st_p_judge_way : Stmt := top 30
abbrev B1_p_judge_way : SM := (sSeq (sAsg (mComp (List.map (·.2) ([("user", 7)] : List (Str × Nat))) (mRng rng1 (mCons (mCB lenM (mCons (mVar 1) mNil)) mNil)) (gN 7) (mT (mOp neM (mOp ixM (mVar 4) (mVar 7)) (mOp ixM (mVar 5) (mVar 7)))) (mVar 7)) (gN 6))
  (sSeq (sIf (mT (mOp neM (mCB lenM (mCons (mVar 6) mNil)) (mRet (.int 1)))) (sRet (mRet (.bl false))) sPass)
  (sSeq (sAsg (mOp ixM (mVar 6) (mRet (.int 0))) (gN 7))
  (sIf (mT (mOp geM (mOp ixM (mCall 3 F_p_known_pays (mCons (mVar 0) (mCons (mVar 1) (mCons (mVar 5) mNil)))) (mVar 7)) (mOp ixM (mCall 3 F_p_known_pays (mCons (mVar 0) (mCons (mVar 1) (mCons (mVar 4) mNil)))) (mVar 7)))) (sRet (mRet (.bl false))) sPass))))
def M_p_judge_way : SM := (sSeq (sDrop (mCall 2 F_p_check_crowd (mCons (mVar 0) (mCons (mVar 1) mNil))))
  (sSeq (sAsg (mCall 1 F_p_rows_of (mCons (mVar 1) mNil)) (gN 3))
  (sSeq (sIf (mT (mOr (mOp eqM (mCB lenM (mCons (mVar 2) mNil)) (mRet (.int 0))) (mNot (mCB allM (mCons (mComp (List.map (·.2) ([("row", 8)] : List (Str × Nat))) (mItm (mVar 2)) (gN 8) mYes (mOp inM (mVar 8) (mVar 3))) mNil))))) (sRet (mRet (.bl false))) sPass)
  (sSeq (sFor (mZip (mCons (mVar 2) (mCons (mSlice (mVar 2) (mPart (mRet (.int 1))) mNoPart) mNil))) (gT ((gN 4) :: ((gN 5) :: []))) B1_p_judge_way)
  (sRet (mRet (.bl true)))))))
def F_p_judge_way : FM := runC N_p_judge_way M_p_judge_way
theorem sc_p_judge_way : FnScope N_p_judge_way ["costs", "ways", "rows"] (defScope st_p_judge_way) := C8.fnScope_by (by decide +kernel)
theorem d_p_judge_way (h_p_check_crowd : CalM P w K mg base T k "check_crowd" ["costs", "ways"] F_p_check_crowd) (h_p_known_pays : CalM P w K mg base T k "known_pays" ["costs", "ways", "row"] F_p_known_pays) (h_p_rows_of : CalM P w K mg base T k "rows_of" ["ways"] F_p_rows_of) (bl : Blt mg) {f : Addr} {cdv : Value} {A : Around} {outer : List PySem.Env} {s : Shared} {H : Hp} {E : XK} (hr : Room k (A.deeper (envOfC "judge_way" (defScope st_p_judge_way) s.heap.objs.size f cdv))) (hgd : A.guards = some []) :
    RSs (cxOf (L2N.CX P w) P w K mg base N_p_judge_way "judge_way" (defScope st_p_judge_way) f cdv A outer s H E) T (wE E) (defBody st_p_judge_way) M_p_judge_way := by
  have g : Cg (cxOf (L2N.CX P w) P w K mg base N_p_judge_way "judge_way" (defScope st_p_judge_way) f cdv A outer s H E) k := ⟨rfl, sc_p_judge_way.nd, hr, hgd⟩
  have tk : L2N.Takes (cxOf (L2N.CX P w) P w K mg base N_p_judge_way "judge_way" (defScope st_p_judge_way) f cdv A outer s H E) (wE E) := L2N.takes_of rfl rfl rfl rfl
  have hp := passes_of (X := cxOf (L2N.CX P w) P w K mg base N_p_judge_way "judge_way" (defScope st_p_judge_way) f cdv A outer s H E) rfl
  exact (ss_cons (s_expr (xcall g tk h_p_check_crowd (ra_cons (xv 0) (ra_cons (xv 1) ra_nil))))
  (ss_cons (sset g 3 (xcall g tk h_p_rows_of (ra_cons (xv 1) ra_nil)))
  (ss_cons (s_if (rt_bop (rw_or (tcmp (m_eq g.u64) (xlen bl (ra_cons (xv 2) ra_nil)) re_int) (rw_or1 (rt_not (rt_val (xall g bl (ra_cons (xcomp g ([("row", 8)] : List (Str × Nat)) (ri_seq (xv 2)) (fun _ _ _ _ _ => (gn g.b 8)) (fun _ _ _ _ _ => rts_nil) (fun _ _ _ _ _ => (xcmp (m_in g.b.u65) (xv 8) (xv 3)))) ra_nil))))))) (ss_one (s_ret re_bl)) ss_nil)
  (ss_cons (s_for hp g.hc (izip bl (ra_cons (xv 2) (ra_cons (re_slice (xv 2) (rp_some re_int) rp_none) ra_nil))) (gt g (gs_cons (gn g 4) (gs_cons (gn g 5) gs_nil))) (ss_cons (scomp g 6 ([("user", 7)] : List (Str × Nat)) (irng1 bl (ra_cons (xlen bl (ra_cons (xv 1) ra_nil)) ra_nil)) (fun _ _ _ _ _ => (gn g.b 7)) (fun _ _ _ _ _ => (rts_one (tcmp (m_ne g.b.u64) (xix (xv 4) (xv 7)) (xix (xv 5) (xv 7))))) (fun _ _ _ _ _ => (xv 7)))
  (ss_cons (s_if (tcmp (m_ne g.u64) (xlen bl (ra_cons (xv 6) ra_nil)) re_int) (ss_one (s_ret re_bl)) ss_nil)
  (ss_cons (sset g 7 (xix (xv 6) re_int))
  (ss_one (s_if (tcmp m_ge (xix (xcall g tk h_p_known_pays (ra_cons (xv 0) (ra_cons (xv 1) (ra_cons (xv 5) ra_nil)))) (xv 7)) (xix (xcall g tk h_p_known_pays (ra_cons (xv 0) (ra_cons (xv 1) (ra_cons (xv 4) ra_nil)))) (xv 7))) (ss_one (s_ret re_bl)) ss_nil))))))
  (ss_one (s_ret re_bl))))))
theorem c_p_judge_way (h_p_check_crowd : CalM P w K mg base T k "check_crowd" ["costs", "ways"] F_p_check_crowd) (h_p_known_pays : CalM P w K mg base T k "known_pays" ["costs", "ways", "row"] F_p_known_pays) (h_p_rows_of : CalM P w K mg base T k "rows_of" ["ways"] F_p_rows_of) (bl : Blt mg) {f : Addr} (F : ∃ fd, FunD K "judge_way" "judge_way" (defArgs st_p_judge_way) (defBody st_p_judge_way) (defScope st_p_judge_way) [] [] f fd) (hm : mg "judge_way" = some (.ref f)) : CalM P w K mg base T (k + 1) "judge_way" ["costs", "ways", "rows"] F_p_judge_way :=
  CalM.of F hm (fun _ _ _ _ _ _ us hl => match us, hl with | [_, _, _], _ => rfl) sc_p_judge_way fun cdv A outer s H E hr hg => d_p_judge_way h_p_check_crowd h_p_known_pays h_p_rows_of bl hr hg

abbrev N_law_same : List Str := ["told", "due"]
abbrev st_law_same : Stmt := top 32
def M_law_same : SM := (sRet (mOp eqM (mCB reprM (mCons (mLst (mCons (mVar 0) mNil)) mNil)) (mCB reprM (mCons (mLst (mCons (mVar 1) mNil)) mNil))))
def F_law_same : FM := runC N_law_same M_law_same
theorem sc_law_same : FnScope N_law_same ["told", "due"] (defScope st_law_same) := C8.fnScope_by (by decide +kernel)
theorem d_law_same (bl : Blt mg) {f : Addr} {cdv : Value} {A : Around} {outer : List PySem.Env} {s : Shared} {H : Hp} {E : XK} (hr : Room k (A.deeper (envOfC "_law_same" (defScope st_law_same) s.heap.objs.size f cdv))) (hgd : A.guards = some []) :
    RSs (cxOf (L2N.CX P w) P w K mg base N_law_same "_law_same" (defScope st_law_same) f cdv A outer s H E) T (wE E) (defBody st_law_same) M_law_same := by
  have g : Cg (cxOf (L2N.CX P w) P w K mg base N_law_same "_law_same" (defScope st_law_same) f cdv A outer s H E) k := ⟨rfl, sc_law_same.nd, hr, hgd⟩
  have tk : L2N.Takes (cxOf (L2N.CX P w) P w K mg base N_law_same "_law_same" (defScope st_law_same) f cdv A outer s H E) (wE E) := L2N.takes_of rfl rfl rfl rfl
  have hp := passes_of (X := cxOf (L2N.CX P w) P w K mg base N_law_same "_law_same" (defScope st_law_same) f cdv A outer s H E) rfl
  exact (ss_one (s_ret (xcmp (m_eq g.u64) (xrepr g bl (ra_cons (re_lst (ra_cons (xv 0) ra_nil)) ra_nil)) (xrepr g bl (ra_cons (re_lst (ra_cons (xv 1) ra_nil)) ra_nil)))))
theorem c_law_same (bl : Blt mg) {f : Addr} (F : ∃ fd, FunD K "_law_same" "_law_same" (defArgs st_law_same) (defBody st_law_same) (defScope st_law_same) [] [] f fd) (hm : mg "_law_same" = some (.ref f)) : CalM P w K mg base T (k + 1) "_law_same" ["told", "due"] F_law_same :=
  CalM.of F hm (fun _ _ _ _ _ _ us hl => match us, hl with | [_, _], _ => rfl) sc_law_same fun cdv A outer s H E hr hg => d_law_same  bl hr hg

abbrev N_law_stream : List Str := ["script", "numbers", "cell", "rest", "k", "stirred"]
abbrev st_law_stream : Stmt := top 33
abbrev B1_law_stream : SM := (sSeq (sDrop (mMeth appM (mVar 1) (mCons (mOp modM (mCB intM (mCons (mVar 3) mNil)) (mRet (.int 1009))) mNil)))
  (sSeq (sAsg (mOp fdivM (mVar 3) (mRet (.int 1009))) (gN 3))
  (sIf (mT (mOp eqM (mVar 3) (mRet (.int 0)))) (fun ρ μ => .bk ρ μ) sPass)))
abbrev B2_law_stream : SM := (sSeq (sAsg (mOp modM (mCB intM (mCons (mOp addM (mOp addM (mOp mulM2 (mVar 5) (mRet (.int 48271))) (mOp mulM2 (mRet (.int 7)) (mVar 4))) (mRet (.int 11))) mNil)) (mRet (.int 2147483647))) (gN 5))
  (sDrop (mMeth appM (mVar 1) (mCons (mOp modM (mOp modM (mCB intM (mCons (mOp addM (mOp mulM2 (mVar 5) (mRet (.int 69621))) (mVar 4)) mNil)) (mRet (.int 2147483629))) (mRet (.int 1009))) mNil))))
abbrev B3_law_stream : SM := (sSeq (sAsg (mCB absM (mCons (mCB intM (mCons (mVar 2) mNil)) mNil)) (gN 3))
  (sIf (mT (mOp geM (mVar 3) (mOp powM (mRet (.int 10)) (mRet (.int 18))))) (sFor (mRng rng1 (mCons (mRet (.int 60)) mNil)) (gN 4) B1_law_stream) (sSeq (sAsg (mOp modM (mCB intM (mCons (mVar 3) mNil)) (mRet (.int 2147483647))) (gN 5))
  (sFor (mRng rng1 (mCons (mRet (.int 10)) mNil)) (gN 4) B2_law_stream))))
def M_law_stream : SM := (sSeq (sAsg (mLstC mNil) (gN 1))
  (sSeq (sFor (mItm (mSlice (mVar 0) mNoPart (mPart (mRet (.int 63))))) (gN 2) B3_law_stream)
  (sSeq (sIf (mT (mOp eqM (mCB lenM (mCons (mVar 1) mNil)) (mRet (.int 0)))) (sDrop (mMeth appM (mVar 1) (mCons (mRet (.int 0)) mNil))) sPass)
  (sRet (mVar 1)))))
def F_law_stream : FM := runC N_law_stream M_law_stream
theorem sc_law_stream : FnScope N_law_stream ["script"] (defScope st_law_stream) := C8.fnScope_by (by decide +kernel)
theorem d_law_stream (bl : Blt mg) {f : Addr} {cdv : Value} {A : Around} {outer : List PySem.Env} {s : Shared} {H : Hp} {E : XK} (hr : Room k (A.deeper (envOfC "_law_stream" (defScope st_law_stream) s.heap.objs.size f cdv))) (hgd : A.guards = some []) :
    RSs (cxOf (L2N.CX P w) P w K mg base N_law_stream "_law_stream" (defScope st_law_stream) f cdv A outer s H E) T (wE E) (defBody st_law_stream) M_law_stream := by
  have g : Cg (cxOf (L2N.CX P w) P w K mg base N_law_stream "_law_stream" (defScope st_law_stream) f cdv A outer s H E) k := ⟨rfl, sc_law_stream.nd, hr, hgd⟩
  have tk : L2N.Takes (cxOf (L2N.CX P w) P w K mg base N_law_stream "_law_stream" (defScope st_law_stream) f cdv A outer s H E) (wE E) := L2N.takes_of rfl rfl rfl rfl
  have hp := passes_of (X := cxOf (L2N.CX P w) P w K mg base N_law_stream "_law_stream" (defScope st_law_stream) f cdv A outer s H E) rfl
  exact (ss_cons (sset g 1 (re_lstC ra_nil))
  (ss_cons (s_for hp g.hc (ri_seq (re_slice (xv 0) rp_none (rp_some re_int))) (gn g 2) (ss_cons (sset g 3 (xabs bl (ra_cons (xint bl (ra_cons (xv 2) ra_nil)) ra_nil)))
  (ss_one (s_if (tcmp m_ge (xv 3) (re_op m_pow re_int re_int)) (ss_one (s_for hp g.hc (irng1 bl (ra_cons re_int ra_nil)) (gn g 4) (ss_cons (s_expr (re_append (xv 1) (ra_cons (re_op m_mod (xint bl (ra_cons (xv 3) ra_nil)) re_int) ra_nil)))
  (ss_cons (sset g 3 (re_op m_fdiv (xv 3) re_int))
  (ss_one (s_if (tcmp (m_eq g.u64) (xv 3) re_int) (ss_one s_break) ss_nil)))))) (ss_cons (sset g 5 (re_op m_mod (xint bl (ra_cons (xv 3) ra_nil)) re_int))
  (ss_one (s_for hp g.hc (irng1 bl (ra_cons re_int ra_nil)) (gn g 4) (ss_cons (sset g 5 (re_op m_mod (xint bl (ra_cons (re_op m_add (re_op m_add (re_op m_mul2 (xv 5) re_int) (re_op m_mul2 re_int (xv 4))) re_int) ra_nil)) re_int))
  (ss_one (s_expr (re_append (xv 1) (ra_cons (re_op m_mod (re_op m_mod (xint bl (ra_cons (re_op m_add (re_op m_mul2 (xv 5) re_int) (xv 4)) ra_nil)) re_int) re_int) ra_nil))))))))))))
  (ss_cons (s_if (tcmp (m_eq g.u64) (xlen bl (ra_cons (xv 1) ra_nil)) re_int) (ss_one (s_expr (re_append (xv 1) (ra_cons re_int ra_nil)))) ss_nil)
  (ss_one (s_ret (xv 1))))))
theorem c_law_stream (bl : Blt mg) {f : Addr} (F : ∃ fd, FunD K "_law_stream" "_law_stream" (defArgs st_law_stream) (defBody st_law_stream) (defScope st_law_stream) [] [] f fd) (hm : mg "_law_stream" = some (.ref f)) : CalM P w K mg base T (k + 1) "_law_stream" ["script"] F_law_stream :=
  CalM.of F hm (fun _ _ _ _ _ _ us hl => match us, hl with | [_], _ => rfl) sc_law_stream fun cdv A outer s H E hr hg => d_law_stream  bl hr hg

abbrev N_law_next : List Str := ["state", "many", "turn"]
abbrev st_law_next : Stmt := top 34
def M_law_next : SM := (sSeq (sAsg (mOp addM (mOp ixM (mVar 0) (mRet (.int 1))) (mRet (.int 1))) (gIx (mVar 0) (mRet (.int 1))))
  (sSeq (sAsg (mOp fdivM (mOp ixM (mVar 0) (mRet (.int 1))) (mCB lenM (mCons (mOp ixM (mVar 0) (mRet (.int 0))) mNil))) (gN 2))
  (sRet (mOp modM (mCB intM (mCons (mOp addM (mOp addM (mOp ixM (mOp ixM (mVar 0) (mRet (.int 0))) (mOp modM (mOp ixM (mVar 0) (mRet (.int 1))) (mCB lenM (mCons (mOp ixM (mVar 0) (mRet (.int 0))) mNil)))) (mOp mulM2 (mVar 2) (mRet (.int 389)))) (mOp mulM2 (mOp mulM2 (mOp ixM (mVar 0) (mRet (.int 1))) (mVar 2)) (mRet (.int 17)))) mNil)) (mVar 1)))))
def F_law_next : FM := runC N_law_next M_law_next
theorem sc_law_next : FnScope N_law_next ["state", "many"] (defScope st_law_next) := C8.fnScope_by (by decide +kernel)
theorem d_law_next (bl : Blt mg) {f : Addr} {cdv : Value} {A : Around} {outer : List PySem.Env} {s : Shared} {H : Hp} {E : XK} (hr : Room k (A.deeper (envOfC "_law_next" (defScope st_law_next) s.heap.objs.size f cdv))) (hgd : A.guards = some []) :
    RSs (cxOf (L2N.CX P w) P w K mg base N_law_next "_law_next" (defScope st_law_next) f cdv A outer s H E) T (wE E) (defBody st_law_next) M_law_next := by
  have g : Cg (cxOf (L2N.CX P w) P w K mg base N_law_next "_law_next" (defScope st_law_next) f cdv A outer s H E) k := ⟨rfl, sc_law_next.nd, hr, hgd⟩
  have tk : L2N.Takes (cxOf (L2N.CX P w) P w K mg base N_law_next "_law_next" (defScope st_law_next) f cdv A outer s H E) (wE E) := L2N.takes_of rfl rfl rfl rfl
  have hp := passes_of (X := cxOf (L2N.CX P w) P w K mg base N_law_next "_law_next" (defScope st_law_next) f cdv A outer s H E) rfl
  exact (ss_cons (s_asg (re_op m_add (xix (xv 0) re_int) re_int) (g_ix (xv 0) re_int))
  (ss_cons (sset g 2 (re_op m_fdiv (xix (xv 0) re_int) (xlen bl (ra_cons (xix (xv 0) re_int) ra_nil))))
  (ss_one (s_ret (re_op m_mod (xint bl (ra_cons (re_op m_add (re_op m_add (xix (xix (xv 0) re_int) (re_op m_mod (xix (xv 0) re_int) (xlen bl (ra_cons (xix (xv 0) re_int) ra_nil)))) (re_op m_mul2 (xv 2) re_int)) (re_op m_mul2 (re_op m_mul2 (xix (xv 0) re_int) (xv 2)) re_int)) ra_nil)) (xv 1))))))
theorem c_law_next (bl : Blt mg) {f : Addr} (F : ∃ fd, FunD K "_law_next" "_law_next" (defArgs st_law_next) (defBody st_law_next) (defScope st_law_next) [] [] f fd) (hm : mg "_law_next" = some (.ref f)) : CalM P w K mg base T (k + 1) "_law_next" ["state", "many"] F_law_next :=
  CalM.of F hm (fun _ _ _ _ _ _ us hl => match us, hl with | [_, _], _ => rfl) sc_law_next fun cdv A outer s H E hr hg => d_law_next  bl hr hg

abbrev N_law_told : List Str := ["call", "e", "kinds", "names", "k"]
abbrev st_law_told : Stmt := top 35
theorem sc_law_told : FnScope N_law_told ["call"] (defScope st_law_told) := C8.fnScope_by (by decide +kernel)
theorem tellR {X : Cx} {W : WX} {C : Fin 5 → Addr} {gt c Pt CS : Addr} {k : Nat} (F : ∃ fd, FunD X.K "_law_told" "_law_told" (defArgs st_law_told) (defBody st_law_told) (defScope st_law_told) [] [] gt fd) (hm : X.mg "_law_told" = some (.ref gt)) (hmc : X.mg "ChooseError" = some (.ref CS))
    (er : Errs X.K X.mg C) (hx : ∀ i : Fin 5, i.val < 3 → PySem.W.exmOne X.K (.ref (C i)) (.ref CS) = some true) (bl : Blt X.mg) (TB : LamX.TabB X.base X.mg c Pt) (hcode : X.env.code = .ref c) (hmT : (Pt, X.env.qual ++ "<lambda>") ∈ T) (hu : ∀ p ∈ T, p.1 = Pt → p.2 = X.env.qual ++ "<lambda>") (hr : Room (k + 2) X.A) (hgd : X.A.guards = some [])
    (hgx : Gl X "_law_told") : TellR X T W "_law_told" (ksE C) k := by
  obtain ⟨fd, F⟩ := F
  refine tellR_of (Ng := N_law_told) (a := "call") (ce := "ChooseError") (en := "e") F hm hmc (fun _ _ _ _ _ _ us hl => match us, hl with | [_], _ => rfl) sc_law_told rfl (Or.inl rfl) rfl rfl rfl (by decide) er hx TB hcode hmT hu hr hgd hgx (by decide) (by decide) (by decide) rfl ?_
  intro i cdv kd hi s H e oe pn hk hz hf hot
  have u64 : ((toldX X N_law_told "_law_told" (defScope st_law_told) gt cdv s H).suite e ((e, oe) :: pn)).A.units + 64 < cLine := by
    have := hr.un
    show X.A.units + 3 + 64 < cLine
    omega
  subst hk
  exact ss_cons (sset0 sc_law_told.nd 2 (re_lst (ra_cons (xis (X := toldX X N_law_told "_law_told" (defScope st_law_told) gt cdv s H) er hi bl hz hf er.g0 (j := 1)) (ra_cons (xis (X := toldX X N_law_told "_law_told" (defScope st_law_told) gt cdv s H) er hi bl hz hf er.g1 (j := 1)) (ra_cons (xis (X := toldX X N_law_told "_law_told" (defScope st_law_told) gt cdv s H) er hi bl hz hf er.g2 (j := 1)) (ra_cons (xis (X := toldX X N_law_told "_law_told" (defScope st_law_told) gt cdv s H) er hi bl hz hf er.g3 (j := 1)) (ra_cons (xis (X := toldX X N_law_told "_law_told" (defScope st_law_told) gt cdv s H) er hi bl hz hf er.g4 (j := 1)) ra_nil)))))))
    (ss_cons (s_setHot hot sc_law_told.nd rfl rfl rfl rfl bl.range (ra_cons re_int ra_nil) (blkOk_by rfl) (by decide) (fun _ _ _ _ _ => gn0 sc_law_told.nd 4) (fun _ _ _ _ _ => rts_one (rt_val (xix (xv 2) (xv 4)))) (fun _ _ _ _ _ => xix (re_lst (ra_cons re_str (ra_cons re_str (ra_cons re_str (ra_cons re_str (ra_cons re_str ra_nil)))))) (xv 4)))
    (ss_one (s_ret (re_tup (ra_cons (xix (re_lst (ra_cons re_str (ra_cons (xix (re_op m_add (xv 3) (re_lst (ra_cons re_str ra_nil))) re_int) ra_nil))) (xint bl (ra_cons (xcmp (m_eq u64) (xlen bl (ra_cons (xv 3) ra_nil)) re_int) ra_nil))) ra_nil)))))

abbrev N_law_crowd : List Str := ["state", "things", "users", "top", "costs", "thing", "ways", "user", "row", "own", "k", "j"]
abbrev st_law_crowd : Stmt := top 36
abbrev B1_law_crowd : SM := (sSeq (sAsg (mComp (List.map (·.2) ([("k", 10)] : List (Str × Nat))) (mRng rng1 (mCons (mVar 2) mNil)) (gN 10) mYes (mCall 2 F_law_next (mCons (mVar 0) (mCons (mVar 3) mNil)))) (gN 8))
  (sSeq (sIf (mT (mOp gtM (mCall 2 F_law_next (mCons (mVar 0) (mCons (mRet (.int 3)) mNil))) (mRet (.int 0)))) (sAsg (mCB sortedM (mCons (mVar 8) mNil)) (gN 8)) sPass)
  (sDrop (mMeth appM (mVar 4) (mCons (mCB tupleM (mCons (mVar 8) mNil)) mNil)))))
abbrev B2_law_crowd : SM := (sDrop (mMeth appM (mVar 9) (mCons (mCB tupleM (mCons (mCB srtSetM (mCons (mComp (List.map (·.2) ([("j", 11)] : List (Str × Nat))) (mRng rng1 (mCons (mOp addM (mRet (.int 1)) (mCall 2 F_law_next (mCons (mVar 0) (mCons (mRet (.int 3)) mNil)))) mNil)) (gN 11) mYes (mCall 2 F_law_next (mCons (mVar 0) (mCons (mVar 1) mNil)))) mNil)) mNil)) mNil)))
abbrev B3_law_crowd : SM := (sSeq (sAsg (mLstC mNil) (gN 9))
  (sSeq (sFor (mRng rng1 (mCons (mOp addM (mRet (.int 1)) (mCall 2 F_law_next (mCons (mVar 0) (mCons (mRet (.int 3)) mNil)))) mNil)) (gN 10) B2_law_crowd)
  (sDrop (mMeth appM (mVar 6) (mCons (mCB tupleM (mCons (mVar 9) mNil)) mNil)))))
def M_law_crowd : SM := (sSeq (sAsg (mOp addM (mRet (.int 1)) (mCall 2 F_law_next (mCons (mVar 0) (mCons (mRet (.int 5)) mNil)))) (gN 1))
  (sSeq (sAsg (mOp addM (mRet (.int 1)) (mCall 2 F_law_next (mCons (mVar 0) (mCons (mRet (.int 4)) mNil)))) (gN 2))
  (sSeq (sAsg (mOp ixM (mLst (mCons (mRet (.int 3)) (mCons (mRet (.int 20)) mNil))) (mCall 2 F_law_next (mCons (mVar 0) (mCons (mRet (.int 2)) mNil)))) (gN 3))
  (sSeq (sAsg (mLstC mNil) (gN 4))
  (sSeq (sFor (mRng rng1 (mCons (mVar 1) mNil)) (gN 5) B1_law_crowd)
  (sSeq (sAsg (mLstC mNil) (gN 6))
  (sSeq (sFor (mRng rng1 (mCons (mVar 2) mNil)) (gN 7) B3_law_crowd)
  (sRet (mTup (mCons (mCB tupleM (mCons (mVar 4) mNil)) (mCons (mCB tupleM (mCons (mVar 6) mNil)) mNil)))))))))))
def F_law_crowd : FM := runC N_law_crowd M_law_crowd
theorem sc_law_crowd : FnScope N_law_crowd ["state"] (defScope st_law_crowd) := C8.fnScope_by (by decide +kernel)
theorem d_law_crowd (h_law_next : CalM P w K mg base T k "_law_next" ["state", "many"] F_law_next) (bl : Blt mg) {f : Addr} {cdv : Value} {A : Around} {outer : List PySem.Env} {s : Shared} {H : Hp} {E : XK} (hr : Room k (A.deeper (envOfC "_law_crowd" (defScope st_law_crowd) s.heap.objs.size f cdv))) (hgd : A.guards = some []) :
    RSs (cxOf (L2N.CX P w) P w K mg base N_law_crowd "_law_crowd" (defScope st_law_crowd) f cdv A outer s H E) T (wE E) (defBody st_law_crowd) M_law_crowd := by
  have g : Cg (cxOf (L2N.CX P w) P w K mg base N_law_crowd "_law_crowd" (defScope st_law_crowd) f cdv A outer s H E) k := ⟨rfl, sc_law_crowd.nd, hr, hgd⟩
  have tk : L2N.Takes (cxOf (L2N.CX P w) P w K mg base N_law_crowd "_law_crowd" (defScope st_law_crowd) f cdv A outer s H E) (wE E) := L2N.takes_of rfl rfl rfl rfl
  have hp := passes_of (X := cxOf (L2N.CX P w) P w K mg base N_law_crowd "_law_crowd" (defScope st_law_crowd) f cdv A outer s H E) rfl
  exact (ss_cons (sset g 1 (re_op m_add re_int (xcall g tk h_law_next (ra_cons (xv 0) (ra_cons re_int ra_nil)))))
  (ss_cons (sset g 2 (re_op m_add re_int (xcall g tk h_law_next (ra_cons (xv 0) (ra_cons re_int ra_nil)))))
  (ss_cons (sset g 3 (xix (re_lst (ra_cons re_int (ra_cons re_int ra_nil))) (xcall g tk h_law_next (ra_cons (xv 0) (ra_cons re_int ra_nil)))))
  (ss_cons (sset g 4 (re_lstC ra_nil))
  (ss_cons (s_for hp g.hc (irng1 bl (ra_cons (xv 1) ra_nil)) (gn g 5) (ss_cons (scomp g 8 ([("k", 10)] : List (Str × Nat)) (irng1 bl (ra_cons (xv 2) ra_nil)) (fun _ _ _ _ _ => (gn g.b 10)) (fun _ _ _ _ _ => rts_nil) (fun _ _ _ _ _ => (xcall g.b tk0 h_law_next (ra_cons (xv 0) (ra_cons (xv 3) ra_nil)))))
  (ss_cons (s_if (tcmp m_gt (xcall g tk h_law_next (ra_cons (xv 0) (ra_cons re_int ra_nil))) re_int) (ss_one (sset g 8 (xsorted bl (ra_cons (xv 8) ra_nil)))) ss_nil)
  (ss_one (s_expr (re_append (xv 4) (ra_cons (xtuple bl (ra_cons (xv 8) ra_nil)) ra_nil)))))))
  (ss_cons (sset g 6 (re_lstC ra_nil))
  (ss_cons (s_for hp g.hc (irng1 bl (ra_cons (xv 2) ra_nil)) (gn g 7) (ss_cons (sset g 9 (re_lstC ra_nil))
  (ss_cons (s_for hp g.hc (irng1 bl (ra_cons (re_op m_add re_int (xcall g tk h_law_next (ra_cons (xv 0) (ra_cons re_int ra_nil)))) ra_nil)) (gn g 10) (ss_one (s_expr (re_append (xv 9) (ra_cons (xtuple bl (ra_cons (xsrtSet g bl (ra_cons (xcomp g ([("j", 11)] : List (Str × Nat)) (irng1 bl (ra_cons (re_op m_add re_int (xcall g tk h_law_next (ra_cons (xv 0) (ra_cons re_int ra_nil)))) ra_nil)) (fun _ _ _ _ _ => (gn g.b 11)) (fun _ _ _ _ _ => rts_nil) (fun _ _ _ _ _ => (xcall g.b tk0 h_law_next (ra_cons (xv 0) (ra_cons (xv 1) ra_nil))))) ra_nil)) ra_nil)) ra_nil)))))
  (ss_one (s_expr (re_append (xv 6) (ra_cons (xtuple bl (ra_cons (xv 9) ra_nil)) ra_nil)))))))
  (ss_one (s_ret (re_tup (ra_cons (xtuple bl (ra_cons (xv 4) ra_nil)) (ra_cons (xtuple bl (ra_cons (xv 6) ra_nil)) ra_nil))))))))))))
theorem c_law_crowd (h_law_next : CalM P w K mg base T k "_law_next" ["state", "many"] F_law_next) (bl : Blt mg) {f : Addr} (F : ∃ fd, FunD K "_law_crowd" "_law_crowd" (defArgs st_law_crowd) (defBody st_law_crowd) (defScope st_law_crowd) [] [] f fd) (hm : mg "_law_crowd" = some (.ref f)) : CalM P w K mg base T (k + 1) "_law_crowd" ["state"] F_law_crowd :=
  CalM.of F hm (fun _ _ _ _ _ _ us hl => match us, hl with | [_], _ => rfl) sc_law_crowd fun cdv A outer s H E hr hg => d_law_crowd h_law_next bl hr hg

abbrev N_law_rows : List Str := ["ways", "found", "own", "longer", "row", "choice"]
abbrev st_law_rows : Stmt := top 37
abbrev B1_law_rows : SM := (sAsg (mOp addM (mVar 3) (mComp (List.map (·.2) ([("choice", 5)] : List (Str × Nat))) (mRng rng1 (mCons (mCB lenM (mCons (mVar 2) mNil)) mNil)) (gN 5) mYes (mOp addM (mVar 4) (mTup (mCons (mVar 5) mNil))))) (gN 3))
abbrev B2_law_rows : SM := (sSeq (sAsg (mLst mNil) (gN 3))
  (sSeq (sFor (mItm (mVar 1)) (gN 4) B1_law_rows)
  (sAsg (mVar 3) (gN 1))))
def M_law_rows : SM := (sSeq (sAsg (mLst (mCons (mTup mNil) mNil)) (gN 1))
  (sSeq (sFor (mItm (mVar 0)) (gN 2) B2_law_rows)
  (sRet (mVar 1))))
def F_law_rows : FM := runC N_law_rows M_law_rows
theorem sc_law_rows : FnScope N_law_rows ["ways"] (defScope st_law_rows) := C8.fnScope_by (by decide +kernel)
theorem d_law_rows (bl : Blt mg) {f : Addr} {cdv : Value} {A : Around} {outer : List PySem.Env} {s : Shared} {H : Hp} {E : XK} (hr : Room k (A.deeper (envOfC "_law_rows" (defScope st_law_rows) s.heap.objs.size f cdv))) (hgd : A.guards = some []) :
    RSs (cxOf (L2N.CX P w) P w K mg base N_law_rows "_law_rows" (defScope st_law_rows) f cdv A outer s H E) T (wE E) (defBody st_law_rows) M_law_rows := by
  have g : Cg (cxOf (L2N.CX P w) P w K mg base N_law_rows "_law_rows" (defScope st_law_rows) f cdv A outer s H E) k := ⟨rfl, sc_law_rows.nd, hr, hgd⟩
  have tk : L2N.Takes (cxOf (L2N.CX P w) P w K mg base N_law_rows "_law_rows" (defScope st_law_rows) f cdv A outer s H E) (wE E) := L2N.takes_of rfl rfl rfl rfl
  have hp := passes_of (X := cxOf (L2N.CX P w) P w K mg base N_law_rows "_law_rows" (defScope st_law_rows) f cdv A outer s H E) rfl
  exact (ss_cons (sset g 1 (re_lst (ra_cons (re_tup ra_nil) ra_nil)))
  (ss_cons (s_for hp g.hc (ri_seq (xv 0)) (gn g 2) (ss_cons (sset g 3 (re_lst ra_nil))
  (ss_cons (s_for hp g.hc (ri_seq (xv 1)) (gn g 4) (ss_one (sset g 3 (re_op m_add (xv 3) (xcomp g ([("choice", 5)] : List (Str × Nat)) (irng1 bl (ra_cons (xlen bl (ra_cons (xv 2) ra_nil)) ra_nil)) (fun _ _ _ _ _ => (gn g.b 5)) (fun _ _ _ _ _ => rts_nil) (fun _ _ _ _ _ => (re_op m_add (xv 4) (re_tup (ra_cons (xv 5) ra_nil)))))))))
  (ss_one (sset g 1 (xv 3))))))
  (ss_one (s_ret (xv 1)))))
theorem c_law_rows (bl : Blt mg) {f : Addr} (F : ∃ fd, FunD K "_law_rows" "_law_rows" (defArgs st_law_rows) (defBody st_law_rows) (defScope st_law_rows) [] [] f fd) (hm : mg "_law_rows" = some (.ref f)) : CalM P w K mg base T (k + 1) "_law_rows" ["ways"] F_law_rows :=
  CalM.of F hm (fun _ _ _ _ _ _ us hl => match us, hl with | [_], _ => rfl) sc_law_rows fun cdv A outer s H E hr hg => d_law_rows  bl hr hg

abbrev N_law_loads : List Str := ["costs", "ways", "row", "found", "user", "thing"]
abbrev st_law_loads : Stmt := top 38
abbrev B1_law_loads : SM := (sAsg (mOp addM (mOp ixM (mVar 3) (mVar 5)) (mRet (.int 1))) (gIx (mVar 3) (mVar 5)))
abbrev B2_law_loads : SM := (sFor (mItm (mOp ixM (mOp ixM (mVar 1) (mVar 4)) (mOp ixM (mVar 2) (mVar 4)))) (gN 5) B1_law_loads)
def M_law_loads : SM := (sSeq (sAsg (mMulC (mLst (mCons (mRet (.int 0)) mNil)) (mCB lenM (mCons (mVar 0) mNil))) (gN 3))
  (sSeq (sFor (mRng rng1 (mCons (mCB lenM (mCons (mVar 1) mNil)) mNil)) (gN 4) B2_law_loads)
  (sRet (mCB tupleM (mCons (mVar 3) mNil)))))
def F_law_loads : FM := runC N_law_loads M_law_loads
theorem sc_law_loads : FnScope N_law_loads ["costs", "ways", "row"] (defScope st_law_loads) := C8.fnScope_by (by decide +kernel)
theorem d_law_loads (bl : Blt mg) {f : Addr} {cdv : Value} {A : Around} {outer : List PySem.Env} {s : Shared} {H : Hp} {E : XK} (hr : Room k (A.deeper (envOfC "_law_loads" (defScope st_law_loads) s.heap.objs.size f cdv))) (hgd : A.guards = some []) :
    RSs (cxOf (L2N.CX P w) P w K mg base N_law_loads "_law_loads" (defScope st_law_loads) f cdv A outer s H E) T (wE E) (defBody st_law_loads) M_law_loads := by
  have g : Cg (cxOf (L2N.CX P w) P w K mg base N_law_loads "_law_loads" (defScope st_law_loads) f cdv A outer s H E) k := ⟨rfl, sc_law_loads.nd, hr, hgd⟩
  have tk : L2N.Takes (cxOf (L2N.CX P w) P w K mg base N_law_loads "_law_loads" (defScope st_law_loads) f cdv A outer s H E) (wE E) := L2N.takes_of rfl rfl rfl rfl
  have hp := passes_of (X := cxOf (L2N.CX P w) P w K mg base N_law_loads "_law_loads" (defScope st_law_loads) f cdv A outer s H E) rfl
  exact (ss_cons (sset g 3 (re_mulC (re_lst (ra_cons re_int ra_nil)) (xlen bl (ra_cons (xv 0) ra_nil))))
  (ss_cons (s_for hp g.hc (irng1 bl (ra_cons (xlen bl (ra_cons (xv 1) ra_nil)) ra_nil)) (gn g 4) (ss_one (s_for hp g.hc (ri_seq (xix (xix (xv 1) (xv 4)) (xix (xv 2) (xv 4)))) (gn g 5) (ss_one (s_asg (re_op m_add (xix (xv 3) (xv 5)) re_int) (g_ix (xv 3) (xv 5)))))))
  (ss_one (s_ret (xtuple bl (ra_cons (xv 3) ra_nil))))))
theorem c_law_loads (bl : Blt mg) {f : Addr} (F : ∃ fd, FunD K "_law_loads" "_law_loads" (defArgs st_law_loads) (defBody st_law_loads) (defScope st_law_loads) [] [] f fd) (hm : mg "_law_loads" = some (.ref f)) : CalM P w K mg base T (k + 1) "_law_loads" ["costs", "ways", "row"] F_law_loads :=
  CalM.of F hm (fun _ _ _ _ _ _ us hl => match us, hl with | [_, _, _], _ => rfl) sc_law_loads fun cdv A outer s H E hr hg => d_law_loads  bl hr hg

abbrev N_law_pays : List Str := ["costs", "ways", "row", "told", "found", "user", "thing"]
abbrev st_law_pays : Stmt := top 39
abbrev B1_law_pays : SM := (sDrop (mMeth appM (mVar 4) (mCons (mCB sumSM (mCons (mComp (List.map (·.2) ([("thing", 6)] : List (Str × Nat))) (mItm (mOp ixM (mOp ixM (mVar 1) (mVar 5)) (mOp ixM (mVar 2) (mVar 5)))) (gN 6) mYes (mOp ixM (mOp ixM (mVar 0) (mVar 6)) (mOp subM (mOp ixM (mVar 3) (mVar 6)) (mRet (.int 1))))) mNil)) mNil)))
def M_law_pays : SM := (sSeq (sAsg (mCall 3 F_law_loads (mCons (mVar 0) (mCons (mVar 1) (mCons (mVar 2) mNil)))) (gN 3))
  (sSeq (sAsg (mLstC mNil) (gN 4))
  (sSeq (sFor (mRng rng1 (mCons (mCB lenM (mCons (mVar 1) mNil)) mNil)) (gN 5) B1_law_pays)
  (sRet (mCB tupleM (mCons (mVar 4) mNil))))))
def F_law_pays : FM := runC N_law_pays M_law_pays
theorem sc_law_pays : FnScope N_law_pays ["costs", "ways", "row"] (defScope st_law_pays) := C8.fnScope_by (by decide +kernel)
theorem d_law_pays (h_law_loads : CalM P w K mg base T k "_law_loads" ["costs", "ways", "row"] F_law_loads) (bl : Blt mg) {f : Addr} {cdv : Value} {A : Around} {outer : List PySem.Env} {s : Shared} {H : Hp} {E : XK} (hr : Room k (A.deeper (envOfC "_law_pays" (defScope st_law_pays) s.heap.objs.size f cdv))) (hgd : A.guards = some []) :
    RSs (cxOf (L2N.CX P w) P w K mg base N_law_pays "_law_pays" (defScope st_law_pays) f cdv A outer s H E) T (wE E) (defBody st_law_pays) M_law_pays := by
  have g : Cg (cxOf (L2N.CX P w) P w K mg base N_law_pays "_law_pays" (defScope st_law_pays) f cdv A outer s H E) k := ⟨rfl, sc_law_pays.nd, hr, hgd⟩
  have tk : L2N.Takes (cxOf (L2N.CX P w) P w K mg base N_law_pays "_law_pays" (defScope st_law_pays) f cdv A outer s H E) (wE E) := L2N.takes_of rfl rfl rfl rfl
  have hp := passes_of (X := cxOf (L2N.CX P w) P w K mg base N_law_pays "_law_pays" (defScope st_law_pays) f cdv A outer s H E) rfl
  exact (ss_cons (sset g 3 (xcall g tk h_law_loads (ra_cons (xv 0) (ra_cons (xv 1) (ra_cons (xv 2) ra_nil)))))
  (ss_cons (sset g 4 (re_lstC ra_nil))
  (ss_cons (s_for hp g.hc (irng1 bl (ra_cons (xlen bl (ra_cons (xv 1) ra_nil)) ra_nil)) (gn g 5) (ss_one (s_expr (re_append (xv 4) (ra_cons (xsumS g bl (ra_cons (xcomp g ([("thing", 6)] : List (Str × Nat)) (ri_seq (xix (xix (xv 1) (xv 5)) (xix (xv 2) (xv 5)))) (fun _ _ _ _ _ => (gn g.b 6)) (fun _ _ _ _ _ => rts_nil) (fun _ _ _ _ _ => (xix (xix (xv 0) (xv 6)) (re_op m_sub (xix (xv 3) (xv 6)) re_int)))) ra_nil)) ra_nil)))))
  (ss_one (s_ret (xtuple bl (ra_cons (xv 4) ra_nil)))))))
theorem c_law_pays (h_law_loads : CalM P w K mg base T k "_law_loads" ["costs", "ways", "row"] F_law_loads) (bl : Blt mg) {f : Addr} (F : ∃ fd, FunD K "_law_pays" "_law_pays" (defArgs st_law_pays) (defBody st_law_pays) (defScope st_law_pays) [] [] f fd) (hm : mg "_law_pays" = some (.ref f)) : CalM P w K mg base T (k + 1) "_law_pays" ["costs", "ways", "row"] F_law_pays :=
  CalM.of F hm (fun _ _ _ _ _ _ us hl => match us, hl with | [_, _, _], _ => rfl) sc_law_pays fun cdv A outer s H E hr hg => d_law_pays h_law_loads bl hr hg

abbrev N_law_height : List Str := ["costs", "ways", "row", "told", "thing"]
abbrev st_law_height : Stmt := top 40
def M_law_height : SM := (sSeq (sAsg (mCall 3 F_law_loads (mCons (mVar 0) (mCons (mVar 1) (mCons (mVar 2) mNil)))) (gN 3))
  (sRet (mCB sumSM (mCons (mComp (List.map (·.2) ([("thing", 4)] : List (Str × Nat))) (mRng rng1 (mCons (mCB lenM (mCons (mVar 0) mNil)) mNil)) (gN 4) mYes (mCB sumSM (mCons (mSlice (mOp ixM (mVar 0) (mVar 4)) mNoPart (mPart (mOp ixM (mVar 3) (mVar 4)))) mNil))) mNil))))
def F_law_height : FM := runC N_law_height M_law_height
theorem sc_law_height : FnScope N_law_height ["costs", "ways", "row"] (defScope st_law_height) := C8.fnScope_by (by decide +kernel)
theorem d_law_height (h_law_loads : CalM P w K mg base T k "_law_loads" ["costs", "ways", "row"] F_law_loads) (bl : Blt mg) {f : Addr} {cdv : Value} {A : Around} {outer : List PySem.Env} {s : Shared} {H : Hp} {E : XK} (hr : Room k (A.deeper (envOfC "_law_height" (defScope st_law_height) s.heap.objs.size f cdv))) (hgd : A.guards = some []) :
    RSs (cxOf (L2N.CX P w) P w K mg base N_law_height "_law_height" (defScope st_law_height) f cdv A outer s H E) T (wE E) (defBody st_law_height) M_law_height := by
  have g : Cg (cxOf (L2N.CX P w) P w K mg base N_law_height "_law_height" (defScope st_law_height) f cdv A outer s H E) k := ⟨rfl, sc_law_height.nd, hr, hgd⟩
  have tk : L2N.Takes (cxOf (L2N.CX P w) P w K mg base N_law_height "_law_height" (defScope st_law_height) f cdv A outer s H E) (wE E) := L2N.takes_of rfl rfl rfl rfl
  have hp := passes_of (X := cxOf (L2N.CX P w) P w K mg base N_law_height "_law_height" (defScope st_law_height) f cdv A outer s H E) rfl
  exact (ss_cons (sset g 3 (xcall g tk h_law_loads (ra_cons (xv 0) (ra_cons (xv 1) (ra_cons (xv 2) ra_nil)))))
  (ss_one (s_ret (xsumS g bl (ra_cons (xcomp g ([("thing", 4)] : List (Str × Nat)) (irng1 bl (ra_cons (xlen bl (ra_cons (xv 0) ra_nil)) ra_nil)) (fun _ _ _ _ _ => (gn g.b 4)) (fun _ _ _ _ _ => rts_nil) (fun _ _ _ _ _ => (xsumS g.b bl (ra_cons (re_slice (xix (xv 0) (xv 4)) rp_none (rp_some (xix (xv 3) (xv 4)))) ra_nil)))) ra_nil)))))
theorem c_law_height (h_law_loads : CalM P w K mg base T k "_law_loads" ["costs", "ways", "row"] F_law_loads) (bl : Blt mg) {f : Addr} (F : ∃ fd, FunD K "_law_height" "_law_height" (defArgs st_law_height) (defBody st_law_height) (defScope st_law_height) [] [] f fd) (hm : mg "_law_height" = some (.ref f)) : CalM P w K mg base T (k + 1) "_law_height" ["costs", "ways", "row"] F_law_height :=
  CalM.of F hm (fun _ _ _ _ _ _ us hl => match us, hl with | [_, _, _], _ => rfl) sc_law_height fun cdv A outer s H E hr hg => d_law_height h_law_loads bl hr hg

abbrev N_law_cheaper : List Str := ["costs", "ways", "row", "own", "user", "choice", "changed"]
abbrev st_law_cheaper : Stmt := top 41
abbrev B1_law_cheaper : SM := (sSeq (sAsg (mOp addM (mOp addM (mSlice (mVar 2) mNoPart (mPart (mVar 4))) (mTup (mCons (mVar 5) mNil))) (mSlice (mVar 2) (mPart (mOp addM (mVar 4) (mRet (.int 1)))) mNoPart)) (gN 6))
  (sIf (mT (mOp ltM (mOp ixM (mCall 3 F_law_pays (mCons (mVar 0) (mCons (mVar 1) (mCons (mVar 6) mNil)))) (mVar 4)) (mOp ixM (mVar 3) (mVar 4)))) (sRet (mTup (mCons (mVar 4) (mCons (mVar 5) mNil)))) sPass))
abbrev B2_law_cheaper : SM := (sFor (mRng rng1 (mCons (mCB lenM (mCons (mOp ixM (mVar 1) (mVar 4)) mNil)) mNil)) (gN 5) B1_law_cheaper)
def M_law_cheaper : SM := (sSeq (sAsg (mCall 3 F_law_pays (mCons (mVar 0) (mCons (mVar 1) (mCons (mVar 2) mNil)))) (gN 3))
  (sSeq (sFor (mRng rng1 (mCons (mCB lenM (mCons (mVar 1) mNil)) mNil)) (gN 4) B2_law_cheaper)
  (sRet (mRet .non))))
def F_law_cheaper : FM := runC N_law_cheaper M_law_cheaper
theorem sc_law_cheaper : FnScope N_law_cheaper ["costs", "ways", "row"] (defScope st_law_cheaper) := C8.fnScope_by (by decide +kernel)
theorem d_law_cheaper (h_law_pays : CalM P w K mg base T k "_law_pays" ["costs", "ways", "row"] F_law_pays) (bl : Blt mg) {f : Addr} {cdv : Value} {A : Around} {outer : List PySem.Env} {s : Shared} {H : Hp} {E : XK} (hr : Room k (A.deeper (envOfC "_law_cheaper" (defScope st_law_cheaper) s.heap.objs.size f cdv))) (hgd : A.guards = some []) :
    RSs (cxOf (L2N.CX P w) P w K mg base N_law_cheaper "_law_cheaper" (defScope st_law_cheaper) f cdv A outer s H E) T (wE E) (defBody st_law_cheaper) M_law_cheaper := by
  have g : Cg (cxOf (L2N.CX P w) P w K mg base N_law_cheaper "_law_cheaper" (defScope st_law_cheaper) f cdv A outer s H E) k := ⟨rfl, sc_law_cheaper.nd, hr, hgd⟩
  have tk : L2N.Takes (cxOf (L2N.CX P w) P w K mg base N_law_cheaper "_law_cheaper" (defScope st_law_cheaper) f cdv A outer s H E) (wE E) := L2N.takes_of rfl rfl rfl rfl
  have hp := passes_of (X := cxOf (L2N.CX P w) P w K mg base N_law_cheaper "_law_cheaper" (defScope st_law_cheaper) f cdv A outer s H E) rfl
  exact (ss_cons (sset g 3 (xcall g tk h_law_pays (ra_cons (xv 0) (ra_cons (xv 1) (ra_cons (xv 2) ra_nil)))))
  (ss_cons (s_for hp g.hc (irng1 bl (ra_cons (xlen bl (ra_cons (xv 1) ra_nil)) ra_nil)) (gn g 4) (ss_one (s_for hp g.hc (irng1 bl (ra_cons (xlen bl (ra_cons (xix (xv 1) (xv 4)) ra_nil)) ra_nil)) (gn g 5) (ss_cons (sset g 6 (re_op m_add (re_op m_add (re_slice (xv 2) rp_none (rp_some (xv 4))) (re_tup (ra_cons (xv 5) ra_nil))) (re_slice (xv 2) (rp_some (re_op m_add (xv 4) re_int)) rp_none)))
  (ss_one (s_if (tcmp m_lt (xix (xcall g tk h_law_pays (ra_cons (xv 0) (ra_cons (xv 1) (ra_cons (xv 6) ra_nil)))) (xv 4)) (xix (xv 3) (xv 4))) (ss_one (s_ret (re_tup (ra_cons (xv 4) (ra_cons (xv 5) ra_nil))))) ss_nil))))))
  (ss_one (s_ret re_non))))
theorem c_law_cheaper (h_law_pays : CalM P w K mg base T k "_law_pays" ["costs", "ways", "row"] F_law_pays) (bl : Blt mg) {f : Addr} (F : ∃ fd, FunD K "_law_cheaper" "_law_cheaper" (defArgs st_law_cheaper) (defBody st_law_cheaper) (defScope st_law_cheaper) [] [] f fd) (hm : mg "_law_cheaper" = some (.ref f)) : CalM P w K mg base T (k + 1) "_law_cheaper" ["costs", "ways", "row"] F_law_cheaper :=
  CalM.of F hm (fun _ _ _ _ _ _ us hl => match us, hl with | [_, _, _], _ => rfl) sc_law_cheaper fun cdv A outer s H E hr hg => d_law_cheaper h_law_pays bl hr hg

abbrev N_law_right : List Str := ["costs", "ways", "rows", "known", "k", "users", "user", "row"]
abbrev st_law_right : Stmt := top 42
abbrev B1_law_right : SM := (sSeq (sAsg (mComp (List.map (·.2) ([("user", 6)] : List (Str × Nat))) (mRng rng1 (mCons (mCB lenM (mCons (mVar 1) mNil)) mNil)) (gN 6) (mT (mOp neM (mOp ixM (mOp ixM (mVar 2) (mVar 4)) (mVar 6)) (mOp ixM (mOp ixM (mVar 2) (mOp addM (mVar 4) (mRet (.int 1)))) (mVar 6)))) (mVar 6)) (gN 5))
  (sIf (mT (mOr (mOp neM (mCB lenM (mCons (mVar 5) mNil)) (mRet (.int 1))) (mOp geM (mOp ixM (mCall 3 F_law_pays (mCons (mVar 0) (mCons (mVar 1) (mCons (mOp ixM (mVar 2) (mOp addM (mVar 4) (mRet (.int 1)))) mNil)))) (mOp ixM (mVar 5) (mRet (.int 0)))) (mOp ixM (mCall 3 F_law_pays (mCons (mVar 0) (mCons (mVar 1) (mCons (mOp ixM (mVar 2) (mVar 4)) mNil)))) (mOp ixM (mVar 5) (mRet (.int 0))))))) (sRet (mRet (.bl false))) sPass))
def M_law_right : SM := (sSeq (sAsg (mCall 1 F_law_rows (mCons (mVar 1) mNil)) (gN 3))
  (sSeq (sIf (mT (mOr (mOp eqM (mCB lenM (mCons (mVar 2) mNil)) (mRet (.int 0))) (mOp gtM (mCB lenM (mCons (mComp (List.map (·.2) ([("row", 7)] : List (Str × Nat))) (mItm (mVar 2)) (gN 7) (mT (mOp notInM (mVar 7) (mVar 3))) (mVar 7)) mNil)) (mRet (.int 0))))) (sRet (mRet (.bl false))) sPass)
  (sSeq (sFor (mRng rng1 (mCons (mOp subM (mCB lenM (mCons (mVar 2) mNil)) (mRet (.int 1))) mNil)) (gN 4) B1_law_right)
  (sRet (mRet (.bl true))))))
def F_law_right : FM := runC N_law_right M_law_right
theorem sc_law_right : FnScope N_law_right ["costs", "ways", "rows"] (defScope st_law_right) := C8.fnScope_by (by decide +kernel)
theorem d_law_right (h_law_pays : CalM P w K mg base T k "_law_pays" ["costs", "ways", "row"] F_law_pays) (h_law_rows : CalM P w K mg base T k "_law_rows" ["ways"] F_law_rows) (bl : Blt mg) {f : Addr} {cdv : Value} {A : Around} {outer : List PySem.Env} {s : Shared} {H : Hp} {E : XK} (hr : Room k (A.deeper (envOfC "_law_right" (defScope st_law_right) s.heap.objs.size f cdv))) (hgd : A.guards = some []) :
    RSs (cxOf (L2N.CX P w) P w K mg base N_law_right "_law_right" (defScope st_law_right) f cdv A outer s H E) T (wE E) (defBody st_law_right) M_law_right := by
  have g : Cg (cxOf (L2N.CX P w) P w K mg base N_law_right "_law_right" (defScope st_law_right) f cdv A outer s H E) k := ⟨rfl, sc_law_right.nd, hr, hgd⟩
  have tk : L2N.Takes (cxOf (L2N.CX P w) P w K mg base N_law_right "_law_right" (defScope st_law_right) f cdv A outer s H E) (wE E) := L2N.takes_of rfl rfl rfl rfl
  have hp := passes_of (X := cxOf (L2N.CX P w) P w K mg base N_law_right "_law_right" (defScope st_law_right) f cdv A outer s H E) rfl
  exact (ss_cons (sset g 3 (xcall g tk h_law_rows (ra_cons (xv 1) ra_nil)))
  (ss_cons (s_if (rt_bop (rw_or (tcmp (m_eq g.u64) (xlen bl (ra_cons (xv 2) ra_nil)) re_int) (rw_or1 (tcmp m_gt (xlen bl (ra_cons (xcomp g ([("row", 7)] : List (Str × Nat)) (ri_seq (xv 2)) (fun _ _ _ _ _ => (gn g.b 7)) (fun _ _ _ _ _ => (rts_one (tcmp (m_notIn g.b.u65) (xv 7) (xv 3)))) (fun _ _ _ _ _ => (xv 7))) ra_nil)) re_int)))) (ss_one (s_ret re_bl)) ss_nil)
  (ss_cons (s_for hp g.hc (irng1 bl (ra_cons (re_op m_sub (xlen bl (ra_cons (xv 2) ra_nil)) re_int) ra_nil)) (gn g 4) (ss_cons (scomp g 5 ([("user", 6)] : List (Str × Nat)) (irng1 bl (ra_cons (xlen bl (ra_cons (xv 1) ra_nil)) ra_nil)) (fun _ _ _ _ _ => (gn g.b 6)) (fun _ _ _ _ _ => (rts_one (tcmp (m_ne g.b.u64) (xix (xix (xv 2) (xv 4)) (xv 6)) (xix (xix (xv 2) (re_op m_add (xv 4) re_int)) (xv 6))))) (fun _ _ _ _ _ => (xv 6)))
  (ss_one (s_if (rt_bop (rw_or (tcmp (m_ne g.u64) (xlen bl (ra_cons (xv 5) ra_nil)) re_int) (rw_or1 (tcmp m_ge (xix (xcall g tk h_law_pays (ra_cons (xv 0) (ra_cons (xv 1) (ra_cons (xix (xv 2) (re_op m_add (xv 4) re_int)) ra_nil)))) (xix (xv 5) re_int)) (xix (xcall g tk h_law_pays (ra_cons (xv 0) (ra_cons (xv 1) (ra_cons (xix (xv 2) (xv 4)) ra_nil)))) (xix (xv 5) re_int)))))) (ss_one (s_ret re_bl)) ss_nil))))
  (ss_one (s_ret re_bl)))))
theorem c_law_right (h_law_pays : CalM P w K mg base T k "_law_pays" ["costs", "ways", "row"] F_law_pays) (h_law_rows : CalM P w K mg base T k "_law_rows" ["ways"] F_law_rows) (bl : Blt mg) {f : Addr} (F : ∃ fd, FunD K "_law_right" "_law_right" (defArgs st_law_right) (defBody st_law_right) (defScope st_law_right) [] [] f fd) (hm : mg "_law_right" = some (.ref f)) : CalM P w K mg base T (k + 1) "_law_right" ["costs", "ways", "rows"] F_law_right :=
  CalM.of F hm (fun _ _ _ _ _ _ us hl => match us, hl with | [_, _, _], _ => rfl) sc_law_right fun cdv A outer s H E hr hg => d_law_right h_law_pays h_law_rows bl hr hg

abbrev N_law : List Str := ["script", "state", "turn", "costs", "ways", "rows", "row", "step", "told", "user", "other", "line", "k", "rest", "heights", "low", "papers", "bad", "one", "two", "wide", "odd", "paper"]
abbrev st_law : Stmt := top 43
abbrev B1_law : SM := (sSeq (sAsg (mCall 3 F_law_cheaper (mCons (mVar 3) (mCons (mVar 4) (mCons (mOp ixM (mVar 11) (mUn negM (mRet (.int 1)))) mNil)))) (gN 7))
  (sSeq (sIf (mT (mOp isM (mVar 7) (mRet .non))) (fun ρ μ => .bk ρ μ) sPass)
  (sDrop (mMeth appM (mVar 11) (mCons (mOp addM (mOp addM (mSlice (mOp ixM (mVar 11) (mUn negM (mRet (.int 1)))) mNoPart (mPart (mOp ixM (mVar 7) (mRet (.int 0))))) (mTup (mCons (mOp ixM (mVar 7) (mRet (.int 1))) mNil))) (mSlice (mOp ixM (mVar 11) (mUn negM (mRet (.int 1)))) (mPart (mOp addM (mOp ixM (mVar 7) (mRet (.int 0))) (mRet (.int 1)))) mNoPart)) mNil)))))
abbrev B2_law (C : Fin 5 → Addr) : SM := (sSeq (sAsg (mLst (mCons (mTold (ksE C) (mCall 3 F_p_loads (mCons (mVar 18) (mCons (mVar 19) (mCons (mVar 6) mNil))))) (mCons (mTold (ksE C) (mCall 2 F_p_resting_rows (mCons (mVar 18) (mCons (mVar 19) mNil)))) (mCons (mTold (ksE C) (mCall 3 F_p_judge_way (mCons (mVar 18) (mCons (mVar 19) (mCons (mLst (mCons (mVar 6) mNil)) mNil))))) mNil)))) (gN 21))
  (sIf (mT (mOp neM (mVar 21) (mOp mulM2 (mLst (mCons (mTup (mCons (mRet (.str "refused")) mNil)) mNil)) (mRet (.int 3))))) (sRet (mRet (.bl false))) sPass))
abbrev B3_law (C : Fin 5 → Addr) : SM := (sSeq (sAsg (mCall 1 F_law_crowd (mCons (mVar 1) mNil)) (gT ((gN 3) :: ((gN 4) :: []))))
  (sSeq (sAsg (mCall 1 F_law_rows (mCons (mVar 4) mNil)) (gN 5))
  (sSeq (sAsg (mOp ixM (mVar 5) (mCall 2 F_law_next (mCons (mVar 1) (mCons (mCB lenM (mCons (mVar 5) mNil)) mNil)))) (gN 6))
  (sSeq (sAsg (mCall 3 F_law_cheaper (mCons (mVar 3) (mCons (mVar 4) (mCons (mVar 6) mNil)))) (gN 7))
  (sSeq (sAsg (mLst (mCons (mCall 3 F_p_loads (mCons (mVar 3) (mCons (mVar 4) (mCons (mVar 6) mNil)))) (mCons (mCall 3 F_p_pays (mCons (mVar 3) (mCons (mVar 4) (mCons (mVar 6) mNil)))) (mCons (mCall 3 F_p_height (mCons (mVar 3) (mCons (mVar 4) (mCons (mVar 6) mNil)))) (mCons (mCall 3 F_p_first_cheaper (mCons (mVar 3) (mCons (mVar 4) (mCons (mVar 6) mNil)))) (mCons (mCall 3 F_p_is_resting (mCons (mVar 3) (mCons (mVar 4) (mCons (mVar 6) mNil)))) mNil)))))) (gN 8))
  (sSeq (sIf (mT (mNot (mCall 2 F_law_same (mCons (mVar 8) (mCons (mLst (mCons (mCall 3 F_law_loads (mCons (mVar 3) (mCons (mVar 4) (mCons (mVar 6) mNil)))) (mCons (mCall 3 F_law_pays (mCons (mVar 3) (mCons (mVar 4) (mCons (mVar 6) mNil)))) (mCons (mCall 3 F_law_height (mCons (mVar 3) (mCons (mVar 4) (mCons (mVar 6) mNil)))) (mCons (mVar 7) (mCons (mOp isM (mVar 7) (mRet .non)) mNil)))))) mNil))))) (sRet (mRet (.bl false))) sPass)
  (sSeq (sAsg (mCall 2 F_law_next (mCons (mVar 1) (mCons (mCB lenM (mCons (mVar 4) mNil)) mNil))) (gN 9))
  (sSeq (sAsg (mOp addM (mOp addM (mSlice (mVar 6) mNoPart (mPart (mVar 9))) (mTup (mCons (mCall 2 F_law_next (mCons (mVar 1) (mCons (mCB lenM (mCons (mOp ixM (mVar 4) (mVar 9)) mNil)) mNil))) mNil))) (mSlice (mVar 6) (mPart (mOp addM (mVar 9) (mRet (.int 1)))) mNoPart)) (gN 10))
  (sSeq (sIf (mT (mOp neM (mOp subM (mCall 3 F_p_height (mCons (mVar 3) (mCons (mVar 4) (mCons (mVar 10) mNil)))) (mCall 3 F_p_height (mCons (mVar 3) (mCons (mVar 4) (mCons (mVar 6) mNil))))) (mOp subM (mOp ixM (mCall 3 F_p_pays (mCons (mVar 3) (mCons (mVar 4) (mCons (mVar 10) mNil)))) (mVar 9)) (mOp ixM (mCall 3 F_p_pays (mCons (mVar 3) (mCons (mVar 4) (mCons (mVar 6) mNil)))) (mVar 9))))) (sRet (mRet (.bl false))) sPass)
  (sSeq (sAsg (mLstC (mCons (mVar 6) mNil)) (gN 11))
  (sSeq (sFor (mRng rng1 (mCons (mRet (.int 400)) mNil)) (gN 12) B1_law)
  (sSeq (sAsg (mComp (List.map (·.2) ([("one", 18)] : List (Str × Nat))) (mItm (mVar 5)) (gN 18) (mT (mOp isM (mCall 3 F_law_cheaper (mCons (mVar 3) (mCons (mVar 4) (mCons (mVar 18) mNil)))) (mRet .non))) (mVar 18)) (gN 13))
  (sSeq (sAsg (mComp (List.map (·.2) ([("one", 18)] : List (Str × Nat))) (mItm (mVar 5)) (gN 18) mYes (mCall 3 F_law_height (mCons (mVar 3) (mCons (mVar 4) (mCons (mVar 18) mNil))))) (gN 14))
  (sSeq (sAsg (mOp ixM (mVar 5) (mMeth idxM (mVar 14) (mCons (mCB minM (mCons (mVar 14) mNil)) mNil))) (gN 15))
  (sSeq (sIf (mT (mOr (mNot (mCall 2 F_law_same (mCons (mLst (mCons (mCall 3 F_p_way_down (mCons (mVar 3) (mCons (mVar 4) (mCons (mVar 6) mNil)))) (mCons (mCall 2 F_p_resting_rows (mCons (mVar 3) (mCons (mVar 4) mNil))) (mCons (mCall 2 F_p_lowest (mCons (mVar 3) (mCons (mVar 4) mNil))) mNil)))) (mCons (mLst (mCons (mVar 11) (mCons (mVar 13) (mCons (mVar 15) mNil)))) mNil)))) (mOp notInM (mVar 15) (mVar 13)))) (sRet (mRet (.bl false))) sPass)
  (sSeq (sAsg (mLst (mCons (mVar 11) (mCons (mUn revM (mVar 11)) (mCons (mSlice (mVar 11) (mPart (mRet (.int 1))) mNoPart) (mCons (mOp addM (mVar 11) (mLst (mCons (mVar 6) mNil))) (mCons (mLst (mCons (mVar 6) (mCons (mVar 10) mNil))) (mCons (mLst mNil) (mCons (mLst (mCons (mOp addM (mVar 6) (mTup (mCons (mRet (.int 0)) mNil))) mNil)) (mCons (mLst (mCons (mVar 6) mNil)) mNil))))))))) (gN 16))
  (sSeq (sIf (mT (mNot (mCall 2 F_law_same (mCons (mComp (List.map (·.2) ([("paper", 22)] : List (Str × Nat))) (mItm (mVar 16)) (gN 22) mYes (mCall 3 F_p_judge_way (mCons (mVar 3) (mCons (mVar 4) (mCons (mVar 22) mNil))))) (mCons (mComp (List.map (·.2) ([("paper", 22)] : List (Str × Nat))) (mItm (mVar 16)) (gN 22) mYes (mCall 3 F_law_right (mCons (mVar 3) (mCons (mVar 4) (mCons (mVar 22) mNil))))) mNil))))) (sRet (mRet (.bl false))) sPass)
  (sSeq (sAsg (mLst (mCons (mTup (mCons (mTup mNil) (mCons (mVar 4) mNil))) (mCons (mTup (mCons (mOp addM (mTup (mCons (mOp mulM2 (mTup (mCons (mRet (.int 0)) mNil)) (mOp addM (mCB lenM (mCons (mVar 4) mNil)) (mRet (.int 1)))) mNil)) (mSlice (mVar 3) (mPart (mRet (.int 1))) mNoPart)) (mCons (mVar 4) mNil))) (mCons (mTup (mCons (mOp addM (mTup (mCons (mOp mulM2 (mTup (mCons (mRet (.int 100)) mNil)) (mCB lenM (mCons (mVar 4) mNil))) mNil)) (mSlice (mVar 3) (mPart (mRet (.int 1))) mNoPart)) (mCons (mVar 4) mNil))) (mCons (mTup (mCons (mVar 3) (mCons (mTup mNil) mNil))) mNil))))) (gN 17))
  (sSeq (sAsg (mOp addM (mVar 17) (mLst (mCons (mTup (mCons (mVar 3) (mCons (mOp addM (mTup (mCons (mTup mNil) mNil)) (mSlice (mVar 4) (mPart (mRet (.int 1))) mNoPart)) mNil))) (mCons (mTup (mCons (mVar 3) (mCons (mOp addM (mTup (mCons (mTup (mCons (mTup (mCons (mRet (.int 9)) mNil)) mNil)) mNil)) (mSlice (mVar 4) (mPart (mRet (.int 1))) mNoPart)) mNil))) (mCons (mTup (mCons (mVar 3) (mCons (mOp addM (mTup (mCons (mTup (mCons (mTup mNil) mNil)) mNil)) (mSlice (mVar 4) (mPart (mRet (.int 1))) mNoPart)) mNil))) (mCons (mTup (mCons (mVar 3) (mCons (mOp addM (mTup (mCons (mTup (mCons (mTup (mCons (mRet (.int 0)) (mCons (mRet (.int 0)) mNil))) mNil)) mNil)) (mSlice (mVar 4) (mPart (mRet (.int 1))) mNoPart)) mNil))) mNil)))))) (gN 17))
  (sSeq (sFor (mItm (mVar 17)) (gT ((gN 18) :: ((gN 19) :: []))) (B2_law C))
  (sSeq (sAsg (mOp mulM2 (mTup (mCons (mOp mulM2 (mTup (mCons (mTup (mCons (mRet (.int 0)) mNil)) mNil)) (mRet (.int 6))) mNil)) (mRet (.int 4))) (gN 20))
  (sSeq (sAsg (mLst (mCons (mTold (ksE C) (mCall 3 F_p_pays (mCons (mVar 3) (mCons (mVar 4) (mCons (mOp addM (mVar 6) (mTup (mCons (mRet (.int 0)) mNil))) mNil))))) (mCons (mTold (ksE C) (mCall 3 F_p_height (mCons (mVar 3) (mCons (mVar 4) (mCons (mOp addM (mTup (mCons (mRet (.int 9)) mNil)) (mSlice (mVar 6) (mPart (mRet (.int 1))) mNoPart)) mNil))))) (mCons (mTold (ksE C) (mCall 2 F_p_resting_rows (mCons (mTup (mCons (mOp mulM2 (mTup (mCons (mRet (.int 0)) mNil)) (mRet (.int 4))) mNil)) (mCons (mVar 20) mNil)))) (mCons (mTold (ksE C) (mCall 2 F_p_lowest (mCons (mTup (mCons (mOp mulM2 (mTup (mCons (mRet (.int 0)) mNil)) (mRet (.int 4))) mNil)) (mCons (mVar 20) mNil)))) mNil))))) (gN 21))
  (sIf (mT (mOp neM (mVar 21) (mOp addM (mOp mulM2 (mLst (mCons (mTup (mCons (mRet (.str "refused")) mNil)) mNil)) (mRet (.int 2))) (mOp mulM2 (mLst (mCons (mTup (mCons (mRet (.str "large")) mNil)) mNil)) (mRet (.int 2)))))) (sRet (mRet (.bl false))) sPass)))))))))))))))))))))))
def M_law (C : Fin 5 → Addr) : SM := (sSeq (sAsg (mLstC (mCons (mCall 1 F_law_stream (mCons (mVar 0) mNil)) (mCons (mRet (.int 0)) mNil))) (gN 1))
  (sSeq (sFor (mRng rng1 (mCons (mRet (.int 4)) mNil)) (gN 2) (B3_law C))
  (sRet (mOp eqM (mTup (mCons (mRet (.int 6)) (mCons (mRet (.int 4)) (mCons (mRet (.int 6)) (mCons (mRet (.int 99)) (mCons (mRet (.int 700)) mNil)))))) (mTup (mCons (mRet (.int 6)) (mCons (mRet (.int 4)) (mCons (mRet (.int 6)) (mCons (mRet (.int 99)) (mCons (mRet (.int 700)) mNil))))))))))
def F_law (C : Fin 5 → Addr) : FM := runC N_law (M_law C)
theorem sc_law : FnScope N_law ["script"] (defScope st_law) := C8.fnScope_by (by decide +kernel)
theorem d_law (h_MAX_COST : ∃ t, mg "MAX_COST" = some (.int 99 t)) (h_MAX_ROWS : ∃ t, mg "MAX_ROWS" = some (.int 700 t)) (h_MAX_THINGS : ∃ t, mg "MAX_THINGS" = some (.int 6 t)) (h_MAX_USERS : ∃ t, mg "MAX_USERS" = some (.int 4 t)) (h_MAX_WAYS : ∃ t, mg "MAX_WAYS" = some (.int 6 t)) (h_law_cheaper : CalM P w K mg base T k "_law_cheaper" ["costs", "ways", "row"] F_law_cheaper) (h_law_crowd : CalM P w K mg base T k "_law_crowd" ["state"] F_law_crowd) (h_law_height : CalM P w K mg base T k "_law_height" ["costs", "ways", "row"] F_law_height) (h_law_loads : CalM P w K mg base T k "_law_loads" ["costs", "ways", "row"] F_law_loads) (h_law_next : CalM P w K mg base T k "_law_next" ["state", "many"] F_law_next) (h_law_pays : CalM P w K mg base T k "_law_pays" ["costs", "ways", "row"] F_law_pays) (h_law_right : CalM P w K mg base T k "_law_right" ["costs", "ways", "rows"] F_law_right) (h_law_rows : CalM P w K mg base T k "_law_rows" ["ways"] F_law_rows) (h_law_same : CalM P w K mg base T k "_law_same" ["told", "due"] F_law_same) (h_law_stream : CalM P w K mg base T k "_law_stream" ["script"] F_law_stream) (h_p_first_cheaper : CalM P w K mg base T k "first_cheaper" ["costs", "ways", "row"] F_p_first_cheaper) (h_p_height : CalM P w K mg base T k "height" ["costs", "ways", "row"] F_p_height) (h_p_is_resting : CalM P w K mg base T k "is_resting" ["costs", "ways", "row"] F_p_is_resting) (h_p_judge_way : CalM P w K mg base T k "judge_way" ["costs", "ways", "rows"] F_p_judge_way) (h_p_loads : CalM P w K mg base T k "loads" ["costs", "ways", "row"] F_p_loads) (h_p_lowest : CalM P w K mg base T k "lowest" ["costs", "ways"] F_p_lowest) (h_p_pays : CalM P w K mg base T k "pays" ["costs", "ways", "row"] F_p_pays) (h_p_resting_rows : CalM P w K mg base T k "resting_rows" ["costs", "ways"] F_p_resting_rows) (h_p_way_down : CalM P w K mg base T k "way_down" ["costs", "ways", "row"] F_p_way_down) (bl : Blt mg) {C : Fin 5 → Addr} {f : Addr} {cdv : Value} {A : Around} {outer : List PySem.Env} {s : Shared} {H : Hp} {E : XK} (tl : TellR (cxOf (L2N.CX P w) P w K mg base N_law "law" (defScope st_law) f cdv A outer s H E) T (wE E) "_law_told" (ksE C) k) (hr : Room k (A.deeper (envOfC "law" (defScope st_law) s.heap.objs.size f cdv))) (hgd : A.guards = some []) :
    RSs (cxOf (L2N.CX P w) P w K mg base N_law "law" (defScope st_law) f cdv A outer s H E) T (wE E) (defBody st_law) (M_law C) := by
  have g : Cg (cxOf (L2N.CX P w) P w K mg base N_law "law" (defScope st_law) f cdv A outer s H E) k := ⟨rfl, sc_law.nd, hr, hgd⟩
  have tk : L2N.Takes (cxOf (L2N.CX P w) P w K mg base N_law "law" (defScope st_law) f cdv A outer s H E) (wE E) := L2N.takes_of rfl rfl rfl rfl
  have hp := passes_of (X := cxOf (L2N.CX P w) P w K mg base N_law "law" (defScope st_law) f cdv A outer s H E) rfl
  exact (ss_cons (sset g 1 (re_lstC (ra_cons (xcall g tk h_law_stream (ra_cons (xv 0) ra_nil)) (ra_cons re_int ra_nil))))
  (ss_cons (s_for hp g.hc (irng1 bl (ra_cons re_int ra_nil)) (gn g 2) (ss_cons (s_asg (xcall g tk h_law_crowd (ra_cons (xv 1) ra_nil)) (gt g (gs_cons (gn g 3) (gs_cons (gn g 4) gs_nil))))
  (ss_cons (sset g 5 (xcall g tk h_law_rows (ra_cons (xv 4) ra_nil)))
  (ss_cons (sset g 6 (xix (xv 5) (xcall g tk h_law_next (ra_cons (xv 1) (ra_cons (xlen bl (ra_cons (xv 5) ra_nil)) ra_nil)))))
  (ss_cons (sset g 7 (xcall g tk h_law_cheaper (ra_cons (xv 3) (ra_cons (xv 4) (ra_cons (xv 6) ra_nil)))))
  (ss_cons (sset g 8 (re_lst (ra_cons (xcall g tk h_p_loads (ra_cons (xv 3) (ra_cons (xv 4) (ra_cons (xv 6) ra_nil)))) (ra_cons (xcall g tk h_p_pays (ra_cons (xv 3) (ra_cons (xv 4) (ra_cons (xv 6) ra_nil)))) (ra_cons (xcall g tk h_p_height (ra_cons (xv 3) (ra_cons (xv 4) (ra_cons (xv 6) ra_nil)))) (ra_cons (xcall g tk h_p_first_cheaper (ra_cons (xv 3) (ra_cons (xv 4) (ra_cons (xv 6) ra_nil)))) (ra_cons (xcall g tk h_p_is_resting (ra_cons (xv 3) (ra_cons (xv 4) (ra_cons (xv 6) ra_nil)))) ra_nil)))))))
  (ss_cons (s_if (rt_not (rt_val (xcall g tk h_law_same (ra_cons (xv 8) (ra_cons (re_lst (ra_cons (xcall g tk h_law_loads (ra_cons (xv 3) (ra_cons (xv 4) (ra_cons (xv 6) ra_nil)))) (ra_cons (xcall g tk h_law_pays (ra_cons (xv 3) (ra_cons (xv 4) (ra_cons (xv 6) ra_nil)))) (ra_cons (xcall g tk h_law_height (ra_cons (xv 3) (ra_cons (xv 4) (ra_cons (xv 6) ra_nil)))) (ra_cons (xv 7) (ra_cons (xcmp m_is (xv 7) re_non) ra_nil)))))) ra_nil))))) (ss_one (s_ret re_bl)) ss_nil)
  (ss_cons (sset g 9 (xcall g tk h_law_next (ra_cons (xv 1) (ra_cons (xlen bl (ra_cons (xv 4) ra_nil)) ra_nil))))
  (ss_cons (sset g 10 (re_op m_add (re_op m_add (re_slice (xv 6) rp_none (rp_some (xv 9))) (re_tup (ra_cons (xcall g tk h_law_next (ra_cons (xv 1) (ra_cons (xlen bl (ra_cons (xix (xv 4) (xv 9)) ra_nil)) ra_nil))) ra_nil))) (re_slice (xv 6) (rp_some (re_op m_add (xv 9) re_int)) rp_none)))
  (ss_cons (s_if (tcmp (m_ne g.u64) (re_op m_sub (xcall g tk h_p_height (ra_cons (xv 3) (ra_cons (xv 4) (ra_cons (xv 10) ra_nil)))) (xcall g tk h_p_height (ra_cons (xv 3) (ra_cons (xv 4) (ra_cons (xv 6) ra_nil))))) (re_op m_sub (xix (xcall g tk h_p_pays (ra_cons (xv 3) (ra_cons (xv 4) (ra_cons (xv 10) ra_nil)))) (xv 9)) (xix (xcall g tk h_p_pays (ra_cons (xv 3) (ra_cons (xv 4) (ra_cons (xv 6) ra_nil)))) (xv 9)))) (ss_one (s_ret re_bl)) ss_nil)
  (ss_cons (sset g 11 (re_lstC (ra_cons (xv 6) ra_nil)))
  (ss_cons (s_for hp g.hc (irng1 bl (ra_cons re_int ra_nil)) (gn g 12) (ss_cons (sset g 7 (xcall g tk h_law_cheaper (ra_cons (xv 3) (ra_cons (xv 4) (ra_cons (xix (xv 11) (re_un m_neg re_int)) ra_nil)))))
  (ss_cons (s_if (tcmp m_is (xv 7) re_non) (ss_one s_break) ss_nil)
  (ss_one (s_expr (re_append (xv 11) (ra_cons (re_op m_add (re_op m_add (re_slice (xix (xv 11) (re_un m_neg re_int)) rp_none (rp_some (xix (xv 7) re_int))) (re_tup (ra_cons (xix (xv 7) re_int) ra_nil))) (re_slice (xix (xv 11) (re_un m_neg re_int)) (rp_some (re_op m_add (xix (xv 7) re_int) re_int)) rp_none)) ra_nil)))))))
  (ss_cons (scomp g 13 ([("one", 18)] : List (Str × Nat)) (ri_seq (xv 5)) (fun _ _ _ _ _ => (gn g.b 18)) (fun _ _ _ _ _ => (rts_one (tcmp m_is (xcall g.b tk0 h_law_cheaper (ra_cons (xv 3) (ra_cons (xv 4) (ra_cons (xv 18) ra_nil)))) re_non))) (fun _ _ _ _ _ => (xv 18)))
  (ss_cons (scomp g 14 ([("one", 18)] : List (Str × Nat)) (ri_seq (xv 5)) (fun _ _ _ _ _ => (gn g.b 18)) (fun _ _ _ _ _ => rts_nil) (fun _ _ _ _ _ => (xcall g.b tk0 h_law_height (ra_cons (xv 3) (ra_cons (xv 4) (ra_cons (xv 18) ra_nil))))))
  (ss_cons (sset g 15 (xix (xv 5) (re_index g.u65 (xv 14) (ra_cons (xmin g bl (ra_cons (xv 14) ra_nil)) ra_nil))))
  (ss_cons (s_if (rt_bop (rw_or (rt_not (rt_val (xcall g tk h_law_same (ra_cons (re_lst (ra_cons (xcall g tk h_p_way_down (ra_cons (xv 3) (ra_cons (xv 4) (ra_cons (xv 6) ra_nil)))) (ra_cons (xcall g tk h_p_resting_rows (ra_cons (xv 3) (ra_cons (xv 4) ra_nil))) (ra_cons (xcall g tk h_p_lowest (ra_cons (xv 3) (ra_cons (xv 4) ra_nil))) ra_nil)))) (ra_cons (re_lst (ra_cons (xv 11) (ra_cons (xv 13) (ra_cons (xv 15) ra_nil)))) ra_nil))))) (rw_or1 (tcmp (m_notIn g.u65) (xv 15) (xv 13))))) (ss_one (s_ret re_bl)) ss_nil)
  (ss_cons (sset g 16 (re_lst (ra_cons (xv 11) (ra_cons (re_rev (xv 11)) (ra_cons (re_slice (xv 11) (rp_some re_int) rp_none) (ra_cons (re_op m_add (xv 11) (re_lst (ra_cons (xv 6) ra_nil))) (ra_cons (re_lst (ra_cons (xv 6) (ra_cons (xv 10) ra_nil))) (ra_cons (re_lst ra_nil) (ra_cons (re_lst (ra_cons (re_op m_add (xv 6) (re_tup (ra_cons re_int ra_nil))) ra_nil)) (ra_cons (re_lst (ra_cons (xv 6) ra_nil)) ra_nil))))))))))
  (ss_cons (s_if (rt_not (rt_val (xcall g tk h_law_same (ra_cons (xcomp g ([("paper", 22)] : List (Str × Nat)) (ri_seq (xv 16)) (fun _ _ _ _ _ => (gn g.b 22)) (fun _ _ _ _ _ => rts_nil) (fun _ _ _ _ _ => (xcall g.b tk0 h_p_judge_way (ra_cons (xv 3) (ra_cons (xv 4) (ra_cons (xv 22) ra_nil)))))) (ra_cons (xcomp g ([("paper", 22)] : List (Str × Nat)) (ri_seq (xv 16)) (fun _ _ _ _ _ => (gn g.b 22)) (fun _ _ _ _ _ => rts_nil) (fun _ _ _ _ _ => (xcall g.b tk0 h_law_right (ra_cons (xv 3) (ra_cons (xv 4) (ra_cons (xv 22) ra_nil)))))) ra_nil))))) (ss_one (s_ret re_bl)) ss_nil)
  (ss_cons (sset g 17 (re_lst (ra_cons (re_tup (ra_cons (re_tup ra_nil) (ra_cons (xv 4) ra_nil))) (ra_cons (re_tup (ra_cons (re_op m_add (re_tup (ra_cons (re_op m_mul2 (re_tup (ra_cons re_int ra_nil)) (re_op m_add (xlen bl (ra_cons (xv 4) ra_nil)) re_int)) ra_nil)) (re_slice (xv 3) (rp_some re_int) rp_none)) (ra_cons (xv 4) ra_nil))) (ra_cons (re_tup (ra_cons (re_op m_add (re_tup (ra_cons (re_op m_mul2 (re_tup (ra_cons re_int ra_nil)) (xlen bl (ra_cons (xv 4) ra_nil))) ra_nil)) (re_slice (xv 3) (rp_some re_int) rp_none)) (ra_cons (xv 4) ra_nil))) (ra_cons (re_tup (ra_cons (xv 3) (ra_cons (re_tup ra_nil) ra_nil))) ra_nil))))))
  (ss_cons (sset g 17 (re_op m_add (xv 17) (re_lst (ra_cons (re_tup (ra_cons (xv 3) (ra_cons (re_op m_add (re_tup (ra_cons (re_tup ra_nil) ra_nil)) (re_slice (xv 4) (rp_some re_int) rp_none)) ra_nil))) (ra_cons (re_tup (ra_cons (xv 3) (ra_cons (re_op m_add (re_tup (ra_cons (re_tup (ra_cons (re_tup (ra_cons re_int ra_nil)) ra_nil)) ra_nil)) (re_slice (xv 4) (rp_some re_int) rp_none)) ra_nil))) (ra_cons (re_tup (ra_cons (xv 3) (ra_cons (re_op m_add (re_tup (ra_cons (re_tup (ra_cons (re_tup ra_nil) ra_nil)) ra_nil)) (re_slice (xv 4) (rp_some re_int) rp_none)) ra_nil))) (ra_cons (re_tup (ra_cons (xv 3) (ra_cons (re_op m_add (re_tup (ra_cons (re_tup (ra_cons (re_tup (ra_cons re_int (ra_cons re_int ra_nil))) ra_nil)) ra_nil)) (re_slice (xv 4) (rp_some re_int) rp_none)) ra_nil))) ra_nil)))))))
  (ss_cons (s_for hp g.hc (ri_seq (xv 17)) (gt g (gs_cons (gn g 18) (gs_cons (gn g 19) gs_nil))) (ss_cons (sset g 21 (re_lst (ra_cons (tl N_law (by rfl) (by decide) rfl (fun _ _ _ _ _ => rfl) (fun A1 o1 s1 H1 E1 f1 c1 hr1 hg1 => (xcall (lamCg sc_law.nd hr1 hg1) (L2N.takes_of rfl rfl rfl rfl) h_p_loads (ra_cons (xv 18) (ra_cons (xv 19) (ra_cons (xv 6) ra_nil)))))) (ra_cons (tl N_law (by rfl) (by decide) rfl (fun _ _ _ _ _ => rfl) (fun A1 o1 s1 H1 E1 f1 c1 hr1 hg1 => (xcall (lamCg sc_law.nd hr1 hg1) (L2N.takes_of rfl rfl rfl rfl) h_p_resting_rows (ra_cons (xv 18) (ra_cons (xv 19) ra_nil))))) (ra_cons (tl N_law (by rfl) (by decide) rfl (fun _ _ _ _ _ => rfl) (fun A1 o1 s1 H1 E1 f1 c1 hr1 hg1 => (xcall (lamCg sc_law.nd hr1 hg1) (L2N.takes_of rfl rfl rfl rfl) h_p_judge_way (ra_cons (xv 18) (ra_cons (xv 19) (ra_cons (re_lst (ra_cons (xv 6) ra_nil)) ra_nil)))))) ra_nil)))))
  (ss_one (s_if (tcmp (m_ne g.u64) (xv 21) (re_op m_mul2 (re_lst (ra_cons (re_tup (ra_cons re_str ra_nil)) ra_nil)) re_int)) (ss_one (s_ret re_bl)) ss_nil))))
  (ss_cons (sset g 20 (re_op m_mul2 (re_tup (ra_cons (re_op m_mul2 (re_tup (ra_cons (re_tup (ra_cons re_int ra_nil)) ra_nil)) re_int) ra_nil)) re_int))
  (ss_cons (sset g 21 (re_lst (ra_cons (tl N_law (by rfl) (by decide) rfl (fun _ _ _ _ _ => rfl) (fun A1 o1 s1 H1 E1 f1 c1 hr1 hg1 => (xcall (lamCg sc_law.nd hr1 hg1) (L2N.takes_of rfl rfl rfl rfl) h_p_pays (ra_cons (xv 3) (ra_cons (xv 4) (ra_cons (re_op m_add (xv 6) (re_tup (ra_cons re_int ra_nil))) ra_nil)))))) (ra_cons (tl N_law (by rfl) (by decide) rfl (fun _ _ _ _ _ => rfl) (fun A1 o1 s1 H1 E1 f1 c1 hr1 hg1 => (xcall (lamCg sc_law.nd hr1 hg1) (L2N.takes_of rfl rfl rfl rfl) h_p_height (ra_cons (xv 3) (ra_cons (xv 4) (ra_cons (re_op m_add (re_tup (ra_cons re_int ra_nil)) (re_slice (xv 6) (rp_some re_int) rp_none)) ra_nil)))))) (ra_cons (tl N_law (by rfl) (by decide) rfl (fun _ _ _ _ _ => rfl) (fun A1 o1 s1 H1 E1 f1 c1 hr1 hg1 => (xcall (lamCg sc_law.nd hr1 hg1) (L2N.takes_of rfl rfl rfl rfl) h_p_resting_rows (ra_cons (re_tup (ra_cons (re_op m_mul2 (re_tup (ra_cons re_int ra_nil)) re_int) ra_nil)) (ra_cons (xv 20) ra_nil))))) (ra_cons (tl N_law (by rfl) (by decide) rfl (fun _ _ _ _ _ => rfl) (fun A1 o1 s1 H1 E1 f1 c1 hr1 hg1 => (xcall (lamCg sc_law.nd hr1 hg1) (L2N.takes_of rfl rfl rfl rfl) h_p_lowest (ra_cons (re_tup (ra_cons (re_op m_mul2 (re_tup (ra_cons re_int ra_nil)) re_int) ra_nil)) (ra_cons (xv 20) ra_nil))))) ra_nil))))))
  (ss_one (s_if (tcmp (m_ne g.u64) (xv 21) (re_op m_add (re_op m_mul2 (re_lst (ra_cons (re_tup (ra_cons re_str ra_nil)) ra_nil)) re_int) (re_op m_mul2 (re_lst (ra_cons (re_tup (ra_cons re_str ra_nil)) ra_nil)) re_int))) (ss_one (s_ret re_bl)) ss_nil)))))))))))))))))))))))))
  (ss_one (s_ret (xcmp (m_eq g.u64) (re_tup (ra_cons (xgi h_MAX_THINGS) (ra_cons (xgi h_MAX_USERS) (ra_cons (xgi h_MAX_WAYS) (ra_cons (xgi h_MAX_COST) (ra_cons (xgi h_MAX_ROWS) ra_nil)))))) (re_tup (ra_cons re_int (ra_cons re_int (ra_cons re_int (ra_cons re_int (ra_cons re_int ra_nil)))))))))))
theorem g_law (h_MAX_COST : ∃ t, mg "MAX_COST" = some (.int 99 t)) (h_MAX_ROWS : ∃ t, mg "MAX_ROWS" = some (.int 700 t)) (h_MAX_THINGS : ∃ t, mg "MAX_THINGS" = some (.int 6 t)) (h_MAX_USERS : ∃ t, mg "MAX_USERS" = some (.int 4 t)) (h_MAX_WAYS : ∃ t, mg "MAX_WAYS" = some (.int 6 t)) (h_law_cheaper : CalM P w K mg base T k "_law_cheaper" ["costs", "ways", "row"] F_law_cheaper) (h_law_crowd : CalM P w K mg base T k "_law_crowd" ["state"] F_law_crowd) (h_law_height : CalM P w K mg base T k "_law_height" ["costs", "ways", "row"] F_law_height) (h_law_loads : CalM P w K mg base T k "_law_loads" ["costs", "ways", "row"] F_law_loads) (h_law_next : CalM P w K mg base T k "_law_next" ["state", "many"] F_law_next) (h_law_pays : CalM P w K mg base T k "_law_pays" ["costs", "ways", "row"] F_law_pays) (h_law_right : CalM P w K mg base T k "_law_right" ["costs", "ways", "rows"] F_law_right) (h_law_rows : CalM P w K mg base T k "_law_rows" ["ways"] F_law_rows) (h_law_same : CalM P w K mg base T k "_law_same" ["told", "due"] F_law_same) (h_law_stream : CalM P w K mg base T k "_law_stream" ["script"] F_law_stream) (h_p_first_cheaper : CalM P w K mg base T k "first_cheaper" ["costs", "ways", "row"] F_p_first_cheaper) (h_p_height : CalM P w K mg base T k "height" ["costs", "ways", "row"] F_p_height) (h_p_is_resting : CalM P w K mg base T k "is_resting" ["costs", "ways", "row"] F_p_is_resting) (h_p_judge_way : CalM P w K mg base T k "judge_way" ["costs", "ways", "rows"] F_p_judge_way) (h_p_loads : CalM P w K mg base T k "loads" ["costs", "ways", "row"] F_p_loads) (h_p_lowest : CalM P w K mg base T k "lowest" ["costs", "ways"] F_p_lowest) (h_p_pays : CalM P w K mg base T k "pays" ["costs", "ways", "row"] F_p_pays) (h_p_resting_rows : CalM P w K mg base T k "resting_rows" ["costs", "ways"] F_p_resting_rows) (h_p_way_down : CalM P w K mg base T k "way_down" ["costs", "ways", "row"] F_p_way_down) (bl : Blt mg) {C : Fin 5 → Addr} {gt Pt CS f : Addr} {fd : FuncData} (F : FunD K "law" "law" (defArgs st_law) (defBody st_law) (defScope st_law) [] [] f fd) {c : Addr} (hc : fd.code = .ref c)
    (FT : ∃ fd, FunD K "_law_told" "_law_told" (defArgs st_law_told) (defBody st_law_told) (defScope st_law_told) [] [] gt fd) (hm : mg "_law_told" = some (.ref gt)) (hmc : mg "ChooseError" = some (.ref CS)) (er : Errs K mg C) (hx : ∀ i : Fin 5, i.val < 3 → PySem.W.exmOne K (.ref (C i)) (.ref CS) = some true)
    (TB : LamX.TabB base mg c Pt) (hT : T = [(Pt, ("law.<locals>.<lambda>" : Str))]) : FnG P w K mg base T (k + 3) f fd ["script"] (F_law C) := by
  obtain ⟨oc, od, dV, kV, doc, pm, an, cdv, ct, osl, rfl, lk, hcd, _, _⟩ := F.ex
  refine FnG.chop (FnG.mk' lk hcd sc_law fun A outer s H E hr hg => ?_)
  subst hT
  exact d_law h_MAX_COST h_MAX_ROWS h_MAX_THINGS h_MAX_USERS h_MAX_WAYS h_law_cheaper h_law_crowd h_law_height h_law_loads h_law_next h_law_pays h_law_right h_law_rows h_law_same h_law_stream h_p_first_cheaper h_p_height h_p_is_resting h_p_judge_way h_p_loads h_p_lowest h_p_pays h_p_resting_rows h_p_way_down bl (tellR (X := cxOf (L2N.CX P w) P w K mg base N_law "law" (defScope st_law) f cdv A outer s H E) FT hm hmc er hx bl TB hc List.mem_cons_self (fun p hp hq => by simp only [List.mem_cons, List.not_mem_nil, or_false] at hp; rw [hp]) hr hg rfl) (hr.mono (by omega)) hg

end
end K33

set_option Elab.async false
set_option linter.all false
set_option maxRecDepth 100000
set_option maxHeartbeats 4000000
/-! ## PL: M-terms evaluated -/
namespace PL
open PySem PySem.Spec PyProof.Rows L2 MM
mutual
/-- no cells in it -/
def nr : MV → Bool
  | .ref _ => false
  | .tup xs => nrs xs
  | .lst xs => nrs xs
  | _ => true
def nrs : List MV → Bool
  | [] => true
  | x :: xs => nr x && nrs xs
end
theorem nrs_all : ∀ xs, nrs xs = xs.all nr
  | [] => rfl
  | x :: xs => by unfold nrs; rw [nrs_all xs]; rfl
theorem nrs_map {α : Type} (f : α → MV) (h : ∀ x, nr (f x) = true) (xs : List α) : nrs (xs.map f) = true := by
  rw [nrs_all, List.all_map, List.all_eq_true]
  exact fun x _ => h x
mutual
theorem okN_nr {n : Nat} : ∀ d, nr d = true → okN n d = true
  | .ref _, h => by cases h
  | .tup xs, h => by unfold okN; exact okNs_nr xs (by unfold nr at h; exact h)
  | .lst xs, h => by unfold okN; exact okNs_nr xs (by unfold nr at h; exact h)
  | .non, _ => rfl
  | .bl _, _ => rfl
  | .int _, _ => rfl
  | .str _, _ => rfl
  | .cst _, _ => rfl
  | .scr _, _ => rfl
theorem okNs_nr {n : Nat} : ∀ xs, nrs xs = true → okN.okNs n xs = true
  | [], _ => rfl
  | x :: xs, h => by
    unfold nrs at h
    rw [Bool.and_eq_true] at h
    unfold okN.okNs
    rw [okN_nr x h.1, okNs_nr xs h.2]
    rfl
end
theorem frz_nr {n : Nat} {μ : Mem} : ∀ (k : Nat), (∀ d, nr d = true → frzN n μ k d = d) ∧ (∀ xs, nrs xs = true → frzN.frzNs n μ k xs = xs) := by
  intro k
  induction k with
  | zero =>
    refine ⟨fun d _ => by unfold frzN; rfl, fun xs => ?_⟩
    induction xs with
    | nil => intro _; unfold frzN.frzNs; rfl
    | cons x xs ih =>
      intro h
      unfold nrs at h
      rw [Bool.and_eq_true] at h
      unfold frzN.frzNs
      rw [ih h.2]
      unfold frzN
      rfl
  | succ k ih =>
    have h1 : ∀ d, nr d = true → frzN n μ (k + 1) d = d := fun d h => by
      cases d with
      | ref _ => cases h
      | tup xs => unfold frzN; unfold nr at h; rw [ih.2 xs h]
      | lst xs => unfold frzN; unfold nr at h; rw [ih.2 xs h]
      | _ => unfold frzN; rfl
    refine ⟨h1, fun xs => ?_⟩
    induction xs with
    | nil => intro _; unfold frzN.frzNs; rfl
    | cons x xs ih2 =>
      intro h
      unfold nrs at h
      rw [Bool.and_eq_true] at h
      unfold frzN.frzNs
      rw [ih2 h.2, h1 x h.1]
/-- the cells mean none beyond -/
def okMem (μ : Mem) : Prop := μ.all (okC μ.length) = true
theorem chop_ok {μ μ' : Mem} {d : MV} (hd : nr d = true) (hm : (μ'.take μ.length).all (okC μ.length) = true) : chopO μ.length (.ok d μ') = .ok d (μ'.take μ.length) := by
  unfold chopO
  dsimp only
  rw [(frz_nr 9).1 d hd, okN_nr d hd, hm]
  rfl
theorem chop_data {μ ν : Mem} {d : MV} (hd : nr d = true) (hm : okMem μ) : chopO μ.length (.ok d (μ ++ ν)) = .ok d μ := by
  have e : (μ ++ ν).take μ.length = μ := List.take_left
  rw [chop_ok hd (by rw [e]; exact hm), e]
theorem chop_same {μ : Mem} {d : MV} (hd : nr d = true) (hm : okMem μ) : chopO μ.length (.ok d μ) = .ok d μ := by
  have := chop_data (ν := []) hd hm
  rwa [List.append_nil] at this
theorem chop_cell {μ μ' : Mem} {i : Nat} {xs : List MV} (hi : μ.length ≤ i) (hx : μ'[i]? = some (.lst xs)) (hd : nrs xs = true) (hm : (μ'.take μ.length).all (okC μ.length) = true) : chopO μ.length (.ok (.ref i) μ') = .ok (.lst xs) (μ'.take μ.length) := by
  have e : frzN μ.length μ' 9 (.ref i) = .lst xs := by
    have : ¬ i < μ.length := Nat.not_lt.mpr hi
    unfold frzN
    rw [if_neg this, hx]
    show MV.lst (frzN.frzNs μ.length μ' 8 xs) = _
    rw [(frz_nr 8).2 xs hd]
  unfold chopO
  dsimp only
  rw [e, okN_nr (.lst xs) (by unfold nr; exact hd), hm]
  rfl
theorem chop_exc {μ ν : Mem} {x : Exc} (hm : okMem μ) : chopO μ.length (.exc x (μ ++ ν)) = .exc x μ := by
  have e : (μ ++ ν).take μ.length = μ := List.take_left
  unfold chopO
  dsimp only
  rw [e]
  have hm : μ.all (okC μ.length) = true := hm
  rw [hm]
  rfl
theorem chop_exc0 {μ : Mem} {x : Exc} (hm : okMem μ) : chopO μ.length (.exc x μ) = .exc x μ := by
  have := chop_exc (ν := []) (x := x) hm
  rwa [List.append_nil] at this
/-! ### whole numbers -/
theorem bits_le {i : Int} {n : Nat} (h : i.natAbs < 2 ^ n) (hn : 0 < n) : i.natAbs.log2 < n := by
  by_cases z : i.natAbs = 0
  · rw [z]
    simpa using hn
  · exact (Nat.log2_lt z).mpr h
/-! ### lists walked -/
/-- items of what is walked: nothing is to be checked -/
theorem ok_nil {xs : List MV} {μ : Mem} : (⟨xs, []⟩ : Itm).ok μ := fun p hp => absurd hp (by simp)
/-- a for over items by a fold -/
theorem for_fold {α S : Type} {xs0 : List MV} {g : TgM} {b : SM} (rep : α → MV) (env : S → MM.Env) (mem : S → Mem) (step : S → α → S) (I : S → Prop) : ∀ (xs : List α) (s : S), I s →
    (∀ x ∈ xs, ∀ s, I s → I (step s x) ∧ ∃ ρ1 μ1, g (rep x) (env s) (mem s) = some (ρ1, μ1) ∧ (b ρ1 μ1 = .nx (env (step s x)) (mem (step s x)) ∨ b ρ1 μ1 = .ct (env (step s x)) (mem (step s x)))) →
    forL ⟨xs0, []⟩ g b (xs.map rep) (env s) (mem s) = .nx (env (xs.foldl step s)) (mem (xs.foldl step s))
  | [], s, hs, h => by
    show forL ⟨xs0, []⟩ g b [] (env s) (mem s) = _
    unfold forL
    rw [if_pos ok_nil]
    rfl
  | x :: xs, s, hs, h => by
    obtain ⟨i2, ρ1, μ1, h1, h2⟩ := h x List.mem_cons_self s hs
    have ih := for_fold rep env mem step I xs (step s x) i2 (fun y hy => h y (List.mem_cons_of_mem _ hy)) (xs0 := xs0) (g := g) (b := b)
    show forL ⟨xs0, []⟩ g b (rep x :: xs.map rep) (env s) (mem s) = _
    unfold forL
    rw [if_pos ok_nil, h1]
    show (match b ρ1 μ1 with
      | .nx ρ2 μ2 => forL ⟨xs0, []⟩ g b (xs.map rep) ρ2 μ2
      | .ct ρ2 μ2 => forL ⟨xs0, []⟩ g b (xs.map rep) ρ2 μ2
      | .bk ρ2 μ2 => .nx ρ2 μ2
      | .rt d μ2 => .rt d μ2
      | .exc x μ2 => .exc x μ2
      | .bad => .bad) = _
    rcases h2 with h2 | h2 <;> rw [h2] <;> exact ih
/-- a for that keeps something, and may end ahead -/
theorem for_inv {xs0 : List MV} {g : TgM} {b : SM} (I : MM.Env → Mem → Prop) (R : SOut → Prop) : ∀ (xs : List MV) (ρ : MM.Env) (μ : Mem), I ρ μ → (∀ ρ μ, I ρ μ → R (.nx ρ μ)) →
    (∀ x ∈ xs, ∀ ρ μ, I ρ μ → ∃ ρ1 μ1, g x ρ μ = some (ρ1, μ1) ∧ ((∃ ρ2 μ2, (b ρ1 μ1 = .nx ρ2 μ2 ∨ b ρ1 μ1 = .ct ρ2 μ2) ∧ I ρ2 μ2) ∨ (∃ ρ2 μ2, b ρ1 μ1 = .bk ρ2 μ2 ∧ R (.nx ρ2 μ2)) ∨ (∃ d μ2, b ρ1 μ1 = .rt d μ2 ∧ R (.rt d μ2)) ∨ (∃ x μ2, b ρ1 μ1 = .exc x μ2 ∧ R (.exc x μ2)))) →
    R (forL ⟨xs0, []⟩ g b xs ρ μ)
  | [], ρ, μ, hi, hr, h => by
    unfold forL
    rw [if_pos ok_nil]
    exact hr ρ μ hi
  | x :: xs, ρ, μ, hi, hr, h => by
    obtain ⟨ρ1, μ1, h1, h2⟩ := h x List.mem_cons_self ρ μ hi
    unfold forL
    rw [if_pos ok_nil, h1]
    show R (match b ρ1 μ1 with
      | .nx ρ2 μ2 => forL ⟨xs0, []⟩ g b xs ρ2 μ2
      | .ct ρ2 μ2 => forL ⟨xs0, []⟩ g b xs ρ2 μ2
      | .bk ρ2 μ2 => .nx ρ2 μ2
      | .rt d μ2 => .rt d μ2
      | .exc x μ2 => .exc x μ2
      | .bad => .bad)
    rcases h2 with ⟨ρ2, μ2, h2 | h2, i2⟩ | ⟨ρ2, μ2, h2, r2⟩ | ⟨d, μ2, h2, r2⟩ | ⟨e, μ2, h2, r2⟩ <;> rw [h2]
    · exact for_inv I R xs ρ2 μ2 i2 hr fun y hy => h y (List.mem_cons_of_mem _ hy)
    · exact for_inv I R xs ρ2 μ2 i2 hr fun y hy => h y (List.mem_cons_of_mem _ hy)
    · exact r2
    · exact r2
    · exact r2
/-- a comprehension that is a map -/
theorem comp_map {α : Type} {xs0 : List MV} {g : TgM} {e : Ev MV} {ρ : MM.Env} {μ : Mem} (rep : α → MV) (f : α → MV) : ∀ (xs : List α),
    (∀ x ∈ xs, ∃ ρ1, g (rep x) ρ μ = some (ρ1, μ) ∧ e ρ1 μ = .ok (f x) μ) → compL ⟨xs0, []⟩ g mYes e ρ (xs.map rep) μ = some (xs.map f, μ)
  | [], h => by
    show compL ⟨xs0, []⟩ g mYes e ρ [] μ = _
    unfold compL
    rw [if_pos ok_nil]
    rfl
  | x :: xs, h => by
    obtain ⟨ρ1, h1, h2⟩ := h x List.mem_cons_self
    have ih := comp_map rep f xs (fun y hy => h y (List.mem_cons_of_mem _ hy)) (xs0 := xs0) (g := g) (e := e) (ρ := ρ) (μ := μ)
    show compL ⟨xs0, []⟩ g mYes e ρ (rep x :: xs.map rep) μ = _
    unfold compL
    rw [if_pos ok_nil, h1]
    simp only [mYes, mRet, h2, ih, List.map_cons]
/-- .. with a test -/
theorem comp_filter {α : Type} {xs0 : List MV} {g : TgM} {c : Ev Bool} {e : Ev MV} {ρ : MM.Env} {μ : Mem} (rep : α → MV) (p : α → Bool) (f : α → MV) : ∀ (xs : List α),
    (∀ x ∈ xs, ∃ ρ1, g (rep x) ρ μ = some (ρ1, μ) ∧ c ρ1 μ = .ok (p x) μ ∧ (p x = true → e ρ1 μ = .ok (f x) μ)) → compL ⟨xs0, []⟩ g c e ρ (xs.map rep) μ = some ((xs.filter p).map f, μ)
  | [], h => by
    show compL ⟨xs0, []⟩ g c e ρ [] μ = _
    unfold compL
    rw [if_pos ok_nil]
    rfl
  | x :: xs, h => by
    obtain ⟨ρ1, h1, h2, h3⟩ := h x List.mem_cons_self
    have ih := comp_filter rep p f xs (fun y hy => h y (List.mem_cons_of_mem _ hy)) (xs0 := xs0) (g := g) (c := c) (e := e) (ρ := ρ) (μ := μ)
    show compL ⟨xs0, []⟩ g c e ρ (rep x :: xs.map rep) μ = _
    unfold compL
    rw [if_pos ok_nil, h1]
    cases hp : p x with
    | true =>
      rw [hp] at h2
      simp only [h2, h3 hp, ih, List.filter_cons, hp, if_true, List.map_cons]
    | false =>
      rw [hp] at h2
      simp only [h2, ih, List.filter_cons, hp]
      rfl
/-- a comprehension whose items change the memory: something is kept -/
theorem comp_inv {xs0 : List MV} {g : TgM} {e : Ev MV} {ρ : MM.Env} (I : Mem → Prop) (P : MV → Prop) : ∀ (xs : List MV) (μ : Mem), I μ →
    (∀ x ∈ xs, ∀ μ, I μ → ∃ ρ1, g x ρ μ = some (ρ1, μ) ∧ ∃ d μ1, e ρ1 μ = .ok d μ1 ∧ P d ∧ I μ1) → ∃ ds μ', compL ⟨xs0, []⟩ g mYes e ρ xs μ = some (ds, μ') ∧ ds.length = xs.length ∧ (∀ d ∈ ds, P d) ∧ I μ'
  | [], μ, hi, h => by
    refine ⟨[], μ, ?_, rfl, fun d hd => absurd hd (by simp), hi⟩
    unfold compL
    rw [if_pos ok_nil]
  | x :: xs, μ, hi, h => by
    obtain ⟨ρ1, h1, d, μ1, h2, h3, h4⟩ := h x List.mem_cons_self μ hi
    obtain ⟨ds, μ', h5, h6, h7, h8⟩ := comp_inv I P xs μ1 h4 (fun y hy => h y (List.mem_cons_of_mem _ hy)) (xs0 := xs0) (g := g) (e := e) (ρ := ρ)
    refine ⟨d :: ds, μ', ?_, by simp [h6], fun z hz => ?_, h8⟩
    · unfold compL
      rw [if_pos ok_nil, h1]
      simp only [mYes, mRet, h2, h5]
    · rcases List.mem_cons.mp hz with rfl | hz
      · exact h3
      · exact h7 z hz
theorem while_go {c : Ev Bool} {b : SM} {n : Nat} {ρ ρ2 : MM.Env} {μ μ1 μ2 : Mem} (h1 : c ρ μ = .ok true μ1) (h2 : b ρ μ1 = .nx ρ2 μ2) : whileN c b (n + 1) ρ μ = whileN c b n ρ2 μ2 := by
  conv => lhs; unfold whileN
  rw [h1]
  dsimp only
  rw [h2]
theorem while_stop {c : Ev Bool} {b : SM} {n : Nat} {ρ : MM.Env} {μ μ1 : Mem} (h1 : c ρ μ = .ok false μ1) : whileN c b (n + 1) ρ μ = .nx ρ μ1 := by
  conv => lhs; unfold whileN
  rw [h1]
/-! ### one statement behind the other -/
theorem eqI (μ : Mem) (i j : Int) : eqM μ (.int i) (.int j) = some (.bl (decide (i = j))) := by
  show some (MV.bl (PyData.eqv (.int i) (.int j))) = _
  rfl
theorem two_le : (2 : Nat) ≤ sizeLine := by decide
theorem seq_step {a b : SM} {ρ ρ1 : MM.Env} {μ μ1 : Mem} {o : SOut} (h : a ρ μ = .nx ρ1 μ1) (k : b ρ1 μ1 = o) : sSeq a b ρ μ = o := by
  unfold sSeq
  rw [h]
  exact k
theorem seq_rt {a b : SM} {ρ : MM.Env} {μ μ1 : Mem} {d : MV} (h : a ρ μ = .rt d μ1) : sSeq a b ρ μ = .rt d μ1 := by
  unfold sSeq
  rw [h]
theorem seq_exc {a b : SM} {ρ : MM.Env} {μ μ1 : Mem} {x : Exc} (h : a ρ μ = .exc x μ1) : sSeq a b ρ μ = .exc x μ1 := by
  unfold sSeq
  rw [h]
theorem if_t {c : Ev Bool} {a b : SM} {ρ : MM.Env} {μ μ1 : Mem} {o : SOut} (h : c ρ μ = .ok true μ1) (k : a ρ μ1 = o) : sIf c a b ρ μ = o := by
  unfold sIf sE
  rw [h]
  exact k
theorem if_f {c : Ev Bool} {a b : SM} {ρ : MM.Env} {μ μ1 : Mem} {o : SOut} (h : c ρ μ = .ok false μ1) (k : b ρ μ1 = o) : sIf c a b ρ μ = o := by
  unfold sIf sE
  rw [h]
  exact k
/-- a def's end -/
theorem run_rt {N : List Str} {b : SM} {ds : List MV} {μ μ' : Mem} {d : MV} (h : b (envS N ds) μ = .rt d μ') (hd : nr d = true) (hm : (μ'.take μ.length).all (okC μ.length) = true) : runC N b ds μ = .ok d (μ'.take μ.length) := by
  unfold runC
  rw [h]
  exact chop_ok hd hm
theorem run_rt0 {N : List Str} {b : SM} {ds : List MV} {μ : Mem} {d : MV} (h : b (envS N ds) μ = .rt d μ) (hd : nr d = true) (hm : okMem μ) : runC N b ds μ = .ok d μ := by
  unfold runC
  rw [h]
  exact chop_same hd hm
theorem run_exc0 {N : List Str} {b : SM} {ds : List MV} {μ : Mem} {x : Exc} (h : b (envS N ds) μ = .exc x μ) (hm : okMem μ) : runC N b ds μ = .exc x μ := by
  unfold runC
  rw [h]
  exact chop_exc0 hm
theorem run_nx0 {N : List Str} {b : SM} {ds : List MV} {μ : Mem} {ρ : MM.Env} (h : b (envS N ds) μ = .nx ρ μ) (hm : okMem μ) : runC N b ds μ = .ok .non μ := by
  unfold runC
  rw [h]
  exact chop_same rfl hm
/-- a call -/
theorem call_ok {n : Nat} {F : FM} {ms : Ev (List MV)} {ρ : MM.Env} {μ μ1 : Mem} {ds : List MV} {o : Out MV} (h : ms ρ μ = .ok ds μ1) (hn : ds.length = n) (k : F ds μ1 = o) : mCall n F ms ρ μ = o := by
  unfold mCall mB
  rw [h]
  dsimp only
  rw [if_pos hn]
  exact k
theorem for_end {xs0 : List MV} {g : TgM} {b : SM} {ρ : MM.Env} {μ : Mem} : forL ⟨xs0, []⟩ g b [] ρ μ = .nx ρ μ := by
  unfold forL
  rw [if_pos ok_nil]
theorem for_nx {xs0 : List MV} {g : TgM} {b : SM} {x : MV} {xs : List MV} {ρ ρ1 ρ2 : MM.Env} {μ μ1 μ2 : Mem} (h1 : g x ρ μ = some (ρ1, μ1)) (h2 : b ρ1 μ1 = .nx ρ2 μ2) : forL ⟨xs0, []⟩ g b (x :: xs) ρ μ = forL ⟨xs0, []⟩ g b xs ρ2 μ2 := by
  conv => lhs; unfold forL
  rw [if_pos ok_nil, h1]
  dsimp only
  rw [h2]
theorem for_bk {xs0 : List MV} {g : TgM} {b : SM} {x : MV} {xs : List MV} {ρ ρ1 ρ2 : MM.Env} {μ μ1 μ2 : Mem} (h1 : g x ρ μ = some (ρ1, μ1)) (h2 : b ρ1 μ1 = .bk ρ2 μ2) : forL ⟨xs0, []⟩ g b (x :: xs) ρ μ = .nx ρ2 μ2 := by
  conv => lhs; unfold forL
  rw [if_pos ok_nil, h1]
  dsimp only
  rw [h2]
theorem for_rt {xs0 : List MV} {g : TgM} {b : SM} {x : MV} {xs : List MV} {ρ ρ1 : MM.Env} {μ μ1 μ2 : Mem} {d : MV} (h1 : g x ρ μ = some (ρ1, μ1)) (h2 : b ρ1 μ1 = .rt d μ2) : forL ⟨xs0, []⟩ g b (x :: xs) ρ μ = .rt d μ2 := by
  conv => lhs; unfold forL
  rw [if_pos ok_nil, h1]
  dsimp only
  rw [h2]
/-- a for over a range -/
theorem rng1_n {n : Nat} (hn : Rg62 (n : Int)) : rng1 [MV.int n] = some ⟨intsL 0 n, []⟩ := by
  unfold rng1
  dsimp only
  rw [if_pos hn, Int.toNat_natCast]
theorem mrng1 {ms : Ev (List MV)} {ρ : MM.Env} {μ μ1 : Mem} {n : Nat} (h : ms ρ μ = .ok [.int n] μ1) (hn : Rg62 (n : Int)) : mRng rng1 ms ρ μ = .ok ⟨intsL 0 n, []⟩ μ1 := by
  unfold mRng mB
  rw [h]
  dsimp only
  rw [rng1_n hn]
  rfl
theorem sfor_of {m : Ev Itm} {g : TgM} {b : SM} {ρ : MM.Env} {μ μ1 : Mem} {t : Itm} {o : SOut} (h : m ρ μ = .ok t μ1) (k : forL t g b t.items ρ μ1 = o) : sFor m g b ρ μ = o := by
  unfold sFor sE
  rw [h]
  exact k
/-! ### comprehensions -/
theorem mcomp_map {α : Type} {vs : List Nat} {mi : Ev Itm} {g : TgM} {e : Ev MV} {ρ : MM.Env} {μ μ1 : Mem} (rep : α → MV) (f : α → MV) (xs : List α) (h1 : mi ρ μ = .ok ⟨xs.map rep, []⟩ μ1) (hl : xs.length ≤ sizeLine)
    (h : ∀ x ∈ xs, ∃ ρ1, g (rep x) (wipeE ρ vs) μ1 = some (ρ1, μ1) ∧ e ρ1 μ1 = .ok (f x) μ1) : mComp vs mi g mYes e ρ μ = .ok (.lst (xs.map f)) μ1 := by
  unfold mComp mCompL
  unfold mB
  dsimp only
  rw [h1]
  dsimp only
  unfold compT
  rw [if_pos (by rw [List.length_map]; exact hl), comp_map rep f xs h]
  rfl
theorem mcomp_filter {α : Type} {vs : List Nat} {mi : Ev Itm} {g : TgM} {c : Ev Bool} {e : Ev MV} {ρ : MM.Env} {μ μ1 : Mem} (rep : α → MV) (p : α → Bool) (f : α → MV) (xs : List α) (h1 : mi ρ μ = .ok ⟨xs.map rep, []⟩ μ1) (hl : xs.length ≤ sizeLine)
    (h : ∀ x ∈ xs, ∃ ρ1, g (rep x) (wipeE ρ vs) μ1 = some (ρ1, μ1) ∧ c ρ1 μ1 = .ok (p x) μ1 ∧ (p x = true → e ρ1 μ1 = .ok (f x) μ1)) : mComp vs mi g c e ρ μ = .ok (.lst ((xs.filter p).map f)) μ1 := by
  unfold mComp mCompL
  unfold mB
  dsimp only
  rw [h1]
  dsimp only
  unfold compT
  rw [if_pos (by rw [List.length_map]; exact hl), comp_filter rep p f xs h]
  rfl
theorem mcomp_inv {vs : List Nat} {mi : Ev Itm} {g : TgM} {e : Ev MV} {ρ : MM.Env} {μ μ1 : Mem} (I : Mem → Prop) (P : MV → Prop) (xs : List MV) (h1 : mi ρ μ = .ok ⟨xs, []⟩ μ1) (hl : xs.length ≤ sizeLine) (hi : I μ1)
    (h : ∀ x ∈ xs, ∀ μ, I μ → ∃ ρ1, g x (wipeE ρ vs) μ = some (ρ1, μ) ∧ ∃ d μ2, e ρ1 μ = .ok d μ2 ∧ P d ∧ I μ2) : ∃ ds μ', mComp vs mi g mYes e ρ μ = .ok (.lst ds) μ' ∧ ds.length = xs.length ∧ (∀ d ∈ ds, P d) ∧ I μ' := by
  obtain ⟨ds, μ', a1, a2, a3, a4⟩ := comp_inv I P xs μ1 hi h (xs0 := xs)
  refine ⟨ds, μ', ?_, a2, a3, a4⟩
  unfold mComp mCompL
  unfold mB
  dsimp only
  rw [h1]
  dsimp only
  unfold compT
  rw [if_pos hl, a1]
  rfl
theorem bls_map {α : Type} (f : α → Bool) : ∀ xs : List α, blsOf (xs.map fun x => .bl (f x)) = some (xs.map f)
  | [] => rfl
  | x :: xs => by
    show (blsOf (xs.map fun x => .bl (f x))).map (f x :: ·) = _
    rw [bls_map f xs]
    rfl
theorem ints_map : ∀ xs : List Int, intsOf (xs.map .int) = some xs
  | [] => rfl
  | x :: xs => by
    show (intsOf (xs.map .int)).map (x :: ·) = _
    rw [ints_map xs]
    rfl
theorem all_map {α : Type} (μ : Mem) (f : α → Bool) (xs : List α) : allM μ [.lst (xs.map fun x => .bl (f x))] = some (.bl (xs.all f)) := by
  show ((some (xs.map fun x => MV.bl (f x))).bind fun xs => (blsOf xs).map fun ns => MV.bl (ns.all _root_.id)) = _
  dsimp only [Option.bind]
  rw [bls_map]
  simp
theorem any_map {α : Type} (μ : Mem) (f : α → Bool) (xs : List α) : anyM μ [.lst (xs.map fun x => .bl (f x))] = some (.bl (xs.any f)) := by
  show ((some (xs.map fun x => MV.bl (f x))).bind fun xs => (blsOf xs).map fun ns => MV.bl (ns.any _root_.id)) = _
  dsimp only [Option.bind]
  rw [bls_map]
  simp
theorem sum_map (μ : Mem) (xs : List Int) : sumM μ [.lst (xs.map .int)] = some (.int xs.sum) := by
  show ((some (xs.map MV.int)).bind fun xs => (intsOf xs).map fun ns => MV.int ns.sum) = _
  dsimp only [Option.bind]
  rw [ints_map]
  rfl
theorem mitm {m : Ev MV} {ρ : MM.Env} {μ μ1 : Mem} {d : MV} {t : Itm} (h : m ρ μ = .ok d μ1) (e : itmOf μ1 d = some t) : mItm m ρ μ = .ok t μ1 := by
  unfold mItm mB
  rw [h]
  dsimp only
  rw [e]
  rfl
theorem mcb1 {op : OpC} {m : Ev MV} {ρ : MM.Env} {μ μ1 : Mem} {d r : MV} (h : m ρ μ = .ok d μ1) (e : op μ1 [d] = some r) : mCB op (mCons m mNil) ρ μ = .ok r μ1 := by
  unfold mCB mCons mNil mRet mB
  dsimp only
  rw [h]
  dsimp only
  rw [e]
  rfl
end PL

set_option Elab.async false
set_option linter.all false
set_option maxRecDepth 100000
set_option maxHeartbeats 4000000
/-! ## PT: rules for what M-terms come to -/
namespace PL
open PySem PySem.Spec PyProof.Rows L2 MM
section
variable {ρ ρ1 ρ2 : MM.Env} {μ μ1 μ2 μ3 : Mem} {m ma mb mc : Ev MV} {ms : Ev (List MV)} {a b c d r : MV} {ds : List MV}
theorem le_size0 {n : Nat} (h : n ≤ 50) : n ≤ sizeLine := by
  have : (50 : Nat) ≤ sizeLine := by decide
  omega
theorem var_ok {i : Nat} (h : ρ[i]? = some (some d)) : mVar i ρ μ = .ok d μ := by unfold mVar; rw [h]
theorem k_ok {α : Type} {a : α} : mRet a ρ μ = .ok a μ := rfl
theorem op_ok {op : Op2} (ha : ma ρ μ = .ok a μ1) (hb : mb ρ μ1 = .ok b μ2) (h : op μ2 a b = some r) : mOp op ma mb ρ μ = .ok r μ2 := by
  unfold mOp mB; rw [ha]; dsimp only; rw [hb]; dsimp only; rw [h]; rfl
theorem un_ok {op : Mem → MV → Option MV} (ha : ma ρ μ = .ok a μ1) (h : op μ1 a = some r) : mUn op ma ρ μ = .ok r μ1 := by
  unfold mUn mB; rw [ha]; dsimp only; rw [h]; rfl
theorem nil_ok : mNil ρ μ = .ok [] μ := rfl
theorem cons_ok (h : m ρ μ = .ok d μ1) (hs : ms ρ μ1 = .ok ds μ2) : mCons m ms ρ μ = .ok (d :: ds) μ2 := by
  unfold mCons mB; rw [h]; dsimp only; rw [hs]; rfl
theorem one_ok (h : m ρ μ = .ok d μ1) : mCons m mNil ρ μ = .ok [d] μ1 := cons_ok h nil_ok
theorem star_ok {xs : List MV} (h : m ρ μ = .ok d μ1) (hq : seqOf μ1 d = some xs) (hs : ms ρ μ1 = .ok ds μ2) : mStar m ms ρ μ = .ok (xs ++ ds) μ2 := by
  unfold mStar mB; rw [h]; dsimp only; rw [hq]; dsimp only; rw [hs]; rfl
theorem cb_ok {op : OpC} (hs : ms ρ μ = .ok ds μ1) (h : op μ1 ds = some r) : mCB op ms ρ μ = .ok r μ1 := by
  unfold mCB mB; rw [hs]; dsimp only; rw [h]; rfl
theorem tup_ok (hs : ms ρ μ = .ok ds μ1) (hl : ds.length ≤ sizeLine := by exact le_size0 (by simp)) : mTup ms ρ μ = .ok (.tup ds) μ1 := by
  unfold mTup mB; rw [hs]; dsimp only; rw [if_pos hl]; rfl
theorem lst_ok (hs : ms ρ μ = .ok ds μ1) (hl : ds.length ≤ sizeLine := by exact le_size0 (by simp)) : mLst ms ρ μ = .ok (.lst ds) μ1 := by
  unfold mLst mB; rw [hs]; dsimp only; rw [if_pos hl]; rfl
theorem lstC_ok (hs : ms ρ μ = .ok ds μ1) (hl : ds.length ≤ sizeLine := by exact le_size0 (by simp)) : mLstC ms ρ μ = .ok (.ref μ1.length) (μ1 ++ [.lst ds]) := by
  unfold mLstC mB; rw [hs]; dsimp only; rw [if_pos hl]
theorem t_ok {k : Bool} (h : m ρ μ = .ok (.bl k) μ1) : mT m ρ μ = .ok k μ1 := by
  unfold mT mB; rw [h]; rfl
theorem not_ok {k : Bool} (h : m ρ μ = .ok (.bl k) μ1) : mNot m ρ μ = .ok (.bl (!k)) μ1 := by
  unfold mNot mB; rw [h]
theorem and_t {o : Out MV} (h : ma ρ μ = .ok (.bl true) μ1) (k : mb ρ μ1 = o) : mAnd ma mb ρ μ = o := by
  unfold mAnd mB; rw [h]; exact k
theorem and_f (h : ma ρ μ = .ok (.bl false) μ1) : mAnd ma mb ρ μ = .ok (.bl false) μ1 := by
  unfold mAnd mB; rw [h]
theorem and_ok {p q : Bool} (h : ma ρ μ = .ok (.bl p) μ) (k : p = true → mb ρ μ = .ok (.bl q) μ) : mAnd ma mb ρ μ = .ok (.bl (p && q)) μ := by
  cases p with
  | true => exact and_t h (k rfl)
  | false => exact and_f h
theorem or_f {o : Out MV} (h : ma ρ μ = .ok (.bl false) μ1) (k : mb ρ μ1 = o) : mOr ma mb ρ μ = o := by
  unfold mOr mB; rw [h]; exact k
theorem or_t (h : ma ρ μ = .ok (.bl true) μ1) : mOr ma mb ρ μ = .ok (.bl true) μ1 := by
  unfold mOr mB; rw [h]
theorem or_ok {p q : Bool} (h : ma ρ μ = .ok (.bl p) μ) (k : p = false → mb ρ μ = .ok (.bl q) μ) : mOr ma mb ρ μ = .ok (.bl (p || q)) μ := by
  cases p with
  | true => exact or_t h
  | false => exact or_f h (k rfl)
theorem ifE_t {c : Ev Bool} {o : Out MV} (h : c ρ μ = .ok true μ1) (k : ma ρ μ1 = o) : mIf c ma mb ρ μ = o := by
  unfold mIf mB; rw [h]; exact k
theorem ifE_f {c : Ev Bool} {o : Out MV} (h : c ρ μ = .ok false μ1) (k : mb ρ μ1 = o) : mIf c ma mb ρ μ = o := by
  unfold mIf mB; rw [h]; exact k
theorem chain_t {o1 o2 : Op2} (ha : ma ρ μ = .ok a μ1) (hb : mb ρ μ1 = .ok b μ2) (h1 : o1 μ2 a b = some (.bl true)) (hc : mc ρ μ2 = .ok c μ3) (h2 : o2 μ3 b c = some r) : mChain o1 o2 ma mb mc ρ μ = .ok r μ3 := by
  unfold mChain mB; rw [ha]; dsimp only; rw [hb]; dsimp only; rw [h1]; dsimp only; rw [hc]; dsimp only; rw [h2]; rfl
theorem chain_f {o1 o2 : Op2} (ha : ma ρ μ = .ok a μ1) (hb : mb ρ μ1 = .ok b μ2) (h1 : o1 μ2 a b = some (.bl false)) : mChain o1 o2 ma mb mc ρ μ = .ok (.bl false) μ2 := by
  unfold mChain mB; rw [ha]; dsimp only; rw [hb]; dsimp only; rw [h1]
theorem chain_ok {o1 o2 : Op2} {p q : Bool} (ha : ma ρ μ = .ok a μ) (hb : mb ρ μ = .ok b μ) (h1 : o1 μ a b = some (.bl p)) (hc : mc ρ μ = .ok c μ) (h2 : o2 μ b c = some (.bl q)) : mChain o1 o2 ma mb mc ρ μ = .ok (.bl (p && q)) μ := by
  cases p with
  | true => exact chain_t ha hb h1 hc h2
  | false => exact chain_f ha hb h1
theorem part_ok {i : Int} (h : m ρ μ = .ok (.int i) μ1) : mPart m ρ μ = .ok (some i) μ1 := by
  unfold mPart mB; rw [h]; rfl
theorem nopart_ok : mNoPart ρ μ = .ok none μ := rfl
theorem slice_ok {ml mh : Ev (Option Int)} {l h : Option Int} (ha : ma ρ μ = .ok a μ1) (hl : ml ρ μ1 = .ok l μ2) (hh : mh ρ μ2 = .ok h μ3) (e : sliceM μ3 a l h = some r) : mSlice ma ml mh ρ μ = .ok r μ3 := by
  unfold mSlice mB; rw [ha]; dsimp only; rw [hl]; dsimp only; rw [hh]; dsimp only; rw [e]; rfl
theorem meth_ok {op : OpM} {xs : List MV} (ho : m ρ μ = .ok d μ1) (hl : lstOf μ1 d = some xs) (hs : ms ρ μ1 = .ok ds μ2) (h : op μ2 d ds = some (r, μ3)) : mMeth op m ms ρ μ = .ok r μ3 := by
  unfold mMeth mB; rw [ho]; dsimp only; unfold isLst; rw [hl]; dsimp only; rw [hs]; dsimp only; rw [h]; rfl
theorem asg_ok {g : TgM} (h : m ρ μ = .ok d μ1) (hg : g d ρ μ1 = some (ρ2, μ2)) : sAsg m g ρ μ = .nx ρ2 μ2 := by
  unfold sAsg sE; rw [h]; dsimp only; rw [hg]
theorem ret_s (h : m ρ μ = .ok d μ1) : sRet m ρ μ = .rt d μ1 := by
  unfold sRet sE; rw [h]
theorem drop_s (h : m ρ μ = .ok r μ1) : sDrop m ρ μ = .nx ρ μ1 := by
  unfold sDrop sE; rw [h]; rfl
theorem drop_x {x : Exc} (h : m ρ μ = .exc x μ1) : sDrop m ρ μ = .exc x μ1 := by
  unfold sDrop sE; rw [h]
theorem asg_x {g : TgM} {x : Exc} (h : m ρ μ = .exc x μ1) : sAsg m g ρ μ = .exc x μ1 := by
  unfold sAsg sE; rw [h]
theorem ret_x {x : Exc} (h : m ρ μ = .exc x μ1) : sRet m ρ μ = .exc x μ1 := by
  unfold sRet sE; rw [h]
theorem par_s {i j : Nat} (hs : ms ρ μ = .ok [a, b] μ1) : sPar i j ms ρ μ = .nx ((ρ.set i (some a)).set j (some b)) μ1 := by
  unfold sPar sE; rw [hs]
theorem if_n {c : Ev Bool} (h : c ρ μ = .ok false μ1) : sIf c sb sPass ρ μ = .nx ρ μ1 := if_f h rfl
theorem raise_s {x : Str} : sRaise x ρ μ = .exc ⟨x, none⟩ μ := rfl
theorem enum_ok {t : Itm} (hs : ms ρ μ = .ok [d] μ1) (e : itmOf μ1 d = some t) : mEnum ms ρ μ = .ok ⟨enumL 0 t.items, t.chk⟩ μ1 := by
  unfold mEnum mItA mB; rw [hs]; dsimp only; unfold enumOf; dsimp only; rw [e]; rfl
theorem call_x {n : Nat} {F : FM} {x : Exc} (h : ms ρ μ = .exc x μ1) : mCall n F ms ρ μ = .exc x μ1 := by
  unfold mCall mB; rw [h]
end
/-! ### operations -/
section
variable {μ : Mem}
theorem eqD_of {a b : MV} {d e : PyData} (h1 : pd μ a = some d) (h2 : pd μ b = some e) (s1 : SeqAt.shaped d = true) (s2 : SeqAt.shaped e = true) : eqM μ a b = some (.bl (PyData.eqv d e)) := by
  unfold eqM eqD; rw [h1, h2]; dsimp only; rw [if_pos ⟨s1, s2⟩]; rfl
theorem neI' (i j : Int) : neM μ (.int i) (.int j) = some (.bl (!decide (i = j))) := rfl
theorem ltI (i j : Int) : ltM μ (.int i) (.int j) = some (.bl (decide (i < j))) := rfl
theorem leI (i j : Int) : leM μ (.int i) (.int j) = some (.bl (decide (i ≤ j))) := rfl
theorem gtI (i j : Int) : gtM μ (.int i) (.int j) = some (.bl (decide (j < i))) := rfl
theorem geI (i j : Int) : geM μ (.int i) (.int j) = some (.bl (decide (j ≤ i))) := rfl
theorem addI' (i j : Int) : addM μ (.int i) (.int j) = some (.int (i + j)) := rfl
theorem subI (i j : Int) : subM μ (.int i) (.int j) = some (.int (i - j)) := rfl
theorem fdivI {i j : Int} (h : okDiv j) : fdivM μ (.int i) (.int j) = some (.int (i.fdiv j)) := if_pos h
theorem modI {i j : Int} (h : j ≠ 0) : modM μ (.int i) (.int j) = some (.int (i.fmod j)) := if_pos h
theorem mulI' {i j : Int} (h : okMul i j) : mulM2 μ (.int i) (.int j) = some (.int (i * j)) := if_pos h
theorem lenT' (xs : List MV) : lenM μ [.tup xs] = some (.int xs.length) := rfl
theorem lenL (xs : List MV) : lenM μ [.lst xs] = some (.int xs.length) := rfl
theorem lenC {i : Nat} {xs : List MV} (h : μ[i]? = some (.lst xs)) : lenM μ [.ref i] = some (.int xs.length) := by
  show ((seqOf μ (.ref i)).map fun xs => MV.int xs.length) = _
  show ((celOf μ i).map fun xs => MV.int xs.length) = _
  unfold celOf; rw [h]; rfl
theorem ixT' (xs : List MV) (i : Int) : ixM μ (.tup xs) (.int i) = atI xs i := rfl
theorem ixL (xs : List MV) (i : Int) : ixM μ (.lst xs) (.int i) = atI xs i := rfl
theorem ixC {j : Nat} {xs : List MV} (i : Int) (h : μ[j]? = some (.lst xs)) : ixM μ (.ref j) (.int i) = atI xs i := by
  show (seqOf μ (.ref j)).bind (fun xs => atI xs i) = _
  show (celOf μ j).bind (fun xs => atI xs i) = _
  unfold celOf; rw [h]; rfl
theorem celOf_of {i : Nat} {xs : List MV} (h : μ[i]? = some (.lst xs)) : celOf μ i = some xs := by
  unfold celOf; rw [h]
theorem itmC {i : Nat} {xs : List MV} (h : μ[i]? = some (.lst xs)) : itmOf μ (.ref i) = some ⟨xs, [(i, xs)]⟩ := by
  show ((celOf μ i).map fun xs => (⟨xs, [(i, xs)]⟩ : Itm)) = _
  rw [celOf_of h]; rfl
theorem atI_nat {α : Type} (xs : List α) (n : Nat) (h : n < xs.length) : atI xs (n : Int) = some xs[n] := by
  unfold atI ixN
  rw [if_pos (by omega), if_pos (by omega)]
  simp [h]
theorem appC {i : Nat} {xs : List MV} {y : MV} (h : μ[i]? = some (.lst xs)) (hl : xs.length < sizeLine) : appM μ (.ref i) [y] = some (.non, μ.set i (.lst (xs ++ [y]))) := by
  unfold appM; dsimp only; rw [h]; dsimp only; rw [if_pos hl]
theorem lstC_of {i : Nat} {xs : List MV} (h : μ[i]? = some (.lst xs)) : lstOf μ (.ref i) = some xs := celOf_of h
theorem set_last {μ : Mem} {c c' : Cell} : (μ ++ [c]).set μ.length c' = μ ++ [c'] := by
  rw [List.set_append_right _ _ (Nat.le_refl _), Nat.sub_self]; rfl
theorem get_last {μ : Mem} {c : Cell} : (μ ++ [c])[μ.length]? = some c := by
  rw [List.getElem?_append_right (Nat.le_refl _), Nat.sub_self]; rfl
theorem app_last {μ : Mem} {xs : List MV} {y : MV} (hl : xs.length < sizeLine) : appM (μ ++ [.lst xs]) (.ref μ.length) [y] = some (.non, μ ++ [.lst (xs ++ [y])]) := by
  rw [appC get_last hl, set_last]
theorem le_size {n : Nat} (h : n ≤ 1000000) : n ≤ sizeLine := by
  have : (1000000 : Nat) ≤ sizeLine := by decide
  omega
end
/-- xs.append(y) -/
theorem app_s {ρ : MM.Env} {μ : Mem} {mo me : Ev MV} {i : Nat} {xs : List MV} {y : MV} (ho : mo ρ μ = .ok (.ref i) μ) (h : μ[i]? = some (.lst xs)) (he : me ρ μ = .ok y μ) (hl : xs.length ≤ 1000000) : sDrop (mMeth appM mo (mCons me mNil)) ρ μ = .nx ρ (μ.set i (.lst (xs ++ [y]))) :=
  drop_s (r := .non) (meth_ok ho (lstC_of h) (one_ok he) (appC h (by have : (1000001 : Nat) < sizeLine := by decide
                                                                     omega)))
theorem appL_s {ρ : MM.Env} {μ : Mem} {mo me : Ev MV} {xs : List MV} {y : MV} (ho : mo ρ (μ ++ [.lst xs]) = .ok (.ref μ.length) (μ ++ [.lst xs])) (he : me ρ (μ ++ [.lst xs]) = .ok y (μ ++ [.lst xs])) (hl : xs.length ≤ 1000000) : sDrop (mMeth appM mo (mCons me mNil)) ρ (μ ++ [.lst xs]) = .nx ρ (μ ++ [.lst (xs ++ [y])]) := by
  rw [app_s ho get_last he hl, set_last]
mutual
theorem okN_mono {n m : Nat} (h : n ≤ m) : ∀ d : MV, okN n d = true → okN m d = true
  | .ref i, q => by
    unfold okN at q ⊢
    exact decide_eq_true (Nat.lt_of_lt_of_le (of_decide_eq_true q) h)
  | .tup xs, q => by unfold okN at q ⊢; exact okNs_mono h xs q
  | .lst xs, q => by unfold okN at q ⊢; exact okNs_mono h xs q
  | .non, _ => rfl
  | .bl _, _ => rfl
  | .int _, _ => rfl
  | .str _, _ => rfl
  | .cst _, _ => rfl
  | .scr _, _ => rfl
theorem okNs_mono {n m : Nat} (h : n ≤ m) : ∀ xs : List MV, okN.okNs n xs = true → okN.okNs m xs = true
  | [], _ => rfl
  | x :: xs, q => by
    unfold okN.okNs at q ⊢
    rw [Bool.and_eq_true] at q ⊢
    exact ⟨okN_mono h x q.1, okNs_mono h xs q.2⟩
end
theorem okC_mono {n m : Nat} (h : n ≤ m) : ∀ c : Cell, okC n c = true → okC m c = true
  | .dead, _ => rfl
  | .lst xs, q => okNs_mono h xs q
/-- cells laid at the end -/
theorem okMem_app {μ ν : Mem} (hm : okMem μ) (h : ∀ c ∈ ν, okC (μ.length + ν.length) c = true) : okMem (μ ++ ν) := by
  unfold okMem at hm ⊢
  rw [List.length_append, List.all_append, Bool.and_eq_true]
  rw [List.all_eq_true] at hm ⊢
  exact ⟨fun c hc => okC_mono (Nat.le_add_right _ _) c (hm c hc), by rw [List.all_eq_true]; exact h⟩
theorem okMem_snoc {μ : Mem} {xs : List MV} (hm : okMem μ) (h : nrs xs = true) : okMem (μ ++ [.lst xs]) :=
  okMem_app hm fun c hc => by rw [List.mem_singleton.mp hc]; exact okNs_nr xs h
/-! ### a def's end, with what it made beyond -/
theorem run_data {N : List Str} {b : SM} {ds : List MV} {μ ν : Mem} {d : MV} (h : b (envS N ds) μ = .rt d (μ ++ ν)) (hd : nr d = true) (hm : okMem μ) : runC N b ds μ = .ok d μ := by
  unfold runC; rw [h]; exact chop_data hd hm
theorem run_cell {N : List Str} {b : SM} {ds : List MV} {μ ν : Mem} {i : Nat} {xs : List MV} (h : b (envS N ds) μ = .rt (.ref i) (μ ++ ν)) (hi : μ.length ≤ i) (hx : (μ ++ ν)[i]? = some (.lst xs)) (hd : nrs xs = true) (hm : okMem μ) : runC N b ds μ = .ok (.lst xs) μ := by
  unfold runC; rw [h]
  have e : (μ ++ ν).take μ.length = μ := List.take_left
  have := chop_cell (μ := μ) (μ' := μ ++ ν) hi hx hd (by rw [e]; exact hm)
  rw [e] at this
  exact this
theorem run_x {N : List Str} {b : SM} {ds : List MV} {μ ν : Mem} {x : Exc} (h : b (envS N ds) μ = .exc x (μ ++ ν)) (hm : okMem μ) : runC N b ds μ = .exc x μ := by
  unfold runC; rw [h]; exact chop_exc hm
theorem run_nx {N : List Str} {b : SM} {ds : List MV} {μ ν : Mem} {ρ : MM.Env} (h : b (envS N ds) μ = .nx ρ (μ ++ ν)) (hm : okMem μ) : runC N b ds μ = .ok .non μ := by
  unfold runC; rw [h]; exact chop_data rfl hm
/-- a def's end: what is told with its new cells as values -/
theorem frz_cell {n k i : Nat} {μ : Mem} {xs : List MV} (hi : n ≤ i) (hx : μ[i]? = some (.lst xs)) (hd : nrs xs = true) : frzN n μ (k + 1) (.ref i) = .lst xs := by
  have : ¬ i < n := Nat.not_lt.mpr hi
  unfold frzN
  rw [if_neg this, hx]
  show MV.lst (frzN.frzNs n μ k xs) = _
  rw [(frz_nr k).2 xs hd]
theorem frz_tup {n k : Nat} {μ : Mem} {xs : List MV} : frzN n μ (k + 1) (.tup xs) = .tup (frzN.frzNs n μ k xs) := by unfold frzN; rfl
theorem frz_lst {n k : Nat} {μ : Mem} {xs : List MV} : frzN n μ (k + 1) (.lst xs) = .lst (frzN.frzNs n μ k xs) := by unfold frzN; rfl
theorem frzs_cons {n k : Nat} {μ : Mem} {x : MV} {xs : List MV} : frzN.frzNs n μ k (x :: xs) = frzN n μ k x :: frzN.frzNs n μ k xs := by
  conv => lhs; unfold frzN.frzNs
theorem frzs_nil {n k : Nat} {μ : Mem} : frzN.frzNs n μ k [] = [] := by unfold frzN.frzNs; rfl
theorem run_frz {N : List Str} {b : SM} {ds : List MV} {μ ν : Mem} {d d' : MV} (h : b (envS N ds) μ = .rt d (μ ++ ν)) (e : frzN μ.length (μ ++ ν) 9 d = d') (hd : nr d' = true) (hm : okMem μ) : runC N b ds μ = .ok d' μ := by
  have e2 : (μ ++ ν).take μ.length = μ := List.take_left
  unfold runC
  rw [h]
  unfold outS chopO
  dsimp only
  rw [e, e2, okN_nr d' hd]
  have hm : μ.all (okC μ.length) = true := hm
  rw [hm]
  rfl
theorem mcomp_mapR {α : Type} {vs : List Nat} {mi : Ev Itm} {g : TgM} {e : Ev MV} {ρ : MM.Env} {μ μ1 : Mem} {r : MV} (rep : α → MV) (f : α → MV) (xs : List α) (h1 : mi ρ μ = .ok ⟨xs.map rep, []⟩ μ1) (hl : xs.length ≤ sizeLine)
    (h : ∀ x ∈ xs, ∃ ρ1, g (rep x) (wipeE ρ vs) μ1 = some (ρ1, μ1) ∧ e ρ1 μ1 = .ok (f x) μ1) (hr : .lst (xs.map f) = r) : mComp vs mi g mYes e ρ μ = .ok r μ1 := by
  rw [← hr]; exact mcomp_map rep f xs h1 hl h
theorem mcomp_filterR {α : Type} {vs : List Nat} {mi : Ev Itm} {g : TgM} {c : Ev Bool} {e : Ev MV} {ρ : MM.Env} {μ μ1 : Mem} {r : MV} (rep : α → MV) (p : α → Bool) (f : α → MV) (xs : List α) (h1 : mi ρ μ = .ok ⟨xs.map rep, []⟩ μ1) (hl : xs.length ≤ sizeLine)
    (h : ∀ x ∈ xs, ∃ ρ1, g (rep x) (wipeE ρ vs) μ1 = some (ρ1, μ1) ∧ c ρ1 μ1 = .ok (p x) μ1 ∧ (p x = true → e ρ1 μ1 = .ok (f x) μ1)) (hr : .lst ((xs.filter p).map f) = r) : mComp vs mi g c e ρ μ = .ok r μ1 := by
  rw [← hr]; exact mcomp_filter rep p f xs h1 hl h
/-! ### a for over cells' items, by a state -/
/-- items of a cell that stays -/
theorem forC_fold {α S : Type} {xs0 : List MV} {chk : List (Nat × List MV)} {g : TgM} {b : SM} (rep : α → MV) (env : S → MM.Env) (mem : S → Mem) (step : S → α → S) (I : S → Prop) (hI : ∀ s, I s → Itm.ok ⟨xs0, chk⟩ (mem s)) : ∀ (xs : List α) (s : S), I s →
    (∀ x ∈ xs, ∀ s, I s → I (step s x) ∧ ∃ ρ1 μ1, g (rep x) (env s) (mem s) = some (ρ1, μ1) ∧ (b ρ1 μ1 = .nx (env (step s x)) (mem (step s x)) ∨ b ρ1 μ1 = .ct (env (step s x)) (mem (step s x)))) →
    forL ⟨xs0, chk⟩ g b (xs.map rep) (env s) (mem s) = .nx (env (xs.foldl step s)) (mem (xs.foldl step s))
  | [], s, hs, h => by
    show forL ⟨xs0, chk⟩ g b [] (env s) (mem s) = _
    unfold forL
    rw [if_pos (hI s hs)]
    rfl
  | x :: xs, s, hs, h => by
    obtain ⟨i2, ρ1, μ1, h1, h2⟩ := h x List.mem_cons_self s hs
    have ih := forC_fold rep env mem step I hI xs (step s x) i2 (fun y hy => h y (List.mem_cons_of_mem _ hy)) (xs0 := xs0) (chk := chk) (g := g) (b := b)
    show forL ⟨xs0, chk⟩ g b (rep x :: xs.map rep) (env s) (mem s) = _
    unfold forL
    rw [if_pos (hI s hs), h1]
    dsimp only
    rcases h2 with h2 | h2 <;> rw [h2] <;> exact ih
end PL

set_option Elab.async false
set_option linter.all false
set_option maxRecDepth 100000
set_option maxHeartbeats 4000000
/-! ## PT2: data that is shown; draws -/
namespace PL
open PySem PySem.Spec PyProof.Rows L2 MM
mutual
theorem pd_pd0 {μ : Mem} : ∀ (d : MV) (p : PyData), pd0 d = some p → pd μ d = some p
  | .non, _, h => h
  | .bl _, _, h => h
  | .int _, _, h => h
  | .str _, _, h => h
  | .ref _, _, h => by cases h
  | .cst _, _, h => by cases h
  | .scr _, _, h => by cases h
  | .tup xs, p, h => by
    unfold pd0 at h
    obtain ⟨ps, h1, h2⟩ := Option.map_eq_some_iff.mp h
    unfold pd
    rw [pdL_pd0 xs ps h1, ← h2]; rfl
  | .lst xs, p, h => by
    unfold pd0 at h
    obtain ⟨ps, h1, h2⟩ := Option.map_eq_some_iff.mp h
    unfold pd
    rw [pdL_pd0 xs ps h1, ← h2]; rfl
theorem pdL_pd0 {μ : Mem} : ∀ (xs : List MV) (ps : List PyData), pd0L xs = some ps → pdL μ xs = some ps
  | [], _, h => h
  | x :: xs, ps, h => by
    unfold pd0L at h
    unfold pdL
    cases h1 : pd0 x with
    | none => rw [h1] at h; cases h
    | some p =>
      cases h2 : pd0L xs with
      | none => rw [h1, h2] at h; cases h
      | some qs =>
        rw [h1, h2] at h
        rw [pd_pd0 x p h1, pdL_pd0 xs qs h2]
        exact h
end
theorem pd0L_cons {x : MV} {xs : List MV} {p : PyData} {ps : List PyData} (h1 : pd0 x = some p) (h2 : pd0L xs = some ps) : pd0L (x :: xs) = some (p :: ps) := by
  unfold pd0L; rw [h1, h2]
/-- data that can be shown: ints of few signs, depth, how much there is -/
structure Sp (B k n : Nat) (p : PyData) : Prop where
  sh : p.showable = true
  nd : p.hasDict = false
  dp : p.depth ≤ k
  cl : p.canLay0 = true
  lv : p.leavesShort B = true
  bu : p.bulk ≤ n
  ok : ∀ c ∈ p.shown.cps.toList, c < 0x110000
def Sd (B k n : Nat) (d : MV) : Prop := ∃ p, pd0 d = some p ∧ Sp B k n p
theorem Sp.mono {B k n k' n' : Nat} {p : PyData} (h : Sp B k n p) (hk : k ≤ k') (hn : n ≤ n') : Sp B k' n' p := ⟨h.sh, h.nd, Nat.le_trans h.dp hk, h.cl, h.lv, Nat.le_trans h.bu hn, h.ok⟩
theorem Sd.mono {B k n k' n' : Nat} {d : MV} (h : Sd B k n d) (hk : k ≤ k') (hn : n ≤ n') : Sd B k' n' d := let ⟨p, a, b⟩ := h; ⟨p, a, b.mono hk hn⟩
theorem Sp.int {B b : Nat} {i : Int} (h : i.natAbs < 2 ^ b) (hb : 0 < b) (hB : b + 1 ≤ B) (hs : b ≤ 1920) : Sp B 0 0 (.int i) := by
  have hl := bits_le h hb
  have hlen : (PySem.Str.ofString (toString i)).length ≤ B := by
    have := int_text_length_le hb hl
    rw [PySem.ofString_length]
    omega
  refine ⟨?_, rfl, Nat.le_refl _, rfl, ?_, Nat.le_refl _, fun c hc => ?_⟩
  · unfold PyData.showable
    exact decide_eq_true (by omega)
  · unfold PyData.leavesShort
    rw [PyData.shown_int]
    exact decide_eq_true hlen
  · rw [PyData.shown_int] at hc
    refine Classical.byContradiction fun z => ?_
    exact int_text_free' c ⟨by omega, .inr (by omega)⟩ i hc
theorem Sd.int {B b : Nat} {i : Int} (h : i.natAbs < 2 ^ b) (hb : 0 < b) (hB : b + 1 ≤ B) (hs : b ≤ 1920) : Sd B 0 0 (.int i) := ⟨_, rfl, Sp.int h hb hB hs⟩
theorem Sp.str {B n : Nat} {x : Str} (h1 : PyData.strOk x = true) (h2 : PyData.leavesShort B (.str x) = true) (h3 : x.cps.size ≤ n) (h4 : (PyData.shown (.str x)).cps.toList.all (· < 0x110000) = true) : Sp B 0 n (.str x) :=
  ⟨rfl, rfl, Nat.le_refl _, h1, h2, h3, fun c hc => of_decide_eq_true (List.all_eq_true.mp h4 c hc)⟩
theorem Sd.str {B n : Nat} {x : Str} (h1 : PyData.strOk x = true) (h2 : PyData.leavesShort B (.str x) = true) (h3 : x.cps.size ≤ n) (h4 : (PyData.shown (.str x)).cps.toList.all (· < 0x110000) = true) : Sd B 0 n (.str x) := ⟨_, rfl, Sp.str h1 h2 h3 h4⟩
theorem Sp.bl {B : Nat} {b : Bool} : Sp B 0 0 (.bool b) := ⟨rfl, rfl, Nat.le_refl _, rfl, rfl, Nat.le_refl _, by cases b <;> decide⟩
theorem Sp.non {B : Nat} : Sp B 0 0 .none := ⟨rfl, rfl, Nat.le_refl _, rfl, rfl, Nat.le_refl _, by decide⟩
theorem Sd.bl {B : Nat} {b : Bool} : Sd B 0 0 (.bl b) := ⟨_, rfl, Sp.bl⟩
theorem Sd.non {B : Nat} : Sd B 0 0 .non := ⟨_, rfl, Sp.non⟩
section
variable {B k n : Nat}
theorem SpAll : ∀ {ps : List PyData}, (∀ p ∈ ps, Sp B k n p) → PyData.showableAll ps = true ∧ PyData.hasDictAll ps = false ∧ PyData.depthAll ps ≤ k ∧ PyData.canLayAll0 ps = true ∧ PyData.leavesShortAll B ps = true ∧ PyData.bulkAll ps ≤ ps.length * (n + 1) ∧ ∀ t ∈ PyData.shownAll ps, ∀ c ∈ t.cps.toList, c < 0x110000
  | [], _ => ⟨rfl, rfl, Nat.zero_le _, rfl, rfl, Nat.zero_le _, fun t ht => by rw [PyData.shownAll_nil] at ht; cases ht⟩
  | p :: ps, h => by
    have h1 := h p List.mem_cons_self
    obtain ⟨a1, a2, a3, a4, a5, a6, a7⟩ := SpAll (ps := ps) fun q hq => h q (List.mem_cons_of_mem _ hq)
    refine ⟨?_, ?_, ?_, ?_, ?_, ?_, fun t ht => ?_⟩
    · unfold PyData.showableAll; rw [h1.sh, a1]; rfl
    · unfold PyData.hasDictAll; rw [h1.nd, a2]; rfl
    · unfold PyData.depthAll; exact Nat.max_le.mpr ⟨h1.dp, a3⟩
    · unfold PyData.canLayAll0; rw [h1.cl, a4]; rfl
    · unfold PyData.leavesShortAll; rw [h1.lv, a5]; rfl
    · unfold PyData.bulkAll
      have := h1.bu
      rw [List.length_cons, Nat.succ_mul]
      omega
    · rw [PyData.shownAll_cons] at ht
      rcases List.mem_cons.mp ht with rfl | ht
      · exact h1.ok
      · exact a7 t ht
theorem SdAll : ∀ {xs : List MV}, (∀ x ∈ xs, Sd B k n x) → ∃ ps, pd0L xs = some ps ∧ ps.length = xs.length ∧ ∀ p ∈ ps, Sp B k n p
  | [], _ => ⟨[], rfl, rfl, fun p hp => by cases hp⟩
  | x :: xs, h => by
    obtain ⟨p, a, b⟩ := h x List.mem_cons_self
    obtain ⟨ps, c, d, e⟩ := SdAll (xs := xs) fun q hq => h q (List.mem_cons_of_mem _ hq)
    refine ⟨p :: ps, pd0L_cons a c, by rw [List.length_cons, List.length_cons, d], fun q hq => ?_⟩
    rcases List.mem_cons.mp hq with rfl | hq
    · exact b
    · exact e q hq
theorem Sp.list {ps : List PyData} (h : ∀ p ∈ ps, Sp B k n p) : Sp B (k + 1) (ps.length * (n + 1)) (.list ps) := by
  obtain ⟨a1, a2, a3, a4, a5, a6, a7⟩ := SpAll h
  refine ⟨a1, a2, by unfold PyData.depth; omega, a4, a5, a6, fun c hc => ?_⟩
  rw [PyData.shown_list, mem_cps_append, mem_cps_append, mem_join] at hc
  rcases hc with (hc | ⟨t, ht, hc⟩ | ⟨_, hc⟩) | hc
  · rw [signs_lbrack] at hc; simp at hc; omega
  · exact a7 t ht c hc
  · rw [signs_sep] at hc; simp at hc; omega
  · rw [signs_rbrack] at hc; simp at hc; omega
theorem Sp.tuple {ps : List PyData} (h : ∀ p ∈ ps, Sp B k n p) : Sp B (k + 1) (ps.length * (n + 1)) (.tuple ps) := by
  obtain ⟨a1, a2, a3, a4, a5, a6, a7⟩ := SpAll h
  refine ⟨a1, a2, by unfold PyData.depth; omega, a4, a5, a6, fun c hc => ?_⟩
  rw [PyData.shown_tuple, mem_cps_append, mem_cps_append, mem_join] at hc
  rcases hc with (hc | ⟨t, ht, hc⟩ | ⟨_, hc⟩) | hc
  · rw [signs_lparen] at hc; simp at hc; omega
  · exact a7 t ht c hc
  · rw [signs_sep] at hc; simp at hc; omega
  · have key : ∀ b : Bool, c ∈ ((if b = true then ",)" else ")" : String) : Str).cps.toList → c < 0x110000 := fun b hb => by
      have e1 : ((",)" : String) : Str).cps.toList = [44, 41] := by decide
      have e2 : ((")" : String) : Str).cps.toList = [41] := by decide
      cases b
      · have hb : c ∈ ((")" : String) : Str).cps.toList := hb
        rw [e2] at hb; simp at hb; omega
      · have hb : c ∈ ((",)" : String) : Str).cps.toList := hb
        rw [e1] at hb; simp at hb; omega
    exact key _ hc
theorem Sd.lst {xs : List MV} (h : ∀ x ∈ xs, Sd B k n x) : Sd B (k + 1) (xs.length * (n + 1)) (.lst xs) := by
  obtain ⟨ps, a, b, c⟩ := SdAll h
  refine ⟨.list ps, ?_, b ▸ Sp.list c⟩
  unfold pd0; rw [a]; rfl
theorem Sd.tup {xs : List MV} (h : ∀ x ∈ xs, Sd B k n x) : Sd B (k + 1) (xs.length * (n + 1)) (.tup xs) := by
  obtain ⟨ps, a, b, c⟩ := SdAll h
  refine ⟨.tuple ps, ?_, b ▸ Sp.tuple c⟩
  unfold pd0; rw [a]; rfl
theorem Sd.shaped {d : MV} {p : PyData} (h : Sp B k n p) (hk : k ≤ 64) : SeqAt.shaped p = true := by
  unfold SeqAt.shaped; rw [h.cl, decide_eq_true (Nat.le_trans h.dp hk)]; rfl
theorem repr_ok {μ : Mem} {d : MV} (h : Sd B k n d) (hk : k ≤ 50) (hB : 8 ≤ B) (hz : (B + 2) * (n + 1) + B ≤ sizeLine) : ∃ s : Str, reprM μ [.lst [d]] = some (.str s) ∧ PyData.strOk s = true := by
  obtain ⟨p, a, b⟩ := h
  have b1 : Sp B (k + 1) ([p].length * (n + 1)) (.list [p]) := Sp.list fun q hq => by rw [List.mem_singleton.mp hq]; exact b
  have e : pd μ (.lst [d]) = some (.list [p]) := by
    unfold pd
    rw [pdL_pd0 [d] [p] (pd0L_cons a rfl)]; rfl
  have hl := PyData.shown_le_bulk B hB (.list [p]) b1.lv
  have hl2 : (B + 2) * (PyData.list [p]).bulk ≤ (B + 2) * (n + 1) := Nat.mul_le_mul_left _ (by have := b1.bu; simpa using this)
  refine ⟨(PyData.list [p]).shown, ?_, ?_⟩
  · unfold reprM
    dsimp only
    rw [e]
    dsimp only
    rw [if_pos ⟨b1.sh, b1.nd, by have := b1.dp; omega, by omega⟩]
  · unfold PyData.strOk
    rw [← Array.all_toList, List.all_eq_true]
    exact fun c hc => decide_eq_true (b1.ok c hc)
/-- equal ones are shown alike -/
theorem same_ok {μ : Mem} (hm : okMem μ) {d : MV} (h : Sd B k n d) (hk : k ≤ 50) (hB : 8 ≤ B) (hz : (B + 2) * (n + 1) + B ≤ sizeLine) :
    runC ["told", "due"] (sRet (mOp eqM (mCB reprM (mCons (mLst (mCons (mVar 0) mNil)) mNil)) (mCB reprM (mCons (mLst (mCons (mVar 1) mNil)) mNil)))) [d, d] μ = .ok (.bl true) μ := by
  obtain ⟨s, e1, e2⟩ := repr_ok (μ := μ) h hk hB hz
  refine run_rt0 (ret_s (op_ok (cb_ok (one_ok (lst_ok (one_ok (var_ok (d := d) rfl)) (le_size (by simp)))) e1) (cb_ok (one_ok (lst_ok (one_ok (var_ok (d := d) rfl)) (le_size (by simp)))) e1) ?_)) rfl hm
  have sh : SeqAt.shaped (.str s) = true := by
    unfold SeqAt.shaped PyData.canLay0
    rw [e2]; rfl
  rw [eqD_of (d := .str s) (e := .str s) rfl rfl sh sh]
  unfold PyData.eqv
  simp
end
/-- equal data -/
theorem eq_refl {B k n : Nat} {μ : Mem} {d : MV} (h : Sd B k n d) (hk : k ≤ 64) : eqM μ d d = some (.bl true) := by
  obtain ⟨p, a, b⟩ := h
  have sh := Sd.shaped (d := d) b hk
  rw [eqD_of (pd_pd0 d p a) (pd_pd0 d p a) sh sh, SeqAt.eqv_refl p b.cl]
theorem ne_refl {B k n : Nat} {μ : Mem} {d : MV} (h : Sd B k n d) (hk : k ≤ 64) : neM μ d d = some (.bl false) := by
  obtain ⟨p, a, b⟩ := h
  have sh := Sd.shaped (d := d) b hk
  unfold neM eqD
  rw [pd_pd0 d p a]
  dsimp only
  rw [if_pos ⟨sh, sh⟩, SeqAt.eqv_refl p b.cl]
  rfl
/-! ### for, by counted turns -/
theorem for_idx {xs0 : List MV} {g : TgM} {b : SM} (I : Nat → MM.Env → Mem → Prop) (J : MM.Env → Mem → Prop) : ∀ (xs : List MV) (k : Nat) (ρ : MM.Env) (μ : Mem), I k ρ μ → (∀ ρ μ, I (k + xs.length) ρ μ → J ρ μ) →
    (∀ (j : Nat) (x : MV), xs[j]? = some x → ∀ ρ μ, I (k + j) ρ μ → ∃ ρ1 μ1, g x ρ μ = some (ρ1, μ1) ∧ ((∃ ρ2 μ2, (b ρ1 μ1 = .nx ρ2 μ2 ∨ b ρ1 μ1 = .ct ρ2 μ2) ∧ I (k + j + 1) ρ2 μ2) ∨ (∃ ρ2 μ2, b ρ1 μ1 = .bk ρ2 μ2 ∧ J ρ2 μ2))) →
    ∃ ρ' μ', forL ⟨xs0, []⟩ g b xs ρ μ = .nx ρ' μ' ∧ J ρ' μ'
  | [], k, ρ, μ, hi, hj, h => ⟨ρ, μ, for_end, hj ρ μ hi⟩
  | x :: xs, k, ρ, μ, hi, hj, h => by
    obtain ⟨ρ1, μ1, h1, h2⟩ := h 0 x rfl ρ μ hi
    rcases h2 with ⟨ρ2, μ2, h2 | h2, i2⟩ | ⟨ρ2, μ2, h2, j2⟩
    · rw [for_nx h1 h2]
      refine for_idx I J xs (k + 1) ρ2 μ2 i2 (fun ρ μ q => hj ρ μ (by rw [List.length_cons]; rw [show k + (xs.length + 1) = k + 1 + xs.length by omega]; exact q)) fun j y hy ρ μ q => ?_
      have := h (j + 1) y (by simpa using hy) ρ μ (by rw [show k + (j + 1) = k + 1 + j by omega]; exact q)
      rwa [show k + (j + 1) = k + 1 + j by omega] at this
    · have e : forL ⟨xs0, []⟩ g b (x :: xs) ρ μ = forL ⟨xs0, []⟩ g b xs ρ2 μ2 := by
        conv => lhs; unfold forL
        rw [if_pos ok_nil, h1]
        dsimp only
        rw [h2]
      rw [e]
      refine for_idx I J xs (k + 1) ρ2 μ2 i2 (fun ρ μ q => hj ρ μ (by rw [List.length_cons]; rw [show k + (xs.length + 1) = k + 1 + xs.length by omega]; exact q)) fun j y hy ρ μ q => ?_
      have := h (j + 1) y (by simpa using hy) ρ μ (by rw [show k + (j + 1) = k + 1 + j by omega]; exact q)
      rwa [show k + (j + 1) = k + 1 + j by omega] at this
    · rw [for_bk h1 h2]
      exact ⟨ρ2, μ2, rfl, j2⟩
/-! ### the draws -/
structure Ns (xs : List Int) : Prop where
  ne : xs ≠ []
  rg : ∀ x ∈ xs, 0 ≤ x ∧ x < 1009
  ln : xs.length ≤ 4000
def sC (xs : List Int) (k : Nat) : Cell := .lst [.lst (xs.map .int), .int k]
theorem nrs_ints (xs : List Int) : nrs (xs.map .int) = true := nrs_map _ (fun _ => rfl) xs
theorem okC_s {n : Nat} (xs : List Int) (k : Nat) : okC n (sC xs k) = true := okNs_nr _ (by rw [nrs_all]; simp only [List.all_cons, List.all_nil, Bool.and_true]; unfold nr; rw [nrs_ints]; rfl)
theorem okMem_s {xs : List Int} {k j : Nat} {rest : Mem} (h : okMem (sC xs k :: rest)) : okMem (sC xs j :: rest) := by
  unfold okMem at h ⊢
  rw [List.all_cons, Bool.and_eq_true] at h ⊢
  exact ⟨okC_s _ _, h.2⟩
/-- one draw -/
def drw (xs : List Int) (k : Nat) (m : Int) : Int := (xs.getD (k % xs.length) 0 + (k / xs.length : Nat) * 389 + (k : Int) * (k / xs.length : Nat) * 17).fmod m
theorem drw_rg {xs : List Int} {k : Nat} {m : Int} (h : 0 < m) : 0 ≤ drw xs k m ∧ drw xs k m < m := ⟨Int.fmod_nonneg_of_pos _ h, Int.fmod_lt_of_pos _ h⟩
def Mnext : SM := (sSeq (sAsg (mOp addM (mOp ixM (mVar 0) (mRet (.int 1))) (mRet (.int 1))) (gIx (mVar 0) (mRet (.int 1))))
  (sSeq (sAsg (mOp fdivM (mOp ixM (mVar 0) (mRet (.int 1))) (mCB lenM (mCons (mOp ixM (mVar 0) (mRet (.int 0))) mNil))) (gN 2))
  (sRet (mOp modM (mCB intM (mCons (mOp addM (mOp addM (mOp ixM (mOp ixM (mVar 0) (mRet (.int 0))) (mOp modM (mOp ixM (mVar 0) (mRet (.int 1))) (mCB lenM (mCons (mOp ixM (mVar 0) (mRet (.int 0))) mNil)))) (mOp mulM2 (mVar 2) (mRet (.int 389)))) (mOp mulM2 (mOp mulM2 (mOp ixM (mVar 0) (mRet (.int 1))) (mVar 2)) (mRet (.int 17)))) mNil)) (mVar 1)))))
def Fnext : FM := runC ["state", "many", "turn"] Mnext
theorem small_mul {i j : Int} (hi : i.natAbs < 2 ^ 4000) (hj : j.natAbs < 2 ^ 4000) : okMul i j := by
  have a : i.natAbs.log2 < 4000 := bits_le hi (by omega)
  have b : j.natAbs.log2 < 4000 := bits_le hj (by omega)
  unfold okMul
  omega
set_option exponentiation.threshold 5000 in
theorem lt_big {n : Nat} (h : n < 2 ^ 200) : n < 2 ^ 4000 := Nat.lt_of_lt_of_le h (Nat.pow_le_pow_right (by omega) (by omega))
theorem next_ok {xs : List Int} (hx : Ns xs) {k : Nat} (hk : k < 2 ^ 60) {rest : Mem} (hm : okMem (sC xs k :: rest)) {m : Int} (h : 0 < m) : Fnext [.ref 0, .int m] (sC xs k :: rest) = .ok (.int (drw xs (k + 1) m)) (sC xs (k + 1) :: rest) := by
  have hl : 0 < xs.length := List.length_pos_iff.mpr hx.ne
  have hl2 := hx.ln
  have c0 : ∀ j, (sC xs j :: rest)[0]? = some (.lst [.lst (xs.map .int), .int j]) := fun j => rfl
  have hs : (sC xs (k + 1) :: rest).take (sC xs k :: rest).length = sC xs (k + 1) :: rest := List.take_of_length_le (Nat.le_refl _)
  have hdv : ((k : Int) + 1).fdiv xs.length = ((k + 1) / xs.length : Nat) := by
    rw [Int.fdiv_eq_ediv_of_nonneg _ (by omega), Int.natCast_ediv]
    rfl
  have hmd : ((k : Int) + 1).fmod xs.length = ((k + 1) % xs.length : Nat) := by
    rw [Int.fmod_eq_emod_of_nonneg _ (by omega), Int.natCast_emod]
    rfl
  have hlt := Nat.mod_lt (k + 1) hl
  have hq : (k + 1) / xs.length ≤ k + 1 := Nat.div_le_self _ _
  have e1 : lenM (sC xs (k + 1) :: rest) [.lst (xs.map .int)] = some (.int xs.length) := by rw [lenL, List.length_map]
  have ixr : ixM (sC xs (k + 1) :: rest) (.lst (xs.map .int)) (.int ((k + 1) % xs.length : Nat)) = some (.int (xs.getD ((k + 1) % xs.length) 0)) := by
    rw [ixL, atI_nat _ _ (by rw [List.length_map]; exact hlt), List.getElem_map, List.getD_eq_getElem?_getD, List.getElem?_eq_getElem hlt]
    rfl
  have odv : okDiv (xs.length : Int) := .inr ⟨by omega, by omega⟩
  have st : Mnext [some (.ref 0), some (.int m), none] (sC xs k :: rest) = .rt (.int (drw xs (k + 1) m)) (sC xs (k + 1) :: rest) := by
    unfold Mnext
    refine seq_step (ρ1 := [some (.ref 0), some (.int m), none]) (μ1 := sC xs (k + 1) :: rest) (asg_ok (op_ok (op_ok (var_ok rfl) k_ok (ixC 1 (c0 k))) k_ok rfl) rfl) ?_
    refine seq_step (ρ1 := [some (.ref 0), some (.int m), some (.int ((k + 1) / xs.length : Nat))]) (μ1 := sC xs (k + 1) :: rest) (asg_ok (op_ok (op_ok (var_ok rfl) k_ok (ixC 1 (c0 (k + 1)))) (cb_ok (one_ok (op_ok (var_ok rfl) k_ok (ixC 0 (c0 (k + 1))))) e1) ?_) rfl) ?_
    · have : fdivM (sC xs (k + 1) :: rest) (.int ((k + 1 : Nat) : Int)) (.int xs.length) = some (.int (((k : Int) + 1).fdiv xs.length)) := fdivI odv
      rw [hdv] at this
      exact this
    · refine ret_s (op_ok (cb_ok (one_ok (op_ok (op_ok (op_ok (op_ok (var_ok rfl) k_ok (ixC 0 (c0 (k + 1)))) (op_ok (op_ok (var_ok rfl) k_ok (ixC 1 (c0 (k + 1)))) (cb_ok (one_ok (op_ok (var_ok rfl) k_ok (ixC 0 (c0 (k + 1))))) e1) ?_) ixr) (op_ok (var_ok rfl) k_ok (mulI' (small_mul ?_ ?_))) rfl) (op_ok (op_ok (op_ok (var_ok rfl) k_ok (ixC 1 (c0 (k + 1)))) (var_ok rfl) (mulI' (small_mul ?_ ?_))) k_ok (mulI' (small_mul ?_ ?_))) rfl)) rfl) (var_ok rfl) ?_)
      · have : modM (sC xs (k + 1) :: rest) (.int ((k + 1 : Nat) : Int)) (.int xs.length) = some (.int (((k : Int) + 1).fmod xs.length)) := modI (by omega)
        rw [hmd] at this
        exact this
      · exact lt_big (by rw [Int.natAbs_natCast]; omega)
      · exact lt_big (by decide)
      · exact lt_big (by rw [Int.natAbs_natCast]; omega)
      · exact lt_big (by rw [Int.natAbs_natCast]; omega)
      · refine lt_big ?_
        rw [Int.natAbs_mul]
        have a1 : ((k + 1 : Nat) : Int).natAbs < 2 ^ 61 := by omega
        have a2 : (((k + 1) / xs.length : Nat) : Int).natAbs < 2 ^ 61 := by rw [Int.natAbs_natCast]; omega
        calc _ ≤ 2 ^ 61 * 2 ^ 61 := Nat.mul_le_mul (by omega) (by omega)
          _ < 2 ^ 200 := by decide
      · exact lt_big (by decide)
      · exact modI (by omega)
  have := run_rt (N := ["state", "many", "turn"]) (b := Mnext) (ds := [.ref 0, .int m]) (μ := sC xs k :: rest) st rfl (by rw [hs]; exact okMem_s hm)
  rw [hs] at this
  exact this
end PL

set_option Elab.async false
set_option linter.all false
set_option maxRecDepth 100000
set_option maxHeartbeats 4000000
/-! ## PT3: typed data: equal, in, index; slices; while -/
namespace PL
open PySem PySem.Spec PyProof.Rows L2 MM
/-- rep writes α as data of depth at most k, equal just if the same -/
structure Dt {α : Type} [DecidableEq α] (k : Nat) (rep : α → MV) (D : α → PyData) : Prop where
  pd : ∀ x, pd0 (rep x) = some (D x)
  cl : ∀ x, (D x).canLay0 = true
  dp : ∀ x, (D x).depth ≤ k
  eq : ∀ x y, PyData.eqv (D x) (D y) = decide (x = y)
theorem Dt.int : Dt 0 MV.int PyData.int := ⟨fun _ => rfl, fun _ => rfl, fun _ => Nat.le_refl _, fun x y => by unfold PyData.eqv; rfl⟩
theorem Dt.nat : Dt 0 (fun n : Nat => MV.int n) (fun n => PyData.int n) := ⟨fun _ => rfl, fun _ => rfl, fun _ => Nat.le_refl _, fun x y => by
  unfold PyData.eqv
  show decide ((x : Int) = y) = _
  by_cases h : x = y
  · rw [decide_eq_true h, decide_eq_true (by omega)]
  · rw [decide_eq_false h, decide_eq_false (by omega)]⟩
section
variable {α β : Type} [DecidableEq α] [DecidableEq β] {k j : Nat} {rep : α → MV} {D : α → PyData} {rep2 : β → MV} {D2 : β → PyData}
theorem Dt.mono (h : Dt k rep D) (hk : k ≤ j) : Dt j rep D := ⟨h.pd, h.cl, fun x => Nat.le_trans (h.dp x) hk, h.eq⟩
theorem Dt.pair (h : Dt k rep D) (h2 : Dt k rep2 D2) : Dt (k + 1) (fun p : α × β => .tup [rep p.1, rep2 p.2]) (fun p => .tuple [D p.1, D2 p.2]) where
  pd := fun p => by
    show (pd0L [rep p.1, rep2 p.2]).map PyData.tuple = _
    rw [pd0L_cons (h.pd p.1) (pd0L_cons (h2.pd p.2) rfl)]; rfl
  cl := fun p => by
    unfold PyData.canLay0 PyData.canLayAll0 PyData.canLayAll0 PyData.canLayAll0
    rw [h.cl, h2.cl]; rfl
  dp := fun p => by
    unfold PyData.depth PyData.depthAll PyData.depthAll PyData.depthAll
    have := h.dp p.1
    have := h2.dp p.2
    omega
  eq := fun p q => by
    unfold PyData.eqv PyData.eqvAll PyData.eqvAll PyData.eqvAll
    rw [h.eq, h2.eq]
    by_cases e1 : p.1 = q.1 <;> by_cases e2 : p.2 = q.2 <;> simp [e1, e2, Prod.ext_iff]
theorem pd0L_map (h : Dt k rep D) : ∀ xs : List α, pd0L (xs.map rep) = some (xs.map D)
  | [] => rfl
  | x :: xs => pd0L_cons (h.pd x) (pd0L_map h xs)
theorem canL_map (h : Dt k rep D) : ∀ xs : List α, PyData.canLayAll0 (xs.map D) = true
  | [] => rfl
  | x :: xs => by
    show PyData.canLayAll0 (D x :: xs.map D) = true
    unfold PyData.canLayAll0
    rw [h.cl x, canL_map h xs]; rfl
theorem depL_map (h : Dt k rep D) : ∀ xs : List α, PyData.depthAll (xs.map D) ≤ k
  | [] => Nat.zero_le _
  | x :: xs => by
    show PyData.depthAll (D x :: xs.map D) ≤ k
    unfold PyData.depthAll
    exact Nat.max_le.mpr ⟨h.dp x, depL_map h xs⟩
theorem eqvL_map (h : Dt k rep D) : ∀ xs ys : List α, PyData.eqvAll (xs.map D) (ys.map D) = decide (xs = ys)
  | [], [] => rfl
  | [], y :: ys => rfl
  | x :: xs, [] => rfl
  | x :: xs, y :: ys => by
    show PyData.eqvAll (D x :: xs.map D) (D y :: ys.map D) = _
    unfold PyData.eqvAll
    rw [h.eq, eqvL_map h xs ys]
    by_cases e1 : x = y <;> by_cases e2 : xs = ys <;> simp [e1, e2]
theorem Dt.tup (h : Dt k rep D) : Dt (k + 1) (fun xs : List α => .tup (xs.map rep)) (fun xs => .tuple (xs.map D)) where
  pd := fun xs => by
    show (pd0L (xs.map rep)).map PyData.tuple = _
    rw [pd0L_map h]; rfl
  cl := fun xs => by unfold PyData.canLay0; exact canL_map h xs
  dp := fun xs => by unfold PyData.depth; have := depL_map h xs; omega
  eq := fun xs ys => by unfold PyData.eqv; exact eqvL_map h xs ys
theorem Dt.lst (h : Dt k rep D) : Dt (k + 1) (fun xs : List α => .lst (xs.map rep)) (fun xs => .list (xs.map D)) where
  pd := fun xs => by
    show (pd0L (xs.map rep)).map PyData.list = _
    rw [pd0L_map h]; rfl
  cl := fun xs => by unfold PyData.canLay0; exact canL_map h xs
  dp := fun xs => by unfold PyData.depth; have := depL_map h xs; omega
  eq := fun xs ys => by unfold PyData.eqv; exact eqvL_map h xs ys
theorem Dt.shaped (h : Dt k rep D) (hk : k ≤ 64) (x : α) : SeqAt.shaped (D x) = true := by
  unfold SeqAt.shaped
  rw [h.cl, decide_eq_true (Nat.le_trans (h.dp x) hk)]; rfl
theorem Dt.eqM (h : Dt k rep D) (hk : k ≤ 64) (μ : Mem) (x y : α) : eqM μ (rep x) (rep y) = some (.bl (decide (x = y))) := by
  rw [eqD_of (pd_pd0 _ _ (h.pd x)) (pd_pd0 _ _ (h.pd y)) (h.shaped hk x) (h.shaped hk y), h.eq]
theorem Dt.neM (h : Dt k rep D) (hk : k ≤ 64) (μ : Mem) (x y : α) : neM μ (rep x) (rep y) = some (.bl (!decide (x = y))) := by
  unfold MM.neM eqD
  rw [pd_pd0 _ _ (h.pd x), pd_pd0 _ _ (h.pd y)]
  dsimp only
  rw [if_pos ⟨h.shaped hk x, h.shaped hk y⟩, h.eq]; rfl
/-- the list of a value: a cell's or a frozen one -/
theorem pd_list (h : Dt k rep D) {μ : Mem} {d : MV} {xs : List α} (hd : lstOf μ d = some (xs.map rep)) : pd μ d = some (.list (xs.map D)) := by
  cases d with
  | lst ys =>
    cases hd
    unfold MM.pd
    rw [pdL_pd0 _ _ (pd0L_map h xs)]; rfl
  | ref i =>
    unfold MM.pd
    rw [show celOf μ i = some (xs.map rep) from hd]
    dsimp only
    rw [pd0L_map h xs]; rfl
  | _ => cases hd
theorem any_map_eqv (h : Dt k rep D) (x : α) : ∀ xs : List α, (xs.map D).any (fun z => PyData.eqv z (D x)) = decide (x ∈ xs)
  | [] => rfl
  | y :: ys => by
    show (PyData.eqv (D y) (D x) || (ys.map D).any fun z => PyData.eqv z (D x)) = _
    rw [h.eq, any_map_eqv h x ys]
    by_cases e1 : x = y
    · subst e1; simp
    · have : ¬ y = x := fun z => e1 z.symm
      simp [e1, this]
theorem lstOf_notup {μ : Mem} {d : MV} {xs : List MV} (h : lstOf μ d = some xs) : ∀ ys, d ≠ .tup ys := fun ys e => by subst e; cases h
theorem inB_list (h : Dt k rep D) (hk : k ≤ 60) {μ : Mem} {d : MV} {xs : List α} (hd : lstOf μ d = some (xs.map rep)) (x : α) : inB μ (rep x) d = some (decide (x ∈ xs)) := by
  have hl : SeqAt.shaped (.list (xs.map D)) = true := Dt.shaped (Dt.lst h) (by omega) xs
  have e : inB μ (rep x) d = inDl μ (rep x) d := by
    unfold inB
    split
    · rename_i ys
      exact absurd rfl (lstOf_notup hd ys)
    · rfl
  rw [e]
  unfold inDl
  rw [pd_pd0 _ _ (h.pd x), pd_list h hd]
  dsimp only
  rw [if_pos ⟨h.shaped (by omega) x, hl⟩, any_map_eqv h]
theorem Dt.inM (h : Dt k rep D) (hk : k ≤ 60) {μ : Mem} {d : MV} {xs : List α} (hd : lstOf μ d = some (xs.map rep)) (x : α) : inM μ (rep x) d = some (.bl (decide (x ∈ xs))) := by
  unfold MM.inM; rw [inB_list h hk hd]; rfl
theorem Dt.notInM (h : Dt k rep D) (hk : k ≤ 60) {μ : Mem} {d : MV} {xs : List α} (hd : lstOf μ d = some (xs.map rep)) (x : α) : notInM μ (rep x) d = some (.bl (!decide (x ∈ xs))) := by
  unfold MM.notInM; rw [inB_list h hk hd]; rfl
theorem Dt.notIn_t (h : Dt k rep D) (hk : k ≤ 60) {μ : Mem} {d : MV} {xs : List α} (hd : lstOf μ d = some (xs.map rep)) {x : α} (hx : x ∉ xs) : MM.notInM μ (rep x) d = some (.bl true) := by
  rw [h.notInM hk hd, decide_eq_false hx]; rfl
theorem Dt.notIn_f (h : Dt k rep D) (hk : k ≤ 60) {μ : Mem} {d : MV} {xs : List α} (hd : lstOf μ d = some (xs.map rep)) {x : α} (hx : x ∈ xs) : MM.notInM μ (rep x) d = some (.bl false) := by
  rw [h.notInM hk hd, decide_eq_true hx]; rfl
theorem Dt.in_t (h : Dt k rep D) (hk : k ≤ 60) {μ : Mem} {d : MV} {xs : List α} (hd : lstOf μ d = some (xs.map rep)) {x : α} (hx : x ∈ xs) : MM.inM μ (rep x) d = some (.bl true) := by
  rw [h.inM hk hd, decide_eq_true hx]
theorem Dt.in_f (h : Dt k rep D) (hk : k ≤ 60) {μ : Mem} {d : MV} {xs : List α} (hd : lstOf μ d = some (xs.map rep)) {x : α} (hx : x ∉ xs) : MM.inM μ (rep x) d = some (.bl false) := by
  rw [h.inM hk hd, decide_eq_false hx]
theorem firstD_map (h : Dt k rep D) (x : α) : ∀ (xs : List α) (n : Nat), x ∈ xs → firstD (D x) (xs.map D) n = some (n + xs.idxOf x)
  | [], _, hx => by cases hx
  | y :: ys, n, hx => by
    show firstD (D x) (D y :: ys.map D) n = _
    unfold firstD
    rw [h.eq]
    by_cases e : y = x
    · subst e
      rw [decide_eq_true rfl, if_pos rfl]
      simp
    · rw [decide_eq_false e, if_neg (by simp), firstD_map h x ys (n + 1) ((List.mem_cons.mp hx).resolve_left fun z => e z.symm), List.idxOf_cons]
      have : (y == x) = false := by simpa using e
      rw [this]
      simp
      omega
theorem Dt.idx (h : Dt k rep D) (hk : k ≤ 60) {μ : Mem} {d : MV} {xs : List α} (hd : lstOf μ d = some (xs.map rep)) {x : α} (hx : x ∈ xs) : idxM μ d [rep x] = some (.int (xs.idxOf x : Nat), μ) := by
  have hl : SeqAt.shaped (.list (xs.map D)) = true := Dt.shaped (Dt.lst h) (by omega) xs
  unfold idxM
  dsimp only
  rw [hd, pd_pd0 _ _ (h.pd x)]
  dsimp only [Option.bind]
  rw [pdL_pd0 _ _ (pd0L_map h xs)]
  dsimp only
  rw [if_pos ⟨hl, h.shaped (by omega) x⟩, firstD_map h x xs 0 hx, Nat.zero_add]
  rfl
end
theorem sum_map' {α : Type} (μ : Mem) (g : α → Int) (xs : List α) : sumM μ [.lst (xs.map fun c => .int (g c))] = some (.int (xs.map g).sum) := by
  have := sum_map μ (xs.map g)
  rwa [List.map_map] at this
/-! ### slices -/
theorem cut_from {α : Type} (xs : List α) (n : Nat) : cutM xs (some (n : Int)) none = xs.drop n := by
  unfold cutM
  rw [HT.sIx_nat, HT.sIx_none]
  have e : List.drop (min n xs.length) xs = xs.drop n := by
    rcases Nat.le_total n xs.length with h | h
    · rw [Nat.min_eq_left h]
    · rw [Nat.min_eq_right h, List.drop_of_length_le (Nat.le_refl _), List.drop_of_length_le h]
  rw [e]
  exact List.take_of_length_le (by rw [List.length_drop]; omega)
theorem cut_to {α : Type} (xs : List α) (n : Nat) : cutM xs none (some (n : Int)) = xs.take n := by
  unfold cutM
  rw [HT.sIx_nat, HT.sIx_none, List.drop_zero, Nat.sub_zero]
  rcases Nat.le_total n xs.length with h | h
  · rw [Nat.min_eq_left h]
  · rw [Nat.min_eq_right h, List.take_of_length_le (Nat.le_refl _), List.take_of_length_le h]
theorem cut_mid {α : Type} (xs : List α) (n m : Nat) : cutM xs (some (n : Int)) (some (m : Int)) = (xs.drop n).take (m - n) := by
  unfold cutM
  rw [HT.sIx_nat, HT.sIx_nat]
  rcases Nat.le_total n xs.length with h | h
  · rw [Nat.min_eq_left h]
    rcases Nat.le_total m xs.length with g | g
    · rw [Nat.min_eq_left g]
    · rw [Nat.min_eq_right g, List.take_of_length_le (by rw [List.length_drop]; exact Nat.le_refl _), List.take_of_length_le (by rw [List.length_drop]; omega)]
  · rw [Nat.min_eq_right h, List.drop_of_length_le (Nat.le_refl _), List.drop_of_length_le h]
    simp
theorem sliceL {μ : Mem} {d : MV} {xs : List MV} {lo hi : Option Int} (h : lstOf μ d = some xs) : sliceM μ d lo hi = some (.lst (cutM xs lo hi)) := by
  cases d with
  | lst ys => cases h; rfl
  | ref i =>
    show (lstOf μ (.ref i)).map (fun xs => MV.lst (cutM xs lo hi)) = _
    rw [h]; rfl
  | _ => cases h
/-! ### while, for, by counted turns -/
theorem while_range {c : Ev Bool} {b : SM} (env : Nat → MM.Env) (mem : Nat → Mem) (n : Nat) {fuel : Nat} (hf : n < fuel) (h : ∀ i, i < n → c (env i) (mem i) = .ok true (mem i) ∧ b (env i) (mem i) = .nx (env (i + 1)) (mem (i + 1))) (he : c (env n) (mem n) = .ok false (mem n)) :
    whileN c b fuel (env 0) (mem 0) = .nx (env n) (mem n) := by
  have key : ∀ m k f, k + m = n → m < f → whileN c b f (env k) (mem k) = .nx (env n) (mem n) := by
    intro m
    induction m with
    | zero =>
      intro k f hk hf
      obtain ⟨f', rfl⟩ : ∃ f', f = f' + 1 := ⟨f - 1, by omega⟩
      have : k = n := by omega
      subst this
      exact while_stop he
    | succ m ih =>
      intro k f hk hf
      obtain ⟨f', rfl⟩ : ∃ f', f = f' + 1 := ⟨f - 1, by omega⟩
      obtain ⟨h1, h2⟩ := h k (by omega)
      rw [while_go h1 h2]
      exact ih (k + 1) f' (by omega) (by omega)
  exact key n 0 fuel (by omega) hf
theorem forl_range {g : TgM} {b : SM} {xs0 : List MV} (env : Nat → MM.Env) (mem : Nat → Mem) (n : Nat) (h : ∀ i, i < n → ∃ ρ1 μ1, g (.int i) (env i) (mem i) = some (ρ1, μ1) ∧ b ρ1 μ1 = .nx (env (i + 1)) (mem (i + 1))) :
    forL ⟨xs0, []⟩ g b (intsL 0 n) (env 0) (mem 0) = .nx (env n) (mem n) := by
  have key : ∀ m k, k + m = n → forL ⟨xs0, []⟩ g b ((List.range' k m).map fun i => MV.int ((0 : Int) + (i : Nat))) (env k) (mem k) = .nx (env n) (mem n) := by
    intro m
    induction m with
    | zero =>
      intro k hk
      have : k = n := by omega
      subst this
      exact for_end
    | succ m ih =>
      intro k hk
      obtain ⟨ρ1, μ1, h1, h2⟩ := h k (by omega)
      rw [List.range'_succ, List.map_cons, for_nx (by rw [Int.zero_add]; exact h1) h2]
      exact ih (k + 1) (by omega)
  have := key n 0 (by omega)
  unfold intsL
  rw [List.range_eq_range']
  exact this
theorem forl_list {α : Type} {g : TgM} {b : SM} {xs0 : List MV} (rep : α → MV) (xs : List α) (env : Nat → MM.Env) (mem : Nat → Mem) (h : ∀ i (hi : i < xs.length), ∃ ρ1 μ1, g (rep xs[i]) (env i) (mem i) = some (ρ1, μ1) ∧ b ρ1 μ1 = .nx (env (i + 1)) (mem (i + 1))) :
    forL ⟨xs0, []⟩ g b (xs.map rep) (env 0) (mem 0) = .nx (env xs.length) (mem xs.length) := by
  have key : ∀ (ys : List α) (k : Nat), xs.drop k = ys → forL ⟨xs0, []⟩ g b (ys.map rep) (env k) (mem k) = .nx (env (k + ys.length)) (mem (k + ys.length)) := by
    intro ys
    induction ys with
    | nil => intro k _; exact for_end
    | cons y ys ih =>
      intro k hk
      obtain ⟨e1, e2, hl⟩ := drop_get hk
      obtain ⟨ρ1, μ1, h1, h2⟩ := h k hl
      have ey : xs[k] = y := by
        rw [List.getElem?_eq_getElem hl] at e1
        exact Option.some.inj e1
      rw [ey] at h1
      rw [List.map_cons, for_nx h1 h2, ih (k + 1) e2, List.length_cons, show k + (ys.length + 1) = k + 1 + ys.length by omega]
  have := key xs 0 (by simp)
  rwa [Nat.zero_add] at this
/-- .. with an end ahead: at turn n it breaks -/
theorem forl_brk {g : TgM} {b : SM} {xs0 : List MV} (env : Nat → MM.Env) (mem : Nat → Mem) (n m : Nat) {ρe : MM.Env} {μe : Mem} (hn : n < m) (h : ∀ i, i < n → ∃ ρ1 μ1, g (.int i) (env i) (mem i) = some (ρ1, μ1) ∧ b ρ1 μ1 = .nx (env (i + 1)) (mem (i + 1)))
    (he : ∃ ρ1 μ1, g (.int n) (env n) (mem n) = some (ρ1, μ1) ∧ b ρ1 μ1 = .bk ρe μe) :
    forL ⟨xs0, []⟩ g b (intsL 0 m) (env 0) (mem 0) = .nx ρe μe := by
  have key : ∀ q k, k + q = n → ∀ r, q < r → forL ⟨xs0, []⟩ g b ((List.range' k r).map fun i => MV.int ((0 : Int) + (i : Nat))) (env k) (mem k) = .nx ρe μe := by
    intro q
    induction q with
    | zero =>
      intro k hk r hr
      have : k = n := by omega
      subst this
      obtain ⟨r', rfl⟩ : ∃ r', r = r' + 1 := ⟨r - 1, by omega⟩
      obtain ⟨ρ1, μ1, h1, h2⟩ := he
      rw [List.range'_succ, List.map_cons]
      exact for_bk (by rw [Int.zero_add]; exact h1) h2
    | succ q ih =>
      intro k hk r hr
      obtain ⟨r', rfl⟩ : ∃ r', r = r' + 1 := ⟨r - 1, by omega⟩
      obtain ⟨ρ1, μ1, h1, h2⟩ := h k (by omega)
      rw [List.range'_succ, List.map_cons, for_nx (by rw [Int.zero_add]; exact h1) h2]
      exact ih (k + 1) (by omega) r' (by omega)
  have := key n 0 (by omega) m hn
  unfold intsL
  rw [List.range_eq_range']
  exact this
end PL

set_option Elab.async false
set_option linter.all false
set_option maxRecDepth 100000
set_option maxHeartbeats 4000000
/-! ## PT4: the stream, draws in comprehensions -/
namespace PL
open PySem PySem.Spec PyProof.Rows L2 MM
/-- a def that draws -/
theorem run_S {N : List Str} {b : SM} {ds : List MV} {xs : List Int} {k k' : Nat} {rest : Mem} {d : MV} (h : b (envS N ds) (sC xs k :: rest) = .rt d (sC xs k' :: rest)) (hd : nr d = true) (hm : okMem (sC xs k :: rest)) : runC N b ds (sC xs k :: rest) = .ok d (sC xs k' :: rest) := by
  have hs : (sC xs k' :: rest).take (sC xs k :: rest).length = sC xs k' :: rest := List.take_of_length_le (Nat.le_refl _)
  have := run_rt h hd (by rw [hs]; exact okMem_s hm)
  rwa [hs] at this
theorem comp_draw {α : Type} {xs0 : List MV} {g : TgM} {e : Ev MV} {ρ : MM.Env} (rep : α → MV) (Q : α → Prop) (S : Nat → Mem) (c B : Nat) : ∀ (items : List MV) (k : Nat), k + items.length * c ≤ B →
    (∀ x ∈ items, ∀ k, k + c ≤ B → ∃ ρ1, g x ρ (S k) = some (ρ1, S k) ∧ ∃ a k', e ρ1 (S k) = .ok (rep a) (S k') ∧ Q a ∧ k ≤ k' ∧ k' ≤ k + c) →
    ∃ (as : List α) (k' : Nat), compL ⟨xs0, []⟩ g mYes e ρ items (S k) = some (as.map rep, S k') ∧ as.length = items.length ∧ (∀ a ∈ as, Q a) ∧ k ≤ k' ∧ k' ≤ k + items.length * c
  | [], k, _, _ => by
    refine ⟨[], k, ?_, rfl, (fun a ha => by cases ha), Nat.le_refl _, Nat.le_add_right _ _⟩
    unfold compL
    rw [if_pos ok_nil]; rfl
  | x :: items, k, hB, h => by
    rw [List.length_cons, Nat.succ_mul] at hB
    obtain ⟨ρ1, h1, a, k1, h2, h3, h4, h5⟩ := h x List.mem_cons_self k (by omega)
    obtain ⟨as, k', h6, h7, h8, h9, h10⟩ := comp_draw rep Q S c B items k1 (by omega) (fun y hy => h y (List.mem_cons_of_mem _ hy)) (xs0 := xs0) (g := g) (e := e) (ρ := ρ)
    refine ⟨a :: as, k', ?_, by simp [h7], fun b hb => ?_, by omega, by rw [List.length_cons, Nat.succ_mul]; omega⟩
    · unfold compL
      rw [if_pos ok_nil, h1]
      simp only [mYes, mRet, h2, h6, List.map_cons]
    · rcases List.mem_cons.mp hb with rfl | hb
      · exact h3
      · exact h8 b hb
/-- a comprehension that draws -/
theorem mcomp_draw {α : Type} {vs : List Nat} {mi : Ev Itm} {g : TgM} {e : Ev MV} {ρ : MM.Env} (rep : α → MV) (Q : α → Prop) (S : Nat → Mem) (c B : Nat) {items : List MV} {n k : Nat} (hn : items.length = n) (h1 : mi ρ (S k) = .ok ⟨items, []⟩ (S k)) (hl : n ≤ 1000000) (hB : k + n * c ≤ B)
    (h : ∀ x ∈ items, ∀ k, k + c ≤ B → ∃ ρ1, g x (wipeE ρ vs) (S k) = some (ρ1, S k) ∧ ∃ a k', e ρ1 (S k) = .ok (rep a) (S k') ∧ Q a ∧ k ≤ k' ∧ k' ≤ k + c) :
    ∃ (as : List α) (k' : Nat), mComp vs mi g mYes e ρ (S k) = .ok (.lst (as.map rep)) (S k') ∧ as.length = n ∧ (∀ a ∈ as, Q a) ∧ k ≤ k' ∧ k' ≤ k + n * c := by
  subst hn
  obtain ⟨as, k', a1, a2, a3, a4, a5⟩ := comp_draw rep Q S c B items k hB h (xs0 := items)
  refine ⟨as, k', ?_, a2, a3, a4, a5⟩
  unfold mComp mCompL
  unfold mB
  dsimp only
  rw [h1]
  dsimp only
  unfold compT
  rw [if_pos (le_size hl), a1]
  rfl
/-! ### the stream -/
noncomputable def Mstream : SM := (sSeq (sAsg (mLstC mNil) (gN 1))
  (sSeq (sFor (mItm (mSlice (mVar 0) mNoPart (mPart (mRet (.int 63))))) (gN 2) (sSeq (sAsg (mCB absM (mCons (mCB intM (mCons (mVar 2) mNil)) mNil)) (gN 3))
  (sIf (mT (mOp geM (mVar 3) (mOp powM (mRet (.int 10)) (mRet (.int 18))))) (sFor (mRng rng1 (mCons (mRet (.int 60)) mNil)) (gN 4) (sSeq (sDrop (mMeth appM (mVar 1) (mCons (mOp modM (mCB intM (mCons (mVar 3) mNil)) (mRet (.int 1009))) mNil)))
  (sSeq (sAsg (mOp fdivM (mVar 3) (mRet (.int 1009))) (gN 3))
  (sIf (mT (mOp eqM (mVar 3) (mRet (.int 0)))) (fun ρ μ => .bk ρ μ) sPass)))) (sSeq (sAsg (mOp modM (mCB intM (mCons (mVar 3) mNil)) (mRet (.int 2147483647))) (gN 5))
  (sFor (mRng rng1 (mCons (mRet (.int 10)) mNil)) (gN 4) (sSeq (sAsg (mOp modM (mCB intM (mCons (mOp addM (mOp addM (mOp mulM2 (mVar 5) (mRet (.int 48271))) (mOp mulM2 (mRet (.int 7)) (mVar 4))) (mRet (.int 11))) mNil)) (mRet (.int 2147483647))) (gN 5))
  (sDrop (mMeth appM (mVar 1) (mCons (mOp modM (mOp modM (mCB intM (mCons (mOp addM (mOp mulM2 (mVar 5) (mRet (.int 69621))) (mVar 4)) mNil)) (mRet (.int 2147483629))) (mRet (.int 1009))) mNil)))))))))
  (sSeq (sIf (mT (mOp eqM (mCB lenM (mCons (mVar 1) mNil)) (mRet (.int 0)))) (sDrop (mMeth appM (mVar 1) (mCons (mRet (.int 0)) mNil))) sPass)
  (sRet (mVar 1)))))
noncomputable def Fstream : FM := runC ["script", "numbers", "cell", "rest", "k", "stirred"] Mstream
def nums (xs : List Int) : Mem := [.lst (xs.map .int)]
def Rg9 (xs : List Int) : Prop := ∀ x ∈ xs, 0 ≤ x ∧ x < 1009
theorem Rg9.snoc {xs : List Int} {y : Int} (h : Rg9 xs) (hy : 0 ≤ y ∧ y < 1009) : Rg9 (xs ++ [y]) := fun x hx => by
  rcases List.mem_append.mp hx with hx | hx
  · exact h x hx
  · rw [List.mem_singleton.mp hx]; exact hy
theorem nums_app {ρ : MM.Env} {xs : List Int} {mo me : Ev MV} {y : Int} (ho : mo ρ (nums xs) = .ok (.ref 0) (nums xs)) (he : me ρ (nums xs) = .ok (.int y) (nums xs)) (hl : xs.length ≤ 100000) : sDrop (mMeth appM mo (mCons me mNil)) ρ (nums xs) = .nx ρ (nums (xs ++ [y])) := by
  refine (app_s ho (i := 0) (xs := xs.map .int) rfl he (by rw [List.length_map]; omega)).trans ?_
  unfold nums
  rw [List.map_append]
  rfl
theorem fmod9 (i : Int) : 0 ≤ i.fmod 1009 ∧ i.fmod 1009 < 1009 := ⟨Int.fmod_nonneg_of_pos _ (by omega), Int.fmod_lt_of_pos _ (by omega)⟩
theorem stream_ok (ns : List Int) : ∃ xs, Fstream [.scr ns] [] = .ok (.lst (xs.map .int)) [] ∧ Ns xs := by
  let I : Nat → MM.Env → Mem → Prop := fun i ρ μ => ∃ u v w z xs, ρ = [some (.scr ns), some (.ref 0), u, v, w, z] ∧ μ = nums xs ∧ Rg9 xs ∧ xs.length ≤ 60 * i
  have body : ∀ (i : Nat), i < 63 → ∀ (c : Int) (u v w z : Option MV) (xs : List Int), Rg9 xs → xs.length ≤ 60 * i → ∃ ρ2 μ2, (sSeq (sAsg (mCB absM (mCons (mCB intM (mCons (mVar 2) mNil)) mNil)) (gN 3))
  (sIf (mT (mOp geM (mVar 3) (mOp powM (mRet (.int 10)) (mRet (.int 18))))) (sFor (mRng rng1 (mCons (mRet (.int 60)) mNil)) (gN 4) (sSeq (sDrop (mMeth appM (mVar 1) (mCons (mOp modM (mCB intM (mCons (mVar 3) mNil)) (mRet (.int 1009))) mNil)))
  (sSeq (sAsg (mOp fdivM (mVar 3) (mRet (.int 1009))) (gN 3))
  (sIf (mT (mOp eqM (mVar 3) (mRet (.int 0)))) (fun ρ μ => .bk ρ μ) sPass)))) (sSeq (sAsg (mOp modM (mCB intM (mCons (mVar 3) mNil)) (mRet (.int 2147483647))) (gN 5))
  (sFor (mRng rng1 (mCons (mRet (.int 10)) mNil)) (gN 4) (sSeq (sAsg (mOp modM (mCB intM (mCons (mOp addM (mOp addM (mOp mulM2 (mVar 5) (mRet (.int 48271))) (mOp mulM2 (mRet (.int 7)) (mVar 4))) (mRet (.int 11))) mNil)) (mRet (.int 2147483647))) (gN 5))
  (sDrop (mMeth appM (mVar 1) (mCons (mOp modM (mOp modM (mCB intM (mCons (mOp addM (mOp mulM2 (mVar 5) (mRet (.int 69621))) (mVar 4)) mNil)) (mRet (.int 2147483629))) (mRet (.int 1009))) mNil))))))))
      [some (.scr ns), some (.ref 0), some (.int c), v, w, z] (nums xs) = .nx ρ2 μ2 ∧ I (i + 1) ρ2 μ2 := by
    intro i hi c u v w z xs hx hlen
    obtain ⟨r, hr⟩ : ∃ r : Int, absM (nums xs) [.int c] = some (.int r) := ⟨_, rfl⟩
    have s1 : sAsg (mCB absM (mCons (mCB intM (mCons (mVar 2) mNil)) mNil)) (gN 3) [some (.scr ns), some (.ref 0), some (.int c), v, w, z] (nums xs) = .nx [some (.scr ns), some (.ref 0), some (.int c), some (.int r), w, z] (nums xs) :=
      asg_ok (cb_ok (one_ok (cb_ok (one_ok (var_ok rfl)) rfl)) hr) rfl
    have pw : powM (nums xs) (.int 10) (.int 18) = some (.int (10 ^ 18)) := by
      show (if (0 : Int) ≤ 18 ∧ (18 : Int) ≤ 1000000 ∧ (10 : Int).natAbs < 2 ^ 64 then some (MV.int (10 ^ (18 : Int).toNat)) else none) = _
      rw [if_pos (by decide)]; rfl
    have s2 : (mT (mOp geM (mVar 3) (mOp powM (mRet (.int 10)) (mRet (.int 18))))) [some (.scr ns), some (.ref 0), some (.int c), some (.int r), w, z] (nums xs) = .ok (decide ((10 ^ 18 : Int) ≤ r)) (nums xs) :=
      t_ok (op_ok (var_ok rfl) (op_ok k_ok k_ok pw) rfl)
    by_cases big : (10 ^ 18 : Int) ≤ r
    · rw [decide_eq_true big] at s2
      let I2 : Nat → MM.Env → Mem → Prop := fun j ρ μ => ∃ r u w ys, ρ = [some (.scr ns), some (.ref 0), u, some (.int r), w, z] ∧ μ = nums ys ∧ Rg9 ys ∧ ys.length ≤ 60 * i + j
      obtain ⟨ρ', μ', e1, e2⟩ := for_idx (xs0 := intsL 0 60) (g := gN 4) (b := (sSeq (sDrop (mMeth appM (mVar 1) (mCons (mOp modM (mCB intM (mCons (mVar 3) mNil)) (mRet (.int 1009))) mNil)))
          (sSeq (sAsg (mOp fdivM (mVar 3) (mRet (.int 1009))) (gN 3)) (sIf (mT (mOp eqM (mVar 3) (mRet (.int 0)))) (fun ρ μ => .bk ρ μ) sPass)))) I2 (I (i + 1)) (intsL 0 60) 0 [some (.scr ns), some (.ref 0), some (.int c), some (.int r), w, z] (nums xs) ⟨r, _, _, xs, rfl, rfl, hx, by omega⟩
        (fun ρ μ ⟨r, u, w, ys, e1, e2, e3, e4⟩ => ⟨u, _, w, z, ys, e1, e2, e3, by rw [intsL_len] at e4; omega⟩) (by
          intro j x hj ρ μ ⟨r, u, w, ys, e1, e2, e3, e4⟩
          obtain ⟨hj1, rfl⟩ := intsL_get hj
          subst e1 e2
          refine ⟨_, _, rfl, ?_⟩
          have a1 := nums_app (ρ := [some (.scr ns), some (.ref 0), u, some (.int r), some (.int (0 + (j : Int))), z]) (xs := ys) (mo := mVar 1) (me := mOp modM (mCB intM (mCons (mVar 3) mNil)) (mRet (.int 1009))) (y := r.fmod 1009) (var_ok rfl) (op_ok (cb_ok (one_ok (var_ok rfl)) rfl) k_ok (modI (by decide))) (by omega)
          have a2 : sAsg (mOp fdivM (mVar 3) (mRet (.int 1009))) (gN 3) [some (.scr ns), some (.ref 0), u, some (.int r), some (.int (0 + (j : Int))), z] (nums (ys ++ [r.fmod 1009])) = .nx [some (.scr ns), some (.ref 0), u, some (.int (r.fdiv 1009)), some (.int (0 + (j : Int))), z] (nums (ys ++ [r.fmod 1009])) :=
            asg_ok (op_ok (var_ok rfl) k_ok (fdivI (.inr (by decide)))) rfl
          have a3 : (mT (mOp eqM (mVar 3) (mRet (.int 0)))) [some (.scr ns), some (.ref 0), u, some (.int (r.fdiv 1009)), some (.int (0 + (j : Int))), z] (nums (ys ++ [r.fmod 1009])) = .ok (decide (r.fdiv 1009 = 0)) (nums (ys ++ [r.fmod 1009])) := t_ok (op_ok (var_ok rfl) k_ok (eqI _ _ _))
          have ln : (ys ++ [r.fmod 1009]).length ≤ 60 * i + (0 + j + 1) := by rw [List.length_append]; simp; omega
          by_cases z0 : r.fdiv 1009 = 0
          · rw [decide_eq_true z0] at a3
            exact .inr ⟨_, _, seq_step a1 (seq_step a2 (if_t a3 rfl)), u, _, _, z, _, rfl, rfl, e3.snoc (fmod9 r), by omega⟩
          · rw [decide_eq_false z0] at a3
            exact .inl ⟨_, _, .inl (seq_step a1 (seq_step a2 (if_f a3 rfl))), _, _, _, _, rfl, rfl, e3.snoc (fmod9 r), ln⟩)
      exact ⟨ρ', μ', seq_step s1 (if_t s2 (sfor_of (mrng1 (n := 60) (one_ok k_ok) (by decide)) e1)), e2⟩
    · rw [decide_eq_false big] at s2
      have s3 : sAsg (mOp modM (mCB intM (mCons (mVar 3) mNil)) (mRet (.int 2147483647))) (gN 5) [some (.scr ns), some (.ref 0), some (.int c), some (.int r), w, z] (nums xs) = .nx [some (.scr ns), some (.ref 0), some (.int c), some (.int r), w, some (.int (r.fmod 2147483647))] (nums xs) :=
        asg_ok (op_ok (cb_ok (one_ok (var_ok rfl)) rfl) k_ok (modI (by decide))) rfl
      let I2 : Nat → MM.Env → Mem → Prop := fun j ρ μ => ∃ t w ys, ρ = [some (.scr ns), some (.ref 0), some (.int c), some (.int r), w, some (.int t)] ∧ 0 ≤ t ∧ t < 2147483647 ∧ μ = nums ys ∧ Rg9 ys ∧ ys.length ≤ 60 * i + j
      obtain ⟨ρ', μ', e1, e2⟩ := for_idx (xs0 := intsL 0 10) (g := gN 4) (b := (sSeq (sAsg (mOp modM (mCB intM (mCons (mOp addM (mOp addM (mOp mulM2 (mVar 5) (mRet (.int 48271))) (mOp mulM2 (mRet (.int 7)) (mVar 4))) (mRet (.int 11))) mNil)) (mRet (.int 2147483647))) (gN 5))
          (sDrop (mMeth appM (mVar 1) (mCons (mOp modM (mOp modM (mCB intM (mCons (mOp addM (mOp mulM2 (mVar 5) (mRet (.int 69621))) (mVar 4)) mNil)) (mRet (.int 2147483629))) (mRet (.int 1009))) mNil))))) I2 (I (i + 1)) (intsL 0 10) 0 [some (.scr ns), some (.ref 0), some (.int c), some (.int r), w, some (.int (r.fmod 2147483647))] (nums xs)
        ⟨_, _, xs, rfl, Int.fmod_nonneg_of_pos _ (by omega), Int.fmod_lt_of_pos _ (by omega), rfl, hx, by omega⟩
        (fun ρ μ ⟨t, w, ys, e1, _, _, e2, e3, e4⟩ => ⟨_, _, w, _, ys, e1, e2, e3, by rw [intsL_len] at e4; omega⟩) (by
          intro j x hj ρ μ ⟨t, w, ys, e1, t0, t1, e2, e3, e4⟩
          obtain ⟨hj1, rfl⟩ := intsL_get hj
          subst e1 e2
          refine ⟨_, _, rfl, .inl ?_⟩
          obtain ⟨t', ht'⟩ : ∃ t', t' = (t * 48271 + 7 * (0 + (j : Int)) + 11).fmod 2147483647 := ⟨_, rfl⟩
          have t0' : 0 ≤ t' ∧ t' < 2147483647 := by rw [ht']; exact ⟨Int.fmod_nonneg_of_pos _ (by omega), Int.fmod_lt_of_pos _ (by omega)⟩
          have a1 : sAsg (mOp modM (mCB intM (mCons (mOp addM (mOp addM (mOp mulM2 (mVar 5) (mRet (.int 48271))) (mOp mulM2 (mRet (.int 7)) (mVar 4))) (mRet (.int 11))) mNil)) (mRet (.int 2147483647))) (gN 5) [some (.scr ns), some (.ref 0), some (.int c), some (.int r), some (.int (0 + (j : Int))), some (.int t)] (nums ys) = .nx [some (.scr ns), some (.ref 0), some (.int c), some (.int r), some (.int (0 + (j : Int))), some (.int t')] (nums ys) := by
            rw [ht']
            exact asg_ok (op_ok (cb_ok (one_ok (op_ok (op_ok (op_ok (var_ok rfl) k_ok (mulI' (small_mul (lt_big (by omega)) (lt_big (by decide))))) (op_ok k_ok (var_ok rfl) (mulI' (small_mul (lt_big (by decide)) (lt_big (by omega))))) rfl) k_ok rfl)) rfl) k_ok (modI (by decide))) rfl
          have a2 := nums_app (ρ := [some (.scr ns), some (.ref 0), some (.int c), some (.int r), some (.int (0 + (j : Int))), some (.int t')]) (xs := ys) (mo := mVar 1) (me := mOp modM (mOp modM (mCB intM (mCons (mOp addM (mOp mulM2 (mVar 5) (mRet (.int 69621))) (mVar 4)) mNil)) (mRet (.int 2147483629))) (mRet (.int 1009))) (y := ((t' * 69621 + (0 + (j : Int))).fmod 2147483629).fmod 1009)
            (var_ok rfl) (op_ok (op_ok (cb_ok (one_ok (op_ok (op_ok (var_ok rfl) k_ok (mulI' (small_mul (lt_big (by omega)) (lt_big (by decide))))) (var_ok rfl) rfl)) rfl) k_ok (modI (by decide))) k_ok (modI (by decide))) (by omega)
          exact ⟨_, _, .inl (seq_step a1 a2), t', _, _, rfl, t0'.1, t0'.2, rfl, e3.snoc (fmod9 _), by rw [List.length_append]; simp; omega⟩)
      exact ⟨ρ', μ', seq_step s1 (if_f s2 (seq_step s3 (sfor_of (mrng1 (n := 10) (one_ok k_ok) (by decide)) e1))), e2⟩
  have hcut : (cutM ns none (some (63 : Int))).length ≤ 63 := by
    have : cutM ns none (some (63 : Int)) = ns.take 63 := cut_to ns 63
    rw [this, List.length_take]
    omega
  obtain ⟨ρ', μ', e1, u, v, w, z, xs, e2, e3, e4, e5⟩ := for_idx (xs0 := (cutM ns none (some (63 : Int))).map .int) (g := gN 2) (b := (sSeq (sAsg (mCB absM (mCons (mCB intM (mCons (mVar 2) mNil)) mNil)) (gN 3))
  (sIf (mT (mOp geM (mVar 3) (mOp powM (mRet (.int 10)) (mRet (.int 18))))) (sFor (mRng rng1 (mCons (mRet (.int 60)) mNil)) (gN 4) (sSeq (sDrop (mMeth appM (mVar 1) (mCons (mOp modM (mCB intM (mCons (mVar 3) mNil)) (mRet (.int 1009))) mNil)))
  (sSeq (sAsg (mOp fdivM (mVar 3) (mRet (.int 1009))) (gN 3))
  (sIf (mT (mOp eqM (mVar 3) (mRet (.int 0)))) (fun ρ μ => .bk ρ μ) sPass)))) (sSeq (sAsg (mOp modM (mCB intM (mCons (mVar 3) mNil)) (mRet (.int 2147483647))) (gN 5))
  (sFor (mRng rng1 (mCons (mRet (.int 10)) mNil)) (gN 4) (sSeq (sAsg (mOp modM (mCB intM (mCons (mOp addM (mOp addM (mOp mulM2 (mVar 5) (mRet (.int 48271))) (mOp mulM2 (mRet (.int 7)) (mVar 4))) (mRet (.int 11))) mNil)) (mRet (.int 2147483647))) (gN 5))
  (sDrop (mMeth appM (mVar 1) (mCons (mOp modM (mOp modM (mCB intM (mCons (mOp addM (mOp mulM2 (mVar 5) (mRet (.int 69621))) (mVar 4)) mNil)) (mRet (.int 2147483629))) (mRet (.int 1009))) mNil))))))))) I (I 63) ((cutM ns none (some (63 : Int))).map .int) 0 [some (.scr ns), some (.ref 0), none, none, none, none] (nums [])
    ⟨_, _, _, _, [], rfl, rfl, (fun x hx => by cases hx), Nat.zero_le _⟩ (fun ρ μ ⟨u, v, w, z, xs, e1, e2, e3, e4⟩ => ⟨u, v, w, z, xs, e1, e2, e3, by rw [List.length_map] at e4; omega⟩) (by
      intro j x hj ρ μ ⟨u, v, w, z, xs, e1, e2, e3, e4⟩
      rw [List.getElem?_map] at hj
      obtain ⟨c, hc, rfl⟩ := Option.map_eq_some_iff.mp hj
      have hj2 : j < 63 := Nat.lt_of_lt_of_le (List.getElem?_eq_some_iff.mp hc).1 hcut
      subst e1 e2
      obtain ⟨ρ2, μ2, h1, h2⟩ := body j hj2 c u v w z xs e3 (by omega)
      refine ⟨_, _, rfl, .inl ⟨ρ2, μ2, .inl h1, ?_⟩⟩
      rw [show 0 + j + 1 = j + 1 by omega]
      exact h2)
  subst e2 e3
  have key : ∃ ys, Mstream [some (.scr ns), none, none, none, none, none] [] = .rt (.ref 0) (nums ys) ∧ Ns ys := by
    have l0 : sAsg (mLstC mNil) (gN 1) [some (.scr ns), none, none, none, none, none] [] = .nx [some (.scr ns), some (.ref 0), none, none, none, none] (nums []) := asg_ok (lstC_ok nil_ok) rfl
    have lf : (mT (mOp eqM (mCB lenM (mCons (mVar 1) mNil)) (mRet (.int 0)))) [some (.scr ns), some (.ref 0), u, v, w, z] (nums xs) = .ok (decide ((xs.length : Int) = 0)) (nums xs) := by
      have := lenC (μ := nums xs) (i := 0) (xs := xs.map .int) rfl
      rw [List.length_map] at this
      exact t_ok (op_ok (cb_ok (one_ok (var_ok rfl)) this) k_ok (eqI _ _ _))
    unfold Mstream
    by_cases h0 : (xs.length : Int) = 0
    · rw [decide_eq_true h0] at lf
      have x0 : xs = [] := List.length_eq_zero_iff.mp (by omega)
      subst x0
      refine ⟨[0], seq_step l0 (seq_step (sfor_of (mitm (d := .lst ((cutM ns none (some (63 : Int))).map .int)) (slice_ok (a := .scr ns) (h := some 63) (var_ok rfl) nopart_ok (part_ok k_ok) rfl) rfl) e1) (seq_step (if_t lf (nums_app (y := 0) (var_ok rfl) k_ok (by simp))) (ret_s (var_ok rfl)))), by simp, fun x hx => ?_, by simp⟩
      rw [List.mem_singleton.mp hx]; omega
    · rw [decide_eq_false h0] at lf
      exact ⟨xs, seq_step l0 (seq_step (sfor_of (mitm (d := .lst ((cutM ns none (some (63 : Int))).map .int)) (slice_ok (a := .scr ns) (h := some 63) (var_ok rfl) nopart_ok (part_ok k_ok) rfl) rfl) e1) (seq_step (if_n lf) (ret_s (var_ok rfl)))), fun e => h0 (by rw [e]; rfl), e4, by omega⟩
  obtain ⟨ys, h1, h2⟩ := key
  refine ⟨ys, ?_, h2⟩
  exact run_cell (μ := []) (ν := nums ys) (i := 0) (xs := ys.map .int) h1 (Nat.le_refl _) rfl (nrs_ints _) rfl
end PL

set_option linter.all false
/-! ## orbits of a function on finitely many -/
namespace Orb
variable {α : Type} [DecidableEq α]
def P (g : α → α) (x : α) : Nat → α
  | 0 => x
  | t + 1 => g (P g x t)
def line (g : α → α) (x : α) (n : Nat) : List α := (List.range n).map (P g x)
theorem line_len (g : α → α) (x : α) (n : Nat) : (line g x n).length = n := by simp [line]
theorem line_succ (g : α → α) (x : α) (n : Nat) : line g x (n + 1) = line g x n ++ [P g x n] := by
  simp [line, List.range_succ]
theorem line_get {g : α → α} {x : α} {n i : Nat} (h : i < n) : (line g x n)[i]? = some (P g x i) := by
  simp [line, h]
theorem mem_line {g : α → α} {x y : α} {n : Nat} : y ∈ line g x n ↔ ∃ i, i < n ∧ P g x i = y := by
  simp [line]
/-- the first n times are all different -/
def Fresh (g : α → α) (x : α) (n : Nat) : Prop := ∀ i j, i < n → j < n → P g x i = P g x j → i = j
theorem Fresh.succ {g : α → α} {x : α} {n : Nat} (h : Fresh g x n) (k : P g x n ∉ line g x n) : Fresh g x (n + 1) := by
  intro i j hi hj e
  rcases Nat.lt_or_ge i n with a | a
  · rcases Nat.lt_or_ge j n with b | b
    · exact h i j a b e
    · have : j = n := by omega
      subst this
      exact absurd (mem_line.mpr ⟨i, a, e⟩) k
  · have hi2 : i = n := by omega
    subst hi2
    rcases Nat.lt_or_ge j i with b | b
    · exact absurd (mem_line.mpr ⟨j, b, e.symm⟩) k
    · omega
theorem card_le : ∀ (n : Nat) (xs : List Nat), xs.Nodup → (∀ x ∈ xs, x < n) → xs.length ≤ n
  | 0, xs, _, h => by
    cases xs with
    | nil => exact Nat.le_refl _
    | cons x xs => exact absurd (h x List.mem_cons_self) (Nat.not_lt_zero _)
  | n + 1, xs, nd, h => by
    by_cases hn : n ∈ xs
    · have h1 := card_le n (xs.erase n) (nd.erase n) (fun x hx => by
        have a := h x (List.mem_of_mem_erase hx)
        have b := (nd.mem_erase_iff.mp hx).1
        omega)
      have := List.length_erase_of_mem hn
      have := List.length_pos_of_mem hn
      omega
    · have := card_le n xs nd (fun x hx => by
        have a := h x hx
        have b : x ≠ n := fun z => hn (z ▸ hx)
        omega)
      omega
/-- with N of them none is fresh for longer -/
theorem fresh_le {g : α → α} {x : α} {n N : Nat} (f : α → Nat) (hf : ∀ t, f (P g x t) < N) (inj : ∀ s t, f (P g x s) = f (P g x t) → P g x s = P g x t) (h : Fresh g x n) : n ≤ N := by
  have := card_le N ((List.range n).map fun t => f (P g x t)) (by
    rw [List.nodup_iff_pairwise_ne, List.pairwise_map]
    refine List.Pairwise.imp_of_mem ?_ List.nodup_range
    intro a b ha hb hab e
    exact hab (h a b (List.mem_range.mp ha) (List.mem_range.mp hb) (inj a b e))) (fun y hy => by
    obtain ⟨t, _, rfl⟩ := List.mem_map.mp hy
    exact hf t)
  simpa using this
/-- one comes again: at time L the one of time i -/
structure Rho (g : α → α) (x : α) (i L : Nat) : Prop where
  lt : i < L
  eq : P g x L = P g x i
  fr : Fresh g x L
theorem rho_ex {g : α → α} {x : α} {N : Nat} (f : α → Nat) (hf : ∀ t, f (P g x t) < N) (inj : ∀ s t, f (P g x s) = f (P g x t) → P g x s = P g x t) : ∃ i L, L ≤ N ∧ Rho g x i L := by
  have key : ∀ m, Fresh g x m → m ≤ N → ∃ i L, L ≤ N ∧ Rho g x i L := by
    intro m
    induction hk : N - m generalizing m with
    | zero =>
      intro hm hl
      have e : m = N := by omega
      subst e
      have : ¬ Fresh g x (m + 1) := fun z => by have := fresh_le f hf inj z; omega
      by_cases k : P g x m ∈ line g x m
      · obtain ⟨i, a, b⟩ := mem_line.mp k
        exact ⟨i, m, Nat.le_refl _, a, b.symm, hm⟩
      · exact absurd (hm.succ k) this
    | succ k ih =>
      intro hm hl
      by_cases q : P g x m ∈ line g x m
      · obtain ⟨i, a, b⟩ := mem_line.mp q
        exact ⟨i, m, hl, a, b.symm, hm⟩
      · exact ih (m + 1) (by omega) (hm.succ q) (by omega)
  exact key 0 (fun i j hi => absurd hi (Nat.not_lt_zero _)) (Nat.zero_le _)
namespace Rho
variable {g : α → α} {x : α} {i L : Nat}
theorem notin (r : Rho g x i L) {n : Nat} (h : n < L) : P g x n ∉ line g x n := fun z => by
  obtain ⟨j, a, b⟩ := mem_line.mp z
  have := r.fr j n (by omega) h b
  omega
theorem nth (r : Rho g x i L) {j : Nat} (hj : j < L) : (line g x L).idxOf (P g x j) = j := by
  have key : ∀ m k, k ≤ j → j < k + m → k + m ≤ L → ((List.range' k m).map (P g x)).idxOf (P g x j) = j - k := by
    intro m
    induction m with
    | zero => intro k h1 h2; omega
    | succ m ih =>
      intro k h1 h2 h3
      rw [List.range'_succ, List.map_cons, List.idxOf_cons]
      by_cases e : k = j
      · subst e; simp
      · have n : ¬ P g x k = P g x j := fun z => e (r.fr k j (by omega) hj z)
        have : (P g x k == P g x j) = false := by simpa using n
        rw [this, ih (k + 1) (by omega) (by omega) (by omega)]
        simp
        omega
  have := key L 0 (by omega) (by omega) (by omega)
  unfold line
  rw [List.range_eq_range']
  simpa using this
theorem nthL (r : Rho g x i L) : (line g x L).idxOf (P g x L) = i := by rw [r.eq, r.nth r.lt]
theorem isin (r : Rho g x i L) : P g x L ∈ line g x L := mem_line.mpr ⟨i, r.lt, r.eq.symm⟩
theorem per (r : Rho g x i L) : ∀ t, i ≤ t → P g x (t + (L - i)) = P g x t := by
  intro t ht
  induction t with
  | zero =>
    have : i = 0 := by omega
    have e : 0 + (L - i) = L := by have := r.lt; omega
    rw [e, r.eq, this]
  | succ t ih =>
    by_cases h : i ≤ t
    · have e : t + 1 + (L - i) = (t + (L - i)) + 1 := by omega
      rw [e]
      show g (P g x (t + (L - i))) = g (P g x t)
      rw [ih h]
    · have e : t + 1 = i := by omega
      have e2 : t + 1 + (L - i) = L := by have := r.lt; omega
      rw [e2, r.eq, e]
theorem per_mul (r : Rho g x i L) {t : Nat} (ht : i ≤ t) : ∀ k, P g x (t + k * (L - i)) = P g x t
  | 0 => by rw [Nat.zero_mul, Nat.add_zero]
  | k + 1 => by
    have e : t + (k + 1) * (L - i) = (t + k * (L - i)) + (L - i) := by rw [Nat.succ_mul, Nat.add_assoc]
    rw [e, r.per _ (by omega), r.per_mul ht k]
theorem red (r : Rho g x i L) {t : Nat} (ht : i ≤ t) : P g x t = P g x (i + (t - i) % (L - i)) := by
  have h := r.per_mul (t := i + (t - i) % (L - i)) (by omega) ((t - i) / (L - i))
  have e : i + (t - i) % (L - i) + (t - i) / (L - i) * (L - i) = t := by
    have := Nat.mod_add_div (t - i) (L - i)
    rw [Nat.mul_comm] at this
    omega
  rw [e] at h
  exact h
/-- behind time i the same comes again after the ring's length, not ahead -/
theorem not_ahead (r : Rho g x i L) {t k : Nat} (ht : i ≤ t) (k1 : 1 ≤ k) (k2 : k < L - i) : P g x (t + k) ≠ P g x t := fun e => by
  rw [r.red (t := t + k) (by omega), r.red ht] at e
  have p : 0 < L - i := by omega
  have h1 := Nat.mod_lt (t + k - i) p
  have h2 := Nat.mod_lt (t - i) p
  have := r.fr _ _ (by omega) (by omega) e
  have e2 : (t + k - i) % (L - i) = (t - i) % (L - i) := by omega
  have e3 : t + k - i = (t - i) + k := by omega
  rw [e3] at e2
  have d := Nat.div_add_mod (t - i + k) (L - i)
  have d2 := Nat.div_add_mod (t - i) (L - i)
  have : (L - i) * ((t - i + k) / (L - i)) = (L - i) * ((t - i) / (L - i)) + k := by omega
  have hd : ((t - i + k) / (L - i)) ≤ (t - i) / (L - i) ∨ (t - i) / (L - i) + 1 ≤ (t - i + k) / (L - i) := by omega
  rcases hd with hd | hd
  · have := Nat.mul_le_mul_left (L - i) hd
    omega
  · have := Nat.mul_le_mul_left (L - i) hd
    rw [Nat.mul_add, Nat.mul_one] at this
    omega
/-- the sum over a ring does not ask where one begins -/
theorem sum_ring (r : Rho g x i L) (w : α → Int) : ∀ t, i ≤ t → ((List.range (L - i)).map fun k => w (P g x (t + k))).sum = ((List.range (L - i)).map fun k => w (P g x (i + k))).sum := by
  have step : ∀ t, i ≤ t → ((List.range (L - i)).map fun k => w (P g x (t + 1 + k))).sum = ((List.range (L - i)).map fun k => w (P g x (t + k))).sum := by
    intro t ht
    have hp := r.per t ht
    generalize hq : L - i = p at hp
    cases p with
    | zero => rfl
    | succ p =>
      have a1 : ((List.range (p + 1)).map fun k => w (P g x (t + 1 + k))).sum = ((List.range p).map fun k => w (P g x (t + 1 + k))).sum + w (P g x (t + 1 + p)) := by
        rw [List.range_succ, List.map_append, List.sum_append]; simp
      have a2 : ((List.range (p + 1)).map fun k => w (P g x (t + k))).sum = w (P g x (t + 0)) + ((List.range p).map ((fun k => w (P g x (t + k))) ∘ Nat.succ)).sum := by
        rw [List.range_succ_eq_map, List.map_cons, List.sum_cons, List.map_map]
      rw [a1, a2]
      have e1 : ((List.range p).map fun k => w (P g x (t + 1 + k))) = ((List.range p).map ((fun k => w (P g x (t + k))) ∘ Nat.succ)) := by
        refine List.map_congr_left fun k _ => ?_
        show w (P g x (t + 1 + k)) = w (P g x (t + (k + 1)))
        rw [show t + 1 + k = t + (k + 1) by omega]
      have e2 : P g x (t + 1 + p) = P g x (t + 0) := by
        rw [show t + 1 + p = t + (p + 1) by omega, hp]; rfl
      rw [e1, e2]
      omega
  intro t ht
  induction t with
  | zero =>
    have : i = 0 := by omega
    rw [this]
  | succ t ih =>
    by_cases h : i ≤ t
    · rw [step t h, ih h]
    · have : t + 1 = i := by omega
      rw [this]
end Rho
end Orb
/-! ## sums with a discount -/
namespace Dis
def ds (d : Rat) : List Rat → Rat
  | [] => 0
  | g :: gs => g + d * ds d gs
theorem fwd (d : Rat) : ∀ (gs : List Rat) (t w : Rat), gs.foldl (fun (p : Rat × Rat) g => (p.1 + p.2 * g, p.2 * d)) (t, w) = (t + w * ds d gs, w * d ^ gs.length)
  | [], t, w => by
    show (t, w) = (t + w * 0, w * d ^ 0)
    rw [Rat.mul_zero, Rat.add_zero, Rat.pow_zero, Rat.mul_one]
  | g :: gs, t, w => by
    show gs.foldl _ (t + w * g, w * d) = (t + w * (g + d * ds d gs), w * d ^ (gs.length + 1))
    rw [fwd d gs, Rat.pow_succ]
    refine Prod.ext ?_ ?_
    · show t + w * g + w * d * ds d gs = t + w * (g + d * ds d gs)
      grind
    · show w * d * d ^ gs.length = w * (d ^ gs.length * d)
      grind
theorem bwd (d h : Rat) : ∀ gs : List Rat, gs.foldr (fun g a => g + d * a) h = ds d gs + d ^ gs.length * h
  | [] => by
    show h = 0 + d ^ 0 * h
    rw [Rat.pow_zero, Rat.one_mul, Rat.zero_add]
  | g :: gs => by
    show g + d * gs.foldr (fun g a => g + d * a) h = g + d * ds d gs + d ^ (gs.length + 1) * h
    rw [bwd d h gs, Rat.pow_succ]
    grind
end Dis

set_option linter.all false
namespace Dis
theorem ds_snoc (d g : Rat) : ∀ gs : List Rat, ds d (gs ++ [g]) = ds d gs + d ^ gs.length * g
  | [] => by
    show g + d * 0 = 0 + d ^ 0 * g
    rw [Rat.pow_zero]; grind
  | x :: gs => by
    show x + d * ds d (gs ++ [g]) = x + d * ds d gs + d ^ (gs.length + 1) * g
    rw [ds_snoc d g gs, Rat.pow_succ]; grind
theorem ds_take (d : Rat) (gs : List Rat) {j : Nat} (h : j < gs.length) : ds d (gs.take (j + 1)) = ds d (gs.take j) + d ^ j * gs[j] := by
  rw [List.take_succ_eq_append_getElem h, ds_snoc, List.length_take, Nat.min_eq_left (by omega)]
theorem pow_rg {d : Rat} (h0 : 0 ≤ d) (h1 : d < 1) : ∀ n : Nat, 0 ≤ d ^ n ∧ d ^ n ≤ 1
  | 0 => by rw [Rat.pow_zero]; exact ⟨by decide, Rat.le_refl⟩
  | n + 1 => by
    obtain ⟨a, b⟩ := pow_rg h0 h1 n
    rw [Rat.pow_succ]
    refine ⟨Rat.mul_nonneg a h0, ?_⟩
    have := Rat.mul_le_mul_of_nonneg_right b h0
    grind
theorem pow_lt {d : Rat} (h0 : 0 ≤ d) (h1 : d < 1) (n : Nat) : d ^ (n + 1) < 1 := by
  obtain ⟨a, b⟩ := pow_rg h0 h1 n
  rw [Rat.pow_succ]
  have := Rat.mul_le_mul_of_nonneg_right b h0
  grind
theorem num_pos {x : Rat} (h : 0 < x) : 0 < x.num := by
  rcases Int.lt_or_le 0 x.num with a | a
  · exact a
  · have : x ≤ 0 := by
      rw [Rat.le_iff]
      simp
      exact a
    grind
/-! ### the least of pairs -/
def en (k : Nat) : List Int → List (Int × Nat)
  | [] => []
  | m :: ms => (m, k) :: en (k + 1) ms
theorem foldl_min_le : ∀ (ms : List Int) (m : Int), ms.foldl min m ≤ m
  | [], m => Int.le_refl _
  | x :: ms, m => by
    have := foldl_min_le ms (min m x)
    show ms.foldl min (min m x) ≤ m
    omega
theorem min_pairs : ∀ (ms : List Int) (k : Nat) (m0 : Int) (j0 : Nat), j0 < k → (en k ms).foldl (fun a y => if y.1 < a.1 ∨ (y.1 = a.1 ∧ y.2 < a.2) then y else a) (m0, j0) = (ms.foldl min m0, if ms.foldl min m0 = m0 then j0 else k + ms.idxOf (ms.foldl min m0))
  | [], k, m0, j0, _ => by simp [en]
  | m :: ms, k, m0, j0, h => by
    show (en (k + 1) ms).foldl _ (if m < m0 ∨ (m = m0 ∧ k < j0) then (m, k) else (m0, j0)) = (ms.foldl min (min m0 m), if ms.foldl min (min m0 m) = m0 then j0 else k + (m :: ms).idxOf (ms.foldl min (min m0 m)))
    by_cases c : m < m0
    · rw [if_pos (.inl c), min_pairs ms (k + 1) m k (by omega), show min m0 m = m by omega]
      have := foldl_min_le ms m
      rw [if_neg (show ¬ ms.foldl min m = m0 by omega), List.idxOf_cons]
      by_cases e : ms.foldl min m = m
      · rw [if_pos e, e]; simp
      · have : (m == ms.foldl min m) = false := by simpa using fun z => e z.symm
        rw [if_neg e, this]
        simp
        omega
    · rw [if_neg (by omega), min_pairs ms (k + 1) m0 j0 (by omega), show min m0 m = m0 by omega]
      by_cases e : ms.foldl min m0 = m0
      · rw [if_pos e, if_pos e]
      · have := foldl_min_le ms m0
        have q : (m == ms.foldl min m0) = false := by
          have : ¬ m = ms.foldl min m0 := by omega
          simpa using this
        rw [if_neg e, if_neg e, List.idxOf_cons, q]
        simp
        omega
end Dis

set_option linter.all false
/-! ## the value of going on for ever; plans made better -/
namespace Orb
variable {α : Type} [DecidableEq α]
theorem P_shift (g : α → α) (x : α) : ∀ t, P g (g x) t = P g x (t + 1)
  | 0 => rfl
  | t + 1 => by
    show g (P g (g x) t) = g (P g x (t + 1))
    rw [P_shift g x t]
theorem Rho.shift {g : α → α} {x : α} {i L : Nat} (r : Rho g x (i + 1) L) : Rho g (g x) i (L - 1) := by
  have hlt := r.lt
  refine ⟨by omega, ?_, fun a b ha hb e => ?_⟩
  · rw [P_shift, P_shift, show L - 1 + 1 = L by omega]
    exact r.eq
  · rw [P_shift, P_shift] at e
    have := r.fr (a + 1) (b + 1) (by omega) (by omega) e
    omega
theorem Rho.turn {g : α → α} {x : α} {L : Nat} (r : Rho g x 0 L) : Rho g (g x) 0 L := by
  have hlt := r.lt
  have e0 : P g x L = P g x 0 := r.eq
  refine ⟨hlt, ?_, fun a b ha hb e => ?_⟩
  · rw [P_shift, P_shift]
    show g (P g x L) = g (P g x 0)
    rw [e0]
  · rw [P_shift, P_shift] at e
    rcases Nat.lt_or_ge (a + 1) L with a1 | a1
    · rcases Nat.lt_or_ge (b + 1) L with b1 | b1
      · have := r.fr (a + 1) (b + 1) a1 b1 e
        omega
      · have eb : b + 1 = L := by omega
        rw [eb, e0] at e
        have := r.fr (a + 1) 0 a1 hlt e
        omega
    · have ea : a + 1 = L := by omega
      rcases Nat.lt_or_ge (b + 1) L with b1 | b1
      · rw [ea, e0] at e
        have := r.fr 0 (b + 1) hlt b1 e
        omega
      · omega
theorem Rho.uniq {g : α → α} {x : α} {i L i' L' : Nat} (r : Rho g x i L) (r' : Rho g x i' L') : i = i' ∧ L = L' := by
  have h1 := r.lt
  have h2 := r'.lt
  have eL : L = L' := by
    rcases Nat.lt_or_ge L L' with q | q
    · have := r'.fr L i q (by omega) r.eq
      omega
    · rcases Nat.lt_or_ge L' L with q2 | q2
      · have := r.fr L' i' q2 (by omega) r'.eq
        omega
      · omega
  subst eL
  have e : P g x i = P g x i' := r.eq.symm.trans r'.eq
  exact ⟨r.fr i i' h1 h2 e, rfl⟩
end Orb
namespace Dis
open Orb
variable {α : Type} [DecidableEq α]
/-- what is had from x on, for ever -/
def cf (g : α → α) (γ : α → Rat) (d : Rat) (x : α) (i L : Nat) : Rat :=
  ds d ((List.range i).map fun t => γ (P g x t)) + d ^ i * (ds d ((List.range (L - i)).map fun k => γ (P g x (i + k))) / (1 + -(d ^ (L - i))))
theorem rest_ne {d : Rat} (h0 : 0 ≤ d) (h1 : d < 1) {n : Nat} (hn : 1 ≤ n) : 0 < 1 + -(d ^ n) := by
  obtain ⟨m, rfl⟩ : ∃ m, n = m + 1 := ⟨n - 1, by omega⟩
  have := pow_lt h0 h1 m
  grind
theorem cf_step {g : α → α} {γ : α → Rat} {d : Rat} (h0 : 0 ≤ d) (h1 : d < 1) {x : α} {i L i' L' : Nat} (r : Rho g x i L) (r' : Rho g (g x) i' L') : cf g γ d x i L = γ x + d * cf g γ d (g x) i' L' := by
  have hlt := r.lt
  cases i with
  | succ i =>
    obtain ⟨e1, e2⟩ := r'.uniq r.shift
    subst e1 e2
    unfold cf
    have a1 : ((List.range (i' + 1)).map fun t => γ (P g x t)) = γ x :: ((List.range i').map fun t => γ (P g (g x) t)) := by
      rw [List.range_succ_eq_map, List.map_cons, List.map_map]
      refine congrArg (γ x :: ·) (List.map_congr_left fun t _ => ?_)
      show γ (P g x (t + 1)) = γ (P g (g x) t)
      rw [P_shift]
    have a2 : ((List.range (L - (i' + 1))).map fun k => γ (P g x (i' + 1 + k))) = ((List.range (L - 1 - i')).map fun k => γ (P g (g x) (i' + k))) := by
      rw [show L - (i' + 1) = L - 1 - i' by omega]
      refine List.map_congr_left fun k _ => ?_
      rw [P_shift, show i' + 1 + k = i' + k + 1 by omega]
    rw [a1, a2, show L - (i' + 1) = L - 1 - i' by omega]
    show γ x + d * ds d _ + d ^ (i' + 1) * _ = _
    rw [Rat.pow_succ]
    grind
  | zero =>
    obtain ⟨e1, e2⟩ := r'.uniq r.turn
    subst e1 e2
    unfold cf
    have hp := rest_ne h0 h1 (n := L') (by omega)
    simp only [Nat.sub_zero, Nat.zero_add, List.range_zero, List.map_nil]
    obtain ⟨p, rfl⟩ : ∃ p, L' = p + 1 := ⟨L' - 1, by omega⟩
    have a1 : ((List.range (p + 1)).map fun k => γ (P g x k)) = γ x :: ((List.range p).map fun k => γ (P g (g x) k)) := by
      rw [List.range_succ_eq_map, List.map_cons, List.map_map]
      refine congrArg (γ x :: ·) (List.map_congr_left fun t _ => ?_)
      show γ (P g x (t + 1)) = γ (P g (g x) t)
      rw [P_shift]
    have a2 : ((List.range (p + 1)).map fun k => γ (P g (g x) k)) = ((List.range p).map fun k => γ (P g (g x) k)) ++ [γ x] := by
      rw [List.range_succ, List.map_append]
      have : P g (g x) p = x := by
        rw [P_shift]
        exact r.eq
      simp only [List.map_cons, List.map_nil]
      rw [this]
    rw [a1, a2, ds_snoc, List.length_map, List.length_range]
    show (0 : Rat) + d ^ 0 * ((γ x + d * ds d _) / _) = γ x + d * (0 + d ^ 0 * (_ / _))
    generalize ds d ((List.range p).map fun k => γ (P g (g x) k)) = D at *
    have e : d ^ (p + 1) = d ^ p * d := Rat.pow_succ ..
    rw [e] at hp ⊢
    generalize d ^ p = w at *
    have n : 1 + -(w * d) ≠ 0 := by grind
    simp only [Rat.pow_zero]
    have key : γ x + d * D = γ x * (1 + -(w * d)) + d * (D + w * γ x) := by grind
    rw [key]
    grind
/-- .. is at most U, where U is kept -/
theorem cf_le {g : α → α} {γ : α → Rat} {d : Rat} (h0 : 0 ≤ d) (h1 : d < 1) {x : α} {i L : Nat} (r : Rho g x i L) (U : α → Rat) (hU : ∀ t, γ (P g x t) + d * U (P g x (t + 1)) ≤ U (P g x t)) : cf g γ d x i L ≤ U x := by
  have hlt := r.lt
  have part : ∀ (n a : Nat), ds d ((List.range n).map fun k => γ (P g x (a + k))) + d ^ n * U (P g x (a + n)) ≤ U (P g x a) := by
    intro n
    induction n with
    | zero =>
      intro a
      show (0 : Rat) + d ^ 0 * U (P g x (a + 0)) ≤ _
      rw [Rat.pow_zero, Nat.add_zero]
      grind
    | succ n ih =>
      intro a
      have q := ih (a + 1)
      have e : ((List.range (n + 1)).map fun k => γ (P g x (a + k))) = γ (P g x a) :: ((List.range n).map fun k => γ (P g x (a + 1 + k))) := by
        rw [List.range_succ_eq_map, List.map_cons, List.map_map]
        refine congrArg (γ (P g x a) :: ·) (List.map_congr_left fun t _ => ?_)
        show γ (P g x (a + (t + 1))) = _
        rw [show a + (t + 1) = a + 1 + t by omega]
      rw [e, show a + (n + 1) = a + 1 + n by omega, Rat.pow_succ]
      show γ (P g x a) + d * ds d _ + d ^ n * d * _ ≤ _
      have q2 := Rat.mul_le_mul_of_nonneg_left q h0
      have q3 := hU a
      grind
  have pR := part (L - i) i
  rw [show i + (L - i) = L by omega, r.eq] at pR
  have hp := rest_ne h0 h1 (n := L - i) (by omega)
  have pA := part i 0
  simp only [Nat.zero_add] at pA
  have pow0 := (pow_rg h0 h1 i).1
  unfold cf
  generalize ds d ((List.range (L - i)).map fun k => γ (P g x (i + k))) = R at *
  generalize d ^ (L - i) = w at *
  generalize U (P g x i) = u at *
  have n : 1 + -w ≠ 0 := by grind
  have hR : R / (1 + -w) ≤ u := by
    by_cases c : R / (1 + -w) ≤ u
    · exact c
    · exfalso
      have c' : u < R / (1 + -w) := by grind
      have m := Rat.mul_lt_mul_of_pos_right c' hp
      have e : R / (1 + -w) * (1 + -w) = R := by grind
      grind
  have q := Rat.mul_le_mul_of_nonneg_left hR pow0
  have : U (P g x 0) = U x := rfl
  grind
theorem cf_ge {g : α → α} {γ : α → Rat} {d : Rat} (h0 : 0 ≤ d) (h1 : d < 1) {x : α} {i L : Nat} (r : Rho g x i L) (U : α → Rat) (hU : ∀ t, U (P g x t) ≤ γ (P g x t) + d * U (P g x (t + 1))) : U x ≤ cf g γ d x i L := by
  have neg : ∀ (gs : List Rat), ds d (gs.map fun y => -y) = -(ds d gs) := by
    intro gs
    induction gs with
    | nil => show (0 : Rat) = -0; grind
    | cons y gs ih =>
      show -y + d * ds d (gs.map fun y => -y) = -(y + d * ds d gs)
      rw [ih]; grind
  have q := cf_le (γ := fun y => -(γ y)) h0 h1 r (fun y => -(U y)) (fun t => by have := hU t; grind)
  have e : cf g (fun y => -(γ y)) d x i L = -(cf g γ d x i L) := by
    unfold cf
    have e1 : ((List.range i).map fun t => -(γ (P g x t))) = ((List.range i).map fun t => γ (P g x t)).map fun y => -y := by rw [List.map_map]; rfl
    have e2 : ((List.range (L - i)).map fun k => -(γ (P g x (i + k)))) = ((List.range (L - i)).map fun k => γ (P g x (i + k))).map fun y => -y := by rw [List.map_map]; rfl
    rw [e1, e2, neg, neg]
    grind
  rw [e] at q
  grind
end Dis
/-! ## plans -/
namespace Pol
/-- the least of finitely many -/
theorem least (D : Nat → Rat) : ∀ n, 0 < n → ∃ m, m < n ∧ ∀ s, s < n → D m ≤ D s
  | 0, h => absurd h (by omega)
  | 1, _ => ⟨0, by omega, fun s hs => by rw [show s = 0 by omega]; exact Rat.le_refl⟩
  | n + 2, _ => by
    obtain ⟨m, h1, h2⟩ := least D (n + 1) (by omega)
    by_cases c : D m ≤ D (n + 1)
    · exact ⟨m, by omega, fun s hs => by
        rcases Nat.lt_or_ge s (n + 1) with q | q
        · exact h2 s q
        · rw [show s = n + 1 by omega]; exact c⟩
    · exact ⟨n + 1, by omega, fun s hs => by
        rcases Nat.lt_or_ge s (n + 1) with q | q
        · have := h2 s q
          grind
        · rw [show s = n + 1 by omega]; exact Rat.le_refl⟩
/-- what is kept by d from below is not below 0 -/
theorem nonneg {n : Nat} {D : Nat → Rat} {nx : Nat → Nat} {d : Rat} (h0 : 0 ≤ d) (h1 : d < 1) (hn : ∀ s, s < n → nx s < n) (h : ∀ s, s < n → d * D (nx s) ≤ D s) : ∀ s, s < n → 0 ≤ D s := by
  intro s hs
  obtain ⟨m, hm, hl⟩ := least D n (by omega)
  have a := h m hm
  have b := hl (nx m) (hn m hm)
  have c := Rat.mul_le_mul_of_nonneg_left b h0
  have e : 0 ≤ D m := by
    by_cases q : 0 ≤ D m
    · exact q
    · exfalso
      have q2 : D m < 0 := by grind
      have : 0 < 1 - d := by grind
      have : D m * (1 - d) < 0 := by
        have := Rat.mul_lt_mul_of_pos_right q2 this
        grind
      grind
  have := hl s hs
  grind
/-- all rows of n numbers below m -/
def rows (m : Nat) : Nat → List (List Nat)
  | 0 => [[]]
  | n + 1 => (List.range m).flatMap fun x => (rows m n).map (x :: ·)
theorem mem_rows {m : Nat} : ∀ {n : Nat} {p : List Nat}, p.length = n → (∀ x ∈ p, x < m) → p ∈ rows m n
  | 0, [], _, _ => by simp [rows]
  | n + 1, x :: p, h1, h2 => by
    unfold rows
    rw [List.mem_flatMap]
    exact ⟨x, List.mem_range.mpr (h2 x List.mem_cons_self), List.mem_map.mpr ⟨p, mem_rows (by simpa using h1) fun y hy => h2 y (List.mem_cons_of_mem _ hy), rfl⟩⟩
theorem rows_len (m : Nat) : ∀ n, (rows m n).length = m ^ n
  | 0 => rfl
  | n + 1 => by
    unfold rows
    rw [List.length_flatMap]
    have : (List.map (fun a => (List.map (fun x => a :: x) (rows m n)).length) (List.range m)) = List.replicate m (m ^ n) := by
      rw [List.eq_replicate_iff]
      refine ⟨by simp, fun b hb => ?_⟩
      obtain ⟨x, _, rfl⟩ := List.mem_map.mp hb
      rw [List.length_map, rows_len m n]
    rw [this, List.sum_replicate_nat, Nat.pow_succ, Nat.mul_comm]
theorem countP_lt {α : Type} {p q : α → Bool} : ∀ {l : List α}, (∀ x ∈ l, q x = true → p x = true) → (∃ x ∈ l, p x = true ∧ q x = false) → l.countP q < l.countP p
  | [], _, ⟨x, hx, _⟩ => by cases hx
  | y :: l, h, ⟨x, hx, hp, hq⟩ => by
    have le : l.countP q ≤ l.countP p := List.countP_mono_left fun x hx => h x (List.mem_cons_of_mem _ hx)
    rw [List.countP_cons, List.countP_cons]
    rcases List.mem_cons.mp hx with e | hx
    · subst e
      rw [hp, hq]
      simp
      omega
    · have ih := countP_lt (l := l) (fun x hx => h x (List.mem_cons_of_mem _ hx)) ⟨x, hx, hp, hq⟩
      have hy := h y List.mem_cons_self
      cases e : q y with
      | true => rw [hy e]; simp; omega
      | false =>
        cases p y <;> simp <;> omega
end Pol

set_option Elab.async false
set_option linter.all false
set_option maxRecDepth 100000
set_option maxHeartbeats 4000000
/-! ## PT5: least and greatest, told, odds and ends -/
namespace PL
open PySem PySem.Spec PyProof.Rows L2 MM
theorem pd0L_ints : ∀ r : List Int, pd0L (r.map MV.int) = some (r.map PyData.int)
  | [] => rfl
  | x :: r => by
    have ih := pd0L_ints r
    show pd0L (MV.int x :: r.map MV.int) = _
    unfold pd0L
    rw [ih]
    rfl
theorem alike_ints (r : List Int) : alikeB (r.map PyData.int) = true := by
  unfold alikeB
  rw [Bool.and_eq_true, List.all_eq_true, List.all_eq_true]
  refine ⟨fun x hx => List.all_eq_true.mpr fun y hy => ?_, fun x hx => ?_⟩
  · obtain ⟨i, _, rfl⟩ := List.mem_map.mp hx
    obtain ⟨j, _, rfl⟩ := List.mem_map.mp hy
    rfl
  · obtain ⟨i, _, rfl⟩ := List.mem_map.mp hx
    rfl
theorem depth_ints : ∀ r : List Int, PyData.depthAll (r.map PyData.int) ≤ 100
  | [] => by decide
  | x :: r => by
    have := depth_ints r
    show max (PyData.depth (.int x)) (PyData.depthAll (r.map PyData.int)) ≤ 100
    exact Nat.max_le.mpr ⟨by simp [PyData.depth], this⟩
theorem max_ints (μ : Mem) (x : Int) (r : List Int) {d : MV} (h : seqOf μ d = some ((x :: r).map MV.int)) : maxM μ [d] = some (.int (r.foldl max x)) := by
  unfold maxM bestM
  dsimp only
  rw [h]
  dsimp only [Option.bind]
  rw [pd0L_ints]
  dsimp only [List.map]
  rw [if_pos ⟨alike_ints (x :: r), depth_ints (x :: r)⟩, PySem.W.maxD_ints]
  rfl
theorem min_ints (μ : Mem) (x : Int) (r : List Int) {d : MV} (h : seqOf μ d = some ((x :: r).map MV.int)) : minM μ [d] = some (.int (r.foldl min x)) := by
  unfold minM bestM
  dsimp only
  rw [h]
  dsimp only [Option.bind]
  rw [pd0L_ints]
  dsimp only [List.map]
  rw [if_pos ⟨alike_ints (x :: r), depth_ints (x :: r)⟩, PySem.W.minD_ints]
  rfl
/-! ### enumerate; the least of pairs -/
theorem enumL_map {α : Type} (rep : α → MV) : ∀ (xs : List α) (k : Nat), enumL k (xs.map rep) = (xs.zipIdx k).map fun p => .tup [.int p.2, rep p.1]
  | [], _ => rfl
  | x :: xs, k => by
    show .tup [.int k, rep x] :: enumL (k + 1) (xs.map rep) = _
    rw [enumL_map rep xs (k + 1)]; rfl
def rN (p : Int × Nat) : MV := .tup [.int p.1, .int p.2]
def dN (p : Int × Nat) : PyData := .tuple [.int p.1, .int p.2]
theorem pd0L_N : ∀ xs : List (Int × Nat), pd0L (xs.map rN) = some (xs.map dN)
  | [] => rfl
  | x :: xs => pd0L_cons rfl (pd0L_N xs)
theorem alike_N (xs : List (Int × Nat)) : alikeB (xs.map dN) = true := by
  unfold alikeB
  rw [Bool.and_eq_true, List.all_eq_true, List.all_eq_true]
  refine ⟨fun x hx => List.all_eq_true.mpr fun y hy => ?_, fun x hx => ?_⟩
  · obtain ⟨i, _, rfl⟩ := List.mem_map.mp hx
    obtain ⟨j, _, rfl⟩ := List.mem_map.mp hy
    simp [dN, PySem.W.alike, PySem.W.alikeAll]
  · obtain ⟨i, _, rfl⟩ := List.mem_map.mp hx
    rfl
theorem depth_N : ∀ xs : List (Int × Nat), PyData.depthAll (xs.map dN) ≤ 100
  | [] => by decide
  | x :: xs => by
    have := depth_N xs
    show max (PyData.depth (dN x)) (PyData.depthAll (xs.map dN)) ≤ 100
    exact Nat.max_le.mpr ⟨by simp [dN, PyData.depth, PyData.depthAll], this⟩
theorem minD_N : ∀ (xs : List (Int × Nat)) (x : Int × Nat), PySem.W.minD (dN x) (xs.map dN) = dN (xs.foldl (fun a y => if y.1 < a.1 ∨ (y.1 = a.1 ∧ y.2 < a.2) then y else a) x)
  | [], x => rfl
  | y :: ys, x => by
    have ih := minD_N ys (if y.1 < x.1 ∨ (y.1 = x.1 ∧ y.2 < x.2) then y else x)
    unfold PySem.W.minD at ih ⊢
    rw [List.map_cons, List.foldl_cons, List.foldl_cons, ← ih]
    congr 1
    show (if PySem.W.dataLt (dN y) (dN x) = true then dN y else dN x) = _
    unfold dN
    rw [PySem.W.dataLt_ii]
    have q : (((y.2 : Nat) : Int) < ((x.2 : Nat) : Int)) ↔ y.2 < x.2 := by omega
    by_cases c : y.1 < x.1 ∨ (y.1 = x.1 ∧ y.2 < x.2)
    · rw [if_pos c, if_pos (by rw [decide_eq_true_eq, q]; exact c)]
    · rw [if_neg c, if_neg (by rw [decide_eq_true_eq, q]; exact c)]
theorem min_N (μ : Mem) (m : Int) (ms : List Int) : minM μ [.lst ((Dis.en 0 (m :: ms)).map rN)] = some (rN (ms.foldl min m, (m :: ms).idxOf (ms.foldl min m))) := by
  have h := Dis.min_pairs ms 1 m 0 (by omega)
  unfold minM bestM
  show ((some ((Dis.en 0 (m :: ms)).map rN)).bind _) = _
  dsimp only [Option.bind]
  rw [pd0L_N]
  show (if alikeB (dN (m, 0) :: (Dis.en 1 ms).map dN) = true ∧ PyData.depthAll (dN (m, 0) :: (Dis.en 1 ms).map dN) ≤ 100 then unPd (PySem.W.minD (dN (m, 0)) ((Dis.en 1 ms).map dN)) else none) = _
  rw [if_pos ⟨alike_N ((m, 0) :: Dis.en 1 ms), depth_N ((m, 0) :: Dis.en 1 ms)⟩, minD_N, h]
  have e : (if ms.foldl min m = m then 0 else 1 + ms.idxOf (ms.foldl min m)) = (m :: ms).idxOf (ms.foldl min m) := by
    rw [List.idxOf_cons]
    by_cases c : ms.foldl min m = m
    · rw [if_pos c, c]; simp
    · have q : (m == ms.foldl min m) = false := by simpa using fun z => c z.symm
      rw [if_neg c, q]; simp; omega
  rw [e]
  rfl
/-- the greatest, the least of a row -/
def mx : List Int → Int
  | [] => 0
  | x :: r => r.foldl max x
def mn : List Int → Int
  | [] => 0
  | x :: r => r.foldl min x
theorem mx_ok {μ : Mem} {d : MV} {r : List Int} (hr : r ≠ []) (h : seqOf μ d = some (r.map MV.int)) : maxM μ [d] = some (.int (mx r)) := by
  cases r with
  | nil => exact absurd rfl hr
  | cons x r => exact max_ints μ x r h
theorem mn_ok {μ : Mem} {d : MV} {r : List Int} (hr : r ≠ []) (h : seqOf μ d = some (r.map MV.int)) : minM μ [d] = some (.int (mn r)) := by
  cases r with
  | nil => exact absurd rfl hr
  | cons x r => exact min_ints μ x r h
theorem foldl_min_mem : ∀ (r : List Int) (x : Int), r.foldl min x = x ∨ r.foldl min x ∈ r
  | [], x => .inl rfl
  | y :: r, x => by
    show r.foldl min (min x y) = x ∨ r.foldl min (min x y) ∈ y :: r
    rcases foldl_min_mem r (min x y) with h | h
    · rw [h]
      rcases Int.le_total x y with q | q
      · exact .inl (by omega)
      · exact .inr (by rw [show min x y = y by omega]; exact List.mem_cons_self)
    · exact .inr (List.mem_cons_of_mem _ h)
theorem mn_mem {r : List Int} (hr : r ≠ []) : mn r ∈ r := by
  cases r with
  | nil => exact absurd rfl hr
  | cons x r =>
    rcases foldl_min_mem r x with h | h
    · show r.foldl min x ∈ x :: r
      rw [h]; exact List.mem_cons_self
    · exact List.mem_cons_of_mem _ h
theorem min_N' (μ : Mem) {ms : List Int} (h : ms ≠ []) : minM μ [.lst ((Dis.en 0 ms).map rN)] = some (rN (mn ms, ms.idxOf (mn ms))) := by
  cases ms with
  | nil => exact absurd rfl h
  | cons m ms => exact min_N μ m ms
theorem en_zip {α : Type} (f : α → Int) : ∀ (xs : List α) (k : Nat), Dis.en k (xs.map f) = (xs.zipIdx k).map fun p => (f p.1, p.2)
  | [], _ => rfl
  | x :: xs, k => by
    show (f x, k) :: Dis.en (k + 1) (xs.map f) = _
    rw [en_zip f xs (k + 1)]; rfl
/-! ### what is told -/
theorem told_ok {C : Fin 5 → Addr} {m : Ev MV} {ρ : MM.Env} {μ μ1 : Mem} {d : MV} (h : m ρ μ = .ok d μ1) : mTold (ksE C) m ρ μ = .ok (.tup [.str "told", d]) μ1 := by
  unfold mTold; rw [h]; rfl
theorem told_not {C : Fin 5 → Addr} {m : Ev MV} {ρ : MM.Env} {μ μ1 : Mem} (h : m ρ μ = .exc ⟨"NotAllowed", none⟩ μ1) : mTold (ksE C) m ρ μ = .ok (.tup [.str "refused"]) μ1 := by
  unfold mTold; rw [h]
  have : MM.kindOf (ksE C) "NotAllowed" = some (("refused" : Str)) := by
    unfold MM.kindOf ksE
    rw [List.find?_cons_of_pos (by exact decide_eq_true rfl)]
    rfl
  show (match MM.kindOf (ksE C) "NotAllowed" with
    | some k => Out.ok (MV.tup [.str k]) μ1
    | none => .bad) = _
  rw [this]
theorem told_miss {C : Fin 5 → Addr} {m : Ev MV} {ρ : MM.Env} {μ μ1 : Mem} (h : m ρ μ = .exc ⟨"Missing", none⟩ μ1) : mTold (ksE C) m ρ μ = .ok (.tup [.str "missing"]) μ1 := by
  unfold mTold; rw [h]
  have n1 : ¬ ("NotAllowed" : Str) = "Missing" := by decide
  have n2 : ¬ ("TooLarge" : Str) = "Missing" := by decide
  have : MM.kindOf (ksE C) "Missing" = some (("missing" : Str)) := by
    unfold MM.kindOf ksE
    rw [List.find?_cons_of_neg (by exact fun z => n1 (of_decide_eq_true z)), List.find?_cons_of_neg (by exact fun z => n2 (of_decide_eq_true z)), List.find?_cons_of_pos (by exact decide_eq_true rfl)]
    rfl
  show (match MM.kindOf (ksE C) "Missing" with
    | some k => Out.ok (MV.tup [.str k]) μ1
    | none => .bad) = _
  rw [this]
theorem get_app {μ ν : Mem} {i : Nat} : (μ ++ ν)[μ.length + i]? = ν[i]? := by
  rw [List.getElem?_append_right (Nat.le_add_right _ _), Nat.add_sub_cancel_left]
theorem set_app {μ ν : Mem} {i : Nat} {c : Cell} : (μ ++ ν).set (μ.length + i) c = μ ++ ν.set i c := by
  rw [List.set_append_right _ _ (Nat.le_add_right _ _), Nat.add_sub_cancel_left]
theorem sd_ref {B : Nat} : Sd B 1 8 (.tup [.str "refused"]) := by
  have h : ∀ x ∈ [MV.str "refused"], Sd B 0 7 x := fun x hx => by
    rw [List.mem_singleton.mp hx]
    exact Sd.str (by decide +kernel) (by unfold PyData.leavesShort; decide +kernel) (by decide +kernel) (by decide +kernel)
  exact Sd.tup h
theorem sd_two {B k n : Nat} {x y : MV} (h1 : Sd B k n x) (h2 : Sd B k n y) : ∀ z ∈ [x, y], Sd B k n z := fun z hz => by
  rcases List.mem_cons.mp hz with rfl | hz
  · exact h1
  · rw [List.mem_singleton.mp hz]; exact h2
theorem head_range {p : Nat → Bool} {n x : Nat} (h1 : p x = true) (h2 : x < n) (h3 : ∀ y, y < x → p y = false) : ∃ r, (List.range n).filter p = x :: r := by
  have q : ((List.range n).filter p).head? = some x := by
    rw [List.head?_filter, List.find?_range_eq_some]
    exact ⟨h1, List.mem_range.mpr h2, fun j hj => by rw [h3 j hj]; rfl⟩
  cases hl : (List.range n).filter p with
  | nil => rw [hl] at q; cases q
  | cons y r =>
    rw [hl] at q
    cases q
    exact ⟨r, rfl⟩
theorem mulT {μ : Mem} {x : MV} {n : Nat} (h0 : 1 ≤ n) (h1 : n ≤ 1000) : mulM2 μ (.tup [x]) (.int n) = some (.tup (List.replicate n x)) := by
  show (if (n : Int) = 1 then some (MV.tup [x]) else if [x] ≠ [] ∧ (n : Int) ≤ 0 ∧ -(2 ^ 63) ≤ (n : Int) then some (.tup []) else if [x] ≠ [] ∧ 2 ≤ (n : Int) ∧ (n : Int) ≤ 1000 ∧ [x].length ≤ 1000 then some (.tup (List.replicate (n : Int).toNat [x]).flatten) else none) = _
  by_cases e : n = 1
  · subst e; rfl
  · rw [if_neg (by omega), if_neg (by omega), if_pos ⟨by simp, by omega, by omega, by simp⟩, Int.toNat_natCast, List.flatten_replicate_singleton]
/-! ### comprehensions over a cell -/
theorem comp_mapT {α : Type} {t : Itm} {g : TgM} {e : Ev MV} {ρ : MM.Env} {μ : Mem} (ok : t.ok μ) (rep : α → MV) (f : α → MV) : ∀ (xs : List α),
    (∀ x ∈ xs, ∃ ρ1, g (rep x) ρ μ = some (ρ1, μ) ∧ e ρ1 μ = .ok (f x) μ) → compL t g mYes e ρ (xs.map rep) μ = some (xs.map f, μ)
  | [], h => by
    show compL t g mYes e ρ [] μ = _
    unfold compL
    rw [if_pos ok]; rfl
  | x :: xs, h => by
    obtain ⟨ρ1, h1, h2⟩ := h x List.mem_cons_self
    have ih := comp_mapT ok rep f xs (fun y hy => h y (List.mem_cons_of_mem _ hy)) (g := g) (e := e) (ρ := ρ)
    show compL t g mYes e ρ (rep x :: xs.map rep) μ = _
    unfold compL
    rw [if_pos ok, h1]
    simp only [mYes, mRet, h2, ih, List.map_cons]
theorem mcomp_mapT {α : Type} {vs : List Nat} {mi : Ev Itm} {g : TgM} {e : Ev MV} {ρ : MM.Env} {μ μ1 : Mem} {r : MV} {chk : List (Nat × List MV)} (rep : α → MV) (f : α → MV) (xs : List α) (h1 : mi ρ μ = .ok ⟨xs.map rep, chk⟩ μ1) (ok : Itm.ok ⟨xs.map rep, chk⟩ μ1) (hl : xs.length ≤ sizeLine)
    (h : ∀ x ∈ xs, ∃ ρ1, g (rep x) (wipeE ρ vs) μ1 = some (ρ1, μ1) ∧ e ρ1 μ1 = .ok (f x) μ1) (hr : .lst (xs.map f) = r) : mComp vs mi g mYes e ρ μ = .ok r μ1 := by
  unfold mComp mCompL
  unfold mB
  dsimp only
  rw [h1]
  dsimp only
  unfold compT
  rw [if_pos (by rw [List.length_map]; exact hl), comp_mapT ok rep f xs h, ← hr]
  rfl
theorem ok_one {i : Nat} {xs ys : List MV} {μ : Mem} (h : μ[i]? = some (.lst ys)) : Itm.ok ⟨xs, [(i, ys)]⟩ μ := fun p hp => by
  rw [List.mem_singleton.mp hp]
  exact celOf_of h
/-- lists that are equal -/
theorem Dt.eqL {α : Type} [DecidableEq α] {k : Nat} {rep : α → MV} {D : α → PyData} (h : Dt k rep D) (hk : k ≤ 60) {μ : Mem} {a b : MV} {xs ys : List α} (ha : lstOf μ a = some (xs.map rep)) (hb : lstOf μ b = some (ys.map rep)) : MM.eqM μ a b = some (.bl (decide (xs = ys))) := by
  have s1 : SeqAt.shaped (.list (xs.map D)) = true := Dt.shaped (Dt.lst h) (by omega) xs
  have s2 : SeqAt.shaped (.list (ys.map D)) = true := Dt.shaped (Dt.lst h) (by omega) ys
  rw [eqD_of (pd_list h ha) (pd_list h hb) s1 s2]
  unfold PyData.eqv
  rw [eqvL_map h]
/-! ### while with an end by return -/
theorem while_rt {c : Ev Bool} {b : SM} {n : Nat} {ρ : MM.Env} {μ μ1 μ2 : Mem} {d : MV} (h1 : c ρ μ = .ok true μ1) (h2 : b ρ μ1 = .rt d μ2) : whileN c b (n + 1) ρ μ = .rt d μ2 := by
  conv => lhs; unfold whileN
  rw [h1]
  dsimp only
  rw [h2]
/-- a for that may return: by turns; J of what is kept, R of what is returned -/
theorem for_ret {xs0 : List MV} {g : TgM} {b : SM} (I : Nat → MM.Env → Mem → Prop) (R : MV → Mem → Prop) : ∀ (xs : List MV) (k : Nat) (ρ : MM.Env) (μ : Mem), I k ρ μ →
    (∀ (j : Nat) (x : MV), xs[j]? = some x → ∀ ρ μ, I (k + j) ρ μ → ∃ ρ1 μ1, g x ρ μ = some (ρ1, μ1) ∧ ((∃ ρ2 μ2, b ρ1 μ1 = .nx ρ2 μ2 ∧ I (k + j + 1) ρ2 μ2) ∨ (∃ d μ2, b ρ1 μ1 = .rt d μ2 ∧ R d μ2))) →
    (∃ ρ' μ', forL ⟨xs0, []⟩ g b xs ρ μ = .nx ρ' μ' ∧ I (k + xs.length) ρ' μ') ∨ (∃ d μ', forL ⟨xs0, []⟩ g b xs ρ μ = .rt d μ' ∧ R d μ')
  | [], k, ρ, μ, hi, h => .inl ⟨ρ, μ, for_end, hi⟩
  | x :: xs, k, ρ, μ, hi, h => by
    obtain ⟨ρ1, μ1, h1, h2⟩ := h 0 x rfl ρ μ hi
    rcases h2 with ⟨ρ2, μ2, h2, i2⟩ | ⟨d, μ2, h2, r2⟩
    · rw [for_nx h1 h2, List.length_cons, show k + (xs.length + 1) = k + 1 + xs.length by omega]
      refine for_ret I R xs (k + 1) ρ2 μ2 i2 fun j y hy ρ μ q => ?_
      have := h (j + 1) y (by simpa using hy) ρ μ (by rw [show k + (j + 1) = k + 1 + j by omega]; exact q)
      rwa [show k + (j + 1) = k + 1 + j by omega] at this
    · exact .inr ⟨d, μ2, for_rt h1 h2, r2⟩
end PL

set_option linter.all false
/-! ## crowds: plain (no program in sight) -/
namespace Crd
abbrev Cs := List (List Int)
abbrev Ws := List (List (List Int))
abbrev Rw := List Nat
structure OkC (cs : Cs) (ws : Ws) (n m : Nat) : Prop where
  cl : cs.length = n
  wl : ws.length = m
  n1 : 1 ≤ n ∧ n ≤ 6
  m1 : 1 ≤ m ∧ m ≤ 4
  rl : ∀ r ∈ cs, r.length = m
  rg : ∀ r ∈ cs, ∀ c ∈ r, 0 ≤ c ∧ c ≤ 99
  ol : ∀ o ∈ ws, 1 ≤ o.length ∧ o.length ≤ 3
  wy : ∀ o ∈ ws, ∀ w ∈ o, w ≠ [] ∧ (∀ x ∈ w, 0 ≤ x ∧ x < n) ∧ w.Pairwise (· < ·)
/-- the choices of user u -/
def own (ws : Ws) (u : Nat) : List (List Int) := ws.getD u []
def way (ws : Ws) (row : Rw) (u : Nat) : List Int := (own ws u).getD (row.getD u 0) []
structure OkR (ws : Ws) (row : Rw) : Prop where
  l : row.length = ws.length
  c : ∀ u, u < ws.length → row.getD u 0 < (own ws u).length
def add1 (f : List Int) (x : Int) : List Int := f.set x.toNat (f.getD x.toNat 0 + 1)
def addW (f : List Int) (w : List Int) : List Int := w.foldl add1 f
def loadsK (n : Nat) (ws : Ws) (row : Rw) (k : Nat) : List Int := (List.range k).foldl (fun f u => addW f (way ws row u)) (List.replicate n 0)
def loads (n : Nat) (ws : Ws) (row : Rw) : List Int := loadsK n ws row ws.length
theorem loadsK_succ (n : Nat) (ws : Ws) (row : Rw) (k : Nat) : loadsK n ws row (k + 1) = addW (loadsK n ws row k) (way ws row k) := by
  unfold loadsK
  rw [List.range_succ, List.foldl_append]; rfl
theorem add1_len (f : List Int) (x : Int) : (add1 f x).length = f.length := by simp [add1]
theorem addW_len : ∀ (w : List Int) (f : List Int), (addW f w).length = f.length
  | [], f => rfl
  | x :: w, f => by
    show (addW (add1 f x) w).length = _
    rw [addW_len w, add1_len]
theorem loadsK_len (n : Nat) (ws : Ws) (row : Rw) : ∀ k, (loadsK n ws row k).length = n
  | 0 => by simp [loadsK]
  | k + 1 => by rw [loadsK_succ, addW_len, loadsK_len n ws row k]
theorem add1_at {f : List Int} {x : Int} (h0 : 0 ≤ x) (h1 : x < f.length) (i : Nat) : (add1 f x).getD i 0 = f.getD i 0 + if x = i then 1 else 0 := by
  unfold add1
  simp only [List.getD_eq_getElem?_getD, List.getElem?_set]
  by_cases e : x.toNat = i
  · have : x = (i : Int) := by omega
    subst e
    rw [if_pos rfl, if_pos (by omega), if_pos this]
    rfl
  · have : ¬ x = (i : Int) := by omega
    rw [if_neg e, if_neg this]
    omega
theorem addW_at : ∀ {w : List Int} {f : List Int}, (∀ x ∈ w, 0 ≤ x ∧ x < f.length) → ∀ i : Nat, (addW f w).getD i 0 = f.getD i 0 + (w.count (i : Int) : Int)
  | [], f, _, i => by simp [addW]
  | x :: w, f, h, i => by
    have hx := h x List.mem_cons_self
    show (addW (add1 f x) w).getD i 0 = _
    rw [addW_at (fun y hy => by rw [add1_len]; exact h y (List.mem_cons_of_mem _ hy)) i, add1_at hx.1 hx.2, List.count_cons]
    by_cases e : x = (i : Int)
    · subst e
      simp
      omega
    · have : (x == (i : Int)) = false := by simpa using e
      rw [if_neg e, this]
      simp
section
variable {cs : Cs} {ws : Ws} {n m : Nat} {row : Rw}
theorem own_mem (ok : OkC cs ws n m) {u : Nat} (hu : u < m) : own ws u ∈ ws := by
  unfold own
  rw [List.getD_eq_getElem?_getD, List.getElem?_eq_getElem (by rw [ok.wl]; exact hu)]
  exact List.getElem_mem _
theorem way_mem (ok : OkC cs ws n m) (hr : OkR ws row) {u : Nat} (hu : u < m) : way ws row u ∈ own ws u := by
  unfold way
  have := hr.c u (by rw [ok.wl]; exact hu)
  rw [List.getD_eq_getElem?_getD, List.getElem?_eq_getElem this]
  exact List.getElem_mem _
theorem way_ok (ok : OkC cs ws n m) (hr : OkR ws row) {u : Nat} (hu : u < m) : way ws row u ≠ [] ∧ (∀ x ∈ way ws row u, 0 ≤ x ∧ x < n) ∧ (way ws row u).Pairwise (· < ·) := ok.wy _ (own_mem ok hu) _ (way_mem ok hr hu)
theorem way_nd (ok : OkC cs ws n m) (hr : OkR ws row) {u : Nat} (hu : u < m) : (way ws row u).Nodup := (way_ok ok hr hu).2.2.imp fun h => Int.ne_of_lt h
/-- how many of the first k users -/
def ldK (ws : Ws) (row : Rw) (k i : Nat) : Nat := ((List.range k).map fun u => (way ws row u).count (i : Int)).sum
def ld (ws : Ws) (row : Rw) (i : Nat) : Nat := ldK ws row ws.length i
theorem loadsK_at (ok : OkC cs ws n m) (hr : OkR ws row) (i : Nat) : ∀ k, k ≤ m → (loadsK n ws row k).getD i 0 = (ldK ws row k i : Int)
  | 0, _ => by
    unfold loadsK ldK
    rw [List.getD_eq_getElem?_getD]
    simp [List.getElem?_replicate]
    split <;> rfl
  | k + 1, hk => by
    rw [loadsK_succ, addW_at (fun x hx => by rw [loadsK_len]; exact (way_ok ok hr (u := k) (by omega)).2.1 x hx), loadsK_at ok hr i k (by omega)]
    unfold ldK
    rw [List.range_succ, List.map_append, List.sum_append]
    simp
theorem loads_at (ok : OkC cs ws n m) (hr : OkR ws row) (i : Nat) : (loads n ws row).getD i 0 = (ld ws row i : Int) := by
  unfold loads ld
  exact loadsK_at ok hr i _ (by rw [ok.wl]; exact Nat.le_refl _)
theorem count_le (ok : OkC cs ws n m) (hr : OkR ws row) {u : Nat} (hu : u < m) (i : Nat) : (way ws row u).count (i : Int) ≤ 1 := List.nodup_iff_count.mp (way_nd ok hr hu) _
theorem ldK_le (ok : OkC cs ws n m) (hr : OkR ws row) (i : Nat) : ∀ k, k ≤ m → ldK ws row k i ≤ k
  | 0, _ => by simp [ldK]
  | k + 1, hk => by
    have ih := ldK_le ok hr i k (by omega)
    have c := count_le ok hr (u := k) (by omega) i
    unfold ldK at *
    rw [List.range_succ, List.map_append, List.sum_append]
    simp
    omega
theorem ld_le (ok : OkC cs ws n m) (hr : OkR ws row) (i : Nat) : ld ws row i ≤ m := by
  have := ldK_le ok hr i m (Nat.le_refl _)
  unfold ld
  rw [ok.wl]; exact this
/-- cost of thing i, the k-th -/
def co (cs : Cs) (i k : Nat) : Int := (cs.getD i []).getD k 0
/-- what user u pays -/
def pay (cs : Cs) (ws : Ws) (row : Rw) (u : Nat) : Int := ((way ws row u).map fun x => co cs x.toNat (ld ws row x.toNat - 1)).sum
def pays (cs : Cs) (ws : Ws) (row : Rw) : List Int := (List.range ws.length).map (pay cs ws row)
/-- the first k costs of thing i -/
def pre (cs : Cs) (i k : Nat) : Int := ((cs.getD i []).take k).sum
def height (cs : Cs) (ws : Ws) (row : Rw) : Int := ((List.range cs.length).map fun i => pre cs i (ld ws row i)).sum
theorem pre_succ {cs : Cs} {i k : Nat} (h : k < (cs.getD i []).length) : pre cs i (k + 1) = pre cs i k + co cs i k := by
  unfold pre co
  rw [List.take_succ_eq_append_getElem h, List.sum_append, List.getD_eq_getElem?_getD (l := cs.getD i []), List.getElem?_eq_getElem h]
  simp
/-- the loads without user u -/
def wo (ws : Ws) (row : Rw) (u i : Nat) : Nat := ld ws row i - (way ws row u).count (i : Int)
theorem sum_ge {f : Nat → Nat} : ∀ {k u : Nat}, u < k → f u ≤ ((List.range k).map f).sum
  | 0, u, h => absurd h (by omega)
  | k + 1, u, h => by
    rw [List.range_succ, List.map_append, List.sum_append]
    simp
    rcases Nat.lt_or_ge u k with q | q
    · have := sum_ge (f := f) q; omega
    · rw [show u = k by omega]; omega
theorem ld_wo (ok : OkC cs ws n m) {u : Nat} (hu : u < m) (i : Nat) : ld ws row i = wo ws row u i + (way ws row u).count (i : Int) := by
  have : (way ws row u).count (i : Int) ≤ ld ws row i := by
    unfold ld ldK
    exact sum_ge (f := fun u => (way ws row u).count (i : Int)) (by rw [ok.wl]; exact hu)
  unfold wo
  omega
/-- changed at u -/
def chg (row : Rw) (u c : Nat) : Rw := row.take u ++ c :: row.drop (u + 1)
theorem chg_len {row : Rw} {u c : Nat} (h : u < row.length) : (chg row u c).length = row.length := by
  unfold chg
  simp [List.length_take, List.length_drop]
  omega
theorem chg_at {row : Rw} {u c : Nat} (h : u < row.length) (v : Nat) : (chg row u c).getD v 0 = if v = u then c else row.getD v 0 := by
  unfold chg
  rw [List.getD_eq_getElem?_getD, List.getD_eq_getElem?_getD]
  rcases Nat.lt_trichotomy v u with q | q | q
  · rw [List.getElem?_append_left (by rw [List.length_take]; omega), List.getElem?_take, if_pos q, if_neg (by omega)]
  · subst q
    rw [List.getElem?_append_right (by rw [List.length_take]; omega), List.length_take, show v - min v row.length = 0 by omega, if_pos rfl]
    rfl
  · rw [List.getElem?_append_right (by rw [List.length_take]; omega), List.length_take, show v - min u row.length = (v - u - 1) + 1 by omega, List.getElem?_cons_succ, List.getElem?_drop, show u + 1 + (v - u - 1) = v by omega, if_neg (by omega)]
theorem chg_ok (hr : OkR ws row) {u c : Nat} (hu : u < ws.length) (hc : c < (own ws u).length) : OkR ws (chg row u c) := by
  refine ⟨by rw [chg_len (by rw [hr.l]; exact hu)]; exact hr.l, fun v hv => ?_⟩
  rw [chg_at (by rw [hr.l]; exact hu)]
  split
  · rename_i e
    rw [e]; exact hc
  · exact hr.c v hv
theorem chg_way (hr : OkR ws row) {u c v : Nat} (hu : u < ws.length) (hv : v ≠ u) : way ws (chg row u c) v = way ws row v := by
  unfold way
  rw [chg_at (by rw [hr.l]; exact hu), if_neg hv]
theorem sum_but {f g : Nat → Nat} {u : Nat} : ∀ {k : Nat}, u < k → (∀ v, v ≠ u → f v = g v) → ((List.range k).map f).sum - f u = ((List.range k).map g).sum - g u
  | 0, h, _ => absurd h (by omega)
  | k + 1, h, e => by
    rw [List.range_succ, List.map_append, List.map_append, List.sum_append, List.sum_append]
    simp
    rcases Nat.lt_or_ge u k with q | q
    · have ih := sum_but (f := f) (g := g) q e
      have h1 := sum_ge (f := f) q
      have h2 := sum_ge (f := g) q
      have := e k (by omega)
      omega
    · have hk : u = k := by omega
      subst hk
      have : (List.range u).map f = (List.range u).map g := List.map_congr_left fun v hv => e v (by have := List.mem_range.mp hv; omega)
      rw [this]
      omega
theorem chg_wo (hr : OkR ws row) {u c : Nat} (hu : u < ws.length) (i : Nat) : wo ws (chg row u c) u i = wo ws row u i := by
  unfold wo ld ldK
  exact sum_but (f := fun v => (way ws (chg row u c) v).count (i : Int)) (g := fun v => (way ws row v).count (i : Int)) hu fun v hv => by rw [chg_way hr hu hv]
/-- over the things of a way: once each -/
theorem sum_way {f : Nat → Int} {n : Nat} : ∀ {w : List Int}, w.Nodup → (∀ x ∈ w, 0 ≤ x ∧ x < n) → ((List.range n).map fun i : Nat => if (i : Int) ∈ w then f i else 0).sum = (w.map fun x => f x.toNat).sum
  | [], _, _ => by
    have z : ∀ k, ((List.range k).map fun _ : Nat => (0 : Int)).sum = 0 := by
      intro k
      induction k with
      | zero => rfl
      | succ k ih => rw [List.range_succ, List.map_append, List.sum_append, ih]; rfl
    simpa using z n
  | x :: w, nd, h => by
    obtain ⟨nx, nd⟩ := List.nodup_cons.mp nd
    have ih := sum_way (f := f) (n := n) nd fun y hy => h y (List.mem_cons_of_mem _ hy)
    have hx := h x List.mem_cons_self
    rw [List.map_cons, List.sum_cons, ← ih]
    have key : ∀ k, ((List.range k).map fun i : Nat => if (i : Int) ∈ x :: w then f i else 0).sum = (if x.toNat < k then f x.toNat else 0) + ((List.range k).map fun i : Nat => if (i : Int) ∈ w then f i else 0).sum := by
      intro k
      induction k with
      | zero => simp
      | succ k ihk =>
        rw [List.range_succ, List.map_append, List.map_append, List.sum_append, List.sum_append, ihk]
        simp only [List.map_cons, List.map_nil, List.sum_cons, List.sum_nil, List.mem_cons]
        rcases Nat.lt_trichotomy x.toNat k with q | q | q
        · have : ¬ (k : Int) = x := by omega
          simp only [this, false_or]
          rw [if_pos (show x.toNat < k from q), if_pos (show x.toNat < k + 1 by omega)]
          omega
        · have e : (k : Int) = x := by omega
          rw [if_neg (show ¬ x.toNat < k by omega), if_pos (show x.toNat < k + 1 by omega), if_pos (Or.inl e), if_neg (show ¬ (k : Int) ∈ w by rw [e]; exact nx), q]
          omega
        · have : ¬ (k : Int) = x := by omega
          simp only [this, false_or]
          rw [if_neg (show ¬ x.toNat < k by omega), if_neg (show ¬ x.toNat < k + 1 by omega)]
          omega
    rw [key n, if_pos (by omega)]
theorem count_mem (ok : OkC cs ws n m) (hr : OkR ws row) {u : Nat} (hu : u < m) (i : Nat) : (way ws row u).count (i : Int) = if (i : Int) ∈ way ws row u then 1 else 0 := by
  have nd := way_nd ok hr hu
  split
  · rename_i h
    exact Nat.le_antisymm (List.nodup_iff_count.mp nd _) (List.count_pos_iff.mpr h)
  · rename_i h
    exact List.count_eq_zero.mpr h
theorem row_len (ok : OkC cs ws n m) {i : Nat} (hi : i < n) : (cs.getD i []).length = m := by
  refine ok.rl _ ?_
  rw [List.getD_eq_getElem?_getD, List.getElem?_eq_getElem (by rw [ok.cl]; exact hi)]
  exact List.getElem_mem _
/-- the height: what is there without u, and what u pays -/
theorem height_pay (ok : OkC cs ws n m) (hr : OkR ws row) {u : Nat} (hu : u < m) : height cs ws row = ((List.range n).map fun i => pre cs i (wo ws row u i)).sum + pay cs ws row u := by
  have hw := way_ok ok hr hu
  have e1 : pay cs ws row u = ((way ws row u).map fun x => co cs x.toNat (wo ws row u x.toNat)).sum := by
    unfold pay
    refine congrArg List.sum (List.map_congr_left fun x hx => ?_)
    have hx0 := hw.2.1 x hx
    have e : ((x.toNat : Nat) : Int) = x := by omega
    have := ld_wo (row := row) ok hu x.toNat
    rw [count_mem ok hr hu, e, if_pos hx] at this
    rw [this, Nat.add_sub_cancel]
  rw [e1, ← sum_way (f := fun i => co cs i (wo ws row u i)) (n := n) (way_nd ok hr hu) hw.2.1]
  unfold height
  rw [ok.cl]
  have key : ∀ k, k ≤ n → ((List.range k).map fun i => pre cs i (ld ws row i)).sum = ((List.range k).map fun i => pre cs i (wo ws row u i)).sum + ((List.range k).map fun i : Nat => if (i : Int) ∈ way ws row u then co cs i (wo ws row u i) else 0).sum := by
    intro k
    induction k with
    | zero => intro _; rfl
    | succ k ih =>
      intro hk
      have ih := ih (by omega)
      rw [List.range_succ, List.map_append, List.map_append, List.map_append, List.sum_append, List.sum_append, List.sum_append, ih]
      simp only [List.map_cons, List.map_nil, List.sum_cons, List.sum_nil]
      have e := ld_wo (row := row) ok hu k
      rw [count_mem ok hr hu] at e
      split
      · rename_i h
        rw [if_pos h] at e
        rw [e, pre_succ (by rw [row_len ok (by omega)]; have := ld_le ok hr k; omega)]
        omega
      · rename_i h
        rw [if_neg h, Nat.add_zero] at e
        rw [e]
        omega
  exact key n (Nat.le_refl _)
/-- one's own change moves the height by what one pays -/
theorem height_chg (ok : OkC cs ws n m) (hr : OkR ws row) {u c : Nat} (hu : u < m) (hc : c < (own ws u).length) : height cs ws (chg row u c) - height cs ws row = pay cs ws (chg row u c) u - pay cs ws row u := by
  have hu' : u < ws.length := by rw [ok.wl]; exact hu
  rw [height_pay ok hr hu, height_pay ok (chg_ok hr hu' hc) hu]
  have : ((List.range n).map fun i => pre cs i (wo ws (chg row u c) u i)) = (List.range n).map fun i => pre cs i (wo ws row u i) := List.map_congr_left fun i _ => by rw [chg_wo hr hu']
  rw [this]
  omega
end
end Crd

set_option Elab.async false
set_option linter.all false
set_option maxRecDepth 100000
set_option maxHeartbeats 4000000
namespace K33
open PySem PySem.Spec PyProof.Rows L2 MM PL Crd
/-! ### crowds as values -/
abbrev rI (r : List Int) : MV := .tup (r.map .int)
abbrev rO (o : List (List Int)) : MV := .tup (o.map rI)
abbrev rWs (ws : Ws) : MV := .tup (ws.map rO)
abbrev rCo (cs : Cs) : MV := .tup (cs.map rI)
abbrev rNt (n : Nat) : MV := .int (n : Nat)
abbrev rRow (r : Rw) : MV := .tup (r.map rNt)
theorem nr_I (r : List Int) : nr (rI r) = true := by unfold rI nr; exact nrs_map _ (fun _ => rfl) r
theorem nr_O (o : List (List Int)) : nr (rO o) = true := by unfold rO nr; exact nrs_map _ nr_I o
theorem nr_Ws (ws : Ws) : nr (rWs ws) = true := by unfold rWs nr; exact nrs_map _ nr_O ws
theorem nr_Co (cs : Cs) : nr (rCo cs) = true := by unfold rCo nr; exact nrs_map _ nr_I cs
theorem nr_Row (r : Rw) : nr (rRow r) = true := by unfold rRow nr; exact nrs_map _ (fun _ => rfl) r
theorem lenI (μ : Mem) (r : List Int) : lenM μ [rI r] = some (.int r.length) := by
  show some (MV.int ((r.map MV.int).length : Nat)) = _
  rw [List.length_map]
theorem lenO (μ : Mem) (o : List (List Int)) : lenM μ [rO o] = some (.int o.length) := by
  show some (MV.int ((o.map rI).length : Nat)) = _
  rw [List.length_map]
theorem lenWs (μ : Mem) (ws : Ws) : lenM μ [rWs ws] = some (.int ws.length) := by
  show some (MV.int ((ws.map rO).length : Nat)) = _
  rw [List.length_map]
theorem lenCo (μ : Mem) (cs : Cs) : lenM μ [rCo cs] = some (.int cs.length) := by
  show some (MV.int ((cs.map rI).length : Nat)) = _
  rw [List.length_map]
theorem lenRow (μ : Mem) (r : Rw) : lenM μ [rRow r] = some (.int r.length) := by
  show some (MV.int ((r.map rNt).length : Nat)) = _
  rw [List.length_map]
theorem zip_ok {ρ : MM.Env} {μ : Mem} {ms : Ev (List MV)} {x y : MV} {tx ty : Itm} (h : ms ρ μ = .ok [x, y] μ) (hx : itmOf μ x = some tx) (hy : itmOf μ y = some ty) : mZip ms ρ μ = .ok ⟨zipL tx.items ty.items, tx.chk ++ ty.chk⟩ μ := by
  unfold mZip mItA mB
  rw [h]
  dsimp only
  unfold zipOf
  dsimp only
  rw [hx, hy]
  rfl
theorem zip_map {α β : Type} (f : α → MV) (g : β → MV) : ∀ (xs : List α) (ys : List β), zipL (xs.map f) (ys.map g) = (xs.zip ys).map fun p => .tup [f p.1, g p.2]
  | [], ys => by simp [zipL]
  | x :: xs, [] => by simp [zipL]
  | x :: xs, y :: ys => by
    have := zip_map f g xs ys
    unfold zipL at *
    rw [List.map_cons, List.map_cons, List.zipWith_cons_cons, this]
    rfl
theorem zip_asc : ∀ {w : List Int}, w.Pairwise (· < ·) → ∀ p ∈ w.zip (w.drop 1), p.1 < p.2
  | [], _, p, hp => by simp at hp
  | [x], _, p, hp => by simp at hp
  | x :: y :: w, h, p, hp => by
    obtain ⟨h1, h2⟩ := List.pairwise_cons.mp h
    rw [List.drop_one, List.tail_cons, List.zip_cons_cons] at hp
    rcases List.mem_cons.mp hp with rfl | hp
    · exact h1 y List.mem_cons_self
    · exact zip_asc h2 p (by rw [List.drop_one, List.tail_cons]; exact hp)
section
variable {cs : Cs} {ws : Ws} {n m : Nat} {μ : Mem}
theorem asc_len : ∀ {w : List Int} {lo : Int}, (∀ x ∈ w, lo ≤ x ∧ x < n) → w.Pairwise (· < ·) → w.length ≤ (n - lo).toNat
  | [], lo, _, _ => by simp
  | x :: w, lo, h, asc => by
    obtain ⟨h1, h2⟩ := List.pairwise_cons.mp asc
    have hx := h x List.mem_cons_self
    have := asc_len (lo := x + 1) (fun y hy => ⟨by have := h1 y hy; omega, (h y (List.mem_cons_of_mem _ hy)).2⟩) h2
    rw [List.length_cons]
    omega
theorem way_small {w : List Int} (hw : ∀ x ∈ w, 0 ≤ x ∧ x < n) (asc : w.Pairwise (· < ·)) : w.length ≤ n := by
  have := asc_len (lo := 0) hw asc
  omega
theorem is_way_ok (hm : okMem μ) (hn : n ≤ 6) {w : List Int} (ne : w ≠ []) (hw : ∀ x ∈ w, 0 ≤ x ∧ x < n) (asc : w.Pairwise (· < ·)) : F_p_is_way [.int n, rI w] μ = .ok (.bl true) μ := by
  have sm := way_small hw asc
  have l0 : ¬ w.length = 0 := fun e => ne (List.length_eq_zero_iff.mp e)
  refine run_rt0 (show M_p_is_way [some (.int n), some (rI w), none, none, none] μ = _ from ?_) rfl hm
  unfold M_p_is_way
  refine seq_step (if_n (t_ok (or_f (op_ok (cb_ok (one_ok (var_ok rfl)) (lenI _ w)) k_ok ((eqI _ _ _).trans (by rw [decide_eq_false (by omega)]))) (not_ok (k := true) (cb_ok (one_ok (mcomp_mapR (r := .lst (w.map fun _ => .bl true)) .int (fun _ => .bl true) w (mitm (var_ok rfl) rfl) (le_size (by omega)) (fun x hx => ⟨_, rfl, chain_t k_ok (var_ok rfl) ((leI _ _).trans (by rw [decide_eq_true (hw x hx).1])) (var_ok rfl) ((ltI _ _).trans (by rw [decide_eq_true (hw x hx).2]))⟩) rfl)) ((all_map μ (fun _ : Int => true) w).trans (by simp))))))) ?_
  have zi : mZip (mCons (mVar 1) (mCons (mSlice (mVar 1) (mPart (mRet (.int 1))) mNoPart) mNil)) [some (.int n), some (rI w), none, none, none] μ = .ok ⟨(w.zip (w.drop 1)).map fun p => .tup [.int p.1, .int p.2], []⟩ μ := by
    have := zip_ok (ρ := [some (.int n), some (rI w), none, none, none]) (μ := μ) (ms := mCons (mVar 1) (mCons (mSlice (mVar 1) (mPart (mRet (.int 1))) mNoPart) mNil)) (x := rI w) (y := .tup ((w.drop 1).map .int)) (cons_ok (var_ok rfl) (one_ok (slice_ok (var_ok rfl) (part_ok k_ok) nopart_ok ?_))) (show itmOf μ (rI w) = some ⟨w.map .int, []⟩ from rfl) (show itmOf μ (.tup ((w.drop 1).map .int)) = some ⟨(w.drop 1).map .int, []⟩ from rfl)
    · rw [zip_map] at this
      exact this
    · show some (MV.tup (cutM (w.map MV.int) (some ((1 : Nat) : Int)) none)) = _
      rw [cut_from, List.map_drop]
  refine ret_s (cb_ok (one_ok (mcomp_mapR (r := .lst ((w.zip (w.drop 1)).map fun _ => .bl true)) (fun p : Int × Int => .tup [.int p.1, .int p.2]) (fun _ => .bl true) (w.zip (w.drop 1)) zi (le_size (by rw [List.length_zip]; omega)) (fun p hp => ⟨_, rfl, op_ok (var_ok rfl) (var_ok rfl) ((ltI _ _).trans (by rw [decide_eq_true (zip_asc asc p hp)]))⟩) rfl)) ((all_map μ (fun _ : Int × Int => true) _).trans (by simp)))
/-- how many rows -/
def prodK (ws : Ws) (k : Nat) : Nat := (ws.take k).foldl (fun a o => a * o.length) 1
theorem prodK_succ {k : Nat} (h : k < ws.length) : prodK ws (k + 1) = prodK ws k * (ws[k]).length := by
  unfold prodK
  rw [List.take_succ_eq_append_getElem h, List.foldl_append]; rfl
theorem prodK_le (h3 : ∀ o ∈ ws, o.length ≤ 3) : ∀ k, k ≤ ws.length → prodK ws k ≤ 3 ^ k
  | 0, _ => by simp [prodK]
  | k + 1, hk => by
    rw [prodK_succ (by omega), Nat.pow_succ]
    exact Nat.mul_le_mul (prodK_le h3 k (by omega)) (h3 _ (List.getElem_mem _))
theorem pow3_le {k : Nat} (h : k ≤ 4) : 3 ^ k ≤ 81 := Nat.le_trans (Nat.pow_le_pow_right (by omega) h) (by decide)
theorem count_rows_ok (hm : okMem μ) (h3 : ∀ o ∈ ws, o.length ≤ 3) (h4 : ws.length ≤ 4) : F_p_count_rows [rWs ws] μ = .ok (.int (prodK ws ws.length : Nat)) μ := by
  refine run_rt0 (show M_p_count_rows [some (rWs ws), none, none] μ = _ from ?_) rfl hm
  unfold M_p_count_rows
  refine seq_step (ρ1 := [some (rWs ws), some (.int 1), none]) (μ1 := μ) (asg_ok k_ok rfl) ?_
  let env : Nat → MM.Env := fun k => [some (rWs ws), some (.int (prodK ws k : Nat)), if k = 0 then none else some (rO (ws.getD (k - 1) []))]
  refine seq_step (ρ1 := env ws.length) (μ1 := μ) (sfor_of (t := ⟨ws.map rO, []⟩) (mitm (var_ok rfl) rfl) (forl_list rO ws env (fun _ => μ) fun k hk => ⟨_, _, rfl, asg_ok (op_ok (a := .int (prodK ws k : Nat)) (b := .int ((ws[k]).length : Nat)) (var_ok rfl) (cb_ok (one_ok (var_ok rfl)) (lenO _ _)) (mulI' (small_mul ?_ ?_))) ?_⟩)) (ret_s (var_ok rfl))
  · have a := prodK_le h3 k (by omega)
    have b := pow3_le (k := k) (by omega)
    have : (2 : Nat) ^ 7 ≤ 2 ^ 4000 := Nat.pow_le_pow_right (by omega) (by omega)
    omega
  · have a := h3 _ (List.getElem_mem hk)
    have : (2 : Nat) ^ 7 ≤ 2 ^ 4000 := Nat.pow_le_pow_right (by omega) (by omega)
    omega
  · show some _ = some (env (k + 1), μ)
    show some ([some (rWs ws), some (MV.int ((prodK ws k : Nat) * ((ws[k]).length : Nat))), some (rO ws[k])], μ) = some ([some (rWs ws), some (MV.int (prodK ws (k + 1) : Nat)), if k + 1 = 0 then none else some (rO (ws.getD (k + 1 - 1) []))], μ)
    rw [prodK_succ hk, if_neg (by omega), Nat.add_sub_cancel, List.getD_eq_getElem?_getD, List.getElem?_eq_getElem hk, Int.natCast_mul]
    rfl
theorem check_crowd_ok (hm : okMem μ) (ok : OkC cs ws n m) : F_p_check_crowd [rCo cs, rWs ws] μ = .ok .non μ := by
  have n1 := ok.n1
  have m1 := ok.m1
  have cl := ok.cl
  have wl := ok.wl
  have cr := count_rows_ok hm (fun o ho => (ok.ol o ho).2) (by omega : ws.length ≤ 4)
  have pl := prodK_le (fun o ho => (ok.ol o ho).2) ws.length (Nat.le_refl _)
  have p3 := pow3_le (k := ws.length) (by omega)
  let env : Nat → MM.Env := fun k => [some (rCo cs), some (rWs ws), if k = 0 then none else some (rI (cs.getD (k - 1) [])), none, none]
  let env2 : Nat → MM.Env := fun k => [some (rCo cs), some (rWs ws), if k = 0 then some (rI (cs.getD (cs.length - 1) [])) else some (rO (ws.getD (k - 1) [])), none, none]
  refine run_nx0 (ρ := env2 ws.length) (show M_p_check_crowd [some (rCo cs), some (rWs ws), none, none, none] μ = _ from ?_) hm
  unfold M_p_check_crowd
  have tt : ∀ {i j : Int}, i ≤ j → leM μ (.int i) (.int j) = some (.bl true) := fun h => (leI _ _).trans (by rw [decide_eq_true h])
  refine seq_step (if_n (t_ok (or_f (not_ok (k := true) (chain_t k_ok (cb_ok (one_ok (var_ok rfl)) (lenCo _ cs)) (tt (by omega)) k_ok (tt (by omega)))) (not_ok (k := true) (chain_t k_ok (cb_ok (one_ok (var_ok rfl)) (lenWs _ ws)) (tt (by omega)) k_ok (tt (by omega))))))) ?_
  refine seq_step (ρ1 := env cs.length) (μ1 := μ) (sfor_of (t := ⟨cs.map rI, []⟩) (mitm (var_ok rfl) rfl) (forl_list rI cs env (fun _ => μ) fun k hk => ⟨[some (rCo cs), some (rWs ws), some (rI cs[k]), none, none], μ, ?_, ?_⟩)) ?_
  · show some _ = _
    rfl
  · have hr := List.getElem_mem hk
    have rl := ok.rl _ hr
    have e : env (k + 1) = [some (rCo cs), some (rWs ws), some (rI cs[k]), none, none] := by
      show [_, _, (if k + 1 = 0 then none else some (rI (cs.getD (k + 1 - 1) []))), none, none] = _
      rw [if_neg (by omega), Nat.add_sub_cancel, List.getD_eq_getElem?_getD, List.getElem?_eq_getElem hk]
      rfl
    rw [e]
    exact if_n (t_ok (or_f (op_ok (cb_ok (one_ok (var_ok rfl)) (lenI _ _)) (cb_ok (one_ok (var_ok rfl)) (lenWs _ ws)) ((neI' _ _).trans (by rw [rl, wl, decide_eq_true rfl]; rfl))) (not_ok (k := true) (cb_ok (one_ok (mcomp_mapR (r := .lst ((cs[k]).map fun _ => .bl true)) .int (fun _ => .bl true) cs[k] (mitm (var_ok rfl) rfl) (le_size (by omega)) (fun x hx => ⟨_, rfl, chain_t k_ok (var_ok rfl) (tt (ok.rg _ hr x hx).1) k_ok (tt (ok.rg _ hr x hx).2)⟩) rfl)) ((all_map μ (fun _ : Int => true) _).trans (by simp))))))
  refine seq_step (ρ1 := env2 ws.length) (μ1 := μ) (sfor_of (t := ⟨ws.map rO, []⟩) (mitm (var_ok rfl) rfl) ((show forL _ _ _ _ (env cs.length) μ = forL _ _ _ _ (env2 0) μ from by
    show forL _ _ _ _ [_, _, (if cs.length = 0 then none else _), none, none] μ = _
    rw [if_neg (by omega)]; rfl).trans (forl_list rO ws env2 (fun _ => μ) fun k hk => ⟨[some (rCo cs), some (rWs ws), some (rO ws[k]), none, none], μ, ?_, ?_⟩))) ?_
  · show some _ = _
    rfl
  · have ho := List.getElem_mem hk
    have ol := ok.ol _ ho
    have e : env2 (k + 1) = [some (rCo cs), some (rWs ws), some (rO ws[k]), none, none] := by
      show [_, _, (if k + 1 = 0 then _ else some (rO (ws.getD (k + 1 - 1) []))), none, none] = _
      rw [if_neg (by omega), Nat.add_sub_cancel, List.getD_eq_getElem?_getD, List.getElem?_eq_getElem hk]
      rfl
    rw [e]
    exact if_n (t_ok (or_f (not_ok (k := true) (chain_t k_ok (cb_ok (one_ok (var_ok rfl)) (lenO _ _)) (tt (by omega)) k_ok (tt (by omega)))) (not_ok (k := true) (cb_ok (one_ok (mcomp_mapR (r := .lst ((ws[k]).map fun _ => .bl true)) rI (fun _ => .bl true) ws[k] (mitm (var_ok rfl) rfl) (le_size (by omega)) (fun w hw => ⟨_, rfl, call_ok (cons_ok (cb_ok (one_ok (var_ok rfl)) ((lenCo _ cs).trans (by rw [cl]))) (one_ok (var_ok rfl))) rfl (is_way_ok hm n1.2 (ok.wy _ ho w hw).1 (ok.wy _ ho w hw).2.1 (ok.wy _ ho w hw).2.2)⟩) rfl)) ((all_map μ (fun _ : List Int => true) _).trans (by simp))))))
  exact if_n (t_ok (op_ok (call_ok (one_ok (var_ok rfl)) rfl cr) k_ok ((gtI _ _).trans (by rw [decide_eq_false (by omega)]))))
end
end K33

set_option Elab.async false
set_option linter.all false
set_option maxRecDepth 100000
set_option maxHeartbeats 4000000
/-! ## two generators -/
namespace PL
open PySem PySem.Spec PyProof.Rows L2 MM
theorem intsOf_map : ∀ ns : List Int, intsOf (ns.map MV.int) = some ns
  | [] => rfl
  | x :: ns => by
    show (intsOf (ns.map MV.int)).map (x :: ·) = _
    rw [intsOf_map ns]; rfl
theorem sumS_seq {μ : Mem} {d : MV} {ns : List Int} (h : seqOf μ d = some (ns.map .int)) : sumSM μ [d] = some (.int ns.sum) := by
  show (seqOf μ d).bind _ = _
  rw [h, Option.bind_some, intsOf_map]; rfl
theorem sumS_map {α : Type} (μ : Mem) (g : α → Int) (xs : List α) : sumSM μ [.lst (xs.map fun c => .int (g c))] = some (.int (xs.map g).sum) :=
  sumS_seq (by
    show some (xs.map fun c => MV.int (g c)) = some ((xs.map g).map .int)
    rw [List.map_map]; rfl)
section
variable {α β : Type} {ρ : MM.Env} {μ μ1 : Mem} {g g1 : TgM} {mi mi1 : Ev Itm} {e : Ev MV} {vs vs1 : List Nat} {r : MV}
theorem comp2_map {xs0 : List MV} (rep : α → MV) (rep1 : β → MV) (ys : α → List β) (f : α → β → MV) : ∀ (xs : List α),
    (∀ x ∈ xs, ∃ ρ1, g (rep x) ρ μ = some (ρ1, μ) ∧ mi1 ρ1 μ = .ok ⟨(ys x).map rep1, []⟩ μ ∧ ∀ y ∈ ys x, ∃ ρ2, g1 (rep1 y) (wipeE ρ1 vs1) μ = some (ρ2, μ) ∧ e ρ2 μ = .ok (f x y) μ) →
    compL2 ⟨xs0, []⟩ g mYes mi1 g1 mYes e vs1 ρ (xs.map rep) μ = some (xs.flatMap fun x => (ys x).map (f x), μ)
  | [], h => by
    show compL2 ⟨xs0, []⟩ g mYes mi1 g1 mYes e vs1 ρ [] μ = _
    unfold compL2
    rw [if_pos ok_nil]
    rfl
  | x :: xs, h => by
    obtain ⟨ρ1, h1, h2, h3⟩ := h x List.mem_cons_self
    have ih := comp2_map rep rep1 ys f xs (fun y hy => h y (List.mem_cons_of_mem _ hy)) (xs0 := xs0)
    have inner := comp_map (xs0 := (ys x).map rep1) (g := g1) (e := e) (ρ := wipeE ρ1 vs1) (μ := μ) rep1 (f x) (ys x) h3
    show compL2 ⟨xs0, []⟩ g mYes mi1 g1 mYes e vs1 ρ (rep x :: xs.map rep) μ = _
    unfold compL2
    rw [if_pos ok_nil, h1]
    have e1 : mYes ρ1 μ = .ok true μ := rfl
    dsimp only
    rw [e1]
    dsimp only
    rw [h2]
    dsimp only
    rw [inner]
    dsimp only
    rw [ih]
    rfl
theorem mcomp2_map (rep : α → MV) (rep1 : β → MV) (ys : α → List β) (f : α → β → MV) (xs : List α) (h1 : mi ρ μ = .ok ⟨xs.map rep, []⟩ μ1) (hl : (xs.flatMap fun x => (ys x).map (f x)).length ≤ sizeLine)
    (h : ∀ x ∈ xs, ∃ ρ1, g (rep x) (wipeE ρ vs) μ1 = some (ρ1, μ1) ∧ mi1 ρ1 μ1 = .ok ⟨(ys x).map rep1, []⟩ μ1 ∧ ∀ y ∈ ys x, ∃ ρ2, g1 (rep1 y) (wipeE ρ1 vs1) μ1 = some (ρ2, μ1) ∧ e ρ2 μ1 = .ok (f x y) μ1)
    (hr : .lst (xs.flatMap fun x => (ys x).map (f x)) = r) : mComp2 vs vs1 mi g mYes mi1 g1 mYes e ρ μ = .ok r μ1 := by
  rw [← hr]
  unfold mComp2 mCompL2 mB
  rw [h1]
  dsimp only
  unfold compT2
  rw [comp2_map rep rep1 ys f xs h]
  dsimp only
  rw [if_pos hl]
  rfl
end
end PL

set_option Elab.async false
set_option linter.all false
set_option maxRecDepth 100000
set_option maxHeartbeats 4000000
namespace Crd
/-- one more choice of k -/
def ext (f : List Rw) (k : Nat) : List Rw := f.flatMap fun r => (List.range k).map fun x => r ++ [x]
def rowsK (ws : Ws) : Nat → List Rw
  | 0 => [[]]
  | k + 1 => ext (rowsK ws k) (own ws k).length
def rows (ws : Ws) : List Rw := rowsK ws ws.length
theorem ext_len (f : List Rw) (k : Nat) : (ext f k).length = f.length * k := by
  unfold ext
  rw [List.length_flatMap]
  induction f with
  | nil => simp
  | cons r f ih =>
    rw [List.map_cons, List.sum_cons, ih, List.length_map, List.length_range, List.length_cons, Nat.succ_mul, Nat.add_comm]
theorem own_at {ws : Ws} {k : Nat} (h : k < ws.length) : own ws k = ws[k] := by
  unfold own
  rw [List.getD_eq_getElem?_getD, List.getElem?_eq_getElem h]; rfl
theorem rowsK_len {ws : Ws} (h3 : ∀ o ∈ ws, o.length ≤ 3) : ∀ k, k ≤ ws.length → (rowsK ws k).length ≤ 3 ^ k
  | 0, _ => by simp [rowsK]
  | k + 1, hk => by
    show (ext (rowsK ws k) (own ws k).length).length ≤ _
    rw [ext_len, Nat.pow_succ]
    exact Nat.mul_le_mul (rowsK_len h3 k (by omega)) (by rw [own_at (by omega)]; exact h3 _ (List.getElem_mem _))
theorem mem_ext {f : List Rw} {k : Nat} {r : Rw} : r ∈ ext f k ↔ ∃ q ∈ f, ∃ x, x < k ∧ r = q ++ [x] := by
  unfold ext
  rw [List.mem_flatMap]
  constructor
  · rintro ⟨q, hq, hr⟩
    obtain ⟨x, hx, rfl⟩ := List.mem_map.mp hr
    exact ⟨q, hq, x, List.mem_range.mp hx, rfl⟩
  · rintro ⟨q, hq, x, hx, rfl⟩
    exact ⟨q, hq, List.mem_map.mpr ⟨x, List.mem_range.mpr hx, rfl⟩⟩
theorem mem_rowsK {ws : Ws} : ∀ {k : Nat} {r : Rw}, r ∈ rowsK ws k ↔ r.length = k ∧ ∀ u, u < k → r.getD u 0 < (own ws u).length
  | 0, r => by
    constructor
    · intro h
      have : r = [] := by simpa [rowsK] using h
      subst this
      exact ⟨rfl, fun u hu => absurd hu (by omega)⟩
    · intro h
      have : r = [] := List.length_eq_zero_iff.mp h.1
      subst this
      simp [rowsK]
  | k + 1, r => by
    show r ∈ ext (rowsK ws k) (own ws k).length ↔ _
    rw [mem_ext]
    constructor
    · rintro ⟨q, hq, x, hx, rfl⟩
      obtain ⟨h1, h2⟩ := mem_rowsK.mp hq
      refine ⟨by rw [List.length_append, h1]; rfl, fun u hu => ?_⟩
      rw [List.getD_eq_getElem?_getD]
      rcases Nat.lt_or_ge u k with z | z
      · rw [List.getElem?_append_left (by omega), ← List.getD_eq_getElem?_getD]
        exact h2 u z
      · have : u = k := by omega
        subst this
        rw [List.getElem?_append_right (by omega), h1, Nat.sub_self]
        exact hx
    · rintro ⟨h1, h2⟩
      have e : r = r.take k ++ [r.getD k 0] := by
        have := List.take_succ_eq_append_getElem (l := r) (i := k) (by omega)
        rw [List.take_of_length_le (by omega)] at this
        rw [List.getD_eq_getElem?_getD, List.getElem?_eq_getElem (by omega)]
        exact this
      refine ⟨r.take k, mem_rowsK.mpr ⟨by rw [List.length_take]; omega, fun u hu => ?_⟩, r.getD k 0, h2 k (by omega), e⟩
      have := h2 u (by omega)
      rw [List.getD_eq_getElem?_getD, List.getElem?_take, if_pos hu, ← List.getD_eq_getElem?_getD]
      exact this
theorem mem_rows {ws : Ws} {r : Rw} : r ∈ rows ws ↔ OkR ws r := by
  unfold rows
  rw [mem_rowsK]
  exact ⟨fun h => ⟨h.1, h.2⟩, fun h => ⟨h.l, h.c⟩⟩
end Crd
namespace K33
open PySem PySem.Spec PyProof.Rows L2 MM PL Crd
section
variable {cs : Cs} {ws : Ws} {n m : Nat} {μ : Mem}
abbrev rRs (f : List Rw) : List MV := f.map rRow
theorem nrs_Rs (f : List Rw) : nrs (rRs f) = true := nrs_map _ nr_Row f
theorem ext_rep (f : List Rw) (k : Nat) : (f.flatMap fun r => (List.range k).map fun x => rRow (r ++ [x])) = rRs (ext f k) := by
  unfold rRs ext
  rw [List.map_flatMap]
  simp only [List.map_map]
  rfl
theorem rows_of_ok (hm : okMem μ) (h3 : ∀ o ∈ ws, o.length ≤ 3) (h4 : ws.length ≤ 4) : F_p_rows_of [rWs ws] μ = .ok (.lst (rRs (rows ws))) μ := by
  refine run_rt0 (show M_p_rows_of [some (rWs ws), none, none, none, none] μ = _ from ?_) (by unfold nr; exact nrs_Rs _) hm
  unfold M_p_rows_of
  refine seq_step (ρ1 := [some (rWs ws), some (.lst (rRs (rowsK ws 0))), none, none, none]) (μ1 := μ) (asg_ok (lst_ok (one_ok (tup_ok nil_ok))) rfl) ?_
  let env : Nat → MM.Env := fun k => [some (rWs ws), some (.lst (rRs (rowsK ws k))), if k = 0 then none else some (rO (ws.getD (k - 1) [])), none, none]
  refine seq_step (ρ1 := env ws.length) (μ1 := μ) (sfor_of (t := ⟨ws.map rO, []⟩) (mitm (var_ok rfl) rfl) (forl_list rO ws env (fun _ => μ) fun k hk => ⟨[some (rWs ws), some (.lst (rRs (rowsK ws k))), some (rO ws[k]), none, none], μ, rfl, ?_⟩)) (ret_s (var_ok rfl))
  have l1 := rowsK_len h3 (k + 1) (by omega)
  have p3 := pow3_le (k := k + 1) (by omega)
  have e : env (k + 1) = [some (rWs ws), some (.lst (rRs (rowsK ws (k + 1)))), some (rO ws[k]), none, none] := by
    show [_, _, (if k + 1 = 0 then none else some (rO (ws.getD (k + 1 - 1) []))), none, none] = _
    rw [if_neg (by omega), Nat.add_sub_cancel, List.getD_eq_getElem?_getD, List.getElem?_eq_getElem hk]
    rfl
  rw [e]
  have ee : (rowsK ws k).flatMap (fun r => (List.range (ws[k]).length).map fun x => rRow (r ++ [x])) = rRs (rowsK ws (k + 1)) := by
    rw [ext_rep]
    show rRs (ext (rowsK ws k) (ws[k]).length) = rRs (ext (rowsK ws k) (own ws k).length)
    rw [own_at hk]
  refine asg_ok (mcomp2_map (α := Rw) (β := Nat) rRow (fun x => .int ((0 : Int) + (x : Nat))) (fun _ => List.range (ws[k]).length) (fun r x => rRow (r ++ [x])) (rowsK ws k) (mitm (var_ok rfl) rfl) (le_size (by rw [ee]; unfold rRs; rw [List.length_map]; omega)) (fun r hr => ⟨_, rfl, mrng1 (n := (ws[k]).length) (one_ok (cb_ok (one_ok (var_ok rfl)) (lenO _ _))) ⟨by omega, by have := h3 _ (List.getElem_mem hk); omega⟩, fun x hx => ⟨_, rfl, ?_⟩⟩) (by rw [ee])) rfl
  have hr' : r.length = k := (mem_rowsK.mp hr).1
  refine (tup_ok (star_ok (xs := r.map rNt) (var_ok rfl) rfl (one_ok (var_ok rfl))) (le_size (by rw [List.length_append, List.length_map, hr']; simp; omega))).trans ?_
  unfold rRow
  rw [List.map_append, Int.zero_add]
  rfl
theorem law_rows_ok (hm : okMem μ) (h3 : ∀ o ∈ ws, o.length ≤ 3) (h4 : ws.length ≤ 4) : F_law_rows [rWs ws] μ = .ok (.lst (rRs (rows ws))) μ := by
  refine run_rt0 (show M_law_rows [some (rWs ws), none, none, none, none, none] μ = _ from ?_) (by unfold nr; exact nrs_Rs _) hm
  unfold M_law_rows
  refine seq_step (ρ1 := [some (rWs ws), some (.lst (rRs (rowsK ws 0))), none, none, none, none]) (μ1 := μ) (asg_ok (lst_ok (one_ok (tup_ok nil_ok))) rfl) ?_
  let I : Nat → MM.Env → Mem → Prop := fun k ρ μ' => μ' = μ ∧ ∃ u2 u3 u4, ρ = [some (rWs ws), some (.lst (rRs (rowsK ws k))), u2, u3, u4, none]
  obtain ⟨ρ', μ', e1, e2, u2, u3, u4, e3⟩ := for_idx (xs0 := ws.map rO) (g := gN 2) (b := (sSeq (sAsg (mLst mNil) (gN 3))
  (sSeq (sFor (mItm (mVar 1)) (gN 4) (sAsg (mOp addM (mVar 3) (mComp (List.map (·.2) ([("choice", 5)] : List (Str × Nat))) (mRng rng1 (mCons (mCB lenM (mCons (mVar 2) mNil)) mNil)) (gN 5) mYes (mOp addM (mVar 4) (mTup (mCons (mVar 5) mNil))))) (gN 3)))
  (sAsg (mVar 3) (gN 1))))) I (I ws.length) (ws.map rO) 0 [some (rWs ws), some (.lst (rRs (rowsK ws 0))), none, none, none, none] μ ⟨rfl, _, _, _, rfl⟩ (fun ρ μ q => by rw [List.length_map, Nat.zero_add] at q; exact q) (by
    intro k x hx ρ μ' ⟨q1, u2, u3, u4, q2⟩
    subst q1 q2
    rw [Nat.zero_add] at *
    rw [List.getElem?_map] at hx
    obtain ⟨o, ho, rfl⟩ := Option.map_eq_some_iff.mp hx
    obtain ⟨hk, rfl⟩ := List.getElem?_eq_some_iff.mp ho
    have l0 := rowsK_len h3 k (by omega)
    have l1 := rowsK_len h3 (k + 1) (by omega)
    have p3 := pow3_le (k := k + 1) (by omega)
    have p2 := pow3_le (k := k) (by omega)
    have o3 := h3 _ (List.getElem_mem hk)
    refine ⟨_, _, rfl, .inl ⟨[some (rWs ws), some (.lst (rRs (rowsK ws (k + 1)))), some (rO ws[k]), some (.lst (rRs (rowsK ws (k + 1)))), (if (rowsK ws k).length = 0 then u4 else some (rRow ((rowsK ws k).getD ((rowsK ws k).length - 1) []))), none], μ', .inl ?_, rfl, _, _, _, rfl⟩⟩
    refine seq_step (ρ1 := [some (rWs ws), some (.lst (rRs (rowsK ws k))), some (rO ws[k]), some (.lst []), u4, none]) (μ1 := μ') (asg_ok (lst_ok nil_ok) rfl) ?_
    let env : Nat → MM.Env := fun j => [some (rWs ws), some (.lst (rRs (rowsK ws k))), some (rO ws[k]), some (.lst (rRs (ext ((rowsK ws k).take j) (own ws k).length))), if j = 0 then u4 else some (rRow ((rowsK ws k).getD (j - 1) [])), none]
    refine seq_step (ρ1 := env (rowsK ws k).length) (μ1 := μ') (sfor_of (t := ⟨(rowsK ws k).map rRow, []⟩) (mitm (var_ok rfl) rfl) (forl_list rRow (rowsK ws k) env (fun _ => μ') fun j hj => ⟨[some (rWs ws), some (.lst (rRs (rowsK ws k))), some (rO ws[k]), some (.lst (rRs (ext ((rowsK ws k).take j) (own ws k).length))), some (rRow (rowsK ws k)[j]), none], μ', rfl, ?_⟩)) ?_
    · have hr' : ((rowsK ws k)[j]).length = k := (mem_rowsK.mp (List.getElem_mem hj)).1
      have e : env (j + 1) = [some (rWs ws), some (.lst (rRs (rowsK ws k))), some (rO ws[k]), some (.lst (rRs (ext ((rowsK ws k).take j) (own ws k).length) ++ (List.range (ws[k]).length).map fun x => rRow ((rowsK ws k)[j] ++ [x]))), some (rRow (rowsK ws k)[j]), none] := by
        show [_, _, _, some (MV.lst (rRs (ext ((rowsK ws k).take (j + 1)) (own ws k).length))), (if j + 1 = 0 then u4 else some (rRow ((rowsK ws k).getD (j + 1 - 1) []))), none] = _
        rw [if_neg (by omega), Nat.add_sub_cancel, List.getD_eq_getElem?_getD, List.getElem?_eq_getElem hj, List.take_succ_eq_append_getElem hj]
        unfold ext
        rw [List.flatMap_append]
        unfold rRs
        rw [List.map_append, own_at hk]
        simp only [List.flatMap_cons, List.flatMap_nil, List.append_nil, List.map_map]
        rfl
      rw [e]
      refine asg_ok (op_ok (var_ok rfl) (mcomp_mapR (α := Nat) (r := .lst ((List.range (ws[k]).length).map fun x => rRow ((rowsK ws k)[j] ++ [x]))) (fun x => .int ((0 : Int) + (x : Nat))) (fun x => rRow ((rowsK ws k)[j] ++ [x])) (List.range (ws[k]).length) (mrng1 (n := (ws[k]).length) (one_ok (cb_ok (one_ok (var_ok rfl)) (lenO _ _))) ⟨by omega, by omega⟩) (le_size (by rw [List.length_range]; omega)) (fun x hx => ⟨_, rfl, op_ok (var_ok rfl) (tup_ok (one_ok (var_ok rfl))) ?_⟩) rfl) ?_) rfl
      · show (if (((rowsK ws k)[j]).map rNt).length + 1 ≤ sizeLine then some (MV.tup (((rowsK ws k)[j]).map rNt ++ [MV.int ((0 : Int) + (x : Nat))])) else none) = _
        rw [if_pos (le_size (by rw [List.length_map, hr']; omega)), Int.zero_add]
        unfold rRow
        rw [List.map_append]
        rfl
      · show (if (rRs (ext ((rowsK ws k).take j) (own ws k).length)).length + ((List.range (ws[k]).length).map fun x => rRow ((rowsK ws k)[j] ++ [x])).length ≤ sizeLine then some (MV.lst (rRs (ext ((rowsK ws k).take j) (own ws k).length) ++ (List.range (ws[k]).length).map fun x => rRow ((rowsK ws k)[j] ++ [x]))) else none) = _
        rw [if_pos (le_size ?_)]
        unfold rRs
        rw [List.length_map, List.length_map, List.length_range, ext_len, List.length_take, own_at hk]
        have : min j (rowsK ws k).length * (ws[k]).length ≤ 81 * 3 := Nat.mul_le_mul (by omega) o3
        omega
    · have e : env (rowsK ws k).length = [some (rWs ws), some (.lst (rRs (rowsK ws k))), some (rO ws[k]), some (.lst (rRs (rowsK ws (k + 1)))), (if (rowsK ws k).length = 0 then u4 else some (rRow ((rowsK ws k).getD ((rowsK ws k).length - 1) []))), none] := by
        show [_, _, _, some (MV.lst (rRs (ext ((rowsK ws k).take (rowsK ws k).length) (own ws k).length))), (if (rowsK ws k).length = 0 then u4 else some (rRow ((rowsK ws k).getD ((rowsK ws k).length - 1) []))), none] = _
        rw [List.take_length]
        rfl
      rw [e]
      exact asg_ok (var_ok rfl) rfl)
  subst e2 e3
  exact seq_step (sfor_of (mitm (var_ok rfl) rfl) e1) (ret_s (var_ok rfl))
end
end K33

set_option Elab.async false
set_option linter.all false
set_option maxRecDepth 100000
set_option maxHeartbeats 4000000
namespace PL
open PySem PySem.Spec PyProof.Rows L2 MM
section
variable {ρ : MM.Env} {μ μ1 μ2 : Mem} {a b d : MV} {ma mb mo mi : Ev MV}
theorem atN {α : Type} (xs : List α) (n : Nat) (h : n < xs.length) : atI xs (n : Int) = xs[n]? := by rw [atI_nat xs n h, List.getElem?_eq_getElem h]
theorem mulC_ok {xs : List MV} {k : Nat} (ha : ma ρ μ = .ok a μ1) (hb : mb ρ μ1 = .ok (.int k) μ2) (h1 : lstOf μ2 a = some xs) (hl : xs.length * k ≤ 1000) (hk : k ≤ 1000) : mMulC ma mb ρ μ = .ok (.ref μ2.length) (μ2 ++ [.lst (List.replicate k xs).flatten]) := by
  unfold mMulC mB
  rw [ha]; dsimp only
  rw [hb]; dsimp only
  rw [h1]
  unfold mulCO
  dsimp only
  rw [Int.toNat_natCast, if_pos ⟨by omega, by omega, le_size (by omega)⟩]
theorem gIx_ok {i k : Nat} {xs : List MV} (ho : mo ρ μ = .ok (.ref i) μ) (h : μ[i]? = some (.lst xs)) (hi : mi ρ μ = .ok (.int k) μ) (hk : k < xs.length) : gIx mo mi d ρ μ = some (ρ, μ.set i (.lst (xs.set k d))) := by
  unfold gIx
  rw [ho]; dsimp only
  rw [hi]; dsimp only
  rw [h]; dsimp only
  have : ixN xs.length (k : Int) = some k := by
    unfold ixN
    rw [if_pos (by omega), if_pos (by omega), Int.toNat_natCast]
  rw [this]
end
end PL
namespace K33
open PySem PySem.Spec PyProof.Rows L2 MM PL Crd
section
variable {cs : Cs} {ws : Ws} {n m : Nat} {μ : Mem} {row : Rw}
/-- one way's things are counted -/
theorem count_loop {xs0 : List MV} {i : Nat} (E : Option MV → MM.Env) {u0 : Option MV} {w : List Int} (hw : ∀ x ∈ w, 0 ≤ x ∧ x < n) (h3 : ∀ u, (E u)[3]? = some (some (.ref μ.length))) (hi : ∀ d, (E (some d))[i]? = some (some d)) (hg : ∀ u d ν, gN i d (E u) ν = some (E (some d), ν)) {f : List Int} (hf : f.length = n) :
    ∃ u1, forL ⟨xs0, []⟩ (gN i) (sAsg (mOp addM (mOp ixM (mVar 3) (mVar i)) (mRet (.int 1))) (gIx (mVar 3) (mVar i))) (w.map .int) (E u0) (μ ++ [.lst (f.map .int)]) = .nx (E u1) (μ ++ [.lst ((addW f w).map .int)]) := by
  have key := for_fold (xs0 := xs0) (g := gN i) (b := sAsg (mOp addM (mOp ixM (mVar 3) (mVar i)) (mRet (.int 1))) (gIx (mVar 3) (mVar i))) MV.int (fun s : List Int × Option MV => E s.2) (fun s => μ ++ [.lst (s.1.map .int)]) (fun s x => (add1 s.1 x, some (.int x))) (fun s => s.1.length = n) w (f, u0) hf (fun x hx s hs => by
    have hx0 := hw x hx
    refine ⟨by rw [add1_len]; exact hs, _, _, hg _ _ _, .inl ?_⟩
    have g0 : (μ ++ [Cell.lst (s.1.map MV.int)])[μ.length]? = some (.lst (s.1.map .int)) := get_last
    have e0 : x = ((x.toNat : Nat) : Int) := by omega
    have ix : ixM (μ ++ [Cell.lst (s.1.map MV.int)]) (.ref μ.length) (.int x) = some (.int (s.1.getD x.toNat 0)) := by
      rw [e0]
      refine (ixC _ g0).trans ?_
      rw [atN _ _ (by rw [List.length_map, hs]; omega), List.getElem?_map, Int.toNat_natCast, List.getD_eq_getElem?_getD, List.getElem?_eq_getElem (show x.toNat < s.1.length by rw [hs]; omega)]
      rfl
    refine asg_ok (op_ok (op_ok (var_ok (h3 _)) (var_ok (hi _)) ix) k_ok (addI' _ _)) ((gIx_ok (k := x.toNat) (var_ok (h3 _)) g0 ((var_ok (hi _)).trans (by rw [← e0])) (by rw [List.length_map, hs]; omega)).trans ?_)
    rw [set_last, ← List.map_set]
    rfl)
  have e : ∀ (w : List Int) (f : List Int) (u : Option MV), (w.foldl (fun (s : List Int × Option MV) x => (add1 s.1 x, some (.int x))) (f, u)).1 = addW f w := by
    intro w
    induction w with
    | nil => intro f u; rfl
    | cons x w ih => intro f u; exact ih _ _
  have q := e w f u0
  refine ⟨(w.foldl (fun (s : List Int × Option MV) x => (add1 s.1 x, some (MV.int x))) (f, u0)).2, key.trans ?_⟩
  rw [q]
theorem zeros (n : Nat) : (List.replicate n [MV.int 0]).flatten = ((List.replicate n (0 : Int)).map MV.int) := by
  rw [List.flatten_replicate_singleton, List.map_replicate]
theorem way_ix (hr : OkR ws row) {k : Nat} (hk : k < ws.length) (μ : Mem) : ixM μ (rO ws[k]) (rNt (row.getD k 0)) = some (rI (way ws row k)) := by
  have hc := hr.c k hk
  rw [own_at hk] at hc
  refine (ixT' _ _).trans ?_
  rw [atN _ _ (by rw [List.length_map]; exact hc), List.getElem?_map, List.getElem?_eq_getElem hc]
  unfold way
  rw [own_at hk, List.getD_eq_getElem?_getD (l := ws[k]), List.getElem?_eq_getElem hc]
  rfl
theorem row_at (hr : OkR ws row) {k : Nat} (hk : k < ws.length) : row[k]? = some (row.getD k 0) := by
  rw [List.getD_eq_getElem?_getD, List.getElem?_eq_getElem (by rw [hr.l]; exact hk)]
  rfl
theorem zip_row (μ : Mem) : zipL (row.map rNt) (ws.map rO) = (row.zip ws).map fun p => .tup [rNt p.1, rO p.2] := zip_map _ _ _ _
theorem known_loads_ok (hm : okMem μ) (ok : OkC cs ws n m) (hr : OkR ws row) : F_p_known_loads [rCo cs, rWs ws, rRow row] μ = .ok (.lst ((loads n ws row).map .int)) μ := by
  have n1 := ok.n1
  have key : ∃ ρ', M_p_known_loads [some (rCo cs), some (rWs ws), some (rRow row), none, none, none, none] μ = .rt (.ref μ.length) (μ ++ [.lst ((loads n ws row).map .int)]) ∧ ρ' = true := by
    refine ⟨true, ?_, rfl⟩
    unfold M_p_known_loads
    refine seq_step (ρ1 := [some (rCo cs), some (rWs ws), some (rRow row), some (.ref μ.length), none, none, none]) (μ1 := μ ++ [.lst ((loadsK n ws row 0).map .int)]) ((asg_ok (mulC_ok (k := n) (lst_ok (one_ok k_ok)) (cb_ok (one_ok (var_ok rfl)) ((lenCo _ cs).trans (by rw [ok.cl]))) rfl (by simp; omega) (by omega)) rfl).trans (by rw [zeros]; rfl)) ?_
    let I : Nat → MM.Env → Mem → Prop := fun k ρ μ' => μ' = μ ++ [.lst ((loadsK n ws row k).map .int)] ∧ ∃ u4 u5 u6, ρ = [some (rCo cs), some (rWs ws), some (rRow row), some (.ref μ.length), u4, u5, u6]
    have zl : ((row.zip ws).map fun p => MV.tup [rNt p.1, rO p.2]).length = ws.length := by rw [List.length_map, List.length_zip, hr.l, Nat.min_self]
    obtain ⟨ρ', μ', e1, e2, u4, u5, u6, e3⟩ := for_idx (xs0 := (row.zip ws).map fun p => .tup [rNt p.1, rO p.2]) (g := gT ((gN 4) :: ((gN 5) :: []))) (b := sFor (mItm (mOp ixM (mVar 5) (mVar 4))) (gN 6) (sAsg (mOp addM (mOp ixM (mVar 3) (mVar 6)) (mRet (.int 1))) (gIx (mVar 3) (mVar 6)))) I (I ws.length) ((row.zip ws).map fun p => .tup [rNt p.1, rO p.2]) 0 [some (rCo cs), some (rWs ws), some (rRow row), some (.ref μ.length), none, none, none] (μ ++ [.lst ((loadsK n ws row 0).map .int)]) ⟨rfl, _, _, _, rfl⟩ (fun ρ μ q => by rw [zl, Nat.zero_add] at q; exact q) (by
      intro k x hx ρ μ' ⟨q1, u4, u5, u6, q2⟩
      subst q1 q2
      rw [Nat.zero_add] at *
      have hk : k < ws.length := by rw [← zl]; exact (List.getElem?_eq_some_iff.mp hx).1
      rw [List.getElem?_map, List.getElem?_eq_getElem (by rw [List.length_zip, hr.l]; omega), List.getElem_zip] at hx
      have er : row[k]'(by rw [hr.l]; exact hk) = row.getD k 0 := by
        have := row_at hr hk
        rw [List.getElem?_eq_getElem (by rw [hr.l]; exact hk)] at this
        exact Option.some.inj this
      have hx : x = .tup [rNt (row.getD k 0), rO ws[k]] := by
        have := (Option.some.inj hx).symm
        rw [this, er]
      subst hx
      obtain ⟨u, cl⟩ := count_loop (μ := μ) (i := 6) (xs0 := (way ws row k).map .int) (n := n) (fun u => [some (rCo cs), some (rWs ws), some (rRow row), some (.ref μ.length), some (rNt (row.getD k 0)), some (rO ws[k]), u]) (u0 := u6) (w := way ws row k) (way_ok ok hr (by rw [← ok.wl]; exact hk)).2.1 (fun _ => rfl) (fun _ => rfl) (fun _ _ _ => rfl) (f := loadsK n ws row k) (loadsK_len _ _ _ _)
      refine ⟨_, _, rfl, .inl ⟨_, _, .inl (sfor_of (t := ⟨(way ws row k).map .int, []⟩) (mitm (op_ok (var_ok rfl) (var_ok rfl) (way_ix hr hk _)) rfl) cl), ?_, _, _, _, rfl⟩⟩
      rw [loadsK_succ])
    subst e2 e3
    refine seq_step (sfor_of (t := ⟨(row.zip ws).map fun p => .tup [rNt p.1, rO p.2], []⟩) ?_ e1) (ret_s (var_ok rfl))
    rw [← zip_row (μ ++ [.lst ((loadsK n ws row 0).map .int)])]
    exact zip_ok (cons_ok (var_ok rfl) (one_ok (var_ok rfl))) (show itmOf _ (rRow row) = some ⟨row.map rNt, []⟩ from rfl) (show itmOf _ (rWs ws) = some ⟨ws.map rO, []⟩ from rfl)
  obtain ⟨_, key, _⟩ := key
  exact run_cell (ν := [.lst ((loads n ws row).map .int)]) key (Nat.le_refl _) get_last (nrs_ints _) hm
theorem own_ix {k : Nat} (hk : k < ws.length) (μ : Mem) : ixM μ (rWs ws) (.int k) = some (rO ws[k]) := by
  refine (ixT' _ _).trans ?_
  rw [atN _ _ (by rw [List.length_map]; exact hk), List.getElem?_map, List.getElem?_eq_getElem hk]
  rfl
theorem ch_ix (hr : OkR ws row) {k : Nat} (hk : k < ws.length) (μ : Mem) : ixM μ (rRow row) (.int k) = some (rNt (row.getD k 0)) := by
  refine (ixT' _ _).trans ?_
  rw [atN _ _ (by rw [List.length_map, hr.l]; exact hk), List.getElem?_map, row_at hr hk]
  rfl
theorem law_loads_ok (hm : okMem μ) (ok : OkC cs ws n m) (hr : OkR ws row) : F_law_loads [rCo cs, rWs ws, rRow row] μ = .ok (rI (loads n ws row)) μ := by
  have n1 := ok.n1
  have m1 := ok.m1
  have wl := ok.wl
  refine run_data (ν := [.lst ((loads n ws row).map .int)]) (show M_law_loads [some (rCo cs), some (rWs ws), some (rRow row), none, none, none] μ = _ from ?_) (nr_I _) hm
  unfold M_law_loads
  refine seq_step (ρ1 := [some (rCo cs), some (rWs ws), some (rRow row), some (.ref μ.length), none, none]) (μ1 := μ ++ [.lst ((loadsK n ws row 0).map .int)]) ((asg_ok (mulC_ok (k := n) (lst_ok (one_ok k_ok)) (cb_ok (one_ok (var_ok rfl)) ((lenCo _ cs).trans (by rw [ok.cl]))) rfl (by simp; omega) (by omega)) rfl).trans (by rw [zeros]; rfl)) ?_
  let I : Nat → MM.Env → Mem → Prop := fun k ρ μ' => μ' = μ ++ [.lst ((loadsK n ws row k).map .int)] ∧ ∃ u4 u5, ρ = [some (rCo cs), some (rWs ws), some (rRow row), some (.ref μ.length), u4, u5]
  obtain ⟨ρ', μ', e1, e2, u4, u5, e3⟩ := for_idx (xs0 := intsL 0 ws.length) (g := gN 4) (b := sFor (mItm (mOp ixM (mOp ixM (mVar 1) (mVar 4)) (mOp ixM (mVar 2) (mVar 4)))) (gN 5) (sAsg (mOp addM (mOp ixM (mVar 3) (mVar 5)) (mRet (.int 1))) (gIx (mVar 3) (mVar 5)))) I (I ws.length) (intsL 0 ws.length) 0 [some (rCo cs), some (rWs ws), some (rRow row), some (.ref μ.length), none, none] (μ ++ [.lst ((loadsK n ws row 0).map .int)]) ⟨rfl, _, _, rfl⟩ (fun ρ μ q => by rw [intsL_len, Nat.zero_add] at q; exact q) (by
    intro k x hx ρ μ' ⟨q1, u4, u5, q2⟩
    obtain ⟨hk, rfl⟩ := intsL_get hx
    subst q1 q2
    rw [Nat.zero_add, Int.zero_add] at *
    obtain ⟨u, cl⟩ := count_loop (μ := μ) (i := 5) (xs0 := (way ws row k).map .int) (n := n) (fun u => [some (rCo cs), some (rWs ws), some (rRow row), some (.ref μ.length), some (.int k), u]) (u0 := u5) (w := way ws row k) (way_ok ok hr (by rw [← ok.wl]; exact hk)).2.1 (fun _ => rfl) (fun _ => rfl) (fun _ _ _ => rfl) (f := loadsK n ws row k) (loadsK_len _ _ _ _)
    refine ⟨_, _, rfl, .inl ⟨_, _, .inl (sfor_of (t := ⟨(way ws row k).map .int, []⟩) (mitm (op_ok (op_ok (var_ok rfl) (var_ok rfl) (own_ix hk _)) (op_ok (var_ok rfl) (var_ok rfl) (ch_ix hr hk _)) (way_ix hr hk _)) rfl) cl), ?_, _, _, rfl⟩⟩
    rw [loadsK_succ])
  subst e2 e3
  refine seq_step (sfor_of (mrng1 (n := ws.length) (one_ok (cb_ok (one_ok (var_ok rfl)) (lenWs _ ws))) ⟨by omega, by omega⟩) e1) (ret_s (cb_ok (one_ok (var_ok rfl)) ?_))
  show (lstOf _ (.ref μ.length)).map MV.tup = _
  rw [lstC_of get_last]
  rfl
end
end K33

set_option Elab.async false
set_option linter.all false
set_option maxRecDepth 100000
set_option maxHeartbeats 4000000
namespace K33
open PySem PySem.Spec PyProof.Rows L2 MM PL Crd
section
variable {cs : Cs} {ws : Ws} {n m : Nat} {μ : Mem} {row : Rw}
theorem loads_len (n : Nat) (ws : Ws) (row : Rw) : (loads n ws row).length = n := loadsK_len n ws row _
theorem told_ix (ok : OkC cs ws n m) (hr : OkR ws row) {i : Nat} (hi : i < n) : atI ((loads n ws row).map MV.int) (i : Int) = some (.int (ld ws row i)) := by
  have h := loads_at ok hr i
  rw [atN _ _ (by rw [List.length_map, loads_len]; exact hi), List.getElem?_map, List.getElem?_eq_getElem (by rw [loads_len]; exact hi)]
  rw [List.getD_eq_getElem?_getD, List.getElem?_eq_getElem (by rw [loads_len]; exact hi)] at h
  have h : (loads n ws row)[i]'(by rw [loads_len]; exact hi) = (ld ws row i : Int) := h
  rw [h]; rfl
theorem cost_ix (ok : OkC cs ws n m) {i : Nat} (hi : i < n) (μ : Mem) : ixM μ (rCo cs) (.int i) = some (rI (cs.getD i [])) := by
  refine (ixT' _ _).trans ?_
  rw [atN _ _ (by rw [List.length_map, ok.cl]; exact hi), List.getElem?_map, List.getD_eq_getElem?_getD, List.getElem?_eq_getElem (by rw [ok.cl]; exact hi)]
  rfl
theorem co_ix (ok : OkC cs ws n m) {i k : Nat} (hi : i < n) (hk : k < m) (μ : Mem) : ixM μ (rI (cs.getD i [])) (.int k) = some (.int (co cs i k)) := by
  have rl := row_len ok hi
  refine (ixT' _ _).trans ?_
  rw [atN _ _ (by rw [List.length_map, rl]; exact hk), List.getElem?_map]
  unfold co
  rw [List.getD_eq_getElem?_getD (l := cs.getD i []), List.getElem?_eq_getElem (by rw [rl]; exact hk)]
  rfl
theorem ld_pos (ok : OkC cs ws n m) (hr : OkR ws row) {u : Nat} (hu : u < m) {x : Int} (hx : x ∈ way ws row u) : 1 ≤ ld ws row x.toNat := by
  have h0 := (way_ok ok hr hu).2.1 x hx
  have e : ((x.toNat : Nat) : Int) = x := by omega
  have := ld_wo (row := row) ok hu x.toNat
  rw [count_mem ok hr hu, e, if_pos hx] at this
  omega
theorem pay_sum {ρ : MM.Env} {vs : List Nat} {mi : Ev Itm} {told : MV} {u : Nat} (ok : OkC cs ws n m) (hr : OkR ws row) (hu : u < m) (hm : mi ρ μ = .ok ⟨(way ws row u).map .int, []⟩ μ)
    (h0 : ∀ d, ((wipeE ρ vs).set 6 (some d))[0]? = some (some (rCo cs))) (h3 : ∀ d, ((wipeE ρ vs).set 6 (some d))[3]? = some (some told)) (h6 : ∀ d, ((wipeE ρ vs).set 6 (some d))[6]? = some (some d)) (ht : ∀ i, i < n → ixM μ told (.int (i : Nat)) = some (.int (ld ws row i))) :
    mCB sumSM (mCons (mComp vs mi (gN 6) mYes (mOp ixM (mOp ixM (mVar 0) (mVar 6)) (mOp subM (mOp ixM (mVar 3) (mVar 6)) (mRet (.int 1))))) mNil) ρ μ = .ok (.int (pay cs ws row u)) μ := by
  have w := way_ok ok hr hu
  have n6 := ok.n1
  have sm := way_small w.2.1 w.2.2
  refine cb_ok (one_ok (mcomp_mapR (α := Int) (r := .lst ((way ws row u).map fun x => .int (co cs x.toNat (ld ws row x.toNat - 1)))) MV.int (fun x => .int (co cs x.toNat (ld ws row x.toNat - 1))) (way ws row u) hm (le_size (by omega)) (fun x hx => ⟨_, rfl, ?_⟩) rfl)) (sumS_map μ _ _)
  have hx0 := w.2.1 x hx
  have lp := ld_pos ok hr hu hx
  have ll := ld_le ok hr x.toNat
  have e : x = ((x.toNat : Nat) : Int) := by omega
  have i1 : ixM μ (rCo cs) (.int x) = some (rI (cs.getD x.toNat [])) := by
    rw [e]; exact cost_ix ok (by omega) μ
  have i2 : ixM μ told (.int x) = some (.int (ld ws row x.toNat)) := by
    rw [e]; exact ht _ (by omega)
  refine op_ok (op_ok (var_ok (h0 _)) (var_ok (h6 _)) i1) (op_ok (op_ok (var_ok (h3 _)) (var_ok (h6 _)) i2) k_ok rfl) ?_
  rw [show ((ld ws row x.toNat : Nat) : Int) - 1 = ((ld ws row x.toNat - 1 : Nat) : Int) by omega]
  exact co_ix ok (by omega) (by omega) μ
theorem zip_own (hr : OkR ws row) : zipL (row.map rNt) (ws.map rO) = (List.range ws.length).map fun k => .tup [rNt (row.getD k 0), rO (own ws k)] := by
  rw [zip_map]
  refine List.ext_getElem? fun k => ?_
  rw [List.getElem?_map, List.getElem?_map]
  rcases Nat.lt_or_ge k ws.length with h | h
  · rw [List.getElem?_range h, List.getElem?_eq_getElem (by rw [List.length_zip, hr.l]; omega), List.getElem_zip]
    have er := row_at hr h
    rw [List.getElem?_eq_getElem (by rw [hr.l]; exact h)] at er
    have er := Option.some.inj er
    show some (MV.tup [rNt (row[k]'_), rO (ws[k]'_)]) = some (MV.tup [rNt (row.getD k 0), rO (own ws k)])
    rw [er, own_at h]
  · rw [List.getElem?_eq_none (by rw [List.length_zip, hr.l]; omega), List.getElem?_eq_none (by rw [List.length_range]; exact h)]
    rfl
theorem pays_len (cs : Cs) (ws : Ws) (row : Rw) : (pays cs ws row).length = ws.length := by simp [pays]
theorem known_pays_ok (hm : okMem μ) (ok : OkC cs ws n m) (hr : OkR ws row) : F_p_known_pays [rCo cs, rWs ws, rRow row] μ = .ok (.lst ((pays cs ws row).map .int)) μ := by
  have m1 := ok.m1
  have wl := ok.wl
  have L := known_loads_ok hm ok hr
  refine run_rt0 (show M_p_known_pays [some (rCo cs), some (rWs ws), some (rRow row), none, none, none, none] μ = _ from ?_) (by unfold nr; exact nrs_ints _) hm
  unfold M_p_known_pays
  refine seq_step (ρ1 := [some (rCo cs), some (rWs ws), some (rRow row), some (.lst ((loads n ws row).map .int)), none, none, none]) (asg_ok (call_ok (cons_ok (var_ok rfl) (cons_ok (var_ok rfl) (one_ok (var_ok rfl)))) rfl L) rfl) ?_
  have zi : mZip (mCons (mVar 2) (mCons (mVar 1) mNil)) [some (rCo cs), some (rWs ws), some (rRow row), some (.lst ((loads n ws row).map .int)), none, none, none] μ = .ok ⟨(List.range ws.length).map fun k => .tup [rNt (row.getD k 0), rO (own ws k)], []⟩ μ := by
    rw [← zip_own hr]
    exact zip_ok (cons_ok (var_ok rfl) (one_ok (var_ok rfl))) (show itmOf _ (rRow row) = some ⟨row.map rNt, []⟩ from rfl) (show itmOf _ (rWs ws) = some ⟨ws.map rO, []⟩ from rfl)
  refine ret_s (mcomp_mapR (α := Nat) (fun k => .tup [rNt (row.getD k 0), rO (own ws k)]) (fun k => .int (pay cs ws row k)) (List.range ws.length) zi (le_size (by rw [List.length_range]; omega)) (fun k hk => ⟨_, rfl, pay_sum ok hr (by have := List.mem_range.mp hk; omega) (mitm (op_ok (var_ok rfl) (var_ok rfl) (?_ : ixM μ (rO (own ws k)) (rNt (row.getD k 0)) = some (rI (way ws row k)))) rfl) (fun _ => rfl) (fun _ => rfl) (fun _ => rfl) (fun i hi => (ixL _ _).trans (told_ix ok hr hi))⟩) ?_)
  · have hk := List.mem_range.mp hk
    rw [own_at hk]
    exact way_ix hr hk μ
  · unfold pays
    rw [List.map_map]; rfl
theorem pays_succ (cs : Cs) (ws : Ws) (row : Rw) (k : Nat) : ((List.range (k + 1)).map fun u => MV.int (pay cs ws row u)) = ((List.range k).map fun u => MV.int (pay cs ws row u)) ++ [.int (pay cs ws row k)] := by simp [List.range_succ]
theorem law_pays_ok (hm : okMem μ) (ok : OkC cs ws n m) (hr : OkR ws row) : F_law_pays [rCo cs, rWs ws, rRow row] μ = .ok (rI (pays cs ws row)) μ := by
  have m1 := ok.m1
  have wl := ok.wl
  have L := law_loads_ok hm ok hr
  let mem : Nat → Mem := fun k => μ ++ [.lst ((List.range k).map fun u => .int (pay cs ws row u))]
  let env : Nat → MM.Env := fun k => [some (rCo cs), some (rWs ws), some (rRow row), some (rI (loads n ws row)), some (.ref μ.length), if k = 0 then none else some (.int (k - 1 : Nat)), none]
  refine run_data (ν := [.lst ((List.range ws.length).map fun u => .int (pay cs ws row u))]) (show M_law_pays [some (rCo cs), some (rWs ws), some (rRow row), none, none, none, none] μ = _ from ?_) (nr_I _) hm
  unfold M_law_pays
  refine seq_step (ρ1 := [some (rCo cs), some (rWs ws), some (rRow row), some (rI (loads n ws row)), none, none, none]) (μ1 := μ) (asg_ok (call_ok (cons_ok (var_ok rfl) (cons_ok (var_ok rfl) (one_ok (var_ok rfl)))) rfl L) rfl) ?_
  refine seq_step (ρ1 := env 0) (μ1 := mem 0) (asg_ok (lstC_ok nil_ok) rfl) ?_
  refine seq_step (ρ1 := env ws.length) (μ1 := mem ws.length) (sfor_of (mrng1 (n := ws.length) (one_ok (cb_ok (one_ok (var_ok rfl)) (lenWs _ ws))) ⟨by omega, by omega⟩) (forl_range env mem ws.length fun k hk => ⟨[some (rCo cs), some (rWs ws), some (rRow row), some (rI (loads n ws row)), some (.ref μ.length), some (.int k), none], mem k, rfl, ?_⟩)) (ret_s (cb_ok (one_ok (var_ok rfl)) ?_))
  · have e : env (k + 1) = [some (rCo cs), some (rWs ws), some (rRow row), some (rI (loads n ws row)), some (.ref μ.length), some (.int k), none] := by
      show [_, _, _, _, _, (if k + 1 = 0 then none else some (MV.int (k + 1 - 1 : Nat))), none] = _
      rw [if_neg (by omega), Nat.add_sub_cancel]
    rw [e]
    show _ = SOut.nx _ (μ ++ [.lst ((List.range (k + 1)).map fun u => .int (pay cs ws row u))])
    rw [pays_succ]
    exact appL_s (var_ok rfl) (pay_sum ok hr (by omega) (mitm (op_ok (op_ok (var_ok rfl) (var_ok rfl) (own_ix hk _)) (op_ok (var_ok rfl) (var_ok rfl) (ch_ix hr hk _)) (way_ix hr hk _)) rfl) (fun _ => rfl) (fun _ => rfl) (fun _ => rfl) (fun i hi => (ixT' _ _).trans (told_ix ok hr hi))) (by rw [List.length_map, List.length_range]; omega)
  · show (lstOf _ (.ref μ.length)).map MV.tup = _
    rw [lstC_of get_last]
    unfold rI pays
    rw [List.map_map]
    rfl
end
end K33

set_option Elab.async false
set_option linter.all false
set_option maxRecDepth 100000
set_option maxHeartbeats 4000000
namespace Crd
/-- a change that is cheaper for u -/
def bet (cs : Cs) (ws : Ws) (row : Rw) (u c : Nat) : Bool := decide (pay cs ws (chg row u c) u < pay cs ws row u)
def chp (cs : Cs) (ws : Ws) (row : Rw) : Option (Nat × Nat) := (List.range ws.length).findSome? fun u => ((List.range (own ws u).length).find? fun c => bet cs ws row u c).map fun c => (u, c)
theorem find_none {p : Nat → Bool} {k : Nat} (h : ∀ c, c < k → p c = false) : (List.range k).find? p = none := List.find?_eq_none.mpr fun c hc => by
  rw [h c (List.mem_range.mp hc)]; simp
theorem find_some {p : Nat → Bool} {k c : Nat} (hc : c < k) (h : p c = true) (hn : ∀ d, d < c → p d = false) : (List.range k).find? p = some c := by
  rw [List.find?_eq_some_iff_append]
  refine ⟨h, List.range c, (List.range' (c + 1) (k - (c + 1))), ?_, fun d hd => by rw [hn d (List.mem_range.mp hd)]; rfl⟩
  rw [List.range_eq_range', List.range_eq_range', show k = c + (1 + (k - (c + 1))) by omega, ← List.range'_append_1, ← List.range'_append_1]
  simp
  omega
theorem findSome_none {α : Type} {f : Nat → Option α} {k : Nat} (h : ∀ c, c < k → f c = none) : (List.range k).findSome? f = none := List.findSome?_eq_none_iff.mpr fun c hc => h c (List.mem_range.mp hc)
theorem findSome_some {α : Type} {f : Nat → Option α} {a : α} : ∀ {k u : Nat}, u < k → f u = some a → (∀ v, v < u → f v = none) → (List.range k).findSome? f = some a
  | 0, u, h, _, _ => absurd h (by omega)
  | k + 1, u, h, e, hn => by
    rw [List.range_succ, List.findSome?_append]
    rcases Nat.lt_or_ge u k with q | q
    · rw [findSome_some q e hn]; rfl
    · have : u = k := by omega
      subst this
      rw [findSome_none hn]
      simp [e]
section
variable {cs : Cs} {ws : Ws} {row : Rw}
theorem chp_none (h : ∀ u, u < ws.length → ∀ c, c < (own ws u).length → bet cs ws row u c = false) : chp cs ws row = none := findSome_none fun u hu => by rw [find_none (h u hu)]; rfl
theorem chp_some {u c : Nat} (hu : u < ws.length) (hc : c < (own ws u).length) (b : bet cs ws row u c = true) (h1 : ∀ v, v < u → ∀ d, d < (own ws v).length → bet cs ws row v d = false) (h2 : ∀ d, d < c → bet cs ws row u d = false) : chp cs ws row = some (u, c) :=
  findSome_some hu (by rw [find_some hc b h2]; rfl) fun v hv => by rw [find_none (h1 v hv)]; rfl
theorem chp_in {u c : Nat} (h : chp cs ws row = some (u, c)) : u < ws.length ∧ c < (own ws u).length ∧ bet cs ws row u c = true := by
  obtain ⟨v, hv, e⟩ := List.exists_of_findSome?_eq_some h
  obtain ⟨d, hd, e2⟩ := Option.map_eq_some_iff.mp e
  cases e2
  exact ⟨List.mem_range.mp hv, List.mem_range.mp (List.mem_of_find?_eq_some hd), List.find?_some hd⟩
end
end Crd
namespace K33
open PySem PySem.Spec PyProof.Rows L2 MM PL Crd
section
variable {cs : Cs} {ws : Ws} {n m : Nat} {μ : Mem} {row : Rw}
def rOpt : Option (Nat × Nat) → MV
  | none => .non
  | some p => .tup [.int p.1, .int p.2]
theorem nr_Opt (o : Option (Nat × Nat)) : nr (rOpt o) = true := by cases o <;> rfl
theorem chg_rep (row : Rw) (u c : Nat) : rRow (chg row u c) = .tup ((row.take u).map rNt ++ (rNt c :: (row.drop (u + 1)).map rNt)) := by
  unfold rRow chg
  rw [List.map_append]; rfl
theorem pay_ix (ok : OkC cs ws n m) {k : Nat} (hk : k < ws.length) : atI ((pays cs ws row).map MV.int) (k : Int) = some (.int (pay cs ws row k)) := by
  rw [atN _ _ (by rw [List.length_map, pays_len]; exact hk), List.getElem?_map]
  unfold pays
  rw [List.getElem?_map, List.getElem?_range hk]; rfl
theorem enum_own (ws : Ws) : enumL 0 (ws.map rO) = (List.range ws.length).map fun k => .tup [.int (k : Nat), rO (own ws k)] := by
  rw [enumL_map]
  refine List.ext_getElem? fun k => ?_
  rw [List.getElem?_map, List.getElem?_map]
  rcases Nat.lt_or_ge k ws.length with h | h
  · rw [List.getElem?_range h, List.getElem?_zipIdx, List.getElem?_eq_getElem h]
    show some (MV.tup [.int ((0 + k : Nat) : Int), rO ws[k]]) = some (MV.tup [.int (k : Nat), rO (own ws k)])
    rw [own_at h, Nat.zero_add]
  · rw [List.getElem?_eq_none (l := List.range ws.length) (by rw [List.length_range]; exact h), List.getElem?_zipIdx, List.getElem?_eq_none h]
    rfl
noncomputable abbrev bCh : SM := (sSeq (sAsg (mTup (mStar (mSlice (mVar 2) mNoPart (mPart (mVar 4))) (mCons (mVar 6) (mStar (mSlice (mVar 2) (mPart (mOp addM (mVar 4) (mRet (.int 1)))) mNoPart) mNil)))) (gN 7))
  (sIf (mT (mOp ltM (mOp ixM (mCall 3 F_p_known_pays (mCons (mVar 0) (mCons (mVar 1) (mCons (mVar 7) mNil)))) (mVar 4)) (mOp ixM (mVar 3) (mVar 4)))) (sRet (mTup (mCons (mVar 4) (mCons (mVar 6) mNil)))) sPass))
theorem cut_t (μ : Mem) (row : Rw) (u : Nat) : sliceM μ (rRow row) none (some (u : Int)) = some (.tup ((row.take u).map rNt)) := by
  show some (MV.tup (cutM (row.map rNt) none (some (u : Int)))) = _
  rw [cut_to, List.map_take]
theorem cut_d (μ : Mem) (row : Rw) (u : Nat) : sliceM μ (rRow row) (some ((u : Int) + 1)) none = some (.tup ((row.drop (u + 1)).map rNt)) := by
  show some (MV.tup (cutM (row.map rNt) (some ((u : Int) + 1)) none)) = _
  rw [show (u : Int) + 1 = ((u + 1 : Nat) : Int) by omega, cut_from, List.map_drop]
theorem ch_step (hm : okMem μ) (ok : OkC cs ws n m) (hr : OkR ws row) {u c : Nat} (hu : u < ws.length) (hc : c < (own ws u).length) (u7 : Option MV) :
    bCh [some (rCo cs), some (rWs ws), some (rRow row), some (.lst ((pays cs ws row).map .int)), some (.int u), some (rO (own ws u)), some (.int c), u7] μ
      = if bet cs ws row u c = true then .rt (rOpt (some (u, c))) μ else .nx [some (rCo cs), some (rWs ws), some (rRow row), some (.lst ((pays cs ws row).map .int)), some (.int u), some (rO (own ws u)), some (.int c), some (rRow (chg row u c))] μ := by
  have m1 := ok.m1
  have wl := ok.wl
  have hl := hr.l
  have P := known_pays_ok hm ok (chg_ok hr hu hc)
  unfold bCh
  have cond : mT (mOp ltM (mOp ixM (mCall 3 F_p_known_pays (mCons (mVar 0) (mCons (mVar 1) (mCons (mVar 7) mNil)))) (mVar 4)) (mOp ixM (mVar 3) (mVar 4))) [some (rCo cs), some (rWs ws), some (rRow row), some (.lst ((pays cs ws row).map .int)), some (.int u), some (rO (own ws u)), some (.int c), some (rRow (chg row u c))] μ = .ok (bet cs ws row u c) μ :=
    t_ok (op_ok (op_ok (call_ok (cons_ok (var_ok rfl) (cons_ok (var_ok rfl) (one_ok (var_ok rfl)))) rfl P) (var_ok rfl) ((ixL _ _).trans (pay_ix ok hu))) (op_ok (var_ok rfl) (var_ok rfl) ((ixL _ _).trans (pay_ix ok hu))) (ltI _ _))
  have st : sAsg (mTup (mStar (mSlice (mVar 2) mNoPart (mPart (mVar 4))) (mCons (mVar 6) (mStar (mSlice (mVar 2) (mPart (mOp addM (mVar 4) (mRet (.int 1)))) mNoPart) mNil)))) (gN 7) [some (rCo cs), some (rWs ws), some (rRow row), some (.lst ((pays cs ws row).map .int)), some (.int u), some (rO (own ws u)), some (.int c), u7] μ = .nx [some (rCo cs), some (rWs ws), some (rRow row), some (.lst ((pays cs ws row).map .int)), some (.int u), some (rO (own ws u)), some (.int c), some (rRow (chg row u c))] μ := by
    rw [chg_rep]
    refine asg_ok (tup_ok (ds := (row.take u).map rNt ++ (rNt c :: (row.drop (u + 1)).map rNt)) ?_ (le_size (by simp only [List.length_append, List.length_map, List.length_take, List.length_drop, List.length_cons]; omega))) rfl
    have s2 : mStar (mSlice (mVar 2) (mPart (mOp addM (mVar 4) (mRet (.int 1)))) mNoPart) mNil [some (rCo cs), some (rWs ws), some (rRow row), some (.lst ((pays cs ws row).map .int)), some (.int u), some (rO (own ws u)), some (.int c), u7] μ = .ok ((row.drop (u + 1)).map rNt ++ []) μ := star_ok (slice_ok (var_ok rfl) (part_ok (op_ok (var_ok rfl) k_ok rfl)) nopart_ok (cut_d μ row u)) rfl nil_ok
    rw [List.append_nil] at s2
    exact star_ok (slice_ok (var_ok rfl) nopart_ok (part_ok (var_ok rfl)) (cut_t μ row u)) rfl (cons_ok (var_ok rfl) s2)
  refine seq_step st ?_
  cases hb : bet cs ws row u c with
  | true =>
    rw [hb] at cond
    rw [if_pos rfl]
    exact if_t cond (ret_s (tup_ok (cons_ok (var_ok rfl) (one_ok (var_ok rfl)))))
  | false =>
    rw [hb] at cond
    rw [if_neg (by simp)]
    exact if_n cond
theorem cheaper_ok (hm : okMem μ) (ok : OkC cs ws n m) (hr : OkR ws row) : F_p_cheaper [rCo cs, rWs ws, rRow row] μ = .ok (rOpt (chp cs ws row)) μ := by
  have m1 := ok.m1
  have wl := ok.wl
  have P := known_pays_ok hm ok hr
  refine run_rt0 (show M_p_cheaper [some (rCo cs), some (rWs ws), some (rRow row), none, none, none, none, none] μ = _ from ?_) (nr_Opt _) hm
  unfold M_p_cheaper
  refine seq_step (ρ1 := [some (rCo cs), some (rWs ws), some (rRow row), some (.lst ((pays cs ws row).map .int)), none, none, none, none]) (μ1 := μ) (asg_ok (call_ok (cons_ok (var_ok rfl) (cons_ok (var_ok rfl) (one_ok (var_ok rfl)))) rfl P) rfl) ?_
  have ei : mEnum (mCons (mVar 1) mNil) [some (rCo cs), some (rWs ws), some (rRow row), some (.lst ((pays cs ws row).map .int)), none, none, none, none] μ = .ok ⟨(List.range ws.length).map fun k => .tup [.int (k : Nat), rO (own ws k)], []⟩ μ := by
    rw [← enum_own]
    exact enum_ok (one_ok (var_ok rfl)) (show itmOf μ (rWs ws) = some ⟨ws.map rO, []⟩ from rfl)
  obtain hl | hl := for_ret (xs0 := (List.range ws.length).map fun k => .tup [.int (k : Nat), rO (own ws k)]) (g := gT ((gN 4) :: ((gN 5) :: []))) (b := sFor (mRng rng1 (mCons (mCB lenM (mCons (mVar 5) mNil)) mNil)) (gN 6) bCh)
    (fun j ρ μ' => μ' = μ ∧ (∃ u4 u5 u6 u7, ρ = [some (rCo cs), some (rWs ws), some (rRow row), some (.lst ((pays cs ws row).map .int)), u4, u5, u6, u7]) ∧ ∀ v, v < j → ∀ d, d < (own ws v).length → bet cs ws row v d = false)
    (fun r μ' => μ' = μ ∧ r = rOpt (chp cs ws row)) ((List.range ws.length).map fun k => .tup [.int (k : Nat), rO (own ws k)]) 0 [some (rCo cs), some (rWs ws), some (rRow row), some (.lst ((pays cs ws row).map .int)), none, none, none, none] μ ⟨rfl, ⟨_, _, _, _, rfl⟩, fun v hv => absurd hv (by omega)⟩ (by
      intro u x hx ρ μ' ⟨q1, ⟨u4, u5, u6, u7, q2⟩, q3⟩
      subst q1 q2
      rw [Nat.zero_add] at *
      rw [List.getElem?_map] at hx
      obtain ⟨u', hu', rfl⟩ := Option.map_eq_some_iff.mp hx
      have hu : u < ws.length := by
        have := (List.getElem?_eq_some_iff.mp hu').1
        rwa [List.length_range] at this
      rw [List.getElem?_range hu] at hu'
      cases hu'
      have hcl : 1 ≤ (own ws u).length ∧ (own ws u).length ≤ 3 := ok.ol _ (own_mem ok (by omega))
      refine ⟨_, _, rfl, ?_⟩
      obtain hi | hi := for_ret (xs0 := intsL 0 (own ws u).length) (g := gN 6) (b := bCh)
        (fun j ρ μ'' => μ'' = μ' ∧ (∃ u6 u7, ρ = [some (rCo cs), some (rWs ws), some (rRow row), some (.lst ((pays cs ws row).map .int)), some (.int u), some (rO (own ws u)), u6, u7]) ∧ ∀ d, d < j → bet cs ws row u d = false)
        (fun r μ'' => μ'' = μ' ∧ r = rOpt (chp cs ws row)) (intsL 0 (own ws u).length) 0 [some (rCo cs), some (rWs ws), some (rRow row), some (.lst ((pays cs ws row).map .int)), some (.int u), some (rO (own ws u)), u6, u7] μ' ⟨rfl, ⟨_, _, rfl⟩, fun d hd => absurd hd (by omega)⟩ (by
          intro c x hx ρ μ'' ⟨q1, ⟨u6, u7, q2⟩, q4⟩
          obtain ⟨hc, rfl⟩ := intsL_get hx
          subst q1 q2
          rw [Nat.zero_add, Int.zero_add] at *
          have st := ch_step hm ok hr hu hc u7
          refine ⟨_, _, rfl, ?_⟩
          cases hb : bet cs ws row u c with
          | true =>
            rw [hb, if_pos rfl] at st
            exact .inr ⟨_, _, st, rfl, by rw [chp_some hu hc hb q3 q4]⟩
          | false =>
            rw [hb, if_neg (by simp)] at st
            refine .inl ⟨_, _, st, rfl, ⟨_, _, rfl⟩, fun d hd => ?_⟩
            rcases Nat.lt_or_ge d c with z | z
            · exact q4 d z
            · rw [show d = c by omega]; exact hb)
      · obtain ⟨ρ', μ'', e1, e2, ⟨v6, v7, e3⟩, e4⟩ := hi
        subst e2 e3
        rw [intsL_len, Nat.zero_add] at e4
        refine .inl ⟨_, _, sfor_of (mrng1 (n := (own ws u).length) (one_ok (cb_ok (one_ok (var_ok rfl)) (lenO _ _))) ⟨by omega, by omega⟩) e1, rfl, ⟨_, _, _, _, rfl⟩, fun v hv d hd => ?_⟩
        rcases Nat.lt_or_ge v u with z | z
        · exact q3 v z d hd
        · have : v = u := by omega
          subst this
          exact e4 d hd
      · obtain ⟨r, μ'', e1, e2, e3⟩ := hi
        exact .inr ⟨_, _, sfor_of (mrng1 (n := (own ws u).length) (one_ok (cb_ok (one_ok (var_ok rfl)) (lenO _ _))) ⟨by omega, by omega⟩) e1, e2, e3⟩)
  · obtain ⟨ρ', μ', e1, e2, ⟨u4, u5, u6, u7, e3⟩, e4⟩ := hl
    subst e2 e3
    rw [List.length_map, List.length_range, Nat.zero_add] at e4
    refine seq_step (sfor_of ei e1) ?_
    rw [chp_none e4]
    exact ret_s k_ok
  · obtain ⟨r, μ', e1, e2, e3⟩ := hl
    subst e2 e3
    exact seq_rt (sfor_of ei e1)
end
end K33

set_option Elab.async false
set_option linter.all false
set_option maxRecDepth 100000
set_option maxHeartbeats 4000000
namespace K33
open PySem PySem.Spec PyProof.Rows L2 MM PL Crd
section
variable {cs : Cs} {ws : Ws} {n m : Nat} {μ : Mem} {row : Rw}
noncomputable abbrev bLc : SM := (sSeq (sAsg (mOp addM (mOp addM (mSlice (mVar 2) mNoPart (mPart (mVar 4))) (mTup (mCons (mVar 5) mNil))) (mSlice (mVar 2) (mPart (mOp addM (mVar 4) (mRet (.int 1)))) mNoPart)) (gN 6))
  (sIf (mT (mOp ltM (mOp ixM (mCall 3 F_law_pays (mCons (mVar 0) (mCons (mVar 1) (mCons (mVar 6) mNil)))) (mVar 4)) (mOp ixM (mVar 3) (mVar 4)))) (sRet (mTup (mCons (mVar 4) (mCons (mVar 5) mNil)))) sPass))
/-- row[:u] + (c,) + row[u + 1:] -/
theorem chg_ev {ρ : MM.Env} {a b c' : Ev MV} {u c : Nat} (hl : row.length ≤ 100) (ha : a ρ μ = .ok (.tup ((row.take u).map rNt)) μ) (hc : c' ρ μ = .ok (.tup [rNt c]) μ) (hb : b ρ μ = .ok (.tup ((row.drop (u + 1)).map rNt)) μ) : mOp addM (mOp addM a c') b ρ μ = .ok (rRow (chg row u c)) μ := by
  refine op_ok (a := .tup ((row.take u).map rNt ++ [rNt c])) (op_ok ha hc ?_) hb ?_
  · show (if ((row.take u).map rNt).length + 1 ≤ sizeLine then some (MV.tup ((row.take u).map rNt ++ [rNt c])) else none) = _
    rw [if_pos (le_size (by rw [List.length_map, List.length_take]; omega))]
  · show (if ((row.take u).map rNt ++ [rNt c]).length + ((row.drop (u + 1)).map rNt).length ≤ sizeLine then some (MV.tup (((row.take u).map rNt ++ [rNt c]) ++ (row.drop (u + 1)).map rNt)) else none) = _
    rw [if_pos (le_size (by simp only [List.length_append, List.length_map, List.length_take, List.length_drop, List.length_cons, List.length_nil]; omega)), chg_rep, List.append_assoc]
    rfl
theorem lc_step (hm : okMem μ) (ok : OkC cs ws n m) (hr : OkR ws row) {u c : Nat} (hu : u < ws.length) (hc : c < (own ws u).length) (u6 : Option MV) :
    bLc [some (rCo cs), some (rWs ws), some (rRow row), some (rI (pays cs ws row)), some (.int u), some (.int c), u6] μ
      = if bet cs ws row u c = true then .rt (rOpt (some (u, c))) μ else .nx [some (rCo cs), some (rWs ws), some (rRow row), some (rI (pays cs ws row)), some (.int u), some (.int c), some (rRow (chg row u c))] μ := by
  have m1 := ok.m1
  have wl := ok.wl
  have hl := hr.l
  have P := law_pays_ok hm ok (chg_ok hr hu hc)
  unfold bLc
  have cond : mT (mOp ltM (mOp ixM (mCall 3 F_law_pays (mCons (mVar 0) (mCons (mVar 1) (mCons (mVar 6) mNil)))) (mVar 4)) (mOp ixM (mVar 3) (mVar 4))) [some (rCo cs), some (rWs ws), some (rRow row), some (rI (pays cs ws row)), some (.int u), some (.int c), some (rRow (chg row u c))] μ = .ok (bet cs ws row u c) μ :=
    t_ok (op_ok (op_ok (call_ok (cons_ok (var_ok rfl) (cons_ok (var_ok rfl) (one_ok (var_ok rfl)))) rfl P) (var_ok rfl) ((ixT' _ _).trans (pay_ix ok hu))) (op_ok (var_ok rfl) (var_ok rfl) ((ixT' _ _).trans (pay_ix ok hu))) (ltI _ _))
  refine seq_step (asg_ok (chg_ev (row := row) (u := u) (c := c) (by omega) (slice_ok (var_ok rfl) nopart_ok (part_ok (var_ok rfl)) (cut_t μ row u)) (tup_ok (one_ok (var_ok rfl))) (slice_ok (var_ok rfl) (part_ok (op_ok (var_ok rfl) k_ok rfl)) nopart_ok (cut_d μ row u))) rfl) ?_
  cases hb : bet cs ws row u c with
  | true =>
    rw [hb] at cond
    rw [if_pos rfl]
    exact if_t cond (ret_s (tup_ok (cons_ok (var_ok rfl) (one_ok (var_ok rfl)))))
  | false =>
    rw [hb] at cond
    rw [if_neg (by simp)]
    exact if_n cond
theorem own_ix' {k : Nat} (hk : k < ws.length) (μ : Mem) : ixM μ (rWs ws) (.int k) = some (rO (own ws k)) := by rw [own_at hk]; exact own_ix hk μ
theorem law_cheaper_ok (hm : okMem μ) (ok : OkC cs ws n m) (hr : OkR ws row) : F_law_cheaper [rCo cs, rWs ws, rRow row] μ = .ok (rOpt (chp cs ws row)) μ := by
  have m1 := ok.m1
  have wl := ok.wl
  have P := law_pays_ok hm ok hr
  refine run_rt0 (show M_law_cheaper [some (rCo cs), some (rWs ws), some (rRow row), none, none, none, none] μ = _ from ?_) (nr_Opt _) hm
  unfold M_law_cheaper
  refine seq_step (ρ1 := [some (rCo cs), some (rWs ws), some (rRow row), some (rI (pays cs ws row)), none, none, none]) (μ1 := μ) (asg_ok (call_ok (cons_ok (var_ok rfl) (cons_ok (var_ok rfl) (one_ok (var_ok rfl)))) rfl P) rfl) ?_
  obtain hl | hl := for_ret (xs0 := intsL 0 ws.length) (g := gN 4) (b := sFor (mRng rng1 (mCons (mCB lenM (mCons (mOp ixM (mVar 1) (mVar 4)) mNil)) mNil)) (gN 5) bLc)
    (fun j ρ μ' => μ' = μ ∧ (∃ u4 u5 u6, ρ = [some (rCo cs), some (rWs ws), some (rRow row), some (rI (pays cs ws row)), u4, u5, u6]) ∧ ∀ v, v < j → ∀ d, d < (own ws v).length → bet cs ws row v d = false)
    (fun r μ' => μ' = μ ∧ r = rOpt (chp cs ws row)) (intsL 0 ws.length) 0 [some (rCo cs), some (rWs ws), some (rRow row), some (rI (pays cs ws row)), none, none, none] μ ⟨rfl, ⟨_, _, _, rfl⟩, fun v hv => absurd hv (by omega)⟩ (by
      intro u x hx ρ μ' ⟨q1, ⟨u4, u5, u6, q2⟩, q3⟩
      obtain ⟨hu, rfl⟩ := intsL_get hx
      subst q1 q2
      rw [Nat.zero_add, Int.zero_add] at *
      have hcl : 1 ≤ (own ws u).length ∧ (own ws u).length ≤ 3 := ok.ol _ (own_mem ok (by omega))
      refine ⟨_, _, rfl, ?_⟩
      obtain hi | hi := for_ret (xs0 := intsL 0 (own ws u).length) (g := gN 5) (b := bLc)
        (fun j ρ μ'' => μ'' = μ' ∧ (∃ u5 u6, ρ = [some (rCo cs), some (rWs ws), some (rRow row), some (rI (pays cs ws row)), some (.int u), u5, u6]) ∧ ∀ d, d < j → bet cs ws row u d = false)
        (fun r μ'' => μ'' = μ' ∧ r = rOpt (chp cs ws row)) (intsL 0 (own ws u).length) 0 [some (rCo cs), some (rWs ws), some (rRow row), some (rI (pays cs ws row)), some (.int u), u5, u6] μ' ⟨rfl, ⟨_, _, rfl⟩, fun d hd => absurd hd (by omega)⟩ (by
          intro c x hx ρ μ'' ⟨q1, ⟨u5, u6, q2⟩, q4⟩
          obtain ⟨hc, rfl⟩ := intsL_get hx
          subst q1 q2
          rw [Nat.zero_add, Int.zero_add] at *
          have st := lc_step hm ok hr hu hc u6
          refine ⟨_, _, rfl, ?_⟩
          cases hb : bet cs ws row u c with
          | true =>
            rw [hb, if_pos rfl] at st
            exact .inr ⟨_, _, st, rfl, by rw [chp_some hu hc hb q3 q4]⟩
          | false =>
            rw [hb, if_neg (by simp)] at st
            refine .inl ⟨_, _, st, rfl, ⟨_, _, rfl⟩, fun d hd => ?_⟩
            rcases Nat.lt_or_ge d c with z | z
            · exact q4 d z
            · rw [show d = c by omega]; exact hb)
      · obtain ⟨ρ', μ'', e1, e2, ⟨v5, v6, e3⟩, e4⟩ := hi
        subst e2 e3
        rw [intsL_len, Nat.zero_add] at e4
        refine .inl ⟨_, _, sfor_of (mrng1 (n := (own ws u).length) (one_ok (cb_ok (one_ok (op_ok (var_ok rfl) (var_ok rfl) (own_ix' hu _))) (lenO _ _))) ⟨by omega, by omega⟩) e1, rfl, ⟨_, _, _, rfl⟩, fun v hv d hd => ?_⟩
        rcases Nat.lt_or_ge v u with z | z
        · exact q3 v z d hd
        · have : v = u := by omega
          subst this
          exact e4 d hd
      · obtain ⟨r, μ'', e1, e2, e3⟩ := hi
        exact .inr ⟨_, _, sfor_of (mrng1 (n := (own ws u).length) (one_ok (cb_ok (one_ok (op_ok (var_ok rfl) (var_ok rfl) (own_ix' hu _))) (lenO _ _))) ⟨by omega, by omega⟩) e1, e2, e3⟩)
  · obtain ⟨ρ', μ', e1, e2, ⟨u4, u5, u6, e3⟩, e4⟩ := hl
    subst e2 e3
    rw [intsL_len, Nat.zero_add] at e4
    refine seq_step (sfor_of (mrng1 (n := ws.length) (one_ok (cb_ok (one_ok (var_ok rfl)) (lenWs _ ws))) ⟨by omega, by omega⟩) e1) ?_
    rw [chp_none e4]
    exact ret_s k_ok
  · obtain ⟨r, μ', e1, e2, e3⟩ := hl
    subst e2 e3
    exact seq_rt (sfor_of (mrng1 (n := ws.length) (one_ok (cb_ok (one_ok (var_ok rfl)) (lenWs _ ws))) ⟨by omega, by omega⟩) e1)
end
end K33

set_option Elab.async false
set_option linter.all false
set_option maxRecDepth 100000
set_option maxHeartbeats 4000000
namespace PL
open PySem PySem.Spec PyProof.Rows L2 MM
theorem sorted_ok {μ : Mem} (ns : List Int) : sortedM μ [.lst (ns.map .int)] = some (.lst ((sortI ns).map .int)) := by
  show (some (ns.map MV.int)).bind (fun xs => (intsOf xs).map fun ns => MV.lst ((sortI ns).map .int)) = _
  rw [Option.bind_some, intsOf_map]; rfl
theorem srtSet_ok {μ : Mem} {ns : List Int} (h : ns.length < 60) : srtSetM μ [.lst (ns.map .int)] = some (.lst ((sortI (onceI ns)).map .int)) := by
  show (some (ns.map MV.int)).bind (fun xs => (intsOf xs).bind fun ns => if ns.length < 60 then some (MV.lst ((sortI (onceI ns)).map .int)) else none) = _
  rw [Option.bind_some, intsOf_map, Option.bind_some, if_pos h]
theorem sortI_perm (ns : List Int) : (sortI ns).Perm ns := List.mergeSort_perm _ _
theorem sortI_asc (ns : List Int) : (sortI ns).Pairwise (· ≤ ·) := by
  have := List.pairwise_mergeSort (le := fun a b : Int => decide (a ≤ b)) (fun a b c h1 h2 => by simp at *; omega) (fun a b => by simp; omega) ns
  exact this.imp fun h => of_decide_eq_true h
theorem once_asc (ns : List Int) : (sortI (onceI ns)).Pairwise (· < ·) := by
  have nd : (sortI (onceI ns)).Nodup := (sortI_perm _).nodup_iff.mpr (nodup_onceI ns)
  have h := sortI_asc (onceI ns)
  have nd : (sortI (onceI ns)).Pairwise (· ≠ ·) := nd
  exact h.imp₂ (fun a b h1 h2 => by omega) nd
theorem mem_once {ns : List Int} {x : Int} : x ∈ sortI (onceI ns) ↔ x ∈ ns := by rw [(sortI_perm _).mem_iff, mem_onceI]
/-- cells of plain lists -/
def Pl (ls : Mem) : Prop := ∀ c ∈ ls, ∃ xs, c = .lst xs ∧ nrs xs = true
theorem Pl.nil : Pl [] := fun c hc => by cases hc
theorem Pl.snoc {ls : Mem} {xs : List MV} (h : Pl ls) (hx : nrs xs = true) : Pl (ls ++ [.lst xs]) := fun c hc => by
  rcases List.mem_append.mp hc with hc | hc
  · exact h c hc
  · exact ⟨xs, List.mem_singleton.mp hc, hx⟩
theorem Pl.cons {ls : Mem} {xs : List MV} (h : Pl ls) (hx : nrs xs = true) : Pl (.lst xs :: ls) := fun c hc => by
  rcases List.mem_cons.mp hc with hc | hc
  · exact ⟨xs, hc, hx⟩
  · exact h c hc
theorem okMem_pl {μ ls : Mem} (hm : okMem μ) (h : Pl ls) : okMem (μ ++ ls) := okMem_app hm fun c hc => by
  obtain ⟨xs, e, hx⟩ := h c hc
  rw [e]
  exact okNs_nr xs hx
theorem run_S2 {N : List Str} {b : SM} {ds : List MV} {xs : List Int} {k k' : Nat} {rest ν : Mem} {d : MV} (h : b (envS N ds) (sC xs k :: rest) = .rt d (sC xs k' :: rest ++ ν)) (hd : nr d = true) (hm : okMem (sC xs k :: rest)) : runC N b ds (sC xs k :: rest) = .ok d (sC xs k' :: rest) := by
  have hs : (sC xs k' :: rest ++ ν).take (sC xs k :: rest).length = sC xs k' :: rest := by
    have : (sC xs k :: rest).length = (sC xs k' :: rest).length := rfl
    rw [this, List.take_left]
  have := run_rt h hd (by rw [hs]; exact okMem_s hm)
  rwa [hs] at this
end PL
namespace K33
open PySem PySem.Spec PyProof.Rows L2 MM PL Crd
section
variable {xs : List Int} {rest : Mem} {k : Nat}
theorem lnext (hx : Ns xs) (hk : k < 2 ^ 60) (hm : okMem (sC xs k :: rest)) {m : Int} (h : 0 < m) : ∃ r : Int, F_law_next [.ref 0, .int m] (sC xs k :: rest) = .ok (.int r) (sC xs (k + 1) :: rest) ∧ 0 ≤ r ∧ r < m :=
  ⟨_, next_ok hx hk hm h, drw_rg h⟩
theorem okM_at (hm : okMem (sC xs k :: rest)) (j : Nat) : okMem (sC xs j :: rest) := okMem_s hm
/-- some draws -/
theorem draws (hx : Ns xs) (hm : okMem (sC xs k :: rest)) {c : Nat} {m : Int} (h : 0 < m) (hc : c ≤ 100) (hk : k + 1000 ≤ 2 ^ 55) {vs : List Nat} {v : Nat} {mi : Ev Itm} {mm : Ev MV} {ρ : MM.Env} (hi : mi ρ (sC xs k :: rest) = .ok ⟨intsL 0 c, []⟩ (sC xs k :: rest))
    (h0 : ∀ d, ((wipeE ρ vs).set v (some d))[0]? = some (some (.ref 0))) (hmm : ∀ d μ, mm ((wipeE ρ vs).set v (some d)) μ = .ok (.int m) μ) :
    ∃ (ns : List Int) (k' : Nat), mComp vs mi (gN v) mYes (mCall 2 F_law_next (mCons (mVar 0) (mCons mm mNil))) ρ (sC xs k :: rest) = .ok (.lst (ns.map .int)) (sC xs k' :: rest) ∧ ns.length = c ∧ (∀ z ∈ ns, 0 ≤ z ∧ z < m) ∧ k ≤ k' ∧ k' ≤ k + c := by
  obtain ⟨ns, k', a1, a2, a3, a4, a5⟩ := mcomp_draw (vs := vs) (g := gN v) (e := mCall 2 F_law_next (mCons (mVar 0) (mCons mm mNil))) (mi := mi) (ρ := ρ) MV.int (fun z => 0 ≤ z ∧ z < m) (fun k => sC xs k :: rest) 1 (2 ^ 56) (items := intsL 0 c) (n := c) (k := k) (intsL_len _ _) hi (by omega) (by omega) (by
    intro y hy i hi
    obtain ⟨z, e3, v0, v1⟩ := lnext hx (k := i) (rest := rest) (by omega) (okM_at hm i) (m := m) h
    exact ⟨_, rfl, z, i + 1, call_ok (cons_ok (var_ok (h0 y)) (one_ok (hmm y _))) rfl e3, ⟨v0, v1⟩, by omega, by omega⟩)
  exact ⟨ns, k', a1, a2, a3, a4, by omega⟩
end
end K33

set_option Elab.async false
set_option linter.all false
set_option maxRecDepth 100000
set_option maxHeartbeats 4000000
namespace K33
open PySem PySem.Spec PyProof.Rows L2 MM PL Crd
section
variable {xs : List Int} {rest : Mem} {k : Nat}
def GoodR (m : Nat) (r : List Int) : Prop := r.length = m ∧ ∀ c ∈ r, 0 ≤ c ∧ c ≤ 99
def GoodW (n : Nat) (w : List Int) : Prop := w ≠ [] ∧ (∀ x ∈ w, 0 ≤ x ∧ x < n) ∧ w.Pairwise (· < ·)
def GoodO (n : Nat) (o : List (List Int)) : Prop := (1 ≤ o.length ∧ o.length ≤ 3) ∧ ∀ w ∈ o, GoodW n w
theorem nrs_cs (cs : Cs) : nrs (cs.map rI) = true := nrs_map _ nr_I cs
theorem nrs_ws (ws : Ws) : nrs (ws.map rO) = true := nrs_map _ nr_O ws
noncomputable abbrev bCo : SM := (sSeq (sAsg (mComp (List.map (·.2) ([("k", 10)] : List (Str × Nat))) (mRng rng1 (mCons (mVar 2) mNil)) (gN 10) mYes (mCall 2 F_law_next (mCons (mVar 0) (mCons (mVar 3) mNil)))) (gN 8))
  (sSeq (sIf (mT (mOp gtM (mCall 2 F_law_next (mCons (mVar 0) (mCons (mRet (.int 3)) mNil))) (mRet (.int 0)))) (sAsg (mCB sortedM (mCons (mVar 8) mNil)) (gN 8)) sPass)
  (sDrop (mMeth appM (mVar 4) (mCons (mCB tupleM (mCons (mVar 8) mNil)) mNil)))))
noncomputable abbrev bOw : SM := (sDrop (mMeth appM (mVar 9) (mCons (mCB tupleM (mCons (mCB srtSetM (mCons (mComp (List.map (·.2) ([("j", 11)] : List (Str × Nat))) (mRng rng1 (mCons (mOp addM (mRet (.int 1)) (mCall 2 F_law_next (mCons (mVar 0) (mCons (mRet (.int 3)) mNil)))) mNil)) (gN 11) mYes (mCall 2 F_law_next (mCons (mVar 0) (mCons (mVar 1) mNil)))) mNil)) mNil)) mNil)))
theorem tup_l {μ : Mem} (ns : List Int) : tupleM μ [.lst (ns.map .int)] = some (rI ns) := rfl
/-- the costs of one thing -/
theorem cost_turn (hx : Ns xs) (hm : okMem (sC xs k :: rest)) (hk : k + 2000 ≤ 2 ^ 50) {n m : Nat} {top : Int} (m1 : 1 ≤ m ∧ m ≤ 4) (ht : 1 ≤ top ∧ top ≤ 20) {cs : Cs} (hl : cs.length ≤ 10) (hn : nrs (cs.map rI) = true) (u5 u6 u7 u8 u9 : Option MV) :
    ∃ (r : List Int) (k' : Nat), bCo [some (.ref 0), some (.int n), some (.int m), some (.int top), some (.ref (sC xs k :: rest).length), u5, u6, u7, u8, u9, none, none] (sC xs k :: rest ++ [.lst (cs.map rI)]) = .nx [some (.ref 0), some (.int n), some (.int m), some (.int top), some (.ref (sC xs k :: rest).length), u5, u6, u7, some (.lst (r.map .int)), u9, none, none] (sC xs k' :: rest ++ [.lst ((cs ++ [r]).map rI)]) ∧ GoodR m r ∧ k ≤ k' ∧ k' ≤ k + 10 := by
  have hm' : okMem (sC xs k :: (rest ++ [.lst (cs.map rI)])) := okMem_snoc (μ := sC xs k :: rest) hm hn
  obtain ⟨ns, k1, d1, l1, r1, a1, a2⟩ := draws (vs := List.map (·.2) ([("k", 10)] : List (Str × Nat))) (v := 10) (mi := mRng rng1 (mCons (mVar 2) mNil)) (mm := mVar 3) (ρ := [some (.ref 0), some (.int n), some (.int m), some (.int top), some (.ref (sC xs k :: rest).length), u5, u6, u7, u8, u9, none, none]) hx hm' (c := m) (m := top) (by omega) (by omega) (by omega) (mrng1 (n := m) (one_ok (var_ok rfl)) ⟨by omega, by omega⟩) (fun _ => rfl) (fun _ _ => var_ok rfl)
  obtain ⟨z, d2, z0, z1⟩ := lnext hx (k := k1) (by omega) (okM_at hm' k1) (m := 3) (by omega)
  have fin : ∀ r : List Int, sDrop (mMeth appM (mVar 4) (mCons (mCB tupleM (mCons (mVar 8) mNil)) mNil)) [some (.ref 0), some (.int n), some (.int m), some (.int top), some (.ref (sC xs k :: rest).length), u5, u6, u7, some (.lst (r.map .int)), u9, none, none] (sC xs (k1 + 1) :: rest ++ [.lst (cs.map rI)]) = .nx [some (.ref 0), some (.int n), some (.int m), some (.int top), some (.ref (sC xs k :: rest).length), u5, u6, u7, some (.lst (r.map .int)), u9, none, none] (sC xs (k1 + 1) :: rest ++ [.lst ((cs ++ [r]).map rI)]) := fun r => by
    rw [List.map_append]
    exact appL_s (μ := sC xs (k1 + 1) :: rest) (var_ok rfl) (cb_ok (one_ok (var_ok rfl)) rfl) (by rw [List.length_map]; omega)
  have g1 : GoodR m ns := ⟨l1, fun c hc => by have := r1 c hc; omega⟩
  have g2 : GoodR m (sortI ns) := ⟨by rw [(sortI_perm ns).length_eq]; exact l1, fun c hc => by have := r1 c ((sortI_perm ns).mem_iff.mp hc); omega⟩
  have cnd : mT (mOp gtM (mCall 2 F_law_next (mCons (mVar 0) (mCons (mRet (.int 3)) mNil))) (mRet (.int 0))) [some (.ref 0), some (.int n), some (.int m), some (.int top), some (.ref (sC xs k :: rest).length), u5, u6, u7, some (.lst (ns.map .int)), u9, none, none] (sC xs k1 :: (rest ++ [.lst (cs.map rI)])) = .ok (decide (0 < z)) (sC xs (k1 + 1) :: (rest ++ [.lst (cs.map rI)])) := t_ok (op_ok (call_ok (cons_ok (var_ok rfl) (one_ok k_ok)) rfl d2) k_ok (gtI _ _))
  by_cases c : 0 < z
  · rw [decide_eq_true c] at cnd
    exact ⟨sortI ns, k1 + 1, seq_step (asg_ok d1 rfl) (seq_step (if_t cnd (asg_ok (cb_ok (one_ok (var_ok rfl)) (sorted_ok ns)) rfl)) (fin (sortI ns))), g2, by omega, by omega⟩
  · rw [decide_eq_false c] at cnd
    exact ⟨ns, k1 + 1, seq_step (asg_ok d1 rfl) (seq_step (if_n cnd) (fin ns)), g1, by omega, by omega⟩
/-- one way of a user -/
theorem way_turn (hx : Ns xs) (hm : okMem (sC xs k :: rest)) (hk : k + 2000 ≤ 2 ^ 50) {n m : Nat} {top : Int} (n1 : 1 ≤ n ∧ n ≤ 6) {o : List (List Int)} (hl : o.length ≤ 10) (u4 u5 u6 u7 u8 u10 : Option MV) :
    ∃ (w : List Int) (k' : Nat), bOw [some (.ref 0), some (.int n), some (.int m), some (.int top), u4, u5, u6, u7, u8, some (.ref (sC xs k :: rest).length), u10, none] (sC xs k :: rest ++ [.lst (o.map rI)]) = .nx [some (.ref 0), some (.int n), some (.int m), some (.int top), u4, u5, u6, u7, u8, some (.ref (sC xs k :: rest).length), u10, none] (sC xs k' :: rest ++ [.lst ((o ++ [w]).map rI)]) ∧ GoodW n w ∧ k ≤ k' ∧ k' ≤ k + 10 := by
  have hm' : okMem (sC xs k :: (rest ++ [.lst (o.map rI)])) := okMem_snoc (μ := sC xs k :: rest) hm (nrs_cs o)
  obtain ⟨z, d2, z0, z1⟩ := lnext hx (k := k) (by omega) hm' (m := 3) (by omega)
  obtain ⟨c, rfl⟩ : ∃ c : Nat, z = c := ⟨z.toNat, by omega⟩
  have hm2 := okM_at hm' (k + 1)
  obtain ⟨ns, k1, d1, l1, r1, a1, a2⟩ := draws (vs := List.map (·.2) ([("j", 11)] : List (Str × Nat))) (v := 11) (mi := fun _ μ => .ok ⟨intsL 0 (c + 1), []⟩ μ) (mm := mVar 1) (ρ := [some (.ref 0), some (.int n), some (.int m), some (.int top), u4, u5, u6, u7, u8, some (.ref (sC xs k :: rest).length), u10, none]) hx hm2 (c := c + 1) (m := n) (by omega) (by omega) (by omega) rfl (fun _ => rfl) (fun _ _ => var_ok rfl)
  have d1' : mComp (List.map (·.2) ([("j", 11)] : List (Str × Nat))) (mRng rng1 (mCons (mOp addM (mRet (.int 1)) (mCall 2 F_law_next (mCons (mVar 0) (mCons (mRet (.int 3)) mNil)))) mNil)) (gN 11) mYes (mCall 2 F_law_next (mCons (mVar 0) (mCons (mVar 1) mNil))) [some (.ref 0), some (.int n), some (.int m), some (.int top), u4, u5, u6, u7, u8, some (.ref (sC xs k :: rest).length), u10, none] (sC xs k :: (rest ++ [.lst (o.map rI)])) = .ok (.lst (ns.map .int)) (sC xs k1 :: (rest ++ [.lst (o.map rI)])) := by
    refine Eq.trans ?_ d1
    have hr : mRng rng1 (mCons (mOp addM (mRet (.int 1)) (mCall 2 F_law_next (mCons (mVar 0) (mCons (mRet (.int 3)) mNil)))) mNil) [some (.ref 0), some (.int n), some (.int m), some (.int top), u4, u5, u6, u7, u8, some (.ref (sC xs k :: rest).length), u10, none] (sC xs k :: (rest ++ [.lst (o.map rI)])) = .ok ⟨intsL 0 (c + 1), []⟩ (sC xs (k + 1) :: (rest ++ [.lst (o.map rI)])) :=
      mrng1 (n := c + 1) ((one_ok (op_ok k_ok (call_ok (cons_ok (var_ok rfl) (one_ok k_ok)) rfl d2) (addI' _ _))).trans (by rw [show (1 : Int) + c = ((c + 1 : Nat) : Int) by omega])) ⟨by omega, by omega⟩
    unfold mComp mCompL mB
    rw [hr]
  have hne : ns ≠ [] := fun e => by rw [e] at l1; simp at l1
  refine ⟨sortI (onceI ns), k1, ?_, ⟨fun e => ?_, fun x hx => r1 x (mem_once.mp hx), once_asc ns⟩, by omega, by omega⟩
  · unfold bOw
    rw [List.map_append]
    have ap := appC (y := rI (sortI (onceI ns))) (get_last (μ := sC xs k1 :: rest) (c := .lst (o.map rI))) (by rw [List.length_map]; exact Nat.lt_of_le_of_lt (by omega : o.length ≤ 10) (by decide))
    rw [show (sC xs k1 :: rest ++ [Cell.lst (o.map rI)]).set (sC xs k1 :: rest).length (.lst (o.map rI ++ [rI (sortI (onceI ns))])) = sC xs k1 :: rest ++ [.lst (o.map rI ++ [rI (sortI (onceI ns))])] from set_last (μ := sC xs k1 :: rest)] at ap
    have e1 : mCB tupleM (mCons (mCB srtSetM (mCons (mComp (List.map (·.2) ([("j", 11)] : List (Str × Nat))) (mRng rng1 (mCons (mOp addM (mRet (.int 1)) (mCall 2 F_law_next (mCons (mVar 0) (mCons (mRet (.int 3)) mNil)))) mNil)) (gN 11) mYes (mCall 2 F_law_next (mCons (mVar 0) (mCons (mVar 1) mNil)))) mNil)) mNil) [some (.ref 0), some (.int n), some (.int m), some (.int top), u4, u5, u6, u7, u8, some (.ref (sC xs k :: rest).length), u10, none] (sC xs k :: (rest ++ [.lst (o.map rI)])) = .ok (rI (sortI (onceI ns))) (sC xs k1 :: (rest ++ [.lst (o.map rI)])) := cb_ok (one_ok (cb_ok (one_ok d1') (srtSet_ok (by omega)))) (tup_l _)
    have e2 := one_ok e1
    have h0 : mVar 9 [some (.ref 0), some (.int n), some (.int m), some (.int top), u4, u5, u6, u7, u8, some (.ref (sC xs k :: rest).length), u10, none] (sC xs k :: (rest ++ [.lst (o.map rI)])) = .ok (.ref (sC xs k :: rest).length) (sC xs k :: (rest ++ [.lst (o.map rI)])) := var_ok rfl
    have h1 : lstOf (sC xs k :: (rest ++ [.lst (o.map rI)])) (.ref (sC xs k :: rest).length) = some (o.map rI) := lstC_of (get_last (μ := sC xs k :: rest))
    exact drop_s (meth_ok h0 h1 e2 ap)
  · obtain ⟨x, hx⟩ := List.exists_mem_of_ne_nil ns hne
    have := mem_once.mpr hx
    rw [e] at this
    cases this
end
end K33

set_option Elab.async false
set_option linter.all false
set_option maxRecDepth 100000
set_option maxHeartbeats 4000000
namespace K33
open PySem PySem.Spec PyProof.Rows L2 MM PL Crd
section
variable {xs : List Int} {rest : Mem} {k : Nat}
noncomputable abbrev bUs : SM := (sSeq (sAsg (mLstC mNil) (gN 9))
  (sSeq (sFor (mRng rng1 (mCons (mOp addM (mRet (.int 1)) (mCall 2 F_law_next (mCons (mVar 0) (mCons (mRet (.int 3)) mNil)))) mNil)) (gN 10) bOw)
  (sDrop (mMeth appM (mVar 6) (mCons (mCB tupleM (mCons (mVar 9) mNil)) mNil)))))
theorem nrs_o (o : List (List Int)) : nrs (o.map rI) = true := nrs_map _ nr_I o
/-- the ways of one user: A the costs' cell, the ways' own cell behind it -/
theorem user_turn (hx : Ns xs) (hm : okMem (sC xs k :: rest)) (hk : k + 4000 ≤ 2 ^ 50) {n m : Nat} {top : Int} (n1 : 1 ≤ n ∧ n ≤ 6) {A : List MV} (hA : nrs A = true) {ws : Ws} (hl : ws.length ≤ 10) {ν : Mem} (hν : Pl ν) (u5 u7 u8 u9 u10 : Option MV) :
    ∃ (o : List (List Int)) (k' : Nat) (v9 v10 : Option MV) (ν' : Mem), bUs [some (.ref 0), some (.int n), some (.int m), some (.int top), some (.ref (sC xs k :: rest).length), u5, some (.ref ((sC xs k :: rest).length + 1)), u7, u8, u9, u10, none] (sC xs k :: rest ++ (.lst A :: .lst (ws.map rO) :: ν)) = .nx [some (.ref 0), some (.int n), some (.int m), some (.int top), some (.ref (sC xs k :: rest).length), u5, some (.ref ((sC xs k :: rest).length + 1)), u7, u8, v9, v10, none] (sC xs k' :: rest ++ (.lst A :: .lst ((ws ++ [o]).map rO) :: ν')) ∧ GoodO n o ∧ Pl ν' ∧ k ≤ k' ∧ k' ≤ k + 40 := by
  obtain ⟨rs, ers⟩ : ∃ rs : Mem, rs = rest ++ (.lst A :: .lst (ws.map rO) :: ν) := ⟨_, rfl⟩
  have hm1 : okMem (sC xs k :: rs) := by rw [ers]; exact okMem_pl (μ := sC xs k :: rest) hm (Pl.cons (Pl.cons hν (nrs_ws ws)) hA)
  have hm2 : ∀ o : List (List Int), okMem (sC xs k :: (rs ++ [.lst (o.map rI)])) := fun o => okMem_snoc (μ := sC xs k :: rs) hm1 (nrs_o o)
  obtain ⟨z, d2, z0, z1⟩ := lnext hx (k := k) (by omega) (hm2 []) (m := 3) (by omega)
  obtain ⟨c, rfl⟩ : ∃ c : Nat, z = c := ⟨z.toNat, by omega⟩
  let L : Nat := (sC xs k :: rs).length
  let I : Nat → MM.Env → Mem → Prop := fun j ρ μ' => ∃ (q : Nat) (o : List (List Int)) (v10 : Option MV), ρ = [some (.ref 0), some (.int n), some (.int m), some (.int top), some (.ref (sC xs k :: rest).length), u5, some (.ref ((sC xs k :: rest).length + 1)), u7, u8, some (.ref L), v10, none] ∧ μ' = sC xs q :: rs ++ [.lst (o.map rI)] ∧ o.length = j ∧ (∀ w ∈ o, GoodW n w) ∧ k + 1 ≤ q ∧ q ≤ k + 1 + 10 * j
  obtain ⟨ρ', μ', e1, q, o, v10, e2, e3, e4, e5, e6, e7⟩ := for_idx (xs0 := intsL 0 (c + 1)) (g := gN 10) (b := bOw) I (I (c + 1)) (intsL 0 (c + 1)) 0 [some (.ref 0), some (.int n), some (.int m), some (.int top), some (.ref (sC xs k :: rest).length), u5, some (.ref ((sC xs k :: rest).length + 1)), u7, u8, some (.ref L), u10, none] (sC xs (k + 1) :: rs ++ [.lst []]) ⟨k + 1, [], u10, rfl, rfl, rfl, (fun w hw => by cases hw), Nat.le_refl _, Nat.le_refl _⟩ (fun ρ μ q => by rw [intsL_len, Nat.zero_add] at q; exact q) (by
    intro j x hxx ρ μ' ⟨q, o, v10, s1, s2, s3, s4, s5, s6⟩
    obtain ⟨hj, rfl⟩ := intsL_get hxx
    subst s1 s2
    rw [Nat.zero_add] at *
    obtain ⟨w, k', t1, t2, t3, t4⟩ := way_turn (m := m) (top := top) hx (okM_at hm1 q) (by omega) n1 (o := o) (by omega) (some (.ref (sC xs k :: rest).length)) u5 (some (.ref ((sC xs k :: rest).length + 1))) u7 u8 (some (.int (0 + (j : Int))))
    refine ⟨_, _, rfl, .inl ⟨_, _, .inl t1, k', o ++ [w], _, rfl, rfl, by rw [List.length_append, s3]; rfl, fun v hv => ?_, by omega, by omega⟩⟩
    rcases List.mem_append.mp hv with hv | hv
    · exact s4 v hv
    · rw [List.mem_singleton.mp hv]; exact t2)
  subst e2 e3
  refine ⟨o, q, some (.ref L), v10, ν ++ [.lst (o.map rI)], ?_, ⟨⟨by omega, by omega⟩, e5⟩, Pl.snoc hν (nrs_o o), by omega, by omega⟩
  have e0 : sC xs k :: rest ++ (Cell.lst A :: .lst (ws.map rO) :: ν) = sC xs k :: rs := by rw [ers]; rfl
  rw [e0]
  unfold bUs
  have s1 : sAsg (mLstC mNil) (gN 9) [some (.ref 0), some (.int n), some (.int m), some (.int top), some (.ref (sC xs k :: rest).length), u5, some (.ref ((sC xs k :: rest).length + 1)), u7, u8, u9, u10, none] (sC xs k :: rs) = .nx [some (.ref 0), some (.int n), some (.int m), some (.int top), some (.ref (sC xs k :: rest).length), u5, some (.ref ((sC xs k :: rest).length + 1)), u7, u8, some (.ref L), u10, none] (sC xs k :: rs ++ [.lst []]) := asg_ok (lstC_ok nil_ok) rfl
  have hr : mRng rng1 (mCons (mOp addM (mRet (.int 1)) (mCall 2 F_law_next (mCons (mVar 0) (mCons (mRet (.int 3)) mNil)))) mNil) [some (.ref 0), some (.int n), some (.int m), some (.int top), some (.ref (sC xs k :: rest).length), u5, some (.ref ((sC xs k :: rest).length + 1)), u7, u8, some (.ref L), u10, none] (sC xs k :: rs ++ [.lst []]) = .ok ⟨intsL 0 (c + 1), []⟩ (sC xs (k + 1) :: rs ++ [.lst []]) :=
    mrng1 (n := c + 1) ((one_ok (op_ok k_ok (call_ok (cons_ok (var_ok rfl) (one_ok k_ok)) rfl d2) (addI' _ _))).trans (by rw [show (1 : Int) + c = ((c + 1 : Nat) : Int) by omega]; rfl)) ⟨by omega, by omega⟩
  have eX : sC xs q :: rs ++ [.lst (o.map rI)] = sC xs q :: rest ++ (.lst A :: .lst (ws.map rO) :: (ν ++ [.lst (o.map rI)])) := by rw [ers]; simp
  have gL : (sC xs q :: rs ++ [Cell.lst (o.map rI)])[L]? = some (.lst (o.map rI)) := get_last (μ := sC xs q :: rs)
  have gW : (sC xs q :: rest ++ (Cell.lst A :: .lst (ws.map rO) :: (ν ++ [.lst (o.map rI)])))[(sC xs k :: rest).length + 1]? = some (.lst (ws.map rO)) := get_app (μ := sC xs q :: rest) (ν := .lst A :: .lst (ws.map rO) :: (ν ++ [.lst (o.map rI)])) (i := 1)
  have ht : mCB tupleM (mCons (mVar 9) mNil) [some (.ref 0), some (.int n), some (.int m), some (.int top), some (.ref (sC xs k :: rest).length), u5, some (.ref ((sC xs k :: rest).length + 1)), u7, u8, some (.ref L), v10, none] (sC xs q :: rest ++ (.lst A :: .lst (ws.map rO) :: (ν ++ [.lst (o.map rI)]))) = .ok (rO o) (sC xs q :: rest ++ (.lst A :: .lst (ws.map rO) :: (ν ++ [.lst (o.map rI)]))) := by
    rw [← eX]
    refine cb_ok (one_ok (var_ok rfl)) ?_
    show (lstOf _ (.ref L)).map MV.tup = _
    rw [lstC_of gL]; rfl
  have s3 := app_s (mo := mVar 6) (ρ := [some (.ref 0), some (.int n), some (.int m), some (.int top), some (.ref (sC xs k :: rest).length), u5, some (.ref ((sC xs k :: rest).length + 1)), u7, u8, some (.ref L), v10, none]) (var_ok rfl) gW ht (by rw [List.length_map]; omega)
  have e8 : (sC xs q :: rest ++ (Cell.lst A :: .lst (ws.map rO) :: (ν ++ [.lst (o.map rI)]))).set ((sC xs k :: rest).length + 1) (.lst (ws.map rO ++ [rO o])) = sC xs q :: rest ++ (.lst A :: .lst (ws.map rO ++ [rO o]) :: (ν ++ [.lst (o.map rI)])) := set_app (μ := sC xs q :: rest) (ν := .lst A :: .lst (ws.map rO) :: (ν ++ [.lst (o.map rI)])) (i := 1)
  rw [e8] at s3
  refine seq_step s1 (seq_step (sfor_of hr e1) ?_)
  rw [eX, List.map_append]
  exact s3
theorem crowd_draw (hx : Ns xs) (hm : okMem (sC xs k :: rest)) (hk : k + 8000 ≤ 2 ^ 50) : ∃ (cs : Cs) (ws : Ws) (n m k' : Nat), F_law_crowd [.ref 0] (sC xs k :: rest) = .ok (.tup [rCo cs, rWs ws]) (sC xs k' :: rest) ∧ OkC cs ws n m ∧ n ≤ 5 ∧ k ≤ k' ∧ k' ≤ k + 400 := by
  obtain ⟨r1, d1, a1, b1⟩ := lnext hx (k := k) (by omega) hm (m := 5) (by omega)
  obtain ⟨r2, d2, a2, b2⟩ := lnext hx (k := k + 1) (by omega) (okM_at hm (k + 1)) (m := 4) (by omega)
  obtain ⟨r3, d3, a3, b3⟩ := lnext hx (k := k + 1 + 1) (by omega) (okM_at hm (k + 1 + 1)) (m := 2) (by omega)
  obtain ⟨n, en⟩ : ∃ n : Nat, (n : Int) = 1 + r1 := ⟨(1 + r1).toNat, by omega⟩
  obtain ⟨m, em⟩ : ∃ m : Nat, (m : Int) = 1 + r2 := ⟨(1 + r2).toNat, by omega⟩
  obtain ⟨top, et, t1⟩ : ∃ top : Int, ixM (sC xs (k + 1 + 1 + 1) :: rest) (.lst [.int 3, .int 20]) (.int r3) = some (.int top) ∧ (1 ≤ top ∧ top ≤ 20) := by
    rcases (by omega : r3 = 0 ∨ r3 = 1) with rfl | rfl
    · exact ⟨3, rfl, by omega, by omega⟩
    · exact ⟨20, rfl, by omega, by omega⟩
  obtain ⟨k3, ek3⟩ : ∃ k3, k3 = k + 1 + 1 + 1 := ⟨_, rfl⟩
  rw [← ek3] at d3 et
  have n1 : 1 ≤ n ∧ n ≤ 5 := by omega
  have m1 : 1 ≤ m ∧ m ≤ 4 := by omega
  let Lc : Nat := (sC xs k :: rest).length
  -- the costs
  let I : Nat → MM.Env → Mem → Prop := fun j ρ μ' => ∃ (q : Nat) (cs : Cs) (u5 u8 : Option MV), ρ = [some (.ref 0), some (.int n), some (.int m), some (.int top), some (.ref Lc), u5, none, none, u8, none, none, none] ∧ μ' = sC xs q :: rest ++ [.lst (cs.map rI)] ∧ cs.length = j ∧ (∀ r ∈ cs, GoodR m r) ∧ k3 ≤ q ∧ q ≤ k3 + 10 * j
  obtain ⟨ρ', μ', e1, q, cs, u5, u8, e2, e3, e4, e5, e6, e7⟩ := for_idx (xs0 := intsL 0 n) (g := gN 5) (b := bCo) I (I n) (intsL 0 n) 0 [some (.ref 0), some (.int n), some (.int m), some (.int top), some (.ref Lc), none, none, none, none, none, none, none] (sC xs k3 :: rest ++ [.lst []]) ⟨k3, [], none, none, rfl, rfl, rfl, (fun r hr => by cases hr), Nat.le_refl _, Nat.le_refl _⟩ (fun ρ μ q => by rw [intsL_len, Nat.zero_add] at q; exact q) (by
    intro j x hxx ρ μ' ⟨q, cs, u5, u8, s1, s2, s3, s4, s5, s6⟩
    obtain ⟨hj, rfl⟩ := intsL_get hxx
    subst s1 s2
    rw [Nat.zero_add] at *
    obtain ⟨r, k', t1, t2, t3, t4⟩ := cost_turn (n := n) hx (okM_at hm q) (by omega) m1 t1 (cs := cs) (by omega) (nrs_cs cs) (some (.int (0 + (j : Int)))) none none u8 none
    refine ⟨_, _, rfl, .inl ⟨_, _, .inl t1, k', cs ++ [r], _, _, rfl, rfl, by rw [List.length_append, s3]; rfl, fun v hv => ?_, by omega, by omega⟩⟩
    rcases List.mem_append.mp hv with hv | hv
    · exact s4 v hv
    · rw [List.mem_singleton.mp hv]; exact t2)
  subst e2 e3
  -- the ways
  let J : Nat → MM.Env → Mem → Prop := fun j ρ μ' => ∃ (p : Nat) (ws : Ws) (ν : Mem) (u7 u9 u10 : Option MV), ρ = [some (.ref 0), some (.int n), some (.int m), some (.int top), some (.ref Lc), u5, some (.ref (Lc + 1)), u7, u8, u9, u10, none] ∧ μ' = sC xs p :: rest ++ (.lst (cs.map rI) :: .lst (ws.map rO) :: ν) ∧ Pl ν ∧ ws.length = j ∧ (∀ o ∈ ws, GoodO n o) ∧ q ≤ p ∧ p ≤ q + 40 * j
  obtain ⟨ρ', μ', f1, p, ws, ν, u7, u9, u10, f2, f3, f4, f5, f6, f7, f8⟩ := for_idx (xs0 := intsL 0 m) (g := gN 7) (b := bUs) J (J m) (intsL 0 m) 0 [some (.ref 0), some (.int n), some (.int m), some (.int top), some (.ref Lc), u5, some (.ref (Lc + 1)), none, u8, none, none, none] (sC xs q :: rest ++ (.lst (cs.map rI) :: .lst [] :: [])) ⟨q, [], [], none, none, none, rfl, rfl, Pl.nil, rfl, (fun r hr => by cases hr), Nat.le_refl _, Nat.le_refl _⟩ (fun ρ μ q => by rw [intsL_len, Nat.zero_add] at q; exact q) (by
    intro j x hxx ρ μ' ⟨p, ws, ν, u7, u9, u10, s1, s2, s3, s4, s5, s6, s7⟩
    obtain ⟨hj, rfl⟩ := intsL_get hxx
    subst s1 s2
    rw [Nat.zero_add] at *
    obtain ⟨o, k', v9, v10, ν', t1, t2, t3, t4, t5⟩ := user_turn (m := m) (top := top) (n := n) hx (okM_at hm p) (by omega) ⟨n1.1, by omega⟩ (nrs_cs cs) (ws := ws) (by omega) s3 u5 (some (.int (0 + (j : Int)))) u8 u9 u10
    refine ⟨_, _, rfl, .inl ⟨_, _, .inl t1, k', ws ++ [o], ν', _, _, _, rfl, rfl, t3, by rw [List.length_append, s4]; rfl, fun v hv => ?_, by omega, by omega⟩⟩
    rcases List.mem_append.mp hv with hv | hv
    · exact s5 v hv
    · rw [List.mem_singleton.mp hv]; exact t2)
  subst f2 f3
  refine ⟨cs, ws, n, m, p, run_S2 (ν := .lst (cs.map rI) :: .lst (ws.map rO) :: ν) (show M_law_crowd [some (.ref 0), none, none, none, none, none, none, none, none, none, none, none] (sC xs k :: rest) = _ from ?_) (by
    have h1 := nr_Co cs
    have h2 := nr_Ws ws
    unfold nr
    rw [nrs_all]
    simp only [List.all_cons, List.all_nil, Bool.and_true, h1, h2]) hm, ⟨e4, f5, ⟨n1.1, by omega⟩, m1, fun r hr => (e5 r hr).1, fun r hr => (e5 r hr).2, fun o ho => (f6 o ho).1, fun o ho => (f6 o ho).2⟩, n1.2, by omega, by omega⟩
  unfold M_law_crowd
  refine seq_step (ρ1 := [some (.ref 0), some (.int n), none, none, none, none, none, none, none, none, none, none]) (μ1 := sC xs (k + 1) :: rest) (asg_ok (op_ok k_ok (call_ok (cons_ok (var_ok rfl) (one_ok k_ok)) rfl d1) ((addI' _ _).trans (by rw [← en]))) rfl) ?_
  refine seq_step (ρ1 := [some (.ref 0), some (.int n), some (.int m), none, none, none, none, none, none, none, none, none]) (μ1 := sC xs (k + 1 + 1) :: rest) (asg_ok (op_ok k_ok (call_ok (cons_ok (var_ok rfl) (one_ok k_ok)) rfl d2) ((addI' _ _).trans (by rw [← em]))) rfl) ?_
  refine seq_step (ρ1 := [some (.ref 0), some (.int n), some (.int m), some (.int top), none, none, none, none, none, none, none, none]) (μ1 := sC xs k3 :: rest) (asg_ok (op_ok (lst_ok (cons_ok k_ok (one_ok k_ok))) (call_ok (cons_ok (var_ok rfl) (one_ok k_ok)) rfl d3) et) rfl) ?_
  refine seq_step (ρ1 := [some (.ref 0), some (.int n), some (.int m), some (.int top), some (.ref Lc), none, none, none, none, none, none, none]) (μ1 := sC xs k3 :: rest ++ [.lst []]) (asg_ok (lstC_ok nil_ok) rfl) ?_
  refine seq_step (sfor_of (mrng1 (n := n) (one_ok (var_ok rfl)) ⟨by omega, by omega⟩) e1) ?_
  refine seq_step (ρ1 := [some (.ref 0), some (.int n), some (.int m), some (.int top), some (.ref Lc), u5, some (.ref (Lc + 1)), none, u8, none, none, none]) (μ1 := sC xs q :: rest ++ (.lst (cs.map rI) :: .lst [] :: [])) ((asg_ok (lstC_ok nil_ok) rfl).trans ?_) ?_
  · rw [List.length_append, List.append_assoc]; rfl
  refine seq_step (sfor_of (mrng1 (n := m) (one_ok (var_ok rfl)) ⟨by omega, by omega⟩) f1) ?_
  have g0 : (sC xs p :: rest ++ (Cell.lst (cs.map rI) :: .lst (ws.map rO) :: ν))[Lc]? = some (.lst (cs.map rI)) := get_app (μ := sC xs p :: rest) (ν := .lst (cs.map rI) :: .lst (ws.map rO) :: ν) (i := 0)
  have g1 : (sC xs p :: rest ++ (Cell.lst (cs.map rI) :: .lst (ws.map rO) :: ν))[Lc + 1]? = some (.lst (ws.map rO)) := get_app (μ := sC xs p :: rest) (ν := .lst (cs.map rI) :: .lst (ws.map rO) :: ν) (i := 1)
  refine ret_s (tup_ok (cons_ok (cb_ok (one_ok (var_ok rfl)) ?_) (one_ok (cb_ok (one_ok (var_ok rfl)) ?_))))
  · show (lstOf _ (.ref Lc)).map MV.tup = _
    rw [lstC_of g0]; rfl
  · show (lstOf _ (.ref (Lc + 1))).map MV.tup = _
    rw [lstC_of g1]; rfl
end
end K33

set_option Elab.async false
set_option linter.all false
set_option maxRecDepth 100000
set_option maxHeartbeats 4000000
namespace K33
open PySem PySem.Spec PyProof.Rows L2 MM PL Crd
section
variable {cs : Cs} {ws : Ws} {n m : Nat} {μ : Mem} {row : Rw}
theorem check_row_ok (hm : okMem μ) (ok : OkC cs ws n m) (hr : OkR ws row) : F_p_check_row [rCo cs, rWs ws, rRow row] μ = .ok .non μ := by
  have cc := check_crowd_ok hm ok
  have wl := ok.wl
  have m1 := ok.m1
  refine run_nx0 (ρ := [some (rCo cs), some (rWs ws), some (rRow row), none, none]) (show M_p_check_row [some (rCo cs), some (rWs ws), some (rRow row), none, none] μ = _ from ?_) hm
  unfold M_p_check_row
  refine seq_step (drop_s (call_ok (cons_ok (var_ok rfl) (one_ok (var_ok rfl))) rfl cc)) ?_
  have zi : mZip (mCons (mVar 2) (mCons (mVar 1) mNil)) [some (rCo cs), some (rWs ws), some (rRow row), none, none] μ = .ok ⟨(List.range ws.length).map fun k => .tup [rNt (row.getD k 0), rO (own ws k)], []⟩ μ := by
    rw [← zip_own hr]
    exact zip_ok (cons_ok (var_ok rfl) (one_ok (var_ok rfl))) (show itmOf _ (rRow row) = some ⟨row.map rNt, []⟩ from rfl) (show itmOf _ (rWs ws) = some ⟨ws.map rO, []⟩ from rfl)
  refine if_n (t_ok (or_f (op_ok (cb_ok (one_ok (var_ok rfl)) (lenRow _ row)) (cb_ok (one_ok (var_ok rfl)) (lenWs _ ws)) ((neI' _ _).trans (by rw [hr.l, decide_eq_true rfl]; rfl))) (not_ok (k := true) (cb_ok (one_ok (mcomp_mapR (α := Nat) (r := .lst ((List.range ws.length).map fun _ => .bl true)) (fun k => .tup [rNt (row.getD k 0), rO (own ws k)]) (fun _ => .bl true) (List.range ws.length) zi (le_size (by rw [List.length_range]; omega)) (fun k hk => ⟨_, rfl, ?_⟩) rfl)) ((all_map μ (fun _ : Nat => true) _).trans (by simp))))))
  have hc := hr.c k (List.mem_range.mp hk)
  exact chain_t k_ok (var_ok rfl) ((leI _ _).trans (by rw [decide_eq_true (by omega)])) (cb_ok (one_ok (var_ok rfl)) (lenO _ _)) ((ltI _ _).trans (by rw [decide_eq_true (by omega)]))
theorem loads_ok (hm : okMem μ) (ok : OkC cs ws n m) (hr : OkR ws row) : F_p_loads [rCo cs, rWs ws, rRow row] μ = .ok (rI (loads n ws row)) μ := by
  refine run_rt0 (show M_p_loads [some (rCo cs), some (rWs ws), some (rRow row)] μ = _ from ?_) (nr_I _) hm
  unfold M_p_loads
  refine seq_step (drop_s (call_ok (cons_ok (var_ok rfl) (cons_ok (var_ok rfl) (one_ok (var_ok rfl)))) rfl (check_row_ok hm ok hr))) ?_
  exact ret_s (cb_ok (one_ok (call_ok (cons_ok (var_ok rfl) (cons_ok (var_ok rfl) (one_ok (var_ok rfl)))) rfl (known_loads_ok hm ok hr))) rfl)
theorem pays_ok (hm : okMem μ) (ok : OkC cs ws n m) (hr : OkR ws row) : F_p_pays [rCo cs, rWs ws, rRow row] μ = .ok (rI (pays cs ws row)) μ := by
  refine run_rt0 (show M_p_pays [some (rCo cs), some (rWs ws), some (rRow row)] μ = _ from ?_) (nr_I _) hm
  unfold M_p_pays
  refine seq_step (drop_s (call_ok (cons_ok (var_ok rfl) (cons_ok (var_ok rfl) (one_ok (var_ok rfl)))) rfl (check_row_ok hm ok hr))) ?_
  exact ret_s (cb_ok (one_ok (call_ok (cons_ok (var_ok rfl) (cons_ok (var_ok rfl) (one_ok (var_ok rfl)))) rfl (known_pays_ok hm ok hr))) rfl)
theorem enum_loads (ok : OkC cs ws n m) (hr : OkR ws row) : enumL 0 ((loads n ws row).map MV.int) = (List.range n).map fun i => .tup [.int (i : Nat), .int (ld ws row i)] := by
  rw [enumL_map]
  refine List.ext_getElem? fun i => ?_
  rw [List.getElem?_map, List.getElem?_map]
  rcases Nat.lt_or_ge i n with h | h
  · rw [List.getElem?_range h, List.getElem?_zipIdx, List.getElem?_eq_getElem (by rw [loads_len]; exact h)]
    have e := loads_at ok hr i
    rw [List.getD_eq_getElem?_getD, List.getElem?_eq_getElem (by rw [loads_len]; exact h)] at e
    have e : (loads n ws row)[i]'(by rw [loads_len]; exact h) = (ld ws row i : Int) := e
    show some (MV.tup [.int ((0 + i : Nat) : Int), .int ((loads n ws row)[i]'_)]) = some (MV.tup [.int (i : Nat), .int (ld ws row i)])
    rw [e, Nat.zero_add]
  · rw [List.getElem?_eq_none (l := List.range n) (by rw [List.length_range]; exact h), List.getElem?_zipIdx, List.getElem?_eq_none (by rw [loads_len]; exact h)]
    rfl
/-- the first costs of a thing, together -/
theorem pre_ok {ρ : MM.Env} {a b : Ev MV} {i : Nat} (ok : OkC cs ws n m) (hi : i < n) (ha : a ρ μ = .ok (rI (cs.getD i [])) μ) (hb : b ρ μ = .ok (.int (ld ws row i)) μ) : mCB sumSM (mCons (mSlice a mNoPart (mPart b)) mNil) ρ μ = .ok (.int (pre cs i (ld ws row i))) μ := by
  refine cb_ok (one_ok (slice_ok (r := .tup (((cs.getD i []).take (ld ws row i)).map .int)) ha nopart_ok (part_ok hb) ?_)) (sumS_seq rfl)
  show some (MV.tup (cutM ((cs.getD i []).map MV.int) none (some ((ld ws row i : Nat) : Int)))) = _
  rw [cut_to, List.map_take]
theorem known_height_ok (hm : okMem μ) (ok : OkC cs ws n m) (hr : OkR ws row) : F_p_known_height [rCo cs, rWs ws, rRow row] μ = .ok (.int (height cs ws row)) μ := by
  have n1 := ok.n1
  have L := known_loads_ok hm ok hr
  refine run_rt0 (show M_p_known_height [some (rCo cs), some (rWs ws), some (rRow row), none, none, none] μ = _ from ?_) rfl hm
  unfold M_p_known_height
  refine seq_step (ρ1 := [some (rCo cs), some (rWs ws), some (rRow row), some (.lst ((loads n ws row).map .int)), none, none]) (asg_ok (call_ok (cons_ok (var_ok rfl) (cons_ok (var_ok rfl) (one_ok (var_ok rfl)))) rfl L) rfl) ?_
  have ei : mEnum (mCons (mVar 3) mNil) [some (rCo cs), some (rWs ws), some (rRow row), some (.lst ((loads n ws row).map .int)), none, none] μ = .ok ⟨(List.range n).map fun i => .tup [.int (i : Nat), .int (ld ws row i)], []⟩ μ := by
    rw [← enum_loads ok hr]
    exact enum_ok (one_ok (var_ok rfl)) (show itmOf μ (.lst ((loads n ws row).map .int)) = some ⟨(loads n ws row).map .int, []⟩ from rfl)
  refine ret_s (cb_ok (one_ok (mcomp_mapR (α := Nat) (r := .lst (((List.range n).map fun i => pre cs i (ld ws row i)).map .int)) (fun i => .tup [.int (i : Nat), .int (ld ws row i)]) (fun i => .int (pre cs i (ld ws row i))) (List.range n) ei (le_size (by rw [List.length_range]; omega)) (fun i hi => ⟨_, rfl, pre_ok ok (List.mem_range.mp hi) (op_ok (var_ok rfl) (var_ok rfl) (cost_ix ok (List.mem_range.mp hi) μ)) (var_ok rfl)⟩) (by rw [List.map_map]; rfl))) ((sumS_seq rfl).trans ?_))
  unfold height
  rw [ok.cl]
theorem height_ok (hm : okMem μ) (ok : OkC cs ws n m) (hr : OkR ws row) : F_p_height [rCo cs, rWs ws, rRow row] μ = .ok (.int (height cs ws row)) μ := by
  refine run_rt0 (show M_p_height [some (rCo cs), some (rWs ws), some (rRow row)] μ = _ from ?_) rfl hm
  unfold M_p_height
  refine seq_step (drop_s (call_ok (cons_ok (var_ok rfl) (cons_ok (var_ok rfl) (one_ok (var_ok rfl)))) rfl (check_row_ok hm ok hr))) ?_
  exact ret_s (call_ok (cons_ok (var_ok rfl) (cons_ok (var_ok rfl) (one_ok (var_ok rfl)))) rfl (known_height_ok hm ok hr))
theorem law_height_ok (hm : okMem μ) (ok : OkC cs ws n m) (hr : OkR ws row) : F_law_height [rCo cs, rWs ws, rRow row] μ = .ok (.int (height cs ws row)) μ := by
  have n1 := ok.n1
  have L := law_loads_ok hm ok hr
  refine run_rt0 (show M_law_height [some (rCo cs), some (rWs ws), some (rRow row), none, none] μ = _ from ?_) rfl hm
  unfold M_law_height
  refine seq_step (ρ1 := [some (rCo cs), some (rWs ws), some (rRow row), some (rI (loads n ws row)), none]) (asg_ok (call_ok (cons_ok (var_ok rfl) (cons_ok (var_ok rfl) (one_ok (var_ok rfl)))) rfl L) rfl) ?_
  refine ret_s (cb_ok (one_ok (mcomp_mapR (α := Nat) (r := .lst (((List.range n).map fun i => pre cs i (ld ws row i)).map .int)) (fun i => .int ((0 : Int) + (i : Nat))) (fun i => .int (pre cs i (ld ws row i))) (List.range n) (mrng1 (n := n) (one_ok (cb_ok (one_ok (var_ok rfl)) ((lenCo _ cs).trans (by rw [ok.cl])))) ⟨by omega, by omega⟩) (le_size (by rw [List.length_range]; omega)) (fun i hi => ⟨_, rfl, pre_ok ok (List.mem_range.mp hi) (op_ok (var_ok rfl) (var_ok rfl) ?_) (op_ok (var_ok rfl) (var_ok rfl) ?_)⟩) (by rw [List.map_map]; rfl))) ((sumS_seq rfl).trans ?_))
  · rw [Int.zero_add]; exact cost_ix ok (List.mem_range.mp hi) μ
  · rw [Int.zero_add]; exact (ixT' _ _).trans (told_ix ok hr (List.mem_range.mp hi))
  · unfold height
    rw [ok.cl]
end
end K33

set_option linter.all false
/-! ## crowds: what rests, and what it costs (plain) -/
namespace Crd
section
variable {cs : Cs} {ws : Ws} {n m : Nat} {row : Rw}
theorem sum_swap (f : Nat → Nat → Int) (n : Nat) : ∀ m, ((List.range m).map fun u => ((List.range n).map fun i => f u i).sum).sum = ((List.range n).map fun i => ((List.range m).map fun u => f u i).sum).sum
  | 0 => by
    have z : ∀ k, ((List.range k).map fun _ : Nat => (0 : Int)).sum = 0 := by
      intro k
      induction k with
      | zero => rfl
      | succ k ih => rw [List.range_succ, List.map_append, List.sum_append, ih]; rfl
    simpa using (z n).symm
  | m + 1 => by
    rw [List.range_succ, List.map_append, List.sum_append, sum_swap f n m]
    have add : ∀ k, ((List.range k).map fun i => ((List.range m ++ [m]).map fun u => f u i).sum).sum = ((List.range k).map fun i => ((List.range m).map fun u => f u i).sum).sum + ((List.range k).map fun i => f m i).sum := by
      intro k
      induction k with
      | zero => rfl
      | succ k ih =>
        rw [List.range_succ (n := k), List.map_append, List.map_append, List.map_append, List.sum_append, List.sum_append, List.sum_append, ih]
        simp only [List.map_cons, List.map_nil, List.sum_cons, List.sum_nil, List.map_append, List.sum_append]
        omega
    rw [add n]
    simp
theorem sum_le {f g : Nat → Int} : ∀ {n : Nat}, (∀ i, i < n → f i ≤ g i) → ((List.range n).map f).sum ≤ ((List.range n).map g).sum
  | 0, _ => Int.le_refl _
  | n + 1, h => by
    rw [List.range_succ, List.map_append, List.map_append, List.sum_append, List.sum_append]
    have := sum_le (f := f) (g := g) (n := n) fun i hi => h i (by omega)
    have := h n (by omega)
    simp
    omega
theorem sum_nat (f : Nat → Nat) (c : Int) : ∀ m, ((List.range m).map fun u => (f u : Int) * c).sum = (((List.range m).map f).sum : Int) * c
  | 0 => by simp
  | m + 1 => by
    rw [List.range_succ, List.map_append, List.map_append, List.sum_append, List.sum_append, sum_nat f c m]
    simp
    rw [Int.add_mul]
/-- over all users' things: by loads -/
theorem by_loads (ok : OkC cs ws n m) {o : Rw} (ho : OkR ws o) (f : Nat → Int) : ((List.range m).map fun u => ((way ws o u).map fun x => f x.toNat).sum).sum = ((List.range n).map fun i => (ld ws o i : Int) * f i).sum := by
  have e1 : ((List.range m).map fun u => ((way ws o u).map fun x => f x.toNat).sum) = (List.range m).map fun u => ((List.range n).map fun i : Nat => ((way ws o u).count (i : Int) : Int) * f i).sum := List.map_congr_left fun u hu => by
    have hu := List.mem_range.mp hu
    rw [← sum_way (f := f) (n := n) (way_nd ok ho hu) (way_ok ok ho hu).2.1]
    refine congrArg List.sum (List.map_congr_left fun i _ => ?_)
    rw [count_mem ok ho hu]
    split <;> simp
  rw [e1, sum_swap]
  refine congrArg List.sum (List.map_congr_left fun i _ => ?_)
  rw [sum_nat (fun u => (way ws o u).count (i : Int)) (f i) m]
  unfold ld ldK
  rw [ok.wl]
def tot (cs : Cs) (ws : Ws) (row : Rw) : Int := (pays cs ws row).sum
theorem tot_eq (ok : OkC cs ws n m) (hr : OkR ws row) : tot cs ws row = ((List.range n).map fun i => (ld ws row i : Int) * co cs i (ld ws row i - 1)).sum := by
  unfold tot pays
  rw [ok.wl]
  exact by_loads ok hr (fun i => co cs i (ld ws row i - 1))
/-- a row that rests -/
def Rest (cs : Cs) (ws : Ws) (row : Rw) : Prop := ∀ u, u < ws.length → ∀ c, c < (own ws u).length → pay cs ws row u ≤ pay cs ws (chg row u c) u
/-- the row of least height -/
theorem least_height (ok : OkC cs ws n m) : ∀ rs : List Rw, rs ≠ [] → (∀ r ∈ rs, OkR ws r) → ∃ r ∈ rs, ∀ q ∈ rs, height cs ws r ≤ height cs ws q
  | [], h, _ => absurd rfl h
  | [r], _, _ => ⟨r, List.mem_cons_self, fun q hq => by rw [List.mem_singleton.mp hq]; exact Int.le_refl _⟩
  | r :: s :: rs, _, h => by
    obtain ⟨q, hq, hl⟩ := least_height ok (s :: rs) (by simp) fun x hx => h x (List.mem_cons_of_mem _ hx)
    rcases Int.le_total (height cs ws r) (height cs ws q) with z | z
    · exact ⟨r, List.mem_cons_self, fun x hx => by
        rcases List.mem_cons.mp hx with rfl | hx
        · exact Int.le_refl _
        · exact Int.le_trans z (hl x hx)⟩
    · exact ⟨q, List.mem_cons_of_mem _ hq, fun x hx => by
        rcases List.mem_cons.mp hx with rfl | hx
        · exact z
        · exact hl x hx⟩
theorem low_rests (ok : OkC cs ws n m) {r : Rw} (hr : OkR ws r) (h : ∀ q, OkR ws q → height cs ws r ≤ height cs ws q) : Rest cs ws r := fun u hu c hc => by
  have e := height_chg ok hr (u := u) (c := c) (by rw [← ok.wl]; exact hu) hc
  have := h _ (chg_ok hr hu hc)
  omega
/-- a row of first choices -/
theorem zero_row (ok : OkC cs ws n m) : OkR ws (List.replicate ws.length 0) := ⟨by simp, fun u hu => by
  rw [List.getD_eq_getElem?_getD, List.getElem?_replicate, if_pos hu]
  have := (ok.ol _ (own_mem ok (u := u) (by rw [← ok.wl]; exact hu))).1
  exact this⟩
theorem rest_ex (ok : OkC cs ws n m) : ∃ r, OkR ws r ∧ Rest cs ws r := by
  obtain ⟨r, hr, hl⟩ := least_height ok (rows ws) (fun e => by
    have := mem_rows.mpr (zero_row ok)
    rw [e] at this
    cases this) fun r hr => mem_rows.mp hr
  exact ⟨r, mem_rows.mp hr, low_rests ok (mem_rows.mp hr) fun q hq => hl q (mem_rows.mpr hq)⟩
/-- straight costs, nothing for nobody -/
def Straight (cs : Cs) (n m : Nat) : Prop := ∃ s : Nat → Int, (∀ i, i < n → 0 ≤ s i) ∧ ∀ i, i < n → ∀ k, k < m → co cs i k = s i * ((k : Int) + 1)
theorem chg_self {u c : Nat} (hr : OkR ws row) (hu : u < ws.length) : way ws (chg row u c) u = (own ws u).getD c [] := by
  unfold way
  rw [chg_at (by rw [hr.l]; exact hu), if_pos rfl]
theorem five_thirds (x y : Int) (hx : 0 ≤ x) (hy : 0 ≤ y) : 3 * (y * (x + 1)) ≤ x * x + 5 * (y * y) := by
  rcases (by omega : y = 0 ∨ y = 1 ∨ 2 ≤ y) with rfl | rfl | h
  · simp
    exact Int.mul_nonneg hx hx
  · have : 0 ≤ (x - 1) * (x - 2) := by
      rcases (by omega : x ≤ 1 ∨ 2 ≤ x) with q | q
      · have := Int.mul_nonneg (show 0 ≤ 1 - x by omega) (show 0 ≤ 2 - x by omega)
        grind
      · exact Int.mul_nonneg (by omega) (by omega)
    grind
  · have h1 : 0 ≤ (2 * x - 3 * y) * (2 * x - 3 * y) := by
      rcases Int.le_total 0 (2 * x - 3 * y) with q | q
      · exact Int.mul_nonneg q q
      · have := Int.mul_nonneg (show 0 ≤ -(2 * x - 3 * y) by omega) (show 0 ≤ -(2 * x - 3 * y) by omega)
        grind
    have h2 : 0 ≤ y * (y - 2) := Int.mul_nonneg hy (by omega)
    have h3 : 0 ≤ y * y := Int.mul_nonneg hy hy
    grind
/-- what rests costs at most 5/2 of any row -/
theorem five_halves (ok : OkC cs ws n m) (st : Straight cs n m) {r o : Rw} (hr : OkR ws r) (ho : OkR ws o) (re : Rest cs ws r) : 2 * tot cs ws r ≤ 5 * tot cs ws o := by
  obtain ⟨s, s0, se⟩ := st
  have wl := ok.wl
  -- each one's step to the other row
  have step : ∀ u, u < m → pay cs ws r u ≤ ((way ws o u).map fun x => s x.toNat * ((ld ws r x.toNat : Int) + 1)).sum := by
    intro u hu
    have hu' : u < ws.length := by omega
    have hc := ho.c u hu'
    have a := re u hu' _ hc
    have hw := way_ok ok ho hu
    have e : pay cs ws (chg r u (o.getD u 0)) u = ((way ws o u).map fun x => co cs x.toNat (ld ws (chg r u (o.getD u 0)) x.toNat - 1)).sum := by
      unfold pay
      rw [chg_self hr hu']
      rfl
    rw [e] at a
    refine Int.le_trans a ?_
    have le : ∀ l : List Int, (∀ x ∈ l, x ∈ way ws o u) → (l.map fun x => co cs x.toNat (ld ws (chg r u (o.getD u 0)) x.toNat - 1)).sum ≤ (l.map fun x => s x.toNat * ((ld ws r x.toNat : Int) + 1)).sum := by
      intro l
      induction l with
      | nil => intro _; exact Int.le_refl _
      | cons x l ih =>
        intro hl
        have ih := ih fun y hy => hl y (List.mem_cons_of_mem _ hy)
        have hx := hl x List.mem_cons_self
        have hx0 := hw.2.1 x hx
        rw [List.map_cons, List.map_cons, List.sum_cons, List.sum_cons]
        have ok2 := chg_ok hr hu' hc
        have l1 := ld_wo (row := chg r u (o.getD u 0)) ok hu x.toNat
        have l2 := ld_wo (row := r) ok hu x.toNat
        rw [chg_wo hr hu'] at l1
        have c1 := count_mem ok ok2 hu x.toNat
        have ex : ((x.toNat : Nat) : Int) = x := by omega
        rw [chg_self hr hu', ex] at c1
        have c1 : (way ws (chg r u (o.getD u 0)) u).count ((x.toNat : Nat) : Int) = 1 := by
          rw [chg_self hr hu', ex, c1]
          exact if_pos hx
        rw [c1] at l1
        have lm := ld_le ok ok2 x.toNat
        have := se x.toNat (by omega) (ld ws (chg r u (o.getD u 0)) x.toNat - 1) (by omega)
        rw [this]
        have sx := s0 x.toNat (by omega)
        have : (((ld ws (chg r u (o.getD u 0)) x.toNat - 1 : Nat) : Int) + 1) ≤ (ld ws r x.toNat : Int) + 1 := by omega
        have := Int.mul_le_mul_of_nonneg_left this sx
        omega
    exact le _ fun x hx => hx
  have t1 : tot cs ws r ≤ ((List.range n).map fun i => (ld ws o i : Int) * (s i * ((ld ws r i : Int) + 1))).sum := by
    rw [← by_loads ok ho (fun i => s i * ((ld ws r i : Int) + 1))]
    unfold tot pays
    rw [wl]
    exact sum_le step
  have sq : ∀ q : Rw, OkR ws q → tot cs ws q = ((List.range n).map fun i => s i * ((ld ws q i : Int) * (ld ws q i : Int))).sum := fun q hq => by
    rw [tot_eq ok hq]
    refine congrArg List.sum (List.map_congr_left fun i hi => ?_)
    have hi := List.mem_range.mp hi
    rcases Nat.eq_zero_or_pos (ld ws q i) with z | z
    · rw [z]; simp
    · have lm := ld_le ok hq i
      rw [se i hi _ (by omega), show (((ld ws q i - 1 : Nat) : Int) + 1) = (ld ws q i : Int) by omega]
      grind
  have t2 : 3 * ((List.range n).map fun i => (ld ws o i : Int) * (s i * ((ld ws r i : Int) + 1))).sum ≤ tot cs ws r + 5 * tot cs ws o := by
    rw [sq r hr, sq o ho]
    have key : ∀ k, k ≤ n → 3 * ((List.range k).map fun i => (ld ws o i : Int) * (s i * ((ld ws r i : Int) + 1))).sum ≤ ((List.range k).map fun i => s i * ((ld ws r i : Int) * (ld ws r i : Int))).sum + 5 * ((List.range k).map fun i => s i * ((ld ws o i : Int) * (ld ws o i : Int))).sum := by
      intro k
      induction k with
      | zero => intro _; simp
      | succ k ih =>
        intro hk
        have ih := ih (by omega)
        rw [List.range_succ, List.map_append, List.map_append, List.map_append, List.sum_append, List.sum_append, List.sum_append]
        simp only [List.map_cons, List.map_nil, List.sum_cons, List.sum_nil]
        have f := five_thirds (ld ws r k : Int) (ld ws o k : Int) (by omega) (by omega)
        have g := Int.mul_le_mul_of_nonneg_left f (s0 k (by omega))
        grind
    exact key n (Nat.le_refl _)
  omega
end
end Crd

set_option Elab.async false
set_option linter.all false
set_option maxRecDepth 100000
set_option maxHeartbeats 4000000
/-! ## the least of pairs of a number and a row, where the rows ascend -/
namespace PL
open PySem PySem.Spec PyProof.Rows L2 MM
def iR (r : List Nat) : List Int := r.map fun n : Nat => (n : Int)
def rSR (p : Int × List Nat) : MV := .tup [.int p.1, .tup (p.2.map fun n : Nat => .int (n : Int))]
def dSR (p : Int × List Nat) : PyData := .tuple [.int p.1, .tuple ((iR p.2).map .int)]
theorem pd0L_R : ∀ r : List Nat, pd0L (r.map fun n : Nat => MV.int (n : Int)) = some ((iR r).map PyData.int)
  | [] => rfl
  | x :: r => pd0L_cons (x := .int (x : Int)) (p := .int (x : Int)) rfl (pd0L_R r)
theorem pd0_SR (p : Int × List Nat) : pd0 (rSR p) = some (dSR p) := by
  have h := pd0L_R p.2
  have h2 : pd0 (.tup (p.2.map fun n : Nat => MV.int (n : Int))) = some (.tuple ((iR p.2).map PyData.int)) := by
    show (pd0L _).map PyData.tuple = _
    rw [h]; rfl
  show (pd0L [MV.int p.1, .tup (p.2.map fun n : Nat => MV.int (n : Int))]).map PyData.tuple = _
  rw [pd0L_cons rfl (pd0L_cons h2 rfl)]
  rfl
theorem pd0L_SR : ∀ xs : List (Int × List Nat), pd0L (xs.map rSR) = some (xs.map dSR)
  | [] => rfl
  | x :: xs => pd0L_cons (pd0_SR x) (pd0L_SR xs)
theorem alikeAll_ints : ∀ (xs ys : List Int), PySem.W.alikeAll (xs.map PyData.int) (ys.map PyData.int) = true
  | [], ys => by simp [PySem.W.alikeAll]
  | x :: xs, [] => by simp [PySem.W.alikeAll]
  | x :: xs, y :: ys => by
    simp only [List.map_cons, PySem.W.alikeAll, PySem.W.alike, Bool.true_and]
    exact alikeAll_ints xs ys
theorem alike_SR2 (x y : Int × List Nat) : PySem.W.alike (dSR x) (dSR y) = true := by
  simp only [dSR, PySem.W.alike, PySem.W.alikeAll, Bool.true_and, Bool.and_true]
  exact alikeAll_ints _ _
theorem alike_SR (xs : List (Int × List Nat)) : alikeB (xs.map dSR) = true := by
  unfold alikeB
  rw [Bool.and_eq_true, List.all_eq_true, List.all_eq_true]
  refine ⟨fun x hx => List.all_eq_true.mpr fun y hy => ?_, fun x hx => ?_⟩
  · obtain ⟨i, _, rfl⟩ := List.mem_map.mp hx
    obtain ⟨j, _, rfl⟩ := List.mem_map.mp hy
    exact alike_SR2 i j
  · obtain ⟨i, _, rfl⟩ := List.mem_map.mp hx
    rfl
theorem depth_SR : ∀ xs : List (Int × List Nat), PyData.depthAll (xs.map dSR) ≤ 100
  | [] => by decide
  | x :: xs => by
    have ih := depth_SR xs
    have d0 : ∀ r : List Int, PyData.depthAll (r.map PyData.int) = 0 := by
      intro r
      induction r with
      | nil => rfl
      | cons a r ih => show max (PyData.depth (.int a)) (PyData.depthAll (r.map PyData.int)) = 0; rw [ih]; rfl
    show max (PyData.depth (dSR x)) (PyData.depthAll (xs.map dSR)) ≤ 100
    refine Nat.max_le.mpr ⟨?_, ih⟩
    simp [dSR, PyData.depth, PyData.depthAll, d0]
theorem eqv_ints : ∀ xs ys : List Int, PyData.eqvAll (xs.map PyData.int) (ys.map PyData.int) = decide (xs = ys)
  | [], [] => by simp [PyData.eqvAll]
  | [], y :: ys => by simp [PyData.eqvAll]
  | x :: xs, [] => by simp [PyData.eqvAll]
  | x :: xs, y :: ys => by
    rw [List.map_cons, List.map_cons]
    unfold PyData.eqvAll
    rw [eqv_ints xs ys]
    unfold PyData.eqv
    by_cases h : x = y <;> by_cases h2 : xs = ys <;> simp [h, h2]
/-- a later one is less only by its number -/
theorem lt_SR {a y : Int × List Nat} (h : iR a.2 < iR y.2) : PySem.W.dataLt (dSR y) (dSR a) = decide (y.1 < a.1) := by
  unfold dSR
  rw [PySem.W.dataLt_pair (by simp [PySem.W.alike]) (by simp only [PySem.W.alike]; exact alikeAll_ints _ _), PySem.W.dataLt_int]
  have e1 : PyData.eqv (.int y.1) (.int a.1) = decide (y.1 = a.1) := by unfold PyData.eqv; by_cases h : y.1 = a.1 <;> simp [h]
  have e2 : PyData.eqv (.tuple ((iR y.2).map PyData.int)) (.tuple ((iR a.2).map PyData.int)) = decide (iR y.2 = iR a.2) := by
    unfold PyData.eqv
    exact eqv_ints _ _
  have e3 : PySem.W.dataLt (.tuple ((iR y.2).map PyData.int)) (.tuple ((iR a.2).map PyData.int)) = false := by
    rw [PySem.W.dataLt_tuple]
    have := PySem.W.dataLt_ints (iR y.2) (iR a.2)
    unfold PySem.W.rowLt at this
    rw [this]
    exact decide_eq_false (List.lt_asymm h)
  rw [e1, e2, e3]
  by_cases c : y.1 = a.1
  · have : ¬ y.1 < a.1 := by omega
    rw [if_pos (decide_eq_true c), decide_eq_false this]
    split <;> rfl
  · rw [if_neg (by simp [c])]
def low (a y : Int × List Nat) : Int × List Nat := if y.1 < a.1 then y else a
theorem minD_SR : ∀ (xs : List (Int × List Nat)) (x : Int × List Nat), (x :: xs).Pairwise (fun a y => iR a.2 < iR y.2) → PySem.W.minD (dSR x) (xs.map dSR) = dSR (xs.foldl low x)
  | [], x, _ => rfl
  | y :: ys, x, h => by
    obtain ⟨h1, h2⟩ := List.pairwise_cons.mp h
    have hx := h1 y List.mem_cons_self
    have q : (low x y :: ys).Pairwise (fun a y => iR a.2 < iR y.2) := by
      obtain ⟨h3, h4⟩ := List.pairwise_cons.mp h2
      refine List.pairwise_cons.mpr ⟨fun z hz => ?_, h4⟩
      unfold low
      split
      · exact h3 z hz
      · exact h1 z (List.mem_cons_of_mem _ hz)
    have ih := minD_SR ys (low x y) q
    unfold PySem.W.minD at ih ⊢
    rw [List.map_cons, List.foldl_cons, List.foldl_cons, ← ih]
    congr 1
    show (if PySem.W.dataLt (dSR y) (dSR x) = true then dSR y else dSR x) = _
    rw [lt_SR hx]
    unfold low
    by_cases c : y.1 < x.1
    · rw [if_pos c, if_pos (decide_eq_true c)]
    · rw [if_neg c, if_neg (by simp [c])]
theorem min_SR (μ : Mem) (x : Int × List Nat) (xs : List (Int × List Nat)) (h : (x :: xs).Pairwise (fun a y => iR a.2 < iR y.2)) : minM μ [.lst ((x :: xs).map rSR)] = some (rSR (xs.foldl low x)) := by
  unfold minM bestM
  show ((some ((x :: xs).map rSR)).bind _) = _
  dsimp only [Option.bind]
  rw [pd0L_SR]
  show (if alikeB (dSR x :: xs.map dSR) = true ∧ PyData.depthAll (dSR x :: xs.map dSR) ≤ 100 then unPd (PySem.W.minD (dSR x) (xs.map dSR)) else none) = _
  rw [if_pos ⟨alike_SR (x :: xs), depth_SR (x :: xs)⟩, minD_SR xs x h]
  exact unPd_pd _ _ (pd0_SR _)
/-- the first of the least -/
theorem low_spec : ∀ (xs : List (Int × List Nat)) (x : Int × List Nat), xs.foldl low x ∈ x :: xs ∧ (∀ y ∈ x :: xs, (xs.foldl low x).1 ≤ y.1)
  | [], x => ⟨List.mem_cons_self, fun y hy => by rw [List.mem_singleton.mp hy]; exact Int.le_refl _⟩
  | y :: ys, x => by
    obtain ⟨h1, h2⟩ := low_spec ys (low x y)
    show ys.foldl low (low x y) ∈ _ ∧ ∀ z ∈ x :: y :: ys, (ys.foldl low (low x y)).1 ≤ z.1
    have l1 : low x y = x ∨ low x y = y := by unfold low; split <;> simp
    have l2 : (low x y).1 ≤ x.1 ∧ (low x y).1 ≤ y.1 := by unfold low; split <;> omega
    have h0 := h2 _ List.mem_cons_self
    refine ⟨?_, fun z hz => ?_⟩
    · rcases List.mem_cons.mp h1 with e | e
      · rw [e]
        rcases l1 with l1 | l1 <;> rw [l1] <;> simp
      · exact List.mem_cons_of_mem _ (List.mem_cons_of_mem _ e)
    · rcases List.mem_cons.mp hz with rfl | hz
      · omega
      · rcases List.mem_cons.mp hz with rfl | hz
        · omega
        · exact h2 z (List.mem_cons_of_mem _ hz)
end PL

set_option linter.all false
/-! ## crowds: the rows stand in their order; the first of the least (plain) -/
namespace Crd
open PL
theorem app_lt : ∀ {a b : List Int} (s t : List Int), a.length = b.length → a < b → a ++ s < b ++ t
  | [], [], s, t, _, h => absurd h (List.lt_irrefl _)
  | [], b :: bs, _, _, h, _ => by simp at h
  | a :: as, [], _, _, h, _ => by simp at h
  | a :: as, b :: bs, s, t, hl, h => by
    rw [List.cons_append, List.cons_append, List.cons_lt_cons_iff]
    rcases List.cons_lt_cons_iff.mp h with q | ⟨q1, q2⟩
    · exact .inl q
    · exact .inr ⟨q1, app_lt s t (by simpa using hl) q2⟩
theorem app_same : ∀ (a : List Int) {s t : List Int}, s < t → a ++ s < a ++ t
  | [], s, t, h => h
  | x :: a, s, t, h => by
    rw [List.cons_append, List.cons_append, List.cons_lt_cons_iff]
    exact .inr ⟨rfl, app_same a h⟩
theorem iR_snoc (r : List Nat) (x : Nat) : iR (r ++ [x]) = iR r ++ [(x : Int)] := by simp [iR]
theorem ext_asc {f : List Rw} {c l : Nat} (hl : ∀ r ∈ f, r.length = l) (h : f.Pairwise (fun a b => iR a < iR b)) : (ext f c).Pairwise (fun a b => iR a < iR b) := by
  unfold ext
  rw [List.flatMap_def, List.pairwise_flatten]
  refine ⟨fun L hL => ?_, ?_⟩
  · obtain ⟨r, hr, rfl⟩ := List.mem_map.mp hL
    rw [List.pairwise_map]
    refine List.pairwise_lt_range.imp fun {x y} hxy => ?_
    rw [iR_snoc, iR_snoc]
    exact app_same _ (List.cons_lt_cons_iff.mpr (.inl (by omega)))
  · rw [List.pairwise_map]
    refine h.imp_of_mem fun {r q} hr hq hrq => fun a ha b hb => ?_
    obtain ⟨x, _, rfl⟩ := List.mem_map.mp ha
    obtain ⟨y, _, rfl⟩ := List.mem_map.mp hb
    rw [iR_snoc, iR_snoc]
    exact app_lt _ _ (by simp [iR, hl r hr, hl q hq]) hrq
theorem rowsK_asc (ws : Ws) : ∀ k, (rowsK ws k).Pairwise (fun a b => iR a < iR b)
  | 0 => by simp [rowsK]
  | k + 1 => ext_asc (l := k) (fun r hr => (mem_rowsK.mp hr).1) (rowsK_asc ws k)
theorem rows_asc (ws : Ws) : (rows ws).Pairwise (fun a b => iR a < iR b) := rowsK_asc ws _
/-- the first of the least -/
theorem low_first : ∀ (xs : List (Int × List Nat)) (x : Int × List Nat), ∃ k : Nat, (x :: xs)[k]? = some (xs.foldl low x) ∧ ∀ j y, j < k → (x :: xs)[j]? = some y → (xs.foldl low x).1 < y.1
  | [], x => ⟨0, rfl, fun j y h => absurd h (by omega)⟩
  | y :: ys, x => by
    obtain ⟨k, h1, h2⟩ := low_first ys (low x y)
    show ∃ k : Nat, (x :: y :: ys)[k]? = some (ys.foldl low (low x y)) ∧ ∀ j z, j < k → (x :: y :: ys)[j]? = some z → (ys.foldl low (low x y)).1 < z.1
    by_cases c : y.1 < x.1
    · have e : low x y = y := if_pos c
      rw [e] at h1 h2 ⊢
      refine ⟨k + 1, by simpa using h1, fun j z hj hz => ?_⟩
      cases j with
      | zero =>
        have : x = z := by simpa using hz
        subst this
        have := (low_spec ys y).2 y List.mem_cons_self
        omega
      | succ j => exact h2 j z (by omega) (by simpa using hz)
    · have e : low x y = x := if_neg c
      rw [e] at h1 h2 ⊢
      cases k with
      | zero => exact ⟨0, by simpa using h1, fun j z hj => absurd hj (by omega)⟩
      | succ k =>
        refine ⟨k + 2, by simpa using h1, fun j z hj hz => ?_⟩
        have hx := h2 0 x (by omega) rfl
        match j, hz with
        | 0, hz =>
          have : x = z := by simpa using hz
          subst this
          exact hx
        | 1, hz =>
          have : y = z := by simpa using hz
          subst this
          omega
        | j + 2, hz => exact h2 (j + 1) z (by omega) (by simpa using hz)
end Crd

set_option Elab.async false
set_option linter.all false
set_option maxRecDepth 100000
set_option maxHeartbeats 4000000
namespace K33
open PySem PySem.Spec PyProof.Rows L2 MM PL Crd
section
variable {cs : Cs} {ws : Ws} {n m : Nat} {μ : Mem} {row : Rw} {ρ : MM.Env}
theorem is_none (o : Option (Nat × Nat)) : isM μ (rOpt o) .non = some (.bl o.isNone) := by cases o <;> rfl
theorem first_cheaper_ok (hm : okMem μ) (ok : OkC cs ws n m) (hr : OkR ws row) : F_p_first_cheaper [rCo cs, rWs ws, rRow row] μ = .ok (rOpt (chp cs ws row)) μ := by
  refine run_rt0 (show M_p_first_cheaper [some (rCo cs), some (rWs ws), some (rRow row)] μ = _ from ?_) (nr_Opt _) hm
  unfold M_p_first_cheaper
  refine seq_step (drop_s (call_ok (cons_ok (var_ok rfl) (cons_ok (var_ok rfl) (one_ok (var_ok rfl)))) rfl (check_row_ok hm ok hr))) ?_
  exact ret_s (call_ok (cons_ok (var_ok rfl) (cons_ok (var_ok rfl) (one_ok (var_ok rfl)))) rfl (cheaper_ok hm ok hr))
theorem is_resting_ok (hm : okMem μ) (ok : OkC cs ws n m) (hr : OkR ws row) : F_p_is_resting [rCo cs, rWs ws, rRow row] μ = .ok (.bl (chp cs ws row).isNone) μ := by
  refine run_rt0 (show M_p_is_resting [some (rCo cs), some (rWs ws), some (rRow row)] μ = _ from ?_) rfl hm
  unfold M_p_is_resting
  refine seq_step (drop_s (call_ok (cons_ok (var_ok rfl) (cons_ok (var_ok rfl) (one_ok (var_ok rfl)))) rfl (check_row_ok hm ok hr))) ?_
  exact ret_s (op_ok (call_ok (cons_ok (var_ok rfl) (cons_ok (var_ok rfl) (one_ok (var_ok rfl)))) rfl (cheaper_ok hm ok hr)) k_ok (is_none _))
theorem rows_len (ok : OkC cs ws n m) : (rows ws).length ≤ 81 := by
  have := rowsK_len (ws := ws) (fun o ho => (ok.ol o ho).2) ws.length (Nat.le_refl _)
  have m1 := ok.m1
  have := pow3_le (k := ws.length) (by rw [ok.wl]; exact m1.2)
  unfold rows
  omega
theorem rows_ok {a : Ev MV} (hm : okMem μ) (ok : OkC cs ws n m) (ha : a ρ μ = .ok (rWs ws) μ) : mItm (mCall 1 F_p_rows_of (mCons a mNil)) ρ μ = .ok ⟨(rows ws).map rRow, []⟩ μ :=
  mitm (call_ok (one_ok ha) rfl (rows_of_ok hm (fun o ho => (ok.ol o ho).2) (by rw [ok.wl]; exact ok.m1.2))) rfl
def isR (cs : Cs) (ws : Ws) (r : Rw) : Bool := (chp cs ws r).isNone
theorem resting_rows_ok (hm : okMem μ) (ok : OkC cs ws n m) : F_p_resting_rows [rCo cs, rWs ws] μ = .ok (.lst (rRs ((rows ws).filter (isR cs ws)))) μ := by
  have rl := rows_len ok
  refine run_rt0 (show M_p_resting_rows [some (rCo cs), some (rWs ws), none] μ = _ from ?_) (by unfold nr; exact nrs_Rs _) hm
  unfold M_p_resting_rows
  refine seq_step (drop_s (call_ok (cons_ok (var_ok rfl) (one_ok (var_ok rfl))) rfl (check_crowd_ok hm ok))) ?_
  exact ret_s (mcomp_filterR (α := Rw) (r := .lst (rRs ((rows ws).filter (isR cs ws)))) rRow (isR cs ws) rRow (rows ws) (rows_ok hm ok (var_ok rfl)) (le_size (by omega)) (fun r hr => ⟨_, rfl, t_ok (op_ok (call_ok (cons_ok (var_ok rfl) (cons_ok (var_ok rfl) (one_ok (var_ok rfl)))) rfl (cheaper_ok hm ok (mem_rows.mp hr))) k_ok (is_none _)), fun _ => var_ok rfl⟩) rfl)
end
end K33

set_option Elab.async false
set_option linter.all false
set_option maxRecDepth 100000
set_option maxHeartbeats 4000000
namespace PL
theorem foldl_min_lb : ∀ (r : List Int) (x : Int), r.foldl min x ≤ x ∧ ∀ y ∈ r, r.foldl min x ≤ y
  | [], x => ⟨Int.le_refl _, fun y hy => by cases hy⟩
  | z :: r, x => by
    obtain ⟨h1, h2⟩ := foldl_min_lb r (min x z)
    show r.foldl min (min x z) ≤ x ∧ ∀ y ∈ z :: r, r.foldl min (min x z) ≤ y
    refine ⟨by omega, fun y hy => ?_⟩
    rcases List.mem_cons.mp hy with rfl | hy
    · omega
    · exact h2 y hy
theorem mn_le {r : List Int} {y : Int} (h : y ∈ r) : mn r ≤ y := by
  cases r with
  | nil => cases h
  | cons x r =>
    obtain ⟨h1, h2⟩ := foldl_min_lb r x
    rcases List.mem_cons.mp h with rfl | h
    · exact h1
    · exact h2 y h
theorem foldl_max_ub : ∀ (r : List Int) (x : Int), x ≤ r.foldl max x ∧ ∀ y ∈ r, y ≤ r.foldl max x
  | [], x => ⟨Int.le_refl _, fun y hy => by cases hy⟩
  | z :: r, x => by
    obtain ⟨h1, h2⟩ := foldl_max_ub r (max x z)
    show x ≤ r.foldl max (max x z) ∧ ∀ y ∈ z :: r, y ≤ r.foldl max (max x z)
    refine ⟨by omega, fun y hy => ?_⟩
    rcases List.mem_cons.mp hy with rfl | hy
    · omega
    · exact h2 y hy
theorem mx_ge {r : List Int} {y : Int} (h : y ∈ r) : y ≤ mx r := by
  cases r with
  | nil => cases h
  | cons x r =>
    obtain ⟨h1, h2⟩ := foldl_max_ub r x
    rcases List.mem_cons.mp h with rfl | h
    · exact h1
    · exact h2 y h
theorem foldl_max_mem' : ∀ (r : List Int) (x : Int), r.foldl max x = x ∨ r.foldl max x ∈ r
  | [], x => .inl rfl
  | y :: r, x => by
    show r.foldl max (max x y) = x ∨ r.foldl max (max x y) ∈ y :: r
    rcases foldl_max_mem' r (max x y) with h | h
    · rw [h]
      rcases Int.le_total x y with q | q
      · exact .inr (by rw [show max x y = y by omega]; exact List.mem_cons_self)
      · exact .inl (by omega)
    · exact .inr (List.mem_cons_of_mem _ h)
theorem mx_in {r : List Int} (hr : r ≠ []) : mx r ∈ r := by
  cases r with
  | nil => exact absurd rfl hr
  | cons x r =>
    rcases foldl_max_mem' r x with h | h
    · show r.foldl max x ∈ x :: r
      rw [h]; exact List.mem_cons_self
    · exact List.mem_cons_of_mem _ h
/-- the places of what is kept, and what stands there -/
theorem places {α : Type} (p : α → Bool) (d : α) : ∀ (l : List α), ((List.range l.length).filter fun k => p (l.getD k d)).map (fun k => l.getD k d) = l.filter p := by
  intro l
  have key : ∀ k, k ≤ l.length → ((List.range k).filter fun k => p (l.getD k d)).map (fun k => l.getD k d) = (l.take k).filter p := by
    intro k
    induction k with
    | zero => intro _; rfl
    | succ k ih =>
      intro hk
      rw [List.range_succ, List.filter_append, List.map_append, ih (by omega), List.take_succ_eq_append_getElem (by omega), List.filter_append]
      congr 1
      have e : l.getD k d = l[k] := by rw [List.getD_eq_getElem?_getD, List.getElem?_eq_getElem (by omega)]; rfl
      simp only [List.filter_cons, List.filter_nil, e]
      split
      · simp only [List.map_cons, List.map_nil, e]
      · rfl
  have := key l.length (Nat.le_refl _)
  rwa [List.take_length] at this
theorem idx_of {v : Int} : ∀ {l : List Int} {k : Nat}, l[k]? = some v → (∀ j y, j < k → l[j]? = some y → y ≠ v) → l.idxOf v = k
  | [], k, h, _ => by simp at h
  | x :: l, 0, h, _ => by
    have : x = v := by simpa using h
    subst this
    simp
  | x :: l, k + 1, h, hn => by
    have hx := hn 0 x (by omega) rfl
    have ih := idx_of (l := l) (k := k) (by simpa using h) fun j y hj hy => hn (j + 1) y (by omega) (by simpa using hy)
    rw [List.idxOf_cons]
    have : (x == v) = false := by simpa using hx
    rw [this, ih]
    rfl

open PySem PySem.Spec PyProof.Rows L2 MM
/-- the least pair -/
def lowP : List (Int × List Nat) → Int × List Nat
  | [] => (0, [])
  | x :: xs => xs.foldl PL.low x
theorem asc_map {f : List Nat → Int × List Nat} (hf : ∀ r, (f r).2 = r) {rs : List (List Nat)} (h : rs.Pairwise (fun a b => PL.iR a < PL.iR b)) : (rs.map f).Pairwise (fun a y => PL.iR a.2 < PL.iR y.2) := by
  rw [List.pairwise_map]
  exact h.imp fun {a b} q => by rw [hf, hf]; exact q
theorem min_low {μ : Mem} {ps : List (Int × List Nat)} (hne : ps ≠ []) (h : ps.Pairwise (fun a y => iR a.2 < iR y.2)) : minM μ [.lst (ps.map rSR)] = some (rSR (lowP ps)) := by
  cases ps with
  | nil => exact absurd rfl hne
  | cons x xs => exact min_SR μ x xs h
theorem nr_SR (p : Int × List Nat) : nr (rSR p) = true := by
  show nr (.tup [.int p.1, .tup (p.2.map fun n : Nat => .int (n : Int))]) = true
  have h : nr (.tup (p.2.map fun n : Nat => .int (n : Int))) = true := by unfold nr; exact nrs_map _ (fun _ => rfl) _
  unfold nr
  rw [nrs_all]
  simp only [List.all_cons, List.all_nil, Bool.and_true, h]
  rfl
theorem lowP_le {ps : List (Int × List Nat)} (h : ps ≠ []) : lowP ps ∈ ps ∧ ∀ y ∈ ps, (lowP ps).1 ≤ y.1 := by
  cases ps with
  | nil => exact absurd rfl h
  | cons x xs => exact low_spec xs x
theorem low_first : ∀ (xs : List (Int × List Nat)) (x : Int × List Nat), ∃ k : Nat, (x :: xs)[k]? = some (xs.foldl low x) ∧ ∀ j y, j < k → (x :: xs)[j]? = some y → (xs.foldl low x).1 < y.1
  | [], x => ⟨0, rfl, fun j y h => absurd h (by omega)⟩
  | y :: ys, x => by
    obtain ⟨k, h1, h2⟩ := low_first ys (low x y)
    show ∃ k : Nat, (x :: y :: ys)[k]? = some (ys.foldl low (low x y)) ∧ ∀ j z, j < k → (x :: y :: ys)[j]? = some z → (ys.foldl low (low x y)).1 < z.1
    by_cases c : y.1 < x.1
    · have e : low x y = y := if_pos c
      rw [e] at h1 h2 ⊢
      refine ⟨k + 1, by simpa using h1, fun j z hj hz => ?_⟩
      cases j with
      | zero =>
        have : x = z := by simpa using hz
        subst this
        have := (low_spec ys y).2 y List.mem_cons_self
        omega
      | succ j => exact h2 j z (by omega) (by simpa using hz)
    · have e : low x y = x := if_neg c
      rw [e] at h1 h2 ⊢
      cases k with
      | zero => exact ⟨0, by simpa using h1, fun j z hj => absurd hj (by omega)⟩
      | succ k =>
        refine ⟨k + 2, by simpa using h1, fun j z hj hz => ?_⟩
        have hx := h2 0 x (by omega) rfl
        match j, hz with
        | 0, hz =>
          have : x = z := by simpa using hz
          subst this
          exact hx
        | 1, hz =>
          have : y = z := by simpa using hz
          subst this
          omega
        | j + 2, hz => exact h2 (j + 1) z (by omega) (by simpa using hz)
theorem lowP_first {ps : List (Int × List Nat)} (h : ps ≠ []) : ∃ k : Nat, ps[k]? = some (lowP ps) ∧ ∀ j y, j < k → ps[j]? = some y → (lowP ps).1 < y.1 := by
  cases ps with
  | nil => exact absurd rfl h
  | cons x xs => exact low_first xs x
/-- the first place of the least -/
theorem first_low {f : List Nat → Int} {rs : List (List Nat)} (h : rs ≠ []) : mn (rs.map f) = (lowP (rs.map fun r => (f r, r))).1 ∧ rs[(rs.map f).idxOf (mn (rs.map f))]? = some (lowP (rs.map fun r => (f r, r))).2 := by
  have hn : (rs.map fun r => (f r, r)) ≠ [] := fun e => h (List.map_eq_nil_iff.mp e)
  have ht : rs.map f ≠ [] := fun e => h (List.map_eq_nil_iff.mp e)
  obtain ⟨h1, h2⟩ := lowP_le hn
  obtain ⟨k, k1, k2⟩ := lowP_first hn
  obtain ⟨r, hr, er⟩ := List.mem_map.mp h1
  have e0 : mn (rs.map f) = (lowP (rs.map fun r => (f r, r))).1 := by
    refine Int.le_antisymm ?_ ?_
    · rw [← er]
      exact mn_le (List.mem_map.mpr ⟨r, hr, rfl⟩)
    · obtain ⟨q, hq, eq⟩ := List.mem_map.mp (mn_mem ht)
      have := h2 _ (List.mem_map.mpr ⟨q, hq, rfl⟩)
      rw [← eq]
      exact this
  refine ⟨e0, ?_⟩
  rw [e0]
  · rw [List.getElem?_map] at k1
    obtain ⟨q, hq, eq⟩ := Option.map_eq_some_iff.mp k1
    have e1 : (lowP (rs.map fun r => (f r, r))).1 = f q := by rw [← eq]
    have e2 : (lowP (rs.map fun r => (f r, r))).2 = q := by rw [← eq]
    obtain ⟨hk, eqk⟩ := List.getElem?_eq_some_iff.mp hq
    have ek : (rs.map f).idxOf (lowP (rs.map fun r => (f r, r))).1 = k := by
      refine idx_of ?_ fun j y hj hy => ?_
      · rw [List.getElem?_map, hq, e1]; rfl
      · rw [List.getElem?_map] at hy
        obtain ⟨z, hz, ez⟩ := Option.map_eq_some_iff.mp hy
        have := k2 j (f z, z) hj (by rw [List.getElem?_map, hz]; rfl)
        have e : (f z, z).1 = f z := rfl
        omega
    rw [ek, hq, e2]
/-! ### for: all pass, or something is returned -/
theorem for_all {α S : Type} {t : Itm} {g : TgM} {b : SM} {μ : Mem} (ok : t.ok μ) (rep : α → MV) (env : S → MM.Env) (p : α → Bool) (d : MV) : ∀ (xs : List α) (s : S),
    (∀ x ∈ xs, ∀ s, ∃ ρ1, g (rep x) (env s) μ = some (ρ1, μ) ∧ (p x = true → ∃ s', b ρ1 μ = .nx (env s') μ) ∧ (p x = false → b ρ1 μ = .rt d μ)) →
    (xs.all p = true ∧ ∃ s', forL t g b (xs.map rep) (env s) μ = .nx (env s') μ) ∨ (xs.all p = false ∧ forL t g b (xs.map rep) (env s) μ = .rt d μ)
  | [], s, h => .inl ⟨rfl, s, by
    show forL t g b [] (env s) μ = _
    unfold forL
    rw [if_pos ok]⟩
  | x :: xs, s, h => by
    obtain ⟨ρ1, h1, h2, h3⟩ := h x List.mem_cons_self s
    have un : forL t g b ((x :: xs).map rep) (env s) μ = (match b ρ1 μ with
      | .nx ρ2 μ2 => forL t g b (xs.map rep) ρ2 μ2
      | .ct ρ2 μ2 => forL t g b (xs.map rep) ρ2 μ2
      | .bk ρ2 μ2 => .nx ρ2 μ2
      | .rt d μ2 => .rt d μ2
      | .exc x μ2 => .exc x μ2
      | .bad => .bad) := by
      show forL t g b (rep x :: xs.map rep) (env s) μ = _
      conv => lhs; unfold forL
      rw [if_pos ok, h1]
      all_goals rfl
    rw [un, List.all_cons]
    cases hp : p x with
    | true =>
      obtain ⟨s', h4⟩ := h2 hp
      rw [h4]
      exact for_all ok rep env p d xs s' fun y hy => h y (List.mem_cons_of_mem _ hy)
    | false =>
      rw [h3 hp]
      exact .inr ⟨rfl, rfl⟩
/-- for: the first that is found is returned -/
theorem for_find {α S : Type} {t : Itm} {g : TgM} {b : SM} {μ : Mem} (ok : t.ok μ) (rep : α → MV) (env : S → MM.Env) (p : α → Bool) (d : α → MV) : ∀ (xs : List α) (s : S),
    (∀ x ∈ xs, ∀ s, ∃ ρ1, g (rep x) (env s) μ = some (ρ1, μ) ∧ (p x = false → ∃ s', b ρ1 μ = .nx (env s') μ) ∧ (p x = true → b ρ1 μ = .rt (d x) μ)) →
    (xs.find? p = none ∧ ∃ s', forL t g b (xs.map rep) (env s) μ = .nx (env s') μ) ∨ (∃ x, xs.find? p = some x ∧ forL t g b (xs.map rep) (env s) μ = .rt (d x) μ)
  | [], s, h => .inl ⟨rfl, s, by
    show forL t g b [] (env s) μ = _
    unfold forL
    rw [if_pos ok]⟩
  | x :: xs, s, h => by
    obtain ⟨ρ1, h1, h2, h3⟩ := h x List.mem_cons_self s
    have un : forL t g b ((x :: xs).map rep) (env s) μ = (match b ρ1 μ with
      | .nx ρ2 μ2 => forL t g b (xs.map rep) ρ2 μ2
      | .ct ρ2 μ2 => forL t g b (xs.map rep) ρ2 μ2
      | .bk ρ2 μ2 => .nx ρ2 μ2
      | .rt d μ2 => .rt d μ2
      | .exc x μ2 => .exc x μ2
      | .bad => .bad) := by
      show forL t g b (rep x :: xs.map rep) (env s) μ = _
      conv => lhs; unfold forL
      rw [if_pos ok, h1]
      all_goals rfl
    rw [un, List.find?_cons]
    cases hp : p x with
    | true =>
      rw [h3 hp]
      exact .inr ⟨x, rfl, rfl⟩
    | false =>
      obtain ⟨s', h4⟩ := h2 hp
      rw [h4]
      exact for_find ok rep env p d xs s' fun y hy => h y (List.mem_cons_of_mem _ hy)
/-- for: all pass, or something is raised -/
theorem for_allX {α S : Type} {t : Itm} {g : TgM} {b : SM} {μ : Mem} (ok : t.ok μ) (rep : α → MV) (env : S → MM.Env) (p : α → Bool) (e : Exc) : ∀ (xs : List α) (s : S),
    (∀ x ∈ xs, ∀ s, ∃ ρ1, g (rep x) (env s) μ = some (ρ1, μ) ∧ (p x = true → ∃ s', b ρ1 μ = .nx (env s') μ) ∧ (p x = false → b ρ1 μ = .exc e μ)) →
    (xs.all p = true ∧ ∃ s', forL t g b (xs.map rep) (env s) μ = .nx (env s') μ) ∨ (xs.all p = false ∧ forL t g b (xs.map rep) (env s) μ = .exc e μ)
  | [], s, h => .inl ⟨rfl, s, by
    show forL t g b [] (env s) μ = _
    unfold forL
    rw [if_pos ok]⟩
  | x :: xs, s, h => by
    obtain ⟨ρ1, h1, h2, h3⟩ := h x List.mem_cons_self s
    have un : forL t g b ((x :: xs).map rep) (env s) μ = (match b ρ1 μ with
      | .nx ρ2 μ2 => forL t g b (xs.map rep) ρ2 μ2
      | .ct ρ2 μ2 => forL t g b (xs.map rep) ρ2 μ2
      | .bk ρ2 μ2 => .nx ρ2 μ2
      | .rt d μ2 => .rt d μ2
      | .exc x μ2 => .exc x μ2
      | .bad => .bad) := by
      show forL t g b (rep x :: xs.map rep) (env s) μ = _
      conv => lhs; unfold forL
      rw [if_pos ok, h1]
      all_goals rfl
    rw [un, List.all_cons]
    cases hp : p x with
    | true =>
      obtain ⟨s', h4⟩ := h2 hp
      rw [h4]
      exact for_allX ok rep env p e xs s' fun y hy => h y (List.mem_cons_of_mem _ hy)
    | false =>
      rw [h3 hp]
      exact .inr ⟨rfl, rfl⟩
/-- a comprehension with a test, over what may be a cell -/
theorem comp_filT {α : Type} {t : Itm} {g : TgM} {c : Ev Bool} {e : Ev MV} {ρ : MM.Env} {μ : Mem} (ok : t.ok μ) (rep : α → MV) (p : α → Bool) (f : α → MV) : ∀ (xs : List α),
    (∀ x ∈ xs, ∃ ρ1, g (rep x) ρ μ = some (ρ1, μ) ∧ c ρ1 μ = .ok (p x) μ ∧ (p x = true → e ρ1 μ = .ok (f x) μ)) → compL t g c e ρ (xs.map rep) μ = some ((xs.filter p).map f, μ)
  | [], h => by
    show compL t g c e ρ [] μ = _
    unfold compL
    rw [if_pos ok]
    rfl
  | x :: xs, h => by
    obtain ⟨ρ1, h1, h2, h3⟩ := h x List.mem_cons_self
    have ih := comp_filT ok rep p f xs (fun y hy => h y (List.mem_cons_of_mem _ hy)) (g := g) (c := c) (e := e) (ρ := ρ)
    show compL t g c e ρ (rep x :: xs.map rep) μ = _
    unfold compL
    rw [if_pos ok, h1]
    cases hp : p x with
    | true =>
      rw [hp] at h2
      simp only [h2, h3 hp, ih, List.filter_cons, hp, if_true, List.map_cons]
    | false =>
      rw [hp] at h2
      simp only [h2, ih, List.filter_cons, hp]
      rfl
theorem mcomp_filT {α : Type} {vs : List Nat} {mi : Ev Itm} {g : TgM} {c : Ev Bool} {e : Ev MV} {ρ : MM.Env} {μ μ1 : Mem} {chk : List (Nat × List MV)} (rep : α → MV) (p : α → Bool) (f : α → MV) (xs : List α) (h1 : mi ρ μ = .ok ⟨xs.map rep, chk⟩ μ1) (ok : Itm.ok ⟨xs.map rep, chk⟩ μ1) (hl : xs.length ≤ sizeLine)
    (h : ∀ x ∈ xs, ∃ ρ1, g (rep x) (wipeE ρ vs) μ1 = some (ρ1, μ1) ∧ c ρ1 μ1 = .ok (p x) μ1 ∧ (p x = true → e ρ1 μ1 = .ok (f x) μ1)) : mComp vs mi g c e ρ μ = .ok (.lst ((xs.filter p).map f)) μ1 := by
  unfold mComp mCompL
  unfold mB
  dsimp only
  rw [h1]
  dsimp only
  unfold compT
  rw [if_pos (by rw [List.length_map]; exact hl), comp_filT ok rep p f xs h]
  rfl
end PL

set_option Elab.async false
set_option linter.all false
set_option maxRecDepth 100000
set_option maxHeartbeats 4000000
/-! ## PE: rules in the form that the walking tactic wants -/
namespace PL
open PySem PySem.Spec PyProof.Rows L2 MM
section
variable {ρ ρ1 ρ2 : MM.Env} {μ μ1 μ2 μ3 : Mem} {m ma mb mc md : Ev MV} {ms : Ev (List MV)} {a b c d r : MV} {ds : List MV}
theorem tup_ev (hs : ms ρ μ = .ok ds μ1) (hl : ds.length ≤ sizeLine) : mTup ms ρ μ = .ok (.tup ds) μ1 := tup_ok hs hl
theorem lst_ev (hs : ms ρ μ = .ok ds μ1) (hl : ds.length ≤ sizeLine) : mLst ms ρ μ = .ok (.lst ds) μ1 := lst_ok hs hl
theorem lstC_ev (hs : ms ρ μ = .ok ds μ1) (hl : ds.length ≤ sizeLine) : mLstC ms ρ μ = .ok (.ref μ1.length) (μ1 ++ [.lst ds]) := lstC_ok hs hl
theorem ifE_ok {c : Ev Bool} {k : Bool} (h : c ρ μ = .ok k μ1) (ha : k = true → ma ρ μ1 = .ok a μ2) (hb : k = false → mb ρ μ1 = .ok b μ2) : mIf c ma mb ρ μ = .ok (if k = true then a else b) μ2 := by
  cases k with
  | true => exact ifE_t h (ha rfl)
  | false => exact ifE_f h (hb rfl)
theorem call_ev {n : Nat} {F : FM} {o : Out MV} (h : ms ρ μ = .ok ds μ1) (hn : ds.length = n) (k : F ds μ1 = o) : mCall n F ms ρ μ = o := call_ok h hn k
theorem mcomp_mapE {α : Type} {vs : List Nat} {mi : Ev Itm} {g : TgM} {e : Ev MV} {rep : α → MV} {f : α → MV} {xs : List α} {chk : List (Nat × List MV)} (h1 : mi ρ μ = .ok ⟨xs.map rep, chk⟩ μ1) (ok : Itm.ok ⟨xs.map rep, chk⟩ μ1) (hl : xs.length ≤ sizeLine)
    (h : ∀ x ∈ xs, ∃ ρ1, g (rep x) (wipeE ρ vs) μ1 = some (ρ1, μ1) ∧ e ρ1 μ1 = .ok (f x) μ1) : mComp vs mi g mYes e ρ μ = .ok (.lst (xs.map f)) μ1 := mcomp_mapT rep f xs h1 ok hl h rfl
theorem mcomp_filE {α : Type} {vs : List Nat} {mi : Ev Itm} {g : TgM} {c : Ev Bool} {e : Ev MV} {rep : α → MV} {p : α → Bool} {f : α → MV} {xs : List α} {chk : List (Nat × List MV)} (h1 : mi ρ μ = .ok ⟨xs.map rep, chk⟩ μ1) (ok : Itm.ok ⟨xs.map rep, chk⟩ μ1) (hl : xs.length ≤ sizeLine)
    (h : ∀ x ∈ xs, ∃ ρ1, g (rep x) (wipeE ρ vs) μ1 = some (ρ1, μ1) ∧ c ρ1 μ1 = .ok (p x) μ1 ∧ (p x = true → e ρ1 μ1 = .ok (f x) μ1)) : mComp vs mi g c e ρ μ = .ok (.lst ((xs.filter p).map f)) μ1 := mcomp_filT rep p f xs h1 ok hl h
theorem rngE1 {n : Nat} (h : ms ρ μ = .ok [.int n] μ1) (hn : n ≤ 1000000) : mRng rng1 ms ρ μ = .ok ⟨(List.range n).map fun i => .int (i : Nat), []⟩ μ1 := by
  rw [mrng1 h ⟨by omega, by omega⟩]
  unfold intsL
  simp
theorem rngE2 {i : Int} {n : Nat} (h : ms ρ μ = .ok [.int i, .int (i + n)] μ1) (hi : i.natAbs ≤ 1000000) (hn : n ≤ 1000000) : mRng rng2 ms ρ μ = .ok ⟨(List.range n).map fun k => .int (i + (k : Nat)), []⟩ μ1 := by
  unfold mRng mB
  rw [h]
  dsimp only
  unfold rng2
  dsimp only
  rw [if_pos ⟨⟨by omega, by omega⟩, ⟨by omega, by omega⟩⟩]
  have : (i + (n : Int) - i).toNat = n := by omega
  rw [this]
  rfl
theorem gN' {i : Nat} : gN i d ρ μ = some (ρ.set i (some d), μ) := rfl
theorem gT2 {i j : Nat} : gT [gN i, gN j] (.tup [a, b]) ρ μ = some ((ρ.set i (some a)).set j (some b), μ) := rfl
theorem gT3 {i j k : Nat} : gT [gN i, gN j, gN k] (.tup [a, b, c]) ρ μ = some (((ρ.set i (some a)).set j (some b)).set k (some c), μ) := rfl
theorem gT1 {i : Nat} : gT [gN i] (.tup [a]) ρ μ = some (ρ.set i (some a), μ) := rfl
theorem seq_bk {s1 s : SM} (h : s1 ρ μ = .bk ρ1 μ1) : sSeq s1 s ρ μ = .bk ρ1 μ1 := by unfold sSeq; rw [h]
theorem seq_ct {s1 s : SM} (h : s1 ρ μ = .ct ρ1 μ1) : sSeq s1 s ρ μ = .ct ρ1 μ1 := by unfold sSeq; rw [h]
/-- one statement, then the others -/
theorem seq_asg {g : TgM} {s : SM} {o : SOut} (h : m ρ μ = .ok d μ1) (hg : g d ρ μ1 = some (ρ2, μ2)) (k : s ρ2 μ2 = o) : sSeq (sAsg m g) s ρ μ = o := seq_step (asg_ok h hg) k
theorem seq_set {i : Nat} {s : SM} {o : SOut} (h : m ρ μ = .ok d μ1) (hg : ρ.set i (some d) = ρ2) (k : s ρ2 μ1 = o) : sSeq (sAsg m (gN i)) s ρ μ = o := seq_step (asg_ok h (by rw [← hg]; rfl)) k
theorem seq_drop {s : SM} {o : SOut} (h : m ρ μ = .ok r μ1) (k : s ρ μ1 = o) : sSeq (sDrop m) s ρ μ = o := seq_step (drop_s h) k
theorem seq_par {i j : Nat} {s : SM} {o : SOut} (hs : ms ρ μ = .ok [a, b] μ1) (hg : (ρ.set i (some a)).set j (some b) = ρ2) (k : s ρ2 μ1 = o) : sSeq (sPar i j ms) s ρ μ = o := seq_step (par_s hs) (by rw [hg]; exact k)
theorem par_ev {i j : Nat} (hs : ms ρ μ = .ok [a, b] μ1) (hg : (ρ.set i (some a)).set j (some b) = ρ2) : sPar i j ms ρ μ = .nx ρ2 μ1 := by rw [← hg]; exact par_s hs
theorem asg_ev {i : Nat} (h : m ρ μ = .ok d μ1) (hg : ρ.set i (some d) = ρ2) : sAsg m (gN i) ρ μ = .nx ρ2 μ1 := asg_ok h (by rw [← hg]; rfl)
theorem seq_dropx {s : SM} {x : Exc} (h : m ρ μ = .exc x μ1) : sSeq (sDrop m) s ρ μ = .exc x μ1 := seq_exc (drop_x h)
theorem seq_asgx {g : TgM} {s : SM} {x : Exc} (h : m ρ μ = .exc x μ1) : sSeq (sAsg m g) s ρ μ = .exc x μ1 := seq_exc (asg_x h)
theorem if_ev {c : Ev Bool} {k : Bool} {sa sb : SM} {o : SOut} (h : c ρ μ = .ok k μ1) (ha : k = true → sa ρ μ1 = o) (hb : k = false → sb ρ μ1 = o) : sIf c sa sb ρ μ = o := by
  cases k with
  | true => exact if_t h (ha rfl)
  | false => exact if_f h (hb rfl)
theorem if_T {c : Ev Bool} {k : Bool} {sa sb : SM} {o : SOut} (h : c ρ μ = .ok k μ1) (hk : k = true) (ha : sa ρ μ1 = o) : sIf c sa sb ρ μ = o := if_t (by rw [h, hk]) ha
theorem if_F {c : Ev Bool} {k : Bool} {sa sb : SM} {o : SOut} (h : c ρ μ = .ok k μ1) (hk : k = false) (hb : sb ρ μ1 = o) : sIf c sa sb ρ μ = o := if_f (by rw [h, hk]) hb
/-- an if that is not taken, without an else -/
theorem seq_ifn {c : Ev Bool} {k : Bool} {sa s : SM} {o : SOut} (h : c ρ μ = .ok k μ1) (hk : k = false) (hs : s ρ μ1 = o) : sSeq (sIf c sa sPass) s ρ μ = o := seq_step (if_F h hk rfl) hs
/-- .. that raises -/
theorem seq_ifx {c : Ev Bool} {k : Bool} {sb s : SM} {x : Str} (h : c ρ μ = .ok k μ1) (hk : k = true) : sSeq (sIf c (sRaise x) sb) s ρ μ = .exc ⟨x, none⟩ μ1 := seq_exc (if_T h hk rfl)
theorem seq_ifr {c : Ev Bool} {k : Bool} {sb s : SM} {d : MV} (h : c ρ μ = .ok k μ1) (hk : k = true) (hm : m ρ μ1 = .ok d μ2) : sSeq (sIf c (sRet m) sb) s ρ μ = .rt d μ2 := seq_rt (if_T h hk (ret_s hm))
theorem ret_ev (h : m ρ μ = .ok d μ1) (e : d = r) : sRet m ρ μ = .rt r μ1 := by rw [← e]; exact ret_s h
theorem itm_ev {t : Itm} (h : m ρ μ = .ok d μ1) (e : itmOf μ1 d = some t) : mItm m ρ μ = .ok t μ1 := mitm h e
/-! a walk over frozen data -/
theorem itmTm {α : Type} {f : α → MV} {xs : List α} : itmOf μ (.tup (xs.map f)) = some ⟨xs.map f, []⟩ := rfl
theorem itmLm {α : Type} {f : α → MV} {xs : List α} : itmOf μ (.lst (xs.map f)) = some ⟨xs.map f, []⟩ := rfl
theorem enum_ev {α : Type} {f : α → MV} {xs : List α} {chk : List (Nat × List MV)} (hs : ms ρ μ = .ok [d] μ1) (e : itmOf μ1 d = some ⟨xs.map f, chk⟩) : mEnum ms ρ μ = .ok ⟨(xs.zipIdx 0).map fun p => .tup [.int p.2, f p.1], chk⟩ μ1 := by
  rw [enum_ok hs e, enumL_map]
theorem zip_map {α β : Type} (f : α → MV) (g : β → MV) : ∀ (xs : List α) (ys : List β), zipL (xs.map f) (ys.map g) = (xs.zip ys).map fun p => .tup [f p.1, g p.2]
  | [], _ => by simp [zipL]
  | _ :: _, [] => by simp [zipL]
  | x :: xs, y :: ys => by
    have := zip_map f g xs ys
    unfold zipL at this ⊢
    simp [this]
theorem zip_ev {α β : Type} {f : α → MV} {g : β → MV} {xs : List α} {ys : List β} {k1 k2 : List (Nat × List MV)} (hs : ms ρ μ = .ok [a, b] μ1) (e1 : itmOf μ1 a = some ⟨xs.map f, k1⟩) (e2 : itmOf μ1 b = some ⟨ys.map g, k2⟩) : mZip ms ρ μ = .ok ⟨(xs.zip ys).map fun p => .tup [f p.1, g p.2], k1 ++ k2⟩ μ1 := by
  unfold mZip mItA mB
  rw [hs]
  dsimp only
  unfold zipOf
  dsimp only
  rw [e1, e2]
  dsimp only
  rw [zip_map]
  rfl
theorem for_ev {mi : Ev Itm} {g : TgM} {s : SM} {t : Itm} {o : SOut} (h : mi ρ μ = .ok t μ1) (k : forL t g s t.items ρ μ1 = o) : sFor mi g s ρ μ = o := sfor_of h k
end
/-! ### operations, as data -/
section
variable {μ : Mem} {α : Type}
theorem lenTm {f : α → MV} {xs : List α} : lenM μ [.tup (xs.map f)] = some (.int xs.length) := by rw [lenT', List.length_map]
theorem lenLm {f : α → MV} {xs : List α} : lenM μ [.lst (xs.map f)] = some (.int xs.length) := by rw [lenL, List.length_map]
theorem atI_map [Inhabited α] {f : α → MV} {xs : List α} {n : Nat} (h : n < xs.length) : atI (xs.map f) (n : Int) = some (f (xs.getD n default)) := by
  rw [atI_nat _ _ (by rw [List.length_map]; exact h), List.getElem_map]
  simp [h]
theorem ixTn [Inhabited α] {f : α → MV} {xs : List α} {n : Nat} {r : MV} (h : n < xs.length) (e : f (xs.getD n default) = r) : ixM μ (.tup (xs.map f)) (.int (n : Nat)) = some r := by rw [← e]; exact (ixT' _ _).trans (atI_map h)
theorem ixLn [Inhabited α] {f : α → MV} {xs : List α} {n : Nat} {r : MV} (h : n < xs.length) (e : f (xs.getD n default) = r) : ixM μ (.lst (xs.map f)) (.int (n : Nat)) = some r := by rw [← e]; exact (ixL _ _).trans (atI_map h)
theorem ixTi [Inhabited α] {f : α → MV} {xs : List α} {i : Int} {r : MV} (h : 0 ≤ i ∧ i < xs.length) (e : f (xs.getD i.toNat default) = r) : ixM μ (.tup (xs.map f)) (.int i) = some r := by
  have := ixTn (μ := μ) (f := f) (xs := xs) (n := i.toNat) (by omega) e
  rwa [show ((i.toNat : Nat) : Int) = i by omega] at this
theorem ixLi [Inhabited α] {f : α → MV} {xs : List α} {i : Int} {r : MV} (h : 0 ≤ i ∧ i < xs.length) (e : f (xs.getD i.toNat default) = r) : ixM μ (.lst (xs.map f)) (.int i) = some r := by
  have := ixLn (μ := μ) (f := f) (xs := xs) (n := i.toNat) (by omega) e
  rwa [show ((i.toNat : Nat) : Int) = i by omega] at this
theorem ixTk [Inhabited α] {f : α → MV} {xs : List α} {n : Nat} {r : MV} (h : n < xs.length) (e : f (xs.getD n default) = r) : ixM μ (.tup (xs.map f)) (.int (@OfNat.ofNat Int n _)) = some r := ixTn h e
theorem ixLk [Inhabited α] {f : α → MV} {xs : List α} {n : Nat} {r : MV} (h : n < xs.length) (e : f (xs.getD n default) = r) : ixM μ (.lst (xs.map f)) (.int (@OfNat.ofNat Int n _)) = some r := ixLn h e
theorem negI (i : Int) : negM μ (.int i) = some (.int (-i)) := rfl
theorem absI (i : Int) : absM μ [.int i] = some (.int i.natAbs) := by
  show some (MV.int (if i < 0 then -i else i)) = _
  congr 2
  omega
theorem tupLm {f : α → MV} {xs : List α} : tupleM μ [.lst (xs.map f)] = some (.tup (xs.map f)) := rfl
theorem tupTm {f : α → MV} {xs : List α} : tupleM μ [.tup (xs.map f)] = some (.tup (xs.map f)) := rfl
theorem lstTm {f : α → MV} {xs : List α} : listM μ [.tup (xs.map f)] = some (.lst (xs.map f)) := rfl
theorem lstLm {f : α → MV} {xs : List α} : listM μ [.lst (xs.map f)] = some (.lst (xs.map f)) := rfl
theorem allE {f : α → Bool} {xs : List α} : allM μ [.lst (xs.map fun x => .bl (f x))] = some (.bl (xs.all f)) := all_map μ f xs
theorem anyE {f : α → Bool} {xs : List α} : anyM μ [.lst (xs.map fun x => .bl (f x))] = some (.bl (xs.any f)) := any_map μ f xs
theorem sumE {f : α → Int} {xs : List α} : sumSM μ [.lst (xs.map fun x => .int (f x))] = some (.int (xs.map f).sum) := sumS_map μ f xs
theorem intB (b : Bool) : intM μ [.bl b] = some (.int (if b = true then 1 else 0)) := by cases b <;> rfl
theorem intI (i : Int) : intM μ [.int i] = some (.int i) := rfl
theorem ev_eq {ρ : MM.Env} {μ1 : Mem} {m : Ev MV} {d r : MV} (h : m ρ μ = .ok d μ1) (e : d = r) : m ρ μ = .ok r μ1 := by rw [← e]; exact h
theorem seqT {xs : List MV} : seqOf μ (.tup xs) = some xs := rfl
theorem seqL {xs : List MV} : seqOf μ (.lst xs) = some xs := rfl
theorem slTt {f : α → MV} {xs : List α} {n : Nat} : sliceM μ (.tup (xs.map f)) none (some ((n : Nat) : Int)) = some (.tup ((xs.take n).map f)) := by
  show some (MV.tup (cutM (xs.map f) none (some ((n : Nat) : Int)))) = _
  rw [cut_to, List.map_take]
theorem slTd {f : α → MV} {xs : List α} {n : Nat} : sliceM μ (.tup (xs.map f)) (some ((n : Nat) : Int)) none = some (.tup ((xs.drop n).map f)) := by
  show some (MV.tup (cutM (xs.map f) (some ((n : Nat) : Int)) none)) = _
  rw [cut_from, List.map_drop]
theorem slLt {f : α → MV} {xs : List α} {n : Nat} : sliceM μ (.lst (xs.map f)) none (some ((n : Nat) : Int)) = some (.lst ((xs.take n).map f)) := by
  rw [sliceL (xs := xs.map f) rfl, cut_to, List.map_take]
theorem slLd {f : α → MV} {xs : List α} {n : Nat} : sliceM μ (.lst (xs.map f)) (some ((n : Nat) : Int)) none = some (.lst ((xs.drop n).map f)) := by
  rw [sliceL (xs := xs.map f) rfl, cut_from, List.map_drop]
theorem slTd1 {f : α → MV} {xs : List α} {n : Nat} : sliceM μ (.tup (xs.map f)) (some (((n : Nat) : Int) + 1)) none = some (.tup ((xs.drop (n + 1)).map f)) := slTd (n := n + 1)
theorem slLd1 {f : α → MV} {xs : List α} {n : Nat} : sliceM μ (.lst (xs.map f)) (some (((n : Nat) : Int) + 1)) none = some (.lst ((xs.drop (n + 1)).map f)) := slLd (n := n + 1)
theorem slTdk {f : α → MV} {xs : List α} {n : Nat} : sliceM μ (.tup (xs.map f)) (some (@OfNat.ofNat Int n _)) none = some (.tup ((xs.drop n).map f)) := slTd
theorem slLdk {f : α → MV} {xs : List α} {n : Nat} : sliceM μ (.lst (xs.map f)) (some (@OfNat.ofNat Int n _)) none = some (.lst ((xs.drop n).map f)) := slLd
theorem slTtk {f : α → MV} {xs : List α} {n : Nat} : sliceM μ (.tup (xs.map f)) none (some (@OfNat.ofNat Int n _)) = some (.tup ((xs.take n).map f)) := slTt
theorem slLtk {f : α → MV} {xs : List α} {n : Nat} : sliceM μ (.lst (xs.map f)) none (some (@OfNat.ofNat Int n _)) = some (.lst ((xs.take n).map f)) := slLt
theorem addT {xs ys : List MV} (h : xs.length + ys.length ≤ sizeLine) : addM μ (.tup xs) (.tup ys) = some (.tup (xs ++ ys)) := by
  first | exact if_pos h | (unfold addM; simp [h])
theorem addL {xs ys : List MV} (h : xs.length + ys.length ≤ sizeLine) : addM μ (.lst xs) (.lst ys) = some (.lst (xs ++ ys)) := by
  first | exact if_pos h | (unfold addM; simp [h, lstOf]) 
theorem cut_one {f : α → MV} {x : α} : [f x] = [x].map f := rfl
theorem map_app {f : α → MV} {xs ys : List α} : xs.map f ++ ys.map f = (xs ++ ys).map f := (List.map_append ..).symm
end
end PL

set_option Elab.async false
set_option linter.all false
set_option maxRecDepth 100000
set_option maxHeartbeats 100000
local macro_rules | `(tactic| contradiction) => `(tactic| (show (_ : Prop); first | assumption | omega | decide | ((with_reducible apply PL.Sds.nil) <;> (first | contradiction | skip)) | ((with_reducible apply PL.Sds.cons) <;> (first | contradiction | skip)) | ((with_reducible apply PL.SdT) <;> (first | contradiction | skip)) | ((with_reducible apply PL.SdL) <;> (first | contradiction | skip)) | ((with_reducible apply PL.Sd.bl) <;> (first | contradiction | skip)) | ((with_reducible apply PL.Sd.non) <;> (first | contradiction | skip)) | ((with_reducible apply PL.SdI) <;> (first | contradiction | skip)) | ((with_reducible apply PL.SdN) <;> (first | contradiction | skip)) | ((with_reducible apply PL.SdIf) <;> (first | contradiction | skip)) | ((with_reducible apply PL.Sds.map (L := 5) (by first | omega | (simp <;> omega))) <;> (first | (intro x hx; first | contradiction | skip) | skip)) | ((with_reducible apply PL.Sds.map (L := 20) (by first | omega | (simp <;> omega))) <;> (first | (intro x hx; first | contradiction | skip) | skip)) | ((with_reducible apply PL.Sds.map (L := 100) (by first | omega | (simp <;> omega))) <;> (first | (intro x hx; first | contradiction | skip) | skip)) | ((with_reducible apply PL.Sds.map (L := 1000) (by first | omega | (simp <;> omega))) <;> (first | (intro x hx; first | contradiction | skip) | skip)) | ((with_reducible apply PL.SdS (n := 12)) <;> decide +kernel) | exact PL.le_size (by first | omega | (simp <;> omega)) | exact List.mem_range.mp (by assumption) | (simp <;> omega)))
local macro_rules | `(tactic| infer_instance) => `(tactic| first
  | with_reducible exact PL.addI' _ _
  | with_reducible exact PL.subI _ _
  | with_reducible exact PL.eqI _ _ _
  | with_reducible exact PL.neI' _ _
  | with_reducible exact PL.ltI _ _
  | with_reducible exact PL.leI _ _
  | with_reducible exact PL.gtI _ _
  | with_reducible exact PL.geI _ _
  | with_reducible exact PL.negI _
  | with_reducible exact PL.absI _
  | with_reducible exact PL.intB _
  | with_reducible exact PL.intI _
  | with_reducible exact PL.lenTm
  | with_reducible exact PL.lenLm
  | with_reducible exact PL.lenT' _
  | with_reducible exact PL.lenL _
  | with_reducible exact PL.tupLm
  | with_reducible exact PL.tupTm
  | with_reducible exact PL.lstTm
  | with_reducible exact PL.lstLm
  | with_reducible exact PL.allE
  | with_reducible exact PL.anyE
  | with_reducible exact PL.sumE
  | with_reducible exact PL.itmTm
  | with_reducible exact PL.itmLm
  | with_reducible exact PL.seqT
  | with_reducible exact PL.seqL
  | with_reducible exact PL.slTt
  | with_reducible exact PL.slTd
  | with_reducible exact PL.slLt
  | with_reducible exact PL.slLd
  | with_reducible exact PL.slTd1
  | with_reducible exact PL.slLd1
  | with_reducible exact PL.slTdk
  | with_reducible exact PL.slLdk
  | with_reducible exact PL.slTtk
  | with_reducible exact PL.slLtk
  | ((with_reducible apply PL.ixTn) <;> (first | (show _ = _; exact rfl) | contradiction | skip))
  | ((with_reducible apply PL.ixLn) <;> (first | (show _ = _; exact rfl) | contradiction | skip))
  | ((with_reducible apply PL.ixTk) <;> (first | (show _ = _; exact rfl) | contradiction | skip))
  | ((with_reducible apply PL.ixLk) <;> (first | (show _ = _; exact rfl) | contradiction | skip))
  | ((with_reducible apply PL.ixTi) <;> (first | (show _ = _; exact rfl) | contradiction | skip))
  | ((with_reducible apply PL.ixLi) <;> (first | (show _ = _; exact rfl) | contradiction | skip))
  | ((with_reducible apply PL.mulI') <;> (first | (show _ = _; exact rfl) | contradiction | skip))
  | ((with_reducible apply PL.fdivI) <;> (first | (show _ = _; exact rfl) | contradiction | skip))
  | ((with_reducible apply PL.modI) <;> (first | (show _ = _; exact rfl) | contradiction | skip))
  | ((with_reducible apply PL.addT) <;> (first | (show _ = _; exact rfl) | contradiction | skip))
  | ((with_reducible apply PL.addL) <;> (first | (show _ = _; exact rfl) | contradiction | skip))
  | exact PL.itmC (by assumption)
  | exact rfl)
local macro_rules | `(tactic| left) => `(tactic| first
  | with_reducible exact PL.k_ok
  | with_reducible exact PL.var_ok rfl
  | with_reducible exact PL.nil_ok
  | with_reducible exact PL.nopart_ok
  | ((with_reducible apply PL.op_ok) <;> (first | left | infer_instance | skip))
  | ((with_reducible apply PL.un_ok) <;> (first | left | infer_instance | skip))
  | ((with_reducible apply PL.cons_ok) <;> (try left))
  | ((with_reducible apply PL.star_ok) <;> (first | left | infer_instance | skip))
  | ((with_reducible apply PL.cb_ok) <;> (first | left | infer_instance | skip))
  | ((with_reducible apply PL.tup_ev) <;> (first | left | exact PL.le_size0 (by simp) | skip))
  | ((with_reducible apply PL.lst_ev) <;> (first | left | exact PL.le_size0 (by simp) | skip))
  | ((with_reducible apply PL.t_ok) <;> (try left))
  | ((with_reducible apply PL.not_ok) <;> (try left))
  | ((with_reducible apply PL.and_ok) <;> (first | left | (intro _; left) | skip))
  | ((with_reducible apply PL.or_ok) <;> (first | left | (intro _; left) | skip))
  | ((with_reducible apply PL.ifE_ok) <;> (first | left | (intro _; left) | skip))
  | ((with_reducible apply PL.chain_ok) <;> (first | left | infer_instance | skip))
  | ((with_reducible apply PL.part_ok) <;> (try left))
  | ((with_reducible apply PL.slice_ok) <;> (first | left | infer_instance | skip))
  | ((with_reducible apply PL.itm_ev) <;> (first | left | infer_instance | skip))
  | ((with_reducible apply PL.rngE1) <;> (first | left | omega | skip))
  | ((with_reducible apply PL.enum_ev) <;> (first | left | infer_instance | skip))
  | ((with_reducible apply PL.zip_ev) <;> (first | left | infer_instance | skip))
  | ((with_reducible apply PL.mcomp_mapE) <;> (first | left | exact PL.ok_nil | exact PL.ok_one (by assumption) | exact PL.le_size (by first | omega | (simp <;> omega)) | (intro x hx; refine ⟨_, rfl, ?_⟩; try left) | skip))
  | ((with_reducible apply PL.mcomp_filE) <;> (first | left | exact PL.ok_nil | exact PL.ok_one (by assumption) | exact PL.le_size (by first | omega | (simp <;> omega)) | (intro x hx; refine ⟨_, rfl, ?_, fun hp => ?_⟩ <;> (try left)) | skip))
  | ((with_reducible apply PL.call_ev) <;> (first | left | (show List.length _ = _; exact rfl) | right | skip))
  | ((with_reducible apply PL.seq_set) <;> (first | left | ((show _ = _); (try simp only [PL.gT2, PL.gT3, PL.gT1, PL.gN', List.set_cons_succ, List.set_cons_zero]); exact rfl) | skip))
  | ((with_reducible apply PL.seq_asg) <;> (first | left | ((show _ = _); (try simp only [PL.gT2, PL.gT3, PL.gT1, PL.gN', List.set_cons_succ, List.set_cons_zero]); exact rfl) | skip))
  | ((with_reducible apply PL.seq_drop) <;> (try left))
  | ((with_reducible apply PL.seq_par) <;> (first | left | ((show _ = _); (try simp only [PL.gT2, PL.gT3, PL.gT1, PL.gN', List.set_cons_succ, List.set_cons_zero]); exact rfl) | skip))
  | ((with_reducible apply PL.asg_ev) <;> (first | left | ((show _ = _); (try simp only [PL.gT2, PL.gT3, PL.gT1, PL.gN', List.set_cons_succ, List.set_cons_zero]); exact rfl) | skip))
  | ((with_reducible apply PL.par_ev) <;> (first | left | ((show _ = _); (try simp only [PL.gT2, PL.gT3, PL.gT1, PL.gN', List.set_cons_succ, List.set_cons_zero]); exact rfl) | skip))
  | ((with_reducible apply PL.ret_ev) <;> (first | left | exact rfl | skip))
  | with_reducible assumption
  | fail)

namespace Crd
section
variable {cs : Cs} {ws : Ws} {n m : Nat} {row : Rw}
theorem filter_len_lt {α : Type} {p q : α → Bool} : ∀ {l : List α}, (∀ x ∈ l, p x = true → q x = true) → (∃ x ∈ l, q x = true ∧ p x = false) → (l.filter p).length < (l.filter q).length := by
  have le : ∀ {l : List α}, (∀ x ∈ l, p x = true → q x = true) → (l.filter p).length ≤ (l.filter q).length := by
    intro l h
    induction l with
    | nil => simp
    | cons x l ih =>
      have ih := ih fun y hy => h y (List.mem_cons_of_mem _ hy)
      have hx := h x List.mem_cons_self
      rw [List.filter_cons, List.filter_cons]
      cases hp : p x <;> cases hq : q x <;> simp_all <;> omega
  intro l h ⟨x, hx, h1, h2⟩
  induction l with
  | nil => cases hx
  | cons y l ih =>
    have le := le fun z hz => h z (List.mem_cons_of_mem _ hz)
    rw [List.filter_cons, List.filter_cons]
    rcases List.mem_cons.mp hx with rfl | hx
    · rw [h1, h2]; simp; omega
    · have ih := ih (fun z hz => h z (List.mem_cons_of_mem _ hz)) hx
      have hy := h y List.mem_cons_self
      cases hp : p y <;> cases hq : q y <;> simp_all <;> omega
/-- how many rows are lower -/
def nlow (cs : Cs) (ws : Ws) (r : Rw) : Nat := ((rows ws).filter fun q => decide (height cs ws q < height cs ws r)).length
theorem chp_row (ok : OkC cs ws n m) (hr : OkR ws row) {u c : Nat} (h : chp cs ws row = some (u, c)) : OkR ws (chg row u c) ∧ height cs ws (chg row u c) < height cs ws row := by
  obtain ⟨h1, h2, h3⟩ := chp_in h
  have wl := ok.wl
  refine ⟨chg_ok hr h1 h2, ?_⟩
  have := height_chg ok hr (u := u) (c := c) (by omega) h2
  have h3 : pay cs ws (chg row u c) u < pay cs ws row u := of_decide_eq_true h3
  omega
theorem nlow_lt (ok : OkC cs ws n m) (hr : OkR ws row) {u c : Nat} (h : chp cs ws row = some (u, c)) : nlow cs ws (chg row u c) < nlow cs ws row := by
  obtain ⟨h1, h2⟩ := chp_row ok hr h
  refine filter_len_lt (fun x _ hx => ?_) ⟨chg row u c, mem_rows.mpr h1, decide_eq_true h2, decide_eq_false (by omega)⟩
  have := of_decide_eq_true hx
  exact decide_eq_true (by omega)
/-- the way down, of so many steps at most -/
def dn (cs : Cs) (ws : Ws) : Nat → Rw → List Rw
  | 0, r => [r]
  | k + 1, r => match chp cs ws r with
    | some (u, c) => r :: dn cs ws k (chg r u c)
    | none => [r]
theorem dn_ne (k : Nat) (r : Rw) : ∃ t, dn cs ws k r = r :: t := by
  cases k with
  | zero => exact ⟨[], rfl⟩
  | succ k =>
    unfold dn
    split
    · exact ⟨_, rfl⟩
    · exact ⟨[], rfl⟩
end
end Crd
namespace K33
open PySem PySem.Spec PyProof.Rows L2 MM PL Crd
section
variable {cs : Cs} {ws : Ws} {n m : Nat} {μ : Mem} {row : Rw} {ρ : MM.Env}
theorem last_ix {μ : Mem} {i : Nat} {xs : List MV} {y : MV} (h : μ[i]? = some (.lst (xs ++ [y]))) : ixM μ (.ref i) (.int (-1)) = some y := by
  rw [ixC (-1) h]
  unfold atI ixN
  rw [if_neg (by omega), if_pos (by rw [List.length_append]; simp; omega)]
  have : (-1 + ((xs ++ [y]).length : Int)).toNat = xs.length := by rw [List.length_append]; simp; omega
  rw [this]
  simp
theorem isNot (o : Option (Nat × Nat)) : isNotM μ (rOpt o) .non = some (.bl o.isSome) := by cases o <;> rfl
set_option trace.profiler false in
theorem way_loop (hm : okMem μ) (ok : OkC cs ws n m) (u2 : Option MV) : ∀ (k : Nat) (L : List Rw) (r : Rw) (N : Nat) (u5 u6 : Option MV), OkR ws r → nlow cs ws r ≤ k → k < N → L.length + k ≤ 1000 → ∃ v5 v6, whileN (mT C2_p_way_down) B1_p_way_down N [some (rCo cs), some (rWs ws), u2, some (.ref μ.length), some (rOpt (chp cs ws r)), u5, u6] (μ ++ [.lst (rRs (L ++ [r]))]) = .nx [some (rCo cs), some (rWs ws), u2, some (.ref μ.length), some .non, v5, v6] (μ ++ [.lst (rRs (L ++ dn cs ws k r))]) := by
  intro k
  induction k with
  | zero =>
    intro L r N u5 u6 hr hn hk hl
    cases hc : chp cs ws r with
    | none =>
      obtain ⟨N, rfl⟩ : ∃ q, N = q + 1 := ⟨N - 1, by omega⟩
      refine ⟨u5, u6, while_stop ?_⟩
      left
    | some p =>
      obtain ⟨u, c⟩ := p
      have := nlow_lt ok hr hc
      omega
  | succ k ih =>
    intro L r N u5 u6 hr hn hk hl
    obtain ⟨N, rfl⟩ : ∃ q, N = q + 1 := ⟨N - 1, by omega⟩
    unfold dn
    cases hc : chp cs ws r with
    | none =>
      refine ⟨u5, u6, while_stop ?_⟩
      left
    | some p =>
      obtain ⟨u, c⟩ := p
      obtain ⟨h1, h2⟩ := chp_row ok hr hc
      have h3 := nlow_lt ok hr hc
      have hl1 := hr.l
      have hu := (chp_in hc).1
      have m4 := ok.m1
      have wl := ok.wl
      obtain ⟨v5, v6, ih⟩ := ih (L ++ [r]) (chg r u c) N (some (.int (u : Nat))) (some (.int (c : Nat))) h1 (by omega) (by omega) (by rw [List.length_append]; simp; omega)
      rw [show L ++ [r] ++ dn cs ws k (chg r u c) = L ++ (r :: dn cs ws k (chg r u c)) by simp] at ih
      refine ⟨v5, v6, (while_go (μ1 := μ ++ [.lst (rRs (L ++ [r]))]) ?_ ?_).trans ih⟩
      · left
      · have gl : ∀ X : List MV, (μ ++ [Cell.lst X])[μ.length]? = some (.lst X) := fun X => get_last
        have gr : rRs (L ++ [r]) = rRs L ++ [rRow r] := by simp [rRs]
        have gr2 : rRs (L ++ [r] ++ [chg r u c]) = rRs L ++ [rRow r] ++ [rRow (chg r u c)] := by simp [rRs]
        refine seq_asg (ρ2 := [some (rCo cs), some (rWs ws), u2, some (.ref μ.length), some (rOpt (some (u, c))), some (.int (u : Nat)), some (.int (c : Nat))]) (μ2 := μ ++ [.lst (rRs (L ++ [r]))]) (by left) rfl ?_
        refine seq_step (appL_s (y := rRow (chg r u c)) (var_ok rfl) ?_ ?_) ?_
        · refine ev_eq (d := .tup ((r.take u).map rNt ++ (rNt c :: ((r.drop (u + 1)).map rNt ++ [])))) ?_ (by rw [chg_rep, List.append_nil])
          refine tup_ev (ds := (r.take u).map rNt ++ (rNt c :: ((r.drop (u + 1)).map rNt ++ []))) (star_ok (slice_ok (op_ok (var_ok rfl) (un_ok k_ok (negI _)) ?_) nopart_ok (part_ok (var_ok rfl)) (cut_t _ r u)) rfl (cons_ok (var_ok rfl) (star_ok (ds := []) (slice_ok (op_ok (var_ok rfl) (un_ok k_ok (negI _)) ?_) (part_ok (op_ok (var_ok rfl) k_ok (addI' _ _))) nopart_ok (cut_d _ r u)) rfl nil_ok))) ?_
          · rw [gr]; exact last_ix (gl _)
          · rw [gr]; exact last_ix (gl _)
          · exact le_size (by simp; omega)
        · simp [rRs]; omega
        · rw [show rRs (L ++ [r]) ++ [rRow (chg r u c)] = rRs (L ++ [r] ++ [chg r u c]) by simp [rRs]]
          refine asg_ok (call_ok (cons_ok (var_ok rfl) (cons_ok (var_ok rfl) (one_ok (op_ok (var_ok rfl) (by left) ?_)))) rfl (cheaper_ok (okMem_snoc hm (nrs_Rs _)) ok h1)) rfl
          rw [gr2]; exact last_ix (gl _)
end
end K33

set_option Elab.async false
set_option linter.all false
set_option maxRecDepth 100000
set_option maxHeartbeats 400000

namespace K33
open PySem PySem.Spec PyProof.Rows L2 MM PL Crd
section
variable {cs : Cs} {ws : Ws} {n m : Nat} {μ : Mem} {row : Rw} {ρ : MM.Env}
theorem way_down_ok (hm : okMem μ) (ok : OkC cs ws n m) (hr : OkR ws row) : F_p_way_down [rCo cs, rWs ws, rRow row] μ = .ok (.lst (rRs (dn cs ws 81 row))) μ := by
  have rl := rows_len ok
  have nl : nlow cs ws row ≤ 81 := Nat.le_trans (List.length_filter_le _ _) rl
  have cr := check_row_ok hm ok hr
  have ch := cheaper_ok (μ := μ ++ [.lst (rRs [row])]) (okMem_snoc hm (nrs_Rs _)) ok hr
  obtain ⟨v5, v6, h⟩ := way_loop hm ok (some (rRow row)) 81 [] row FUEL none none hr nl (by unfold FUEL; omega) (by simp)
  refine run_cell (i := μ.length) (ν := [.lst (rRs (dn cs ws 81 row))]) (show M_p_way_down [some (rCo cs), some (rWs ws), some (rRow row), none, none, none, none] μ = _ from ?_) (Nat.le_refl _) get_last (nrs_Rs _) hm
  unfold M_p_way_down
  refine seq_drop (call_ok (cons_ok (var_ok rfl) (cons_ok (var_ok rfl) (one_ok (var_ok rfl)))) rfl cr) ?_
  refine seq_set (lstC_ok (one_ok (var_ok rfl))) rfl ?_
  refine seq_set (call_ok (cons_ok (var_ok rfl) (cons_ok (var_ok rfl) (one_ok (var_ok rfl)))) rfl ch) rfl ?_
  refine seq_step h ?_
  exact ret_s (var_ok rfl)
theorem rows_ne (ok : OkC cs ws n m) : rows ws ≠ [] := fun e => by
  have := mem_rows.mpr (zero_row ok)
  rw [e] at this
  cases this
/-- the lowest row -/
def lwst (cs : Cs) (ws : Ws) : Rw := (lowP ((rows ws).map fun r => (height cs ws r, r))).2
theorem lowest_ok (hm : okMem μ) (ok : OkC cs ws n m) : F_p_lowest [rCo cs, rWs ws] μ = .ok (rRow (lwst cs ws)) μ := by
  have rl := rows_len ok
  have cc := check_crowd_ok hm ok
  refine run_rt0 (show M_p_lowest [some (rCo cs), some (rWs ws), none] μ = _ from ?_) (nr_Row _) hm
  unfold M_p_lowest
  refine seq_drop (call_ok (cons_ok (var_ok rfl) (one_ok (var_ok rfl))) rfl cc) ?_
  refine ret_s (op_ok (cb_ok (one_ok (mcomp_mapR (α := Rw) (r := .lst (((rows ws).map fun r => (height cs ws r, r)).map rSR)) rRow (fun r => rSR (height cs ws r, r)) (rows ws) (rows_ok hm ok (var_ok rfl)) (le_size (by omega)) (fun r hr => ⟨_, rfl, ?_⟩) (by rw [List.map_map]; rfl))) (min_low (fun e => rows_ne ok (List.map_eq_nil_iff.mp e)) (asc_map (f := fun r => (height cs ws r, r)) (fun _ => rfl) (rows_asc ws)))) k_ok rfl)
  have kh := known_height_ok hm ok (mem_rows.mp hr)
  exact tup_ev (cons_ok (call_ok (cons_ok (var_ok rfl) (cons_ok (var_ok rfl) (one_ok (var_ok rfl)))) rfl kh) (one_ok (var_ok rfl))) (le_size (by simp))
/-- who chooses otherwise -/
def dif (ws : Ws) (a b : Rw) : List Nat := (List.range ws.length).filter fun u => !decide (a.getD u 0 = b.getD u 0)
def stepB (cs : Cs) (ws : Ws) (a b : Rw) : Bool := match dif ws a b with
  | [u] => decide (pay cs ws b u < pay cs ws a u)
  | _ => false
def jdg (cs : Cs) (ws : Ws) (rs : List Rw) : Bool := !decide (rs.length = 0) && rs.all (fun r => decide (r ∈ rows ws)) && (rs.zip (rs.drop 1)).all fun p => stepB cs ws p.1 p.2
abbrev dR (r : Rw) : PyData := .tuple (List.map (fun n : Nat => PyData.int (n : Int)) r)
theorem dt_row : Dt 1 rRow dR := Dt.tup Dt.nat
theorem nat_ne (i j : Nat) (μ : Mem) : neM μ (.int (i : Nat)) (.int (j : Nat)) = some (.bl (!decide (i = j))) := by
  rw [neI']
  congr 3
  exact decide_eq_decide.mpr Int.ofNat_inj
theorem row_ix (hr : OkR ws row) {u : Nat} (hu : u < ws.length) (μ : Mem) : ixM μ (rRow row) (.int (u : Nat)) = some (.int ((row.getD u 0 : Nat) : Int)) := ch_ix hr hu μ
/-- one pair of rows, as judged -/
theorem judge_step (hm : okMem μ) (ok : OkC cs ws n m) {a b : Rw} (ha : OkR ws a) (hb : OkR ws b) (u2 u3 u6 u7 : Option MV) :
    (stepB cs ws a b = true → ∃ v6 v7, B1_p_judge_way [some (rCo cs), some (rWs ws), u2, u3, some (rRow a), some (rRow b), u6, u7, none] μ = .nx [some (rCo cs), some (rWs ws), u2, u3, some (rRow a), some (rRow b), v6, v7, none] μ) ∧
    (stepB cs ws a b = false → B1_p_judge_way [some (rCo cs), some (rWs ws), u2, u3, some (rRow a), some (rRow b), u6, u7, none] μ = .rt (.bl false) μ) := by
  have wl := ok.wl
  have m4 := ok.m1
  have ka := known_pays_ok hm ok ha
  have kb := known_pays_ok hm ok hb
  have hd : mComp (List.map (·.2) ([("user", 7)] : List (Str × Nat))) (mRng rng1 (mCons (mCB lenM (mCons (mVar 1) mNil)) mNil)) (gN 7) (mT (mOp neM (mOp ixM (mVar 4) (mVar 7)) (mOp ixM (mVar 5) (mVar 7)))) (mVar 7) [some (rCo cs), some (rWs ws), u2, u3, some (rRow a), some (rRow b), u6, u7, none] μ = .ok (.lst ((dif ws a b).map fun u : Nat => .int (u : Nat))) μ := by
    unfold dif
    refine mcomp_filE (rep := fun i : Nat => .int (i : Nat)) (chk := []) (rngE1 (by left) (by omega)) ok_nil (le_size (by simp; omega)) fun u hu => ⟨_, rfl, ?_, fun _ => by left⟩
    have hu := List.mem_range.mp hu
    exact t_ok (op_ok (op_ok (var_ok rfl) (var_ok rfl) (row_ix ha hu μ)) (op_ok (var_ok rfl) (var_ok rfl) (row_ix hb hu μ)) (nat_ne _ _ μ))
  have dn : ∀ u ∈ dif ws a b, u < ws.length := fun u hu => List.mem_range.mp (List.mem_filter.mp hu).1
  unfold B1_p_judge_way
  rcases hD : dif ws a b with _ | ⟨u, _ | ⟨v, t⟩⟩
  · have sb : stepB cs ws a b = false := by unfold stepB; rw [hD]
    rw [sb]
    refine ⟨fun h => (by cases h), fun _ => ?_⟩
    rw [hD] at hd
    refine seq_set hd rfl ?_
    exact seq_ifr (t_ok (by left)) (by simp) k_ok
  · have sb : stepB cs ws a b = decide (pay cs ws b u < pay cs ws a u) := by unfold stepB; rw [hD]
    have hu := dn u (by rw [hD]; simp)
    have px : ∀ r : Rw, ixM μ (.lst ((pays cs ws r).map .int)) (.int (u : Nat)) = some (.int (pay cs ws r u)) := fun r => (ixL _ _).trans (pay_ix ok hu)
    rw [hD] at hd
    have tst : mT (mOp geM (mOp ixM (mCall 3 F_p_known_pays (mCons (mVar 0) (mCons (mVar 1) (mCons (mVar 5) mNil)))) (mVar 7)) (mOp ixM (mCall 3 F_p_known_pays (mCons (mVar 0) (mCons (mVar 1) (mCons (mVar 4) mNil)))) (mVar 7))) [some (rCo cs), some (rWs ws), u2, u3, some (rRow a), some (rRow b), some (.lst [.int (u : Nat)]), some (.int (u : Nat)), none] μ = .ok (decide (pay cs ws a u ≤ pay cs ws b u)) μ := t_ok (op_ok (op_ok (call_ok (cons_ok (var_ok rfl) (cons_ok (var_ok rfl) (one_ok (var_ok rfl)))) rfl kb) (var_ok rfl) (px b)) (op_ok (call_ok (cons_ok (var_ok rfl) (cons_ok (var_ok rfl) (one_ok (var_ok rfl)))) rfl ka) (var_ok rfl) (px a)) (geI _ _))
    rw [sb]
    refine ⟨fun h => ⟨some (.lst [.int (u : Nat)]), some (.int (u : Nat)), ?_⟩, fun h => ?_⟩
    · have h := of_decide_eq_true h
      refine seq_set hd rfl ?_
      refine seq_ifn (t_ok (by left)) (by simp) ?_
      refine seq_set (i := 7) (d := .int (u : Nat)) (by left) rfl ?_
      exact if_F tst (decide_eq_false (by omega)) rfl
    · have h := of_decide_eq_false h
      refine seq_set hd rfl ?_
      refine seq_ifn (t_ok (by left)) (by simp) ?_
      refine seq_set (i := 7) (d := .int (u : Nat)) (by left) rfl ?_
      exact if_T tst (decide_eq_true (by omega)) (ret_s k_ok)
  · have sb : stepB cs ws a b = false := by unfold stepB; rw [hD]
    rw [sb]
    refine ⟨fun h => (by cases h), fun _ => ?_⟩
    rw [hD] at hd
    refine seq_set hd rfl ?_
    exact seq_ifr (t_ok (by left)) (by simp; omega) k_ok
theorem judge_way_ok (hm : okMem μ) (ok : OkC cs ws n m) {d : MV} {chk : List (Nat × List MV)} {rs : List Rw} (hl : rs.length ≤ 1000) (hd : lstOf μ d = some (rRs rs)) (hi : itmOf μ d = some ⟨rRs rs, chk⟩) (hc : ∀ xs, Itm.ok ⟨xs, chk⟩ μ) : F_p_judge_way [rCo cs, rWs ws, d] μ = .ok (.bl (jdg cs ws rs)) μ := by
  have cc := check_crowd_ok hm ok
  have m4 := ok.m1
  have h3 : ∀ o ∈ ws, o.length ≤ 3 := fun o h => (ok.ol o h).2
  have rw' := rows_of_ok (μ := μ) hm h3 (by have := ok.wl; omega)
  have ld : lenM μ [d] = some (.int (rs.length : Nat)) := by
    cases d with
    | lst ys => cases hd; exact (lenL _).trans (by simp)
    | ref i =>
      have : celOf μ i = some (rRs rs) := hd
      show ((celOf μ i).map fun xs => MV.int xs.length) = _
      rw [this]; simp [rRs]
    | _ => cases hd
  have all : mComp (List.map (·.2) ([("row", 8)] : List (Str × Nat))) (mItm (mVar 2)) (gN 8) mYes (mOp inM (mVar 8) (mVar 3)) [some (rCo cs), some (rWs ws), some d, some (.lst (rRs (rows ws))), none, none, none, none, none] μ = .ok (.lst (rs.map fun r => .bl (decide (r ∈ rows ws)))) μ :=
    mcomp_mapE (rep := rRow) (itm_ev (var_ok rfl) hi) (hc _) (le_size (by omega)) fun r hr => ⟨_, rfl, op_ok (var_ok rfl) (var_ok rfl) ((dt_row.inM (by omega) rfl r).trans (by congr))⟩
  have tst : mT (mOr (mOp eqM (mCB lenM (mCons (mVar 2) mNil)) (mRet (.int 0))) (mNot (mCB allM (mCons (mComp (List.map (·.2) ([("row", 8)] : List (Str × Nat))) (mItm (mVar 2)) (gN 8) mYes (mOp inM (mVar 8) (mVar 3))) mNil)))) [some (rCo cs), some (rWs ws), some d, some (.lst (rRs (rows ws))), none, none, none, none, none] μ = .ok (decide (rs.length = 0) || !(rs.all fun r => decide (r ∈ rows ws))) μ := by
    refine t_ok (or_ok (op_ok (cb_ok (one_ok (var_ok rfl)) ld) k_ok ((eqI _ _ _).trans ?_)) fun _ => not_ok (cb_ok (one_ok all) (all_map μ _ rs)))
    congr 2
    exact decide_eq_decide.mpr (by omega)
  refine run_rt0 (show M_p_judge_way [some (rCo cs), some (rWs ws), some d, none, none, none, none, none, none] μ = _ from ?_) rfl hm
  unfold M_p_judge_way
  refine seq_drop (call_ok (cons_ok (var_ok rfl) (one_ok (var_ok rfl))) rfl cc) ?_
  refine seq_set (call_ok (one_ok (var_ok rfl)) rfl rw') rfl ?_
  unfold jdg
  rcases hq : (decide (rs.length = 0) || !(rs.all fun r => decide (r ∈ rows ws))) with _ | _
  · rw [hq] at tst
    have e1 : (!decide (rs.length = 0) && rs.all fun r => decide (r ∈ rows ws)) = true := by
      revert hq; cases decide (rs.length = 0) <;> cases (rs.all fun r => decide (r ∈ rows ws)) <;> simp
    rw [e1, Bool.true_and]
    have mem : ∀ r ∈ rs, OkR ws r := fun r hr => mem_rows.mp (of_decide_eq_true (List.all_eq_true.mp (Bool.and_eq_true_iff.mp e1).2 r hr))
    refine seq_ifn tst rfl ?_
    have zi : mZip (mCons (mVar 2) (mCons (mSlice (mVar 2) (mPart (mRet (.int 1))) mNoPart) mNil)) [some (rCo cs), some (rWs ws), some d, some (.lst (rRs (rows ws))), none, none, none, none, none] μ = .ok ⟨(rs.zip (rs.drop 1)).map fun p => .tup [rRow p.1, rRow p.2], chk ++ []⟩ μ := by
      refine zip_ev (cons_ok (var_ok rfl) (one_ok (slice_ok (var_ok rfl) (part_ok k_ok) nopart_ok ?_))) hi (show itmOf μ (.lst ((rs.drop 1).map rRow)) = some ⟨(rs.drop 1).map rRow, []⟩ from rfl)
      rw [sliceL hd]
      have := cut_from (rRs rs) 1
      rw [show ((1 : Nat) : Int) = 1 from rfl] at this
      rw [this, rRs, List.map_drop]
    have F := for_all (t := ⟨(rs.zip (rs.drop 1)).map fun p => .tup [rRow p.1, rRow p.2], chk ++ []⟩) (g := gT ((gN 4) :: ((gN 5) :: []))) (b := B1_p_judge_way) (μ := μ) (by rw [List.append_nil]; exact hc _) (fun p : Rw × Rw => .tup [rRow p.1, rRow p.2]) (fun s : (Option MV × Option MV) × Option MV × Option MV => [some (rCo cs), some (rWs ws), some d, some (.lst (rRs (rows ws))), s.1.1, s.1.2, s.2.1, s.2.2, none]) (fun p => stepB cs ws p.1 p.2) (.bl false) (rs.zip (rs.drop 1)) ((none, none), none, none) fun p hp s => by
      have h1 := mem _ (List.of_mem_zip hp).1
      have h2 := mem _ (List.mem_of_mem_drop (List.of_mem_zip hp).2)
      obtain ⟨j1, j2⟩ := judge_step hm ok h1 h2 (some d) (some (.lst (rRs (rows ws)))) s.2.1 s.2.2
      refine ⟨[some (rCo cs), some (rWs ws), some d, some (.lst (rRs (rows ws))), some (rRow p.1), some (rRow p.2), s.2.1, s.2.2, none], rfl, fun h => ?_, j2⟩
      obtain ⟨v6, v7, h⟩ := j1 h
      exact ⟨((some (rRow p.1), some (rRow p.2)), v6, v7), h⟩
    rcases F with ⟨f1, s, f2⟩ | ⟨f1, f2⟩
    · rw [f1]
      exact seq_step (for_ev zi f2) (ret_s k_ok)
    · rw [f1]
      exact seq_rt (for_ev zi f2)
  · rw [hq] at tst
    have e1 : (!decide (rs.length = 0) && rs.all fun r => decide (r ∈ rows ws)) = false := by
      revert hq; cases decide (rs.length = 0) <;> cases (rs.all fun r => decide (r ∈ rows ws)) <;> simp
    rw [e1, Bool.false_and]
    exact seq_ifr tst rfl k_ok
end
end K33

set_option Elab.async false
set_option linter.all false
set_option maxRecDepth 100000
set_option maxHeartbeats 4000000
/-! ## PS: how large data are, by rules -/
namespace PL
open PySem PySem.Spec PyProof.Rows L2 MM
/-- of these so many at most -/
def Sds (B k n L : Nat) (xs : List MV) : Prop := xs.length ≤ L ∧ ∀ x ∈ xs, Sd B k n x
section
variable {B k n k1 k2 n1 n2 L : Nat} {x : MV} {xs : List MV}
theorem Sds.nil : Sds B 0 0 0 [] := ⟨Nat.le_refl _, fun x hx => by cases hx⟩
theorem Sds.cons (h : Sd B k1 n1 x) (hs : Sds B k2 n2 L xs) : Sds B (max k1 k2) (max n1 n2) (L + 1) (x :: xs) := by
  refine ⟨by rw [List.length_cons]; have := hs.1; omega, fun y hy => ?_⟩
  rcases List.mem_cons.mp hy with rfl | hy
  · exact h.mono (Nat.le_max_left _ _) (Nat.le_max_left _ _)
  · exact (hs.2 y hy).mono (Nat.le_max_right _ _) (Nat.le_max_right _ _)
theorem Sds.map {α : Type} {f : α → MV} {l : List α} (hl : l.length ≤ L) (h : ∀ y ∈ l, Sd B k n (f y)) : Sds B k n L (l.map f) := by
  refine ⟨by rw [List.length_map]; exact hl, fun y hy => ?_⟩
  obtain ⟨z, hz, rfl⟩ := List.mem_map.mp hy
  exact h z hz
theorem SdT (h : Sds B k n L xs) : Sd B (k + 1) (L * (n + 1)) (.tup xs) := (Sd.tup h.2).mono (Nat.le_refl _) (Nat.mul_le_mul_right _ h.1)
theorem SdL (h : Sds B k n L xs) : Sd B (k + 1) (L * (n + 1)) (.lst xs) := (Sd.lst h.2).mono (Nat.le_refl _) (Nat.mul_le_mul_right _ h.1)
theorem SdI {i : Int} (h : -1000000000 ≤ i ∧ i ≤ 1000000000) (hB : 31 ≤ B) : Sd B 0 0 (.int i) := Sd.int (b := 30) (by omega) (by omega) (by omega) (by omega)
theorem SdN {i : Nat} (h : i ≤ 1000000000) (hB : 31 ≤ B) : Sd B 0 0 (.int (i : Nat)) := SdI (by omega) hB
theorem SdS {s : Str} {n : Nat} (h1 : PyData.strOk s = true) (h2 : PyData.leavesShort B (.str s) = true) (h3 : s.cps.size ≤ n) (h4 : (PyData.shown (.str s)).cps.toList.all (· < 0x110000) = true) : Sd B 0 n (.str s) := Sd.str h1 h2 h3 h4
theorem SdO {α : Type} {f : α → MV} {o : Option α} {d : MV} (hn : Sd B k1 n1 d) (hs : ∀ x, o = some x → Sd B k2 n2 (f x)) : Sd B (max k1 k2) (max n1 n2) (match o with | some x => f x | none => d) := by
  cases o with
  | none => exact hn.mono (Nat.le_max_left _ _) (Nat.le_max_left _ _)
  | some x => exact (hs x rfl).mono (Nat.le_max_right _ _) (Nat.le_max_right _ _)
theorem SdIf {c : Prop} [Decidable c] {x y : MV} (h1 : c → Sd B k1 n1 x) (h2 : ¬ c → Sd B k2 n2 y) : Sd B (max k1 k2) (max n1 n2) (if c then x else y) := by
  split
  · exact (h1 ‹_›).mono (Nat.le_max_left _ _) (Nat.le_max_left _ _)
  · exact (h2 ‹_›).mono (Nat.le_max_right _ _) (Nat.le_max_right _ _)
end
/-! ### what the law compares by repr -/
theorem same_pd {B k n : Nat} {μ : Mem} (hm : okMem μ) {d1 d2 : MV} {p : PyData} (h1 : pd μ d1 = some p) (h2 : pd μ d2 = some p) (b : Sp B k n p) (hk : k ≤ 50) (hB : 8 ≤ B) (hz : (B + 2) * (n + 1) + B ≤ sizeLine) :
    runC ["told", "due"] (sRet (mOp eqM (mCB reprM (mCons (mLst (mCons (mVar 0) mNil)) mNil)) (mCB reprM (mCons (mLst (mCons (mVar 1) mNil)) mNil)))) [d1, d2] μ = .ok (.bl true) μ := by
  have b1 : Sp B (k + 1) ([p].length * (n + 1)) (.list [p]) := Sp.list fun q hq => by rw [List.mem_singleton.mp hq]; exact b
  have key : ∀ d, pd μ d = some p → reprM μ [.lst [d]] = some (.str (PyData.list [p]).shown) := fun d h => by
    have e : pd μ (.lst [d]) = some (.list [p]) := by
      unfold pd
      have : pdL μ [d] = some [p] := by unfold pdL; rw [h]; rfl
      rw [this]; rfl
    have hl := PyData.shown_le_bulk B hB (.list [p]) b1.lv
    have hl2 : (B + 2) * (PyData.list [p]).bulk ≤ (B + 2) * (n + 1) := Nat.mul_le_mul_left _ (by have := b1.bu; simpa using this)
    unfold reprM
    dsimp only
    rw [e]
    dsimp only
    rw [if_pos ⟨b1.sh, b1.nd, by have := b1.dp; omega, by omega⟩]
  have e2 : PyData.strOk (PyData.list [p]).shown = true := by
    unfold PyData.strOk
    rw [← Array.all_toList, List.all_eq_true]
    exact fun c hc => decide_eq_true (b1.ok c hc)
  refine run_rt0 (ret_s (op_ok (cb_ok (one_ok (lst_ok (one_ok (var_ok (d := d1) rfl)) (le_size (by simp)))) (key d1 h1)) (cb_ok (one_ok (lst_ok (one_ok (var_ok (d := d2) rfl)) (le_size (by simp)))) (key d2 h2)) ?_)) rfl hm
  have sh : SeqAt.shaped (.str (PyData.list [p]).shown) = true := by
    unfold SeqAt.shaped PyData.canLay0
    rw [e2]; rfl
  rw [eqD_of (d := .str _) (e := .str _) rfl rfl sh sh]
  unfold PyData.eqv
  simp
/-- .. where d2 has a cell where d1 has its items -/
theorem same_ev {B k n : Nat} {μ : Mem} (hm : okMem μ) {d1 d2 : MV} (h : Sd B k n d1) (e : pd μ d2 = pd μ d1) (hk : k ≤ 50) (hB : 8 ≤ B) (hz : (B + 2) * (n + 1) + B ≤ sizeLine) :
    runC ["told", "due"] (sRet (mOp eqM (mCB reprM (mCons (mLst (mCons (mVar 0) mNil)) mNil)) (mCB reprM (mCons (mLst (mCons (mVar 1) mNil)) mNil)))) [d1, d2] μ = .ok (.bl true) μ := by
  obtain ⟨p, a, b⟩ := h
  have := pd_pd0 (μ := μ) d1 p a
  exact same_pd hm this (e.trans this) b hk hB hz
theorem pd_ref {B k n : Nat} {μ : Mem} {i : Nat} {xs : List MV} (h : μ[i]? = some (.lst xs)) (s : Sd B k n (.lst xs)) : pd μ (.ref i) = pd μ (.lst xs) := by
  obtain ⟨p, a, _⟩ := s
  rw [pd_pd0 (μ := μ) _ p a]
  unfold pd
  rw [celOf_of h]
  unfold pd0 at a
  exact a
theorem pd_lst {μ : Mem} {xs ys : List MV} (h : pdL μ xs = pdL μ ys) : pd μ (.lst xs) = pd μ (.lst ys) := by unfold pd; rw [h]
theorem pd_tup {μ : Mem} {xs ys : List MV} (h : pdL μ xs = pdL μ ys) : pd μ (.tup xs) = pd μ (.tup ys) := by unfold pd; rw [h]
theorem pdL_cons {μ : Mem} {x y : MV} {xs ys : List MV} (h : pd μ x = pd μ y) (hs : pdL μ xs = pdL μ ys) : pdL μ (x :: xs) = pdL μ (y :: ys) := by unfold pdL; rw [h, hs]
end PL

set_option Elab.async false
set_option linter.all false
set_option maxRecDepth 100000
set_option maxHeartbeats 400000

namespace K33
open PySem PySem.Spec PyProof.Rows L2 MM PL Crd
theorem zip_range {α : Type} (d : α) (rs : List α) : rs.zip (rs.drop 1) = (List.range (rs.length - 1)).map fun k => (rs.getD k d, rs.getD (k + 1) d) := by
  refine List.ext_getElem (by simp) fun i h1 h2 => ?_
  have h3 : i < rs.length - 1 := by simpa using h2
  simp [List.getElem_zip, List.getD_eq_getElem?_getD, List.getElem?_eq_getElem (show i < rs.length by omega), List.getElem?_eq_getElem (show i + 1 < rs.length by omega), Nat.add_comm 1 i]
section
variable {cs : Cs} {ws : Ws} {n m : Nat} {μ : Mem} {row : Rw} {ρ : MM.Env} {d : MV} {rs : List Rw}
theorem seq_of_lst {xs : List MV} (h : lstOf μ d = some xs) : seqOf μ d = some xs := by
  cases d <;> first | exact h | cases h
theorem ix_lst {xs : List MV} {i : Int} (h : lstOf μ d = some xs) : ixM μ d (.int i) = atI xs i := by
  cases d with
  | lst ys => cases h; exact ixL _ _
  | ref j =>
    have e : celOf μ j = some xs := h
    show (seqOf μ (.ref j)).bind (fun xs => atI xs i) = _
    show (celOf μ j).bind (fun xs => atI xs i) = _
    rw [e]; rfl
  | _ => cases h
theorem len_lst {xs : List MV} (h : lstOf μ d = some xs) : lenM μ [d] = some (.int xs.length) := by
  cases d with
  | lst ys => cases h; exact (lenL _)
  | ref i =>
    have : celOf μ i = some xs := h
    show ((celOf μ i).map fun xs => MV.int xs.length) = _
    rw [this]; rfl
  | _ => cases h
theorem rows_ix (h : lstOf μ d = some (rRs rs)) {k : Nat} (hk : k < rs.length) : ixM μ d (.int (k : Nat)) = some (rRow (rs.getD k [])) := (ix_lst h).trans (atI_map hk)
theorem right_step (hm : okMem μ) (ok : OkC cs ws n m) (h : lstOf μ d = some (rRs rs)) {k : Nat} (hk : k + 1 < rs.length) (ha : OkR ws (rs.getD k [])) (hb : OkR ws (rs.getD (k + 1) [])) (u3 u5 u6 : Option MV) :
    (stepB cs ws (rs.getD k []) (rs.getD (k + 1) []) = true → ∃ v5, B1_law_right [some (rCo cs), some (rWs ws), some d, u3, some (.int (k : Nat)), u5, u6, none] μ = .nx [some (rCo cs), some (rWs ws), some d, u3, some (.int (k : Nat)), v5, u6, none] μ) ∧
    (stepB cs ws (rs.getD k []) (rs.getD (k + 1) []) = false → B1_law_right [some (rCo cs), some (rWs ws), some d, u3, some (.int (k : Nat)), u5, u6, none] μ = .rt (.bl false) μ) := by
  have wl := ok.wl
  have m4 := ok.m1
  have ka := law_pays_ok hm ok ha
  have kb := law_pays_ok hm ok hb
  have ra := rows_ix h (k := k) (by omega)
  have rb := rows_ix h (k := k + 1) hk
  have hd : mComp (List.map (·.2) ([("user", 6)] : List (Str × Nat))) (mRng rng1 (mCons (mCB lenM (mCons (mVar 1) mNil)) mNil)) (gN 6) (mT (mOp neM (mOp ixM (mOp ixM (mVar 2) (mVar 4)) (mVar 6)) (mOp ixM (mOp ixM (mVar 2) (mOp addM (mVar 4) (mRet (.int 1)))) (mVar 6)))) (mVar 6) [some (rCo cs), some (rWs ws), some d, u3, some (.int (k : Nat)), u5, u6, none] μ = .ok (.lst ((dif ws (rs.getD k []) (rs.getD (k + 1) [])).map fun u : Nat => .int (u : Nat))) μ := by
    unfold dif
    refine mcomp_filE (rep := fun i : Nat => .int (i : Nat)) (chk := []) (rngE1 (by left) (by omega)) ok_nil (le_size (by simp; omega)) fun u hu => ⟨_, rfl, ?_, fun _ => by left⟩
    have hu := List.mem_range.mp hu
    exact t_ok (op_ok (op_ok (op_ok (var_ok rfl) (var_ok rfl) ra) (var_ok rfl) (row_ix ha hu μ)) (op_ok (op_ok (var_ok rfl) (op_ok (var_ok rfl) k_ok (addI' _ _)) rb) (var_ok rfl) (row_ix hb hu μ)) (nat_ne _ _ μ))
  have dn : ∀ u ∈ dif ws (rs.getD k []) (rs.getD (k + 1) []), u < ws.length := fun u hu => List.mem_range.mp (List.mem_filter.mp hu).1
  unfold B1_law_right
  rcases hD : dif ws (rs.getD k []) (rs.getD (k + 1) []) with _ | ⟨u, _ | ⟨v, t⟩⟩
  · have sb : stepB cs ws (rs.getD k []) (rs.getD (k + 1) []) = false := by unfold stepB; rw [hD]
    rw [sb]
    refine ⟨fun h => (by cases h), fun _ => ?_⟩
    rw [hD] at hd
    refine seq_set hd rfl ?_
    exact if_T (t_ok (or_t (op_ok (cb_ok (one_ok (var_ok rfl)) (lenL _)) k_ok ((neI' _ _).trans (by simp))))) rfl (ret_s k_ok)
  · have sb : stepB cs ws (rs.getD k []) (rs.getD (k + 1) []) = decide (pay cs ws (rs.getD (k + 1) []) u < pay cs ws (rs.getD k []) u) := by unfold stepB; rw [hD]
    have hu := dn u (by rw [hD]; simp)
    have px : ∀ r : Rw, ixM μ (rI (pays cs ws r)) (.int (u : Nat)) = some (.int (pay cs ws r u)) := fun r => (ixT' _ _).trans (pay_ix ok hu)
    rw [hD] at hd
    have x0 : ixM μ (.lst (List.map (fun u : Nat => MV.int (u : Nat)) [u])) (.int 0) = some (.int (u : Nat)) := rfl
    have tst : mT (mOr (mOp neM (mCB lenM (mCons (mVar 5) mNil)) (mRet (.int 1))) (mOp geM (mOp ixM (mCall 3 F_law_pays (mCons (mVar 0) (mCons (mVar 1) (mCons (mOp ixM (mVar 2) (mOp addM (mVar 4) (mRet (.int 1)))) mNil)))) (mOp ixM (mVar 5) (mRet (.int 0)))) (mOp ixM (mCall 3 F_law_pays (mCons (mVar 0) (mCons (mVar 1) (mCons (mOp ixM (mVar 2) (mVar 4)) mNil)))) (mOp ixM (mVar 5) (mRet (.int 0)))))) [some (rCo cs), some (rWs ws), some d, u3, some (.int (k : Nat)), some (.lst (List.map (fun u : Nat => MV.int (u : Nat)) [u])), u6, none] μ = .ok (decide (pay cs ws (rs.getD k []) u ≤ pay cs ws (rs.getD (k + 1) []) u)) μ :=
      t_ok (or_f (op_ok (cb_ok (one_ok (var_ok rfl)) (lenL _)) k_ok ((neI' _ _).trans (by simp))) (op_ok (op_ok (call_ok (cons_ok (var_ok rfl) (cons_ok (var_ok rfl) (one_ok (op_ok (var_ok rfl) (op_ok (var_ok rfl) k_ok (addI' _ _)) rb)))) rfl kb) (op_ok (var_ok rfl) k_ok x0) (px _)) (op_ok (call_ok (cons_ok (var_ok rfl) (cons_ok (var_ok rfl) (one_ok (op_ok (var_ok rfl) (var_ok rfl) ra)))) rfl ka) (op_ok (var_ok rfl) k_ok x0) (px _)) (geI _ _)))
    rw [sb]
    refine ⟨fun h => ⟨some (.lst [.int (u : Nat)]), ?_⟩, fun h => ?_⟩
    · have h := of_decide_eq_true h
      refine seq_set hd rfl ?_
      exact if_F tst (decide_eq_false (by omega)) rfl
    · have h := of_decide_eq_false h
      refine seq_set hd rfl ?_
      exact if_T tst (decide_eq_true (by omega)) (ret_s k_ok)
  · have sb : stepB cs ws (rs.getD k []) (rs.getD (k + 1) []) = false := by unfold stepB; rw [hD]
    rw [sb]
    refine ⟨fun h => (by cases h), fun _ => ?_⟩
    rw [hD] at hd
    refine seq_set hd rfl ?_
    exact if_T (t_ok (or_t (op_ok (cb_ok (one_ok (var_ok rfl)) (lenL _)) k_ok ((neI' _ _).trans (by simp; omega))))) rfl (ret_s k_ok)
theorem law_right_ok (hm : okMem μ) (ok : OkC cs ws n m) {chk : List (Nat × List MV)} (hl : rs.length ≤ 1000) (hd : lstOf μ d = some (rRs rs)) (hi : itmOf μ d = some ⟨rRs rs, chk⟩) (hc : ∀ xs, Itm.ok ⟨xs, chk⟩ μ) : F_law_right [rCo cs, rWs ws, d] μ = .ok (.bl (jdg cs ws rs)) μ := by
  have m4 := ok.m1
  have h3 : ∀ o ∈ ws, o.length ≤ 3 := fun o h => (ok.ol o h).2
  have rw' := law_rows_ok (μ := μ) hm h3 (by have := ok.wl; omega)
  have ld : lenM μ [d] = some (.int (rs.length : Nat)) := (len_lst hd).trans (by simp [rRs])
  have all : mComp (List.map (·.2) ([("row", 7)] : List (Str × Nat))) (mItm (mVar 2)) (gN 7) (mT (mOp notInM (mVar 7) (mVar 3))) (mVar 7) [some (rCo cs), some (rWs ws), some d, some (.lst (rRs (rows ws))), none, none, none, none] μ = .ok (.lst ((rs.filter fun r => !decide (r ∈ rows ws)).map rRow)) μ :=
    mcomp_filE (rep := rRow) (itm_ev (var_ok rfl) hi) (hc _) (le_size (by omega)) fun r hr => ⟨_, rfl, t_ok (op_ok (var_ok rfl) (var_ok rfl) ((dt_row.notInM (by omega) rfl r).trans (by congr))), fun _ => var_ok rfl⟩
  have tst : mT (mOr (mOp eqM (mCB lenM (mCons (mVar 2) mNil)) (mRet (.int 0))) (mOp gtM (mCB lenM (mCons (mComp (List.map (·.2) ([("row", 7)] : List (Str × Nat))) (mItm (mVar 2)) (gN 7) (mT (mOp notInM (mVar 7) (mVar 3))) (mVar 7)) mNil)) (mRet (.int 0)))) [some (rCo cs), some (rWs ws), some d, some (.lst (rRs (rows ws))), none, none, none, none] μ = .ok (decide (rs.length = 0) || !(rs.all fun r => decide (r ∈ rows ws))) μ := by
    refine t_ok (or_ok (op_ok (cb_ok (one_ok (var_ok rfl)) ld) k_ok ((eqI _ _ _).trans ?_)) fun _ => op_ok (cb_ok (one_ok all) lenLm) k_ok ((gtI _ _).trans ?_))
    · congr 2
      exact decide_eq_decide.mpr (by omega)
    · congr 2
      cases ha : rs.all fun r => decide (r ∈ rows ws) with
      | true =>
        have : rs.filter (fun r => !decide (r ∈ rows ws)) = [] := List.filter_eq_nil_iff.mpr fun r hr => by
          have := List.all_eq_true.mp ha r hr
          simpa using this
        rw [this]; rfl
      | false =>
        obtain ⟨r, hr, h⟩ := List.all_eq_false.mp ha
        have : 0 < (rs.filter fun r => !decide (r ∈ rows ws)).length := List.length_pos_of_mem (List.mem_filter.mpr ⟨hr, by simpa using h⟩)
        exact decide_eq_true (by omega)
  refine run_rt0 (show M_law_right [some (rCo cs), some (rWs ws), some d, none, none, none, none, none] μ = _ from ?_) rfl hm
  unfold M_law_right
  refine seq_set (call_ok (one_ok (var_ok rfl)) rfl rw') rfl ?_
  unfold jdg
  rcases hq : (decide (rs.length = 0) || !(rs.all fun r => decide (r ∈ rows ws))) with _ | _
  · rw [hq] at tst
    have e1 : (!decide (rs.length = 0) && rs.all fun r => decide (r ∈ rows ws)) = true := by
      revert hq; cases decide (rs.length = 0) <;> cases (rs.all fun r => decide (r ∈ rows ws)) <;> simp
    have l0 : rs.length ≠ 0 := by
      have := (Bool.and_eq_true_iff.mp e1).1
      simpa using this
    rw [e1, Bool.true_and, zip_range []]
    have mem : ∀ r ∈ rs, OkR ws r := fun r hr => mem_rows.mp (of_decide_eq_true (List.all_eq_true.mp (Bool.and_eq_true_iff.mp e1).2 r hr))
    have mem' : ∀ k, k < rs.length → OkR ws (rs.getD k []) := fun k hk => mem _ (by rw [List.getD_eq_getElem?_getD, List.getElem?_eq_getElem hk]; exact List.getElem_mem _)
    refine seq_ifn tst rfl ?_
    have zi : mRng rng1 (mCons (mOp subM (mCB lenM (mCons (mVar 2) mNil)) (mRet (.int 1))) mNil) [some (rCo cs), some (rWs ws), some d, some (.lst (rRs (rows ws))), none, none, none, none] μ = .ok ⟨(List.range (rs.length - 1)).map fun i => .int (i : Nat), []⟩ μ := by
      refine rngE1 (one_ok (op_ok (cb_ok (one_ok (var_ok rfl)) ld) k_ok ((subI _ _).trans ?_))) (by omega)
      congr 2
      omega
    have F := for_all (t := ⟨(List.range (rs.length - 1)).map fun i => .int (i : Nat), []⟩) (g := gN 4) (b := B1_law_right) (μ := μ) ok_nil (fun i : Nat => .int (i : Nat)) (fun s : Option MV × Option MV => [some (rCo cs), some (rWs ws), some d, some (.lst (rRs (rows ws))), s.1, s.2, none, none]) (fun k => stepB cs ws (rs.getD k []) (rs.getD (k + 1) [])) (.bl false) (List.range (rs.length - 1)) (none, none) fun k hk s => by
      have hk := List.mem_range.mp hk
      obtain ⟨j1, j2⟩ := right_step hm ok hd (k := k) (by omega) (mem' k (by omega)) (mem' (k + 1) (by omega)) (some (.lst (rRs (rows ws)))) s.2 none
      refine ⟨[some (rCo cs), some (rWs ws), some d, some (.lst (rRs (rows ws))), some (.int (k : Nat)), s.2, none, none], rfl, fun h => ?_, j2⟩
      obtain ⟨v5, h⟩ := j1 h
      exact ⟨(some (.int (k : Nat)), v5), h⟩
    rw [List.all_map]
    rcases F with ⟨f1, s, f2⟩ | ⟨f1, f2⟩
    · rw [show (List.range (rs.length - 1)).all ((fun p => stepB cs ws p.1 p.2) ∘ fun k => (rs.getD k [], rs.getD (k + 1) [])) = true from f1]
      exact seq_step (for_ev zi f2) (ret_s k_ok)
    · rw [show (List.range (rs.length - 1)).all ((fun p => stepB cs ws p.1 p.2) ∘ fun k => (rs.getD k [], rs.getD (k + 1) [])) = false from f1]
      exact seq_rt (for_ev zi f2)
  · rw [hq] at tst
    have e1 : (!decide (rs.length = 0) && rs.all fun r => decide (r ∈ rows ws)) = false := by
      revert hq; cases decide (rs.length = 0) <;> cases (rs.all fun r => decide (r ∈ rows ws)) <;> simp
    rw [e1, Bool.false_and]
    exact seq_ifr tst rfl k_ok
end
end K33

set_option Elab.async false
set_option linter.all false
set_option maxRecDepth 100000
set_option maxHeartbeats 400000

namespace K33
open PySem PySem.Spec PyProof.Rows L2 MM PL Crd
section
variable {cs : Cs} {ws : Ws} {n m : Nat} {μ : Mem} {row : Rw} {ρ : MM.Env}
def isWay (n : Nat) (w : List Int) : Bool := !decide ((w.length : Int) = 0) && (w.all fun x => decide (0 ≤ x) && decide (x < n)) && (w.zip (w.drop 1)).all fun p => decide (p.1 < p.2)
theorem is_way_all (hm : okMem μ) {w : List Int} (hl : w.length ≤ 1000) : F_p_is_way [.int (n : Nat), rI w] μ = .ok (.bl (isWay n w)) μ := by
  refine run_rt0 (show M_p_is_way [some (.int (n : Nat)), some (rI w), none, none, none] μ = _ from ?_) rfl hm
  unfold M_p_is_way isWay
  cases hb : (decide ((w.length : Int) = 0) || !(w.all fun x => decide (0 ≤ x) && decide (x < n))) with
  | true =>
    refine seq_ifr (k := (decide ((w.length : Int) = 0) || !(w.all fun x => decide (0 ≤ x) && decide (x < n)))) (by left) hb ?_
    rw [show (!decide ((w.length : Int) = 0) && (w.all fun x => decide (0 ≤ x) && decide (x < n))) = false by rw [← Bool.not_inj_iff, Bool.not_and, Bool.not_not]; exact hb]
    exact k_ok
  | false =>
    refine seq_ifn (k := (decide ((w.length : Int) = 0) || !(w.all fun x => decide (0 ≤ x) && decide (x < n)))) (by left) hb ?_
    rw [show (!decide ((w.length : Int) = 0) && (w.all fun x => decide (0 ≤ x) && decide (x < n))) = true by rw [← Bool.not_inj_iff, Bool.not_and, Bool.not_not]; exact hb]
    left
theorem not_split {a b : Bool} : (!a && b) = !(a || !b) := by cases a <;> cases b <;> rfl
/-- what count_rows says of ways that are not many -/
theorem count_rows_le (hm : okMem μ) (h6 : ∀ o ∈ ws, o.length ≤ 6) (h4 : ws.length ≤ 4) : F_p_count_rows [rWs ws] μ = .ok (.int (prodK ws ws.length : Nat)) μ := by
  have le6 : ∀ k, k ≤ ws.length → prodK ws k ≤ 6 ^ k := by
    intro k
    induction k with
    | zero => intro _; simp [prodK]
    | succ k ih =>
      intro hk
      rw [prodK_succ (by omega), Nat.pow_succ]
      exact Nat.mul_le_mul (ih (by omega)) (h6 _ (List.getElem_mem _))
  refine run_rt0 (show M_p_count_rows [some (rWs ws), none, none] μ = _ from ?_) rfl hm
  unfold M_p_count_rows
  refine seq_step (ρ1 := [some (rWs ws), some (.int 1), none]) (μ1 := μ) (asg_ok k_ok rfl) ?_
  let env : Nat → MM.Env := fun k => [some (rWs ws), some (.int (prodK ws k : Nat)), if k = 0 then none else some (rO (ws.getD (k - 1) []))]
  refine seq_step (ρ1 := env ws.length) (μ1 := μ) (sfor_of (t := ⟨ws.map rO, []⟩) (mitm (var_ok rfl) rfl) (forl_list rO ws env (fun _ => μ) fun k hk => ⟨_, _, rfl, asg_ok (op_ok (a := .int (prodK ws k : Nat)) (b := .int ((ws[k]).length : Nat)) (var_ok rfl) (cb_ok (one_ok (var_ok rfl)) (lenO _ _)) (mulI' (small_mul ?_ ?_))) ?_⟩)) (ret_s (var_ok rfl))
  · have a := le6 k (by omega)
    have b : 6 ^ k ≤ 6 ^ 4 := Nat.pow_le_pow_right (by omega) (by omega)
    have c : (6 : Nat) ^ 4 = 1296 := by decide
    have : (2 : Nat) ^ 11 ≤ 2 ^ 4000 := Nat.pow_le_pow_right (by omega) (by omega)
    have d : (2 : Nat) ^ 11 = 2048 := by decide
    omega
  · have a := h6 _ (List.getElem_mem hk)
    have : (2 : Nat) ^ 7 ≤ 2 ^ 4000 := Nat.pow_le_pow_right (by omega) (by omega)
    omega
  · show some ([some (rWs ws), some (MV.int ((prodK ws k : Nat) * ((ws[k]).length : Nat))), some (rO ws[k])], μ) = some ([some (rWs ws), some (MV.int (prodK ws (k + 1) : Nat)), if k + 1 = 0 then none else some (rO (ws.getD (k + 1 - 1) []))], μ)
    rw [prodK_succ hk, if_neg (by omega), Nat.add_sub_cancel, List.getD_eq_getElem?_getD, List.getElem?_eq_getElem hk, Int.natCast_mul]
    rfl
def okLen (cs : Cs) (ws : Ws) : Bool := (decide ((1 : Int) ≤ cs.length) && decide ((cs.length : Int) ≤ 6)) && (decide ((1 : Int) ≤ ws.length) && decide ((ws.length : Int) ≤ 4))
def okRow (ws : Ws) (r : List Int) : Bool := !(!decide ((r.length : Int) = ws.length)) && r.all fun c => decide (0 ≤ c) && decide (c ≤ 99)
def okOwn (n : Nat) (o : List (List Int)) : Bool := (decide ((1 : Int) ≤ o.length) && decide ((o.length : Int) ≤ 6)) && o.all (isWay n)
/-- check_crowd refuses, or what is due -/
theorem crowd_all (hm : okMem μ) (lc : ∀ r ∈ cs, r.length ≤ 1000) (lw : ∀ o ∈ ws, o.length ≤ 1000 ∧ ∀ w ∈ o, w.length ≤ 1000) :
    (okLen cs ws && cs.all (okRow ws) && ws.all (okOwn cs.length)) = false → F_p_check_crowd [rCo cs, rWs ws] μ = .exc ⟨"NotAllowed", none⟩ μ := by
  intro hb
  refine run_exc0 (show M_p_check_crowd [some (rCo cs), some (rWs ws), none, none, none] μ = _ from ?_) hm
  unfold M_p_check_crowd
  have t1 : mT (mOr (mNot (mChain leM leM (mRet (.int 1)) (mCB lenM (mCons (mVar 0) mNil)) (mRet (.int 6)))) (mNot (mChain leM leM (mRet (.int 1)) (mCB lenM (mCons (mVar 1) mNil)) (mRet (.int 4))))) [some (rCo cs), some (rWs ws), none, none, none] μ = .ok (!(okLen cs ws)) μ := by
    rw [okLen, Bool.not_and]
    left
  cases h1 : okLen cs ws with
  | false => exact seq_ifx t1 (by rw [h1]; rfl)
  | true =>
    refine seq_ifn t1 (by rw [h1]; rfl) ?_
    rw [h1, Bool.true_and] at hb
    have F := for_allX (t := ⟨cs.map rI, []⟩) (g := gN 2) (b := B1_p_check_crowd) (μ := μ) ok_nil rI (fun s : Option MV => [some (rCo cs), some (rWs ws), s, none, none]) (okRow ws) ⟨"NotAllowed", none⟩ cs none fun r hr s => by
      have lr := lc r hr
      have t2 : mT (mOr (mOp neM (mCB lenM (mCons (mVar 2) mNil)) (mCB lenM (mCons (mVar 1) mNil))) (mNot (mCB allM (mCons (mComp (List.map (·.2) ([("cost", 3)] : List (Str × Nat))) (mItm (mVar 2)) (gN 3) mYes (mChain leM leM (mRet (.int 0)) (mVar 3) (mRet (.int 99)))) mNil)))) [some (rCo cs), some (rWs ws), some (rI r), none, none] μ = .ok (!(okRow ws r)) μ := by
        rw [okRow, Bool.not_and, Bool.not_not]
        left
      refine ⟨[some (rCo cs), some (rWs ws), some (rI r), none, none], rfl, fun h => ⟨some (rI r), if_F t2 (by rw [h]; rfl) rfl⟩, fun h => if_T t2 (by rw [h]; rfl) rfl⟩
    rcases F with ⟨f1, s, f2⟩ | ⟨f1, f2⟩
    · refine seq_step (for_ev (by left) f2) ?_
      rw [f1, Bool.true_and] at hb
      have F := for_allX (t := ⟨ws.map rO, []⟩) (g := gN 2) (b := B2_p_check_crowd) (μ := μ) ok_nil rO (fun s : Option MV => [some (rCo cs), some (rWs ws), s, none, none]) (okOwn cs.length) ⟨"NotAllowed", none⟩ ws s fun r hr s => by
        have lr := lw r hr
        have lr1 := lr.1
        have t2 : mT (mOr (mNot (mChain leM leM (mRet (.int 1)) (mCB lenM (mCons (mVar 2) mNil)) (mRet (.int 6)))) (mNot (mCB allM (mCons (mComp (List.map (·.2) ([("way", 4)] : List (Str × Nat))) (mItm (mVar 2)) (gN 4) mYes (mCall 2 F_p_is_way (mCons (mCB lenM (mCons (mVar 0) mNil)) (mCons (mVar 4) mNil)))) mNil)))) [some (rCo cs), some (rWs ws), some (rO r), none, none] μ = .ok (!(okOwn cs.length r)) μ := by
          rw [okOwn, Bool.not_and]
          left
          exact is_way_all hm (lr.2 _ (by assumption))
        refine ⟨[some (rCo cs), some (rWs ws), some (rO r), none, none], rfl, fun h => ⟨some (rO r), if_F t2 (by rw [h]; rfl) rfl⟩, fun h => if_T t2 (by rw [h]; rfl) rfl⟩
      rcases F with ⟨f1, s, f2⟩ | ⟨f1, f2⟩
      · rw [f1] at hb
        cases hb
      · exact seq_exc (for_ev (by left) f2)
    · exact seq_exc (for_ev (by left) f2)
end
end K33

set_option Elab.async false
set_option linter.all false
set_option maxRecDepth 100000
set_option maxHeartbeats 400000

namespace K33
open PySem PySem.Spec PyProof.Rows L2 MM PL Crd
section
variable {cs : Cs} {ws : Ws} {n m : Nat} {μ : Mem} {row : Rw} {ρ : MM.Env} {a b c : MV} {x : Exc}
theorem row_x (hm : okMem μ) (h : F_p_check_crowd [a, b] μ = .exc x μ) : F_p_check_row [a, b, c] μ = .exc x μ := by
  refine run_exc0 (show M_p_check_row [some a, some b, some c, none, none] μ = _ from ?_) hm
  unfold M_p_check_row
  exact seq_dropx (by left)
theorem loads_x (hm : okMem μ) (h : F_p_check_row [a, b, c] μ = .exc x μ) : F_p_loads [a, b, c] μ = .exc x μ := by
  refine run_exc0 (show M_p_loads [some a, some b, some c] μ = _ from ?_) hm
  unfold M_p_loads
  exact seq_dropx (by left)
theorem pays_x (hm : okMem μ) (h : F_p_check_row [a, b, c] μ = .exc x μ) : F_p_pays [a, b, c] μ = .exc x μ := by
  refine run_exc0 (show M_p_pays [some a, some b, some c] μ = _ from ?_) hm
  unfold M_p_pays
  exact seq_dropx (by left)
theorem height_x (hm : okMem μ) (h : F_p_check_row [a, b, c] μ = .exc x μ) : F_p_height [a, b, c] μ = .exc x μ := by
  refine run_exc0 (show M_p_height [some a, some b, some c] μ = _ from ?_) hm
  unfold M_p_height
  exact seq_dropx (by left)
theorem rest_x (hm : okMem μ) (h : F_p_check_crowd [a, b] μ = .exc x μ) : F_p_resting_rows [a, b] μ = .exc x μ := by
  refine run_exc0 (show M_p_resting_rows [some a, some b, none] μ = _ from ?_) hm
  unfold M_p_resting_rows
  exact seq_dropx (by left)
theorem lowest_x (hm : okMem μ) (h : F_p_check_crowd [a, b] μ = .exc x μ) : F_p_lowest [a, b] μ = .exc x μ := by
  refine run_exc0 (show M_p_lowest [some a, some b, none] μ = _ from ?_) hm
  unfold M_p_lowest
  exact seq_dropx (by left)
theorem judge_x (hm : okMem μ) (h : F_p_check_crowd [a, b] μ = .exc x μ) : F_p_judge_way [a, b, c] μ = .exc x μ := by
  refine run_exc0 (show M_p_judge_way [some a, some b, some c, none, none, none, none, none, none] μ = _ from ?_) hm
  unfold M_p_judge_way
  exact seq_dropx (by left)
/-- a row that is none -/
theorem bad_row (hm : okMem μ) (ok : OkC cs ws n m) (hl : row.length ≤ 100) (h : row.length ≠ m ∨ ∃ p ∈ row.zip ws, ¬ p.1 < p.2.length) : F_p_check_row [rCo cs, rWs ws, rRow row] μ = .exc ⟨"NotAllowed", none⟩ μ := by
  have cc := check_crowd_ok hm ok
  have wl := ok.wl
  have m4 := ok.m1
  refine run_exc0 (show M_p_check_row [some (rCo cs), some (rWs ws), some (rRow row), none, none] μ = _ from ?_) hm
  unfold M_p_check_row
  refine seq_drop (by left) ?_
  by_cases c : row.length = m
  · obtain ⟨p, hp, hn⟩ := h.resolve_left (fun z => z c)
    refine if_T (k := (!decide ((row.length : Int) = ws.length)) || !((row.zip ws).all fun p => decide (0 ≤ (p.1 : Int)) && decide ((p.1 : Int) < p.2.length))) (by left) ?_ rfl
    rw [decide_eq_true (by omega), Bool.not_true, Bool.false_or, Bool.not_eq_true', List.all_eq_false]
    exact ⟨p, hp, by rw [decide_eq_false (p := (p.1 : Int) < _) (by omega), Bool.and_false]; simp⟩
  · refine if_T (k := true) (t_ok (or_t (op_ok (cb_ok (one_ok (var_ok rfl)) lenTm) (cb_ok (one_ok (var_ok rfl)) lenTm) ((neI' _ _).trans (by rw [decide_eq_false (by omega)]; rfl))))) rfl rfl
/-- too many rows -/
def wide4 : Ws := List.replicate 4 (List.replicate 6 [0])
theorem crowd_large (hm : okMem μ) : F_p_check_crowd [rCo [[0, 0, 0, 0]], rWs wide4] μ = .exc ⟨"TooLarge", none⟩ μ := by
  have cr := count_rows_le (ws := wide4) hm (fun o ho => by rw [(List.mem_replicate.mp ho).2]; simp) (by simp [wide4])
  have pv : prodK wide4 wide4.length = 1296 := by decide
  rw [pv] at cr
  refine run_exc0 (show M_p_check_crowd [some (rCo [[0, 0, 0, 0]]), some (rWs wide4), none, none, none] μ = _ from ?_) hm
  unfold M_p_check_crowd
  have l4 : wide4.length = 4 := rfl
  refine seq_ifn (k := !((decide ((1 : Int) ≤ ([[0, 0, 0, 0]] : Cs).length) && decide ((([[0, 0, 0, 0]] : Cs).length : Int) ≤ 6)) && (decide ((1 : Int) ≤ wide4.length) && decide ((wide4.length : Int) ≤ 4)))) (by rw [Bool.not_and]; left) (by decide) ?_
  have F := for_allX (t := ⟨([[0, 0, 0, 0]] : Cs).map rI, []⟩) (g := gN 2) (b := B1_p_check_crowd) (μ := μ) ok_nil rI (fun s : Option MV => [some (rCo [[0, 0, 0, 0]]), some (rWs wide4), s, none, none]) (okRow wide4) ⟨"NotAllowed", none⟩ [[0, 0, 0, 0]] none fun r hr s => by
    have e := List.mem_singleton.mp hr
    subst e
    have t2 : mT (mOr (mOp neM (mCB lenM (mCons (mVar 2) mNil)) (mCB lenM (mCons (mVar 1) mNil))) (mNot (mCB allM (mCons (mComp (List.map (·.2) ([("cost", 3)] : List (Str × Nat))) (mItm (mVar 2)) (gN 3) mYes (mChain leM leM (mRet (.int 0)) (mVar 3) (mRet (.int 99)))) mNil)))) [some (rCo [[0, 0, 0, 0]]), some (rWs wide4), some (rI [0, 0, 0, 0]), none, none] μ = .ok (!(okRow wide4 [0, 0, 0, 0])) μ := by
      rw [okRow, Bool.not_and, Bool.not_not]
      left
    refine ⟨[some (rCo [[0, 0, 0, 0]]), some (rWs wide4), some (rI [0, 0, 0, 0]), none, none], rfl, fun h => ⟨some (rI [0, 0, 0, 0]), if_F t2 (by rw [h]; rfl) rfl⟩, fun h => if_T t2 (by rw [h]; rfl) rfl⟩
  rcases F with ⟨f1, s, f2⟩ | ⟨f1, f2⟩
  · refine seq_step (for_ev (by left) f2) ?_
    have F := for_allX (t := ⟨wide4.map rO, []⟩) (g := gN 2) (b := B2_p_check_crowd) (μ := μ) ok_nil rO (fun s : Option MV => [some (rCo [[0, 0, 0, 0]]), some (rWs wide4), s, none, none]) (okOwn 1) ⟨"NotAllowed", none⟩ wide4 s fun r hr s => by
      have e := (List.mem_replicate.mp hr).2
      subst e
      have t2 : mT (mOr (mNot (mChain leM leM (mRet (.int 1)) (mCB lenM (mCons (mVar 2) mNil)) (mRet (.int 6)))) (mNot (mCB allM (mCons (mComp (List.map (·.2) ([("way", 4)] : List (Str × Nat))) (mItm (mVar 2)) (gN 4) mYes (mCall 2 F_p_is_way (mCons (mCB lenM (mCons (mVar 0) mNil)) (mCons (mVar 4) mNil)))) mNil)))) [some (rCo [[0, 0, 0, 0]]), some (rWs wide4), some (rO (List.replicate 6 [0])), none, none] μ = .ok (!(okOwn 1 (List.replicate 6 [0]))) μ := by
        rw [okOwn, Bool.not_and]
        left
        rename_i w hw
        have := (List.mem_replicate.mp hw).2
        subst this
        exact is_way_all hm (by simp)
      refine ⟨[some (rCo [[0, 0, 0, 0]]), some (rWs wide4), some (rO (List.replicate 6 [0])), none, none], rfl, fun h => ⟨some (rO (List.replicate 6 [0])), if_F t2 (by rw [h]; rfl) rfl⟩, fun h => if_T t2 (by rw [h]; rfl) rfl⟩
    rcases F with ⟨f1, s, f2⟩ | ⟨f1, f2⟩
    · refine seq_step (for_ev (by left) f2) ?_
      exact if_T (t_ok (op_ok (call_ok (one_ok (var_ok rfl)) rfl cr) k_ok (gtI _ _))) (by decide) rfl
    · exact absurd f1 (by decide)
  · exact absurd f1 (by decide)
end
end K33

set_option Elab.async false
set_option linter.all false
set_option maxRecDepth 100000
set_option maxHeartbeats 4000000
/-! ## PW: the frame of a law -/
namespace PL
open PySem PySem.Spec PyProof.Rows L2 MM
/-- cells of plain lists -/
def Pls (ls : Mem) : Prop := ∀ c ∈ ls, ∃ xs, c = .lst xs ∧ nrs xs = true
theorem Pls.nil : Pls [] := fun c hc => by cases hc
theorem Pls.snoc {ls : Mem} {xs : List MV} (h : Pls ls) (hx : nrs xs = true) : Pls (ls ++ [.lst xs]) := fun c hc => by
  rcases List.mem_append.mp hc with hc | hc
  · exact h c hc
  · exact ⟨xs, List.mem_singleton.mp hc, hx⟩
theorem Pls.app {ls ms : Mem} (h : Pls ls) (h2 : Pls ms) : Pls (ls ++ ms) := fun c hc => (List.mem_append.mp hc).elim (h c) (h2 c)
theorem okMem_pls {xs : List Int} {k : Nat} {rest : Mem} (h : Pls rest) : okMem (sC xs k :: rest) := by
  unfold okMem
  rw [List.all_cons, okC_s, Bool.true_and, List.all_eq_true]
  intro c hc
  obtain ⟨ys, rfl, hy⟩ := h c hc
  exact okNs_nr _ hy
/-- what a turn of the law's own loop leaves -/
def Turn (ns xs : List Int) (N k c : Nat) (o : SOut) : Prop := ∃ (us : List (Option MV)) (k' : Nat) (rest' : Mem), o = .nx (some (.scr ns) :: some (.ref 0) :: us) (sC xs k' :: rest') ∧ us.length = N ∧ Pls rest' ∧ k' ≤ k + c
theorem Turn.mk {ns xs : List Int} {N k c k' : Nat} {us : List (Option MV)} {rest' : Mem} (h1 : us.length = N) (h2 : Pls rest') (h3 : k' ≤ k + c) : Turn ns xs N k c (.nx (some (.scr ns) :: some (.ref 0) :: us) (sC xs k' :: rest')) := ⟨us, k', rest', rfl, h1, h2, h3⟩
section
variable {ρ ρ1 ρ2 : MM.Env} {μ μ1 μ2 μ3 : Mem} {m : Ev MV} {ms : Ev (List MV)} {a b d r : MV} {R : SOut → Prop} {s sa sb : SM}
theorem R_step {s1 : SM} (h : s1 ρ μ = .nx ρ1 μ1) (k : R (s ρ1 μ1)) : R (sSeq s1 s ρ μ) := by rw [seq_step h rfl]; exact k
theorem R_set {i : Nat} (h : m ρ μ = .ok d μ1) (hg : ρ.set i (some d) = ρ2) (k : R (s ρ2 μ1)) : R (sSeq (sAsg m (gN i)) s ρ μ) := by rw [seq_set h hg rfl]; exact k
theorem R_asg {g : TgM} (h : m ρ μ = .ok d μ1) (hg : g d ρ μ1 = some (ρ2, μ2)) (k : R (s ρ2 μ2)) : R (sSeq (sAsg m g) s ρ μ) := by rw [seq_asg h hg rfl]; exact k
theorem R_drop (h : m ρ μ = .ok r μ1) (k : R (s ρ μ1)) : R (sSeq (sDrop m) s ρ μ) := by rw [seq_drop h rfl]; exact k
theorem R_ifn {c : Ev Bool} {k : Bool} (h : c ρ μ = .ok k μ1) (hk : k = false) (hs : R (s ρ μ1)) : R (sSeq (sIf c sa sPass) s ρ μ) := by rw [seq_ifn h hk rfl]; exact hs
theorem R_last {c : Ev Bool} {k : Bool} (h : c ρ μ = .ok k μ1) (hk : k = false) (hs : R (.nx ρ μ1)) : R (sIf c sa sPass ρ μ) := by rw [if_F h hk rfl]; exact hs
theorem R_eq {o : SOut} (h : s ρ μ = o) (k : R o) : R (s ρ μ) := by rw [h]; exact k
end
/-- the law's own loop over its turns -/
theorem law_turns {ns xs : List Int} {N c T : Nat} {b : SM} (h : ∀ (us : List (Option MV)) (k : Nat) (rest : Mem), us.length = N + 1 → Pls rest → k ≤ c * T → Turn ns xs (N + 1) k c (b (some (.scr ns) :: some (.ref 0) :: us) (sC xs k :: rest))) (hT : T ≤ 1000) (us0 : List (Option MV)) (hu : us0.length = N + 1) :
    ∃ us k rest, sFor (mRng rng1 (mCons (mRet (.int T)) mNil)) (gN 2) b (some (.scr ns) :: some (.ref 0) :: us0) [sC xs 0] = .nx (some (.scr ns) :: some (.ref 0) :: us) (sC xs k :: rest) ∧ Pls rest := by
  let I : Nat → MM.Env → Mem → Prop := fun j ρ μ => ∃ (us : List (Option MV)) (k : Nat) (rest : Mem), ρ = some (.scr ns) :: some (.ref 0) :: us ∧ μ = sC xs k :: rest ∧ us.length = N + 1 ∧ Pls rest ∧ k ≤ c * j
  obtain ⟨ρ', μ', e1, us, k, rest, e2, e3, e4, e5, e6⟩ := for_idx (xs0 := intsL 0 T) (g := gN 2) (b := b) I (I T) (intsL 0 T) 0 (some (.scr ns) :: some (.ref 0) :: us0) [sC xs 0]
    ⟨us0, 0, [], rfl, rfl, hu, Pls.nil, Nat.le_refl _⟩ (fun ρ μ q => by
      have : (intsL 0 T).length = T := by simp [intsL]
      rwa [this, Nat.zero_add] at q) (by
      intro j x hj ρ μ ⟨us, k, rest, q1, q2, q3, q4, q5⟩
      have hjT : j < T := by
        have := (List.getElem?_eq_some_iff.mp hj).1
        simpa [intsL] using this
      subst q1 q2
      obtain ⟨us', k', rest', t1, t2, t3, t4⟩ := h (us.set 0 (some x)) k rest (by rw [List.length_set]; exact q3) q4 (Nat.le_trans q5 (Nat.mul_le_mul_left _ (by omega)))
      refine ⟨_, _, rfl, .inl ⟨_, _, .inl t1, us', k', rest', rfl, rfl, t2, t3, ?_⟩⟩
      rw [Nat.zero_add] at q5 ⊢
      rw [Nat.mul_succ]
      omega)
  subst e2 e3
  exact ⟨us, k, rest, sfor_of (mrng1 (n := T) (one_ok k_ok) ⟨by omega, by omega⟩) e1, e5⟩
/-! ### what is refused -/
theorem mulLk {μ : Mem} {x : MV} (k : Int) : mulM2 μ (.lst [x]) (.int k) = ((lstOf μ (.lst [x])).bind fun xs => if -(2 ^ 63) ≤ k ∧ k < 2 ^ 63 ∧ xs.length * k.toNat ≤ sizeLine then some (MV.lst (List.replicate k.toNat xs).flatten) else none) := by
  unfold mulM2
  rfl
theorem mulLj {μ : Mem} {x : MV} (k : Int) (h1 : -(2 ^ 63) ≤ k) (h2 : k < 2 ^ 63) (h3 : [x].length * k.toNat ≤ sizeLine) : mulM2 μ (.lst [x]) (.int k) = some (MV.lst (List.replicate k.toNat [x]).flatten) := by
  rw [mulLk]
  exact if_pos ⟨h1, h2, h3⟩
theorem mulLn {μ : Mem} {x : MV} {n : Nat} (h : n ≤ 1000) : mulM2 μ (.lst [x]) (.int (n : Int)) = some (.lst (List.replicate n x)) := by
  rw [mulLj _ (Int.le_trans (by decide) (Int.natCast_nonneg n)) (Int.lt_of_le_of_lt (Int.ofNat_le.mpr h) (by decide)) (le_size (by simp; omega)), Int.toNat_natCast, List.flatten_replicate_singleton]
theorem mulLst {μ : Mem} {x : MV} {i : Int} {n : Nat} (e : i = (n : Int)) (h : n ≤ 1000) : mulM2 μ (.lst [x]) (.int i) = some (.lst (List.replicate n x)) := by subst e; exact mulLn h
theorem ne_same {B k n : Nat} {μ : Mem} {a b : MV} (h : Sd B k n a) (e : a = b) (hk : k ≤ 64) : neM μ a b = some (.bl false) := by subst e; exact ne_refl h hk
theorem eq_same {B k n : Nat} {μ : Mem} {a b : MV} (h : Sd B k n a) (e : a = b) (hk : k ≤ 64) : eqM μ a b = some (.bl true) := by subst e; exact eq_refl h hk
theorem sdR (x : MV) (h : x = .tup [.str "refused"] ∨ x = .tup [.str "large"] ∨ x = .tup [.str "missing"]) : Sd 80 1 8 x := by
  rcases h with rfl | rfl | rfl <;> exact Sd.mono (Sd.tup (k := 0) (n := 7) fun y hy => by
        rw [List.mem_singleton.mp hy]
        exact Sd.str (by decide +kernel) (by decide +kernel) (by decide +kernel) (by decide +kernel)) (Nat.le_refl _) (by simp)
theorem sdRs (l : List MV) (h : ∀ x ∈ l, x = .tup [.str "refused"] ∨ x = .tup [.str "large"] ∨ x = .tup [.str "missing"]) : Sd 80 2 (l.length * 9) (.lst l) := Sd.lst fun x hx => sdR x (h x hx)
theorem told_large {C : Fin 5 → Addr} {m : Ev MV} {ρ : MM.Env} {μ μ1 : Mem} (h : m ρ μ = .exc ⟨"TooLarge", none⟩ μ1) : mTold (ksE C) m ρ μ = .ok (.tup [.str "large"]) μ1 := by
  unfold mTold; rw [h]
  have n1 : ¬ ("NotAllowed" : Str) = "TooLarge" := by decide
  have : MM.kindOf (ksE C) "TooLarge" = some (("large" : Str)) := by
    unfold MM.kindOf ksE
    rw [List.find?_cons_of_neg (by exact fun z => n1 (of_decide_eq_true z)), List.find?_cons_of_pos (by exact decide_eq_true rfl)]
    rfl
  show (match MM.kindOf (ksE C) "TooLarge" with
    | some k => Out.ok (MV.tup [.str k]) μ1
    | none => .bad) = _
  rw [this]
end PL

set_option Elab.async false
set_option linter.all false
set_option maxRecDepth 100000
set_option maxHeartbeats 400000

namespace Crd
section
variable {cs : Cs} {ws : Ws} {n m : Nat} {row : Rw}
theorem chp_rest : chp cs ws row = none ↔ Rest cs ws row := by
  constructor
  · intro h u hu c hc
    refine Classical.byContradiction fun z => ?_
    have b : bet cs ws row u c = true := decide_eq_true (by omega)
    have := List.findSome?_eq_none_iff.mp h u (List.mem_range.mpr hu)
    have := Option.map_eq_none_iff.mp this
    have := List.find?_eq_none.mp this c (List.mem_range.mpr hc)
    exact this b
  · intro h
    exact chp_none fun u hu c hc => decide_eq_false (by have := h u hu c hc; omega)
theorem co_rg (ok : OkC cs ws n m) {i k : Nat} (hi : i < n) (hk : k < m) : 0 ≤ co cs i k ∧ co cs i k ≤ 99 := by
  have rl := row_len ok hi
  have hr : cs.getD i [] ∈ cs := by
    rw [List.getD_eq_getElem?_getD, List.getElem?_eq_getElem (by rw [ok.cl]; exact hi)]
    exact List.getElem_mem _
  refine ok.rg _ hr _ ?_
  unfold co
  rw [List.getD_eq_getElem?_getD (l := cs.getD i []), List.getElem?_eq_getElem (by rw [rl]; exact hk)]
  exact List.getElem_mem _
theorem sum_rg {α : Type} {f : α → Int} {B : Int} : ∀ {l : List α}, (∀ x ∈ l, 0 ≤ f x ∧ f x ≤ B) → 0 ≤ (l.map f).sum ∧ (l.map f).sum ≤ (l.length : Int) * B
  | [], _ => by simp
  | x :: l, h => by
    have ih := sum_rg (l := l) fun y hy => h y (List.mem_cons_of_mem _ hy)
    have hx := h x List.mem_cons_self
    rw [List.map_cons, List.sum_cons, List.length_cons]
    have : ((l.length + 1 : Nat) : Int) * B = (l.length : Int) * B + B := by rw [Int.natCast_add, Int.add_mul]; simp
    omega
end
end Crd
namespace K33
open PySem PySem.Spec PyProof.Rows L2 MM PL Crd
section
variable {cs : Cs} {ws : Ws} {n m : Nat} {μ : Mem} {row : Rw} {ρ : MM.Env}
theorem pay_rg (ok : OkC cs ws n m) (hr : OkR ws row) {u : Nat} (hu : u < m) : 0 ≤ pay cs ws row u ∧ pay cs ws row u ≤ 600 := by
  have w := way_ok ok hr hu
  have sm := way_small w.2.1 w.2.2
  have n6 := ok.n1
  have := sum_rg (f := fun x : Int => co cs x.toNat (ld ws row x.toNat - 1)) (B := 99) (l := way ws row u) fun x hx => by
    have h0 := w.2.1 x hx
    have lp := ld_pos ok hr hu hx
    have ll := ld_le ok hr x.toNat
    exact co_rg ok (by omega) (by omega)
  unfold pay
  omega
theorem pays_rg (ok : OkC cs ws n m) (hr : OkR ws row) : ∀ x ∈ pays cs ws row, 0 ≤ x ∧ x ≤ 600 := fun x hx => by
  obtain ⟨u, hu, rfl⟩ := List.mem_map.mp hx
  have wl := ok.wl
  exact pay_rg ok hr (by have := List.mem_range.mp hu; omega)
theorem loads_rg (ok : OkC cs ws n m) (hr : OkR ws row) : ∀ x ∈ loads n ws row, 0 ≤ x ∧ x ≤ 4 := fun x hx => by
  obtain ⟨i, hi, rfl⟩ := List.getElem_of_mem hx
  have h := loads_at ok hr i
  rw [List.getD_eq_getElem?_getD, List.getElem?_eq_getElem hi] at h
  have h : (loads n ws row)[i] = (ld ws row i : Int) := h
  have l := ld_le ok hr i
  have m1 := ok.m1
  omega
theorem pre_rg (ok : OkC cs ws n m) {i k : Nat} (hi : i < n) (hk : k ≤ m) : 0 ≤ pre cs i k ∧ pre cs i k ≤ 400 := by
  induction k with
  | zero => unfold pre; simp
  | succ k ih =>
    have ih := ih (by omega)
    have rl := row_len ok hi
    have c := co_rg ok hi (k := k) (by omega)
    rw [pre_succ (by omega)]
    have m1 := ok.m1
    have key : ∀ j, j ≤ m → pre cs i j ≤ (j : Int) * 99 := by
      intro j
      induction j with
      | zero => intro _; unfold pre; simp
      | succ j jh =>
        intro hj
        have jh := jh (by omega)
        have c := co_rg ok hi (k := j) (by omega)
        rw [pre_succ (by omega)]
        omega
    have := key k (by omega)
    omega
theorem height_rg (ok : OkC cs ws n m) (hr : OkR ws row) : 0 ≤ height cs ws row ∧ height cs ws row ≤ 2400 := by
  have n1 := ok.n1
  have cl := ok.cl
  have := sum_rg (f := fun i => pre cs i (ld ws row i)) (B := 400) (l := List.range cs.length) fun i hi => pre_rg ok (by have := List.mem_range.mp hi; omega) (ld_le ok hr i)
  rw [List.length_range] at this
  unfold height
  omega
theorem row_small (ok : OkC cs ws n m) (hr : OkR ws row) : row.length ≤ 4 ∧ ∀ x ∈ row, x ≤ 3 := by
  have wl := ok.wl
  have m1 := ok.m1
  have l := hr.l
  refine ⟨by omega, fun x hx => ?_⟩
  obtain ⟨u, hu, rfl⟩ := List.getElem_of_mem hx
  have h := hr.c u (by omega)
  rw [List.getD_eq_getElem?_getD, List.getElem?_eq_getElem hu] at h
  have h : row[u] < (own ws u).length := h
  have := (ok.ol _ (own_mem ok (u := u) (by omega))).2
  omega
theorem sd_row (ok : OkC cs ws n m) (hr : OkR ws row) : Sd 80 1 4 (rRow row) := by
  obtain ⟨h1, h2⟩ := row_small ok hr
  exact (SdT (L := 4) ⟨by rw [List.length_map]; exact h1, fun y hy => by
    obtain ⟨x, hx, rfl⟩ := List.mem_map.mp hy
    exact SdN (by have := h2 x hx; omega) (by omega)⟩).mono (Nat.le_refl _) (by omega)
theorem sd_rows (ok : OkC cs ws n m) {rs : List Rw} (hl : rs.length ≤ 200) (h : ∀ r ∈ rs, OkR ws r) : Sd 80 2 1000 (.lst (rRs rs)) :=
  (SdL (L := 200) (Sds.map hl fun r hr => sd_row ok (h r hr))).mono (Nat.le_refl _) (by omega)
theorem sd_opt (ok : OkC cs ws n m) (hr : OkR ws row) : Sd 80 1 2 (rOpt (chp cs ws row)) := by
  cases h : chp cs ws row with
  | none => exact Sd.non.mono (by omega) (by omega)
  | some p =>
    obtain ⟨u, c⟩ := p
    obtain ⟨h1, h2, _⟩ := chp_in h
    have wl := ok.wl
    have m1 := ok.m1
    have := (ok.ol _ (own_mem ok (u := u) (by omega))).2
    exact (SdT (xs := [.int (u : Nat), .int (c : Nat)]) (L := 2) ⟨by simp, fun y hy => by
      rcases (by simpa using hy : y = .int (u : Nat) ∨ y = .int (c : Nat)) with rfl | rfl
      · exact SdN (by omega) (by omega)
      · exact SdN (by omega) (by omega)⟩).mono (Nat.le_refl _) (by omega)
theorem dn_ok (ok : OkC cs ws n m) : ∀ (k : Nat) (r : Rw), OkR ws r → (dn cs ws k r).length ≤ k + 1 ∧ ∀ q ∈ dn cs ws k r, OkR ws q
  | 0, r, hr => ⟨by simp [dn], fun q hq => by rw [List.mem_singleton.mp hq]; exact hr⟩
  | k + 1, r, hr => by
    unfold dn
    cases hc : chp cs ws r with
    | none => exact ⟨by simp, fun q hq => by rw [List.mem_singleton.mp hq]; exact hr⟩
    | some p =>
      obtain ⟨u, c⟩ := p
      obtain ⟨i1, i2⟩ := dn_ok ok k (chg r u c) (chp_row ok hr hc).1
      refine ⟨by show (r :: dn cs ws k (chg r u c)).length ≤ _; rw [List.length_cons]; omega, fun q hq => ?_⟩
      rcases List.mem_cons.mp hq with rfl | hq
      · exact hr
      · exact i2 q hq
/-- the law's own line -/
theorem law_line (hm : okMem μ) (ok : OkC cs ws n m) (E : Option MV → Option MV → MM.Env)
    (e3 : ∀ a b, (E a b)[3]? = some (some (rCo cs))) (e4 : ∀ a b, (E a b)[4]? = some (some (rWs ws))) (e7 : ∀ a b, (E (some a) b)[7]? = some (some a)) (e11 : ∀ a b, (E a b)[11]? = some (some (.ref μ.length)))
    (s7 : ∀ a b c, (E a b).set 7 c = E c b) (s12 : ∀ a b c, (E a b).set 12 c = E a c) (xs0 : List MV) : ∀ (k : Nat) (L : List Rw) (r : Rw) (items : List MV) (u7 u12 : Option MV), OkR ws r → nlow cs ws r ≤ k → k < items.length → L.length + k ≤ 1000 →
    ∃ v7 v12, forL ⟨xs0, []⟩ (gN 12) B1_law items (E u7 u12) (μ ++ [.lst (rRs (L ++ [r]))]) = .nx (E v7 v12) (μ ++ [.lst (rRs (L ++ dn cs ws k r))]) := by
  have step : ∀ (L : List Rw) (r : Rw) (u7 u12 : Option MV), OkR ws r → mCall 3 F_law_cheaper (mCons (mVar 3) (mCons (mVar 4) (mCons (mOp ixM (mVar 11) (mUn negM (mRet (.int 1)))) mNil))) (E u7 u12) (μ ++ [.lst (rRs (L ++ [r]))]) = .ok (rOpt (chp cs ws r)) (μ ++ [.lst (rRs (L ++ [r]))]) := fun L r u7 u12 hr =>
    call_ok (cons_ok (var_ok (e3 _ _)) (cons_ok (var_ok (e4 _ _)) (one_ok (op_ok (var_ok (e11 _ _)) (un_ok k_ok (negI _)) (last_ix (xs := rRs L) (y := rRow r) (by rw [get_last]; simp [rRs])))))) rfl (law_cheaper_ok (okMem_snoc hm (nrs_Rs _)) ok hr)
  intro k
  induction k with
  | zero =>
    intro L r items u7 u12 hr hn hk hl
    cases items with
    | nil => simp at hk
    | cons it items =>
      cases hc : chp cs ws r with
      | some p => obtain ⟨u, c⟩ := p; have := nlow_lt ok hr hc; omega
      | none =>
        have st := step L r u7 (some it) hr
        rw [hc] at st
        refine ⟨some .non, some it, for_bk (ρ1 := E u7 (some it)) (μ1 := μ ++ [.lst (rRs (L ++ [r]))]) (by show some ((E u7 u12).set 12 (some it), _) = _; rw [s12]) ?_⟩
        unfold B1_law
        refine seq_set st (s7 _ _ _) ?_
        exact seq_bk (if_t (t_ok (op_ok (var_ok (e7 _ _)) k_ok (show isM _ _ _ = some (MV.bl true) from rfl))) rfl)
  | succ k ih =>
    intro L r items u7 u12 hr hn hk hl
    cases items with
    | nil => simp at hk
    | cons it items =>
      unfold dn
      have st := step L r u7 (some it) hr
      cases hc : chp cs ws r with
      | none =>
        rw [hc] at st
        refine ⟨some .non, some it, for_bk (ρ1 := E u7 (some it)) (μ1 := μ ++ [.lst (rRs (L ++ [r]))]) (by show some ((E u7 u12).set 12 (some it), _) = _; rw [s12]) ?_⟩
        unfold B1_law
        refine seq_set st (s7 _ _ _) ?_
        exact seq_bk (if_t (t_ok (op_ok (var_ok (e7 _ _)) k_ok (show isM _ _ _ = some (MV.bl true) from rfl))) rfl)
      | some p =>
        obtain ⟨u, c⟩ := p
        obtain ⟨h1, h2⟩ := chp_row ok hr hc
        have h3 := nlow_lt ok hr hc
        have hl1 := hr.l
        have hu := (chp_in hc).1
        have m4 := ok.m1
        have wl := ok.wl
        rw [hc] at st
        obtain ⟨v7, v12, ih⟩ := ih (L ++ [r]) (chg r u c) items (some (rOpt (some (u, c)))) (some it) h1 (by omega) (by simp at hk; omega) (by rw [List.length_append]; simp; omega)
        rw [show L ++ [r] ++ dn cs ws k (chg r u c) = L ++ (r :: dn cs ws k (chg r u c)) by simp] at ih
        refine ⟨v7, v12, (for_nx (ρ1 := E u7 (some it)) (μ1 := μ ++ [.lst (rRs (L ++ [r]))]) (by show some ((E u7 u12).set 12 (some it), _) = _; rw [s12]) ?_).trans ih⟩
        have lx : ixM (μ ++ [.lst (rRs (L ++ [r]))]) (.ref μ.length) (.int (-1)) = some (rRow r) := last_ix (xs := rRs L) (by rw [get_last]; simp [rRs])
        unfold B1_law
        refine seq_set st (s7 _ _ _) ?_
        refine seq_ifn (t_ok (op_ok (var_ok (e7 _ _)) k_ok (show isM _ _ _ = some (MV.bl false) from rfl))) rfl ?_
        refine (appL_s (y := rRow (chg r u c)) (var_ok (e11 _ _)) ?_ ?_).trans ?_
        · exact chg_ev (by omega) (slice_ok (op_ok (var_ok (e11 _ _)) (un_ok k_ok (negI _)) lx) nopart_ok (part_ok (op_ok (var_ok (e7 _ _)) k_ok (show ixM _ _ _ = some (MV.int (u : Nat)) from rfl))) (cut_t _ r u)) (tup_ok (one_ok (op_ok (var_ok (e7 _ _)) k_ok rfl))) (slice_ok (op_ok (var_ok (e11 _ _)) (un_ok k_ok (negI _)) lx) (part_ok (op_ok (op_ok (var_ok (e7 _ _)) k_ok (show ixM _ _ _ = some (MV.int (u : Nat)) from rfl)) k_ok (addI' _ _))) nopart_ok (cut_d _ r u))
        · simp [rRs]; omega
        · rw [show rRs (L ++ [r]) ++ [rRow (chg r u c)] = rRs (L ++ [r] ++ [chg r u c]) by simp [rRs]]
end
end K33

set_option Elab.async false
set_option linter.all false
set_option maxRecDepth 100000
set_option maxHeartbeats 400000

namespace K33
open PySem PySem.Spec PyProof.Rows L2 MM PL Crd
section
variable {cs : Cs} {ws : Ws} {n m : Nat} {μ : Mem} {row : Rw} {ρ : MM.Env}
/-- the crowds that are none -/
def bads (cs : Cs) (ws : Ws) : List (Cs × Ws) := [([], ws), (List.replicate (ws.length + 1) 0 :: cs.drop 1, ws), (List.replicate ws.length 100 :: cs.drop 1, ws), (cs, []),
  (cs, [] :: ws.drop 1), (cs, [[9]] :: ws.drop 1), (cs, [[]] :: ws.drop 1), (cs, [[0, 0]] :: ws.drop 1)]
theorem bads_x (hm : okMem μ) (ok : OkC cs ws n m) : ∀ p ∈ bads cs ws, F_p_check_crowd [rCo p.1, rWs p.2] μ = .exc ⟨"NotAllowed", none⟩ μ := by
  have wl := ok.wl
  have cl := ok.cl
  have n1 := ok.n1
  have m1 := ok.m1
  have lc : ∀ r ∈ cs, r.length ≤ 1000 := fun r hr => by have := ok.rl r hr; omega
  have lw : ∀ o ∈ ws, o.length ≤ 1000 ∧ ∀ w ∈ o, w.length ≤ 1000 := fun o ho => by
    refine ⟨by have := (ok.ol o ho).2; omega, fun w hw => ?_⟩
    have := way_small (ok.wy o ho w hw).2.1 (ok.wy o ho w hw).2.2
    omega
  have lcd : ∀ r ∈ cs.drop 1, r.length ≤ 1000 := fun r hr => lc r (List.mem_of_mem_drop hr)
  have lwd : ∀ o ∈ ws.drop 1, o.length ≤ 1000 ∧ ∀ w ∈ o, w.length ≤ 1000 := fun r hr => lw r (List.mem_of_mem_drop hr)
  have cons : ∀ {α : Type} {P : α → Prop} {x : α} {l : List α}, P x → (∀ y ∈ l, P y) → ∀ y ∈ x :: l, P y := fun hx hl y hy => by
    rcases List.mem_cons.mp hy with rfl | hy
    · exact hx
    · exact hl y hy
  have F : ∀ {a b c : Bool}, a = false ∨ b = false ∨ c = false → (a && b && c) = false := fun {a b c} h => by cases a <;> cases b <;> cases c <;> simp_all
  intro p hp
  simp only [bads, List.mem_cons, List.not_mem_nil, or_false] at hp
  rcases hp with rfl | rfl | rfl | rfl | rfl | rfl | rfl | rfl
  · exact crowd_all hm (fun r hr => by cases hr) lw (F (.inl (by simp [okLen])))
  · exact crowd_all hm (cons (by simp; omega) lcd) lw (F (.inr (.inl (by rw [List.all_cons, okRow]; simp; intro h; omega))))
  · refine crowd_all hm (cons (by simp; omega) lcd) lw (F (.inr (.inl ?_)))
    have : (List.replicate ws.length (100 : Int)).all (fun c => decide (0 ≤ c) && decide (c ≤ 99)) = false := by
      rw [List.all_eq_false]
      exact ⟨100, by rw [List.mem_replicate]; exact ⟨by omega, rfl⟩, by decide⟩
    rw [List.all_cons, okRow, this]; simp
  · exact crowd_all hm lc (fun r hr => by cases hr) (F (.inl (by simp [okLen])))
  · exact crowd_all hm lc (cons ⟨by simp, fun w hw => by cases hw⟩ lwd) (F (.inr (.inr (by rw [List.all_cons, okOwn]; simp))))
  · refine crowd_all hm lc (cons ⟨by simp, fun w hw => by rw [List.mem_singleton.mp hw]; simp⟩ lwd) (F (.inr (.inr ?_)))
    rw [List.all_cons, okOwn, List.all_cons, isWay]
    simp
    omega
  · exact crowd_all hm lc (cons ⟨by simp, fun w hw => by rw [List.mem_singleton.mp hw]; simp⟩ lwd) (F (.inr (.inr (by rw [List.all_cons, okOwn, List.all_cons, isWay]; simp))))
  · exact crowd_all hm lc (cons ⟨by simp, fun w hw => by rw [List.mem_singleton.mp hw]; simp⟩ lwd) (F (.inr (.inr (by rw [List.all_cons, okOwn, List.all_cons, isWay]; simp))))
/-- one crowd that is none, asked -/
theorem bad_step (C : Fin 5 → Addr) (hm : okMem μ) {p : Cs × Ws} (h : F_p_check_crowd [rCo p.1, rWs p.2] μ = .exc ⟨"NotAllowed", none⟩ μ) (E : Option MV → Option MV → Option MV → MM.Env) (u21 : Option MV)
    (h6 : ∀ a b c, (E a b c)[6]? = some (some (rRow row))) (h18 : ∀ a b c, (E a b c)[18]? = some a) (h19 : ∀ a b c, (E a b c)[19]? = some b) (h21 : ∀ a b c, (E a b c)[21]? = some c) (s21 : ∀ a b c d, (E a b c).set 21 d = E a b d) :
    B2_law C (E (some (rCo p.1)) (some (rWs p.2)) u21) μ = .nx (E (some (rCo p.1)) (some (rWs p.2)) (some (.lst [.tup [.str "refused"], .tup [.str "refused"], .tup [.str "refused"]]))) μ := by
  unfold B2_law
  refine seq_set (lst_ok (cons_ok (told_not (call_ok (cons_ok (var_ok (h18 _ _ _)) (cons_ok (var_ok (h19 _ _ _)) (one_ok (var_ok (h6 _ _ _))))) rfl (loads_x hm (row_x hm h)))) (cons_ok (told_not (call_ok (cons_ok (var_ok (h18 _ _ _)) (one_ok (var_ok (h19 _ _ _)))) rfl (rest_x hm h))) (one_ok (told_not (call_ok (cons_ok (var_ok (h18 _ _ _)) (cons_ok (var_ok (h19 _ _ _)) (one_ok (lst_ok (one_ok (var_ok (h6 _ _ _))))))) rfl (judge_x hm h))))))) (s21 _ _ _ _) ?_
  exact if_n (t_ok (op_ok (var_ok (h21 _ _ _)) (op_ok (lst_ok (one_ok (tup_ok (one_ok k_ok)))) k_ok (mulLst (n := 3) rfl (by omega))) (ne_same (B := 80) (k := 2) (n := 27) (sdRs _ (by simp)) rfl (by omega))))
end
end K33

set_option Elab.async false
set_option linter.all false
set_option maxRecDepth 100000
set_option maxHeartbeats 400000

namespace K33
open PySem PySem.Spec PyProof.Rows L2 MM PL Crd
section
variable {xs ns : List Int} {k : Nat} {rest : Mem}
theorem law_same {B k n : Nat} {μ : Mem} (hm : okMem μ) {d1 d2 : MV} (h : Sd B k n d1) (e : pd μ d2 = pd μ d1) (hk : k ≤ 50) (hB : 8 ≤ B) (hz : (B + 2) * (n + 1) + B ≤ sizeLine) : F_law_same [d1, d2] μ = .ok (.bl true) μ := same_ev hm h e hk hB hz
theorem lst_in (ok : OkC cs ws n m) : OkR ws (lwst cs ws) ∧ (chp cs ws (lwst cs ws)) = none ∧ (rows ws)[((rows ws).map (height cs ws)).idxOf (mn ((rows ws).map (height cs ws)))]? = some (lwst cs ws) := by
  obtain ⟨h1, h2⟩ := first_low (f := height cs ws) (rows_ne ok)
  have hn : (rows ws).map (fun r => (height cs ws r, r)) ≠ [] := fun e => rows_ne ok (List.map_eq_nil_iff.mp e)
  obtain ⟨i1, i2⟩ := lowP_le hn
  obtain ⟨r, hr, er⟩ := List.mem_map.mp i1
  have e : lwst cs ws = r := by unfold lwst; rw [← er]
  refine ⟨by rw [e]; exact mem_rows.mp hr, ?_, h2⟩
  rw [e]
  refine chp_rest.mpr (low_rests ok (mem_rows.mp hr) fun q hq => ?_)
  have := i2 _ (List.mem_map.mpr ⟨q, mem_rows.mpr hq, rfl⟩)
  rw [← er] at this
  exact this
theorem rows_at {ws : Ws} {r : Int} (h0 : 0 ≤ r) (h1 : r < (rows ws).length) : OkR ws ((rows ws).getD r.toNat []) := by
  refine mem_rows.mp ?_
  rw [List.getD_eq_getElem?_getD, List.getElem?_eq_getElem (by omega)]
  exact List.getElem_mem _
theorem turn_ok (C : Fin 5 → Addr) (hx : Ns xs) (us : List (Option MV)) (hu : us.length = 21) (hp : Pls rest) (hk : k ≤ 4000) : Turn ns xs 21 k 1000 (B3_law C (some (.scr ns) :: some (.ref 0) :: us) (sC xs k :: rest)) := by
  match us, hu with
  | [u2, u3, u4, u5, u6, u7, u8, u9, u10, u11, u12, u13, u14, u15, u16, u17, u18, u19, u20, u21, u22], _ =>
  obtain ⟨cs, ws, n, m, k1, d1, ok, n5, a1, a2⟩ := crowd_draw hx (okMem_pls (k := k) hp) (by omega)
  have wl := ok.wl
  have m4 := ok.m1
  have cl := ok.cl
  have n1 := ok.n1
  have rl := rows_len ok
  have h3 : ∀ o ∈ ws, o.length ≤ 3 := fun o h => (ok.ol o h).2
  have rne : 0 < (rows ws).length := List.length_pos_iff.mpr (rows_ne ok)
  obtain ⟨r, d2, r0, r1⟩ := lnext hx (k := k1) (by omega) (okMem_pls hp) (m := (rows ws).length) (by omega)
  have hr := rows_at r0 r1
  generalize hrow : (rows ws).getD r.toNat [] = row at hr
  obtain ⟨u, d3, v0, v1⟩ := lnext hx (k := k1 + 1) (by omega) (okMem_pls hp) (m := ws.length) (by omega)
  have hu : u.toNat < ws.length := by omega
  have ow := ok.ol _ (own_mem ok (u := u.toNat) (by omega))
  obtain ⟨c, d4, c0, c1⟩ := lnext hx (k := k1 + 1 + 1) (by omega) (okMem_pls hp) (m := (own ws u.toNat).length) (by omega)
  have hc : c.toNat < (own ws u.toNat).length := by omega
  have ho := chg_ok hr hu hc
  have eu : ((u.toNat : Nat) : Int) = u := by omega
  have ec : ((c.toNat : Nat) : Int) = c := by omega
  generalize hoth : chg row u.toNat c.toNat = oth at ho
  have hrl := hr.l
  have M1 := okMem_pls (xs := xs) (k := k1 + 1) hp
  have M3 := okMem_pls (xs := xs) (k := k1 + 1 + 1 + 1) hp
  unfold B3_law
  refine R_asg (call_ok (one_ok (var_ok rfl)) rfl d1) rfl ?_
  refine R_set (i := 5) (d := .lst (rRs (rows ws))) (call_ok (one_ok (var_ok rfl)) rfl (law_rows_ok (okMem_pls hp) h3 (by omega))) rfl ?_
  refine R_set (i := 6) (d := rRow row) (op_ok (var_ok rfl) (call_ok (cons_ok (var_ok rfl) (one_ok (cb_ok (one_ok (var_ok rfl)) (by infer_instance)))) rfl d2) ?_) rfl ?_
  · rw [← hrow]
    exact (ixLi ⟨r0, r1⟩ rfl)
  refine R_set (i := 7) (call_ok (cons_ok (var_ok rfl) (cons_ok (var_ok rfl) (one_ok (var_ok rfl)))) rfl (law_cheaper_ok M1 ok hr)) rfl ?_
  have L1 := loads_ok M1 ok hr
  have L2 := pays_ok M1 ok hr
  have L3 := height_ok M1 ok hr
  have L4 := first_cheaper_ok M1 ok hr
  have L5 := is_resting_ok M1 ok hr
  have L6 := law_loads_ok M1 ok hr
  have L7 := law_pays_ok M1 ok hr
  have L8 := law_height_ok M1 ok hr
  have hrg := height_rg ok hr
  have s1 : F_law_same [.lst [rI (loads n ws row), rI (pays cs ws row), .int (height cs ws row), rOpt (chp cs ws row), .bl (chp cs ws row).isNone], .lst [rI (loads n ws row), rI (pays cs ws row), .int (height cs ws row), rOpt (chp cs ws row), .bl (chp cs ws row).isNone]] (sC xs (k1 + 1) :: rest) = .ok (.bl true) (sC xs (k1 + 1) :: rest) := by
    have ll := loads_len n ws row
    have lp := pays_len cs ws row
    refine law_same M1 (B := 80) (SdL (Sds.cons (SdT (Sds.map (k := 0) (n := 0) (L := 20) (by omega) fun x hx => ?_)) (Sds.cons (SdT (Sds.map (k := 0) (n := 0) (L := 20) (by omega) fun x hx => ?_)) (Sds.cons (SdI (by omega) (by omega)) (Sds.cons (sd_opt ok hr) (Sds.cons Sd.bl Sds.nil)))))) rfl (by decide) (by decide) (by decide)
    · exact SdI (by have := loads_rg ok hr x hx; omega) (by omega)
    · exact SdI (by have := pays_rg ok hr x hx; omega) (by omega)
  refine R_set (i := 8) (d := .lst [rI (loads n ws row), rI (pays cs ws row), .int (height cs ws row), rOpt (chp cs ws row), .bl (chp cs ws row).isNone]) (by left) rfl ?_
  refine R_ifn (t_ok (not_ok (call_ok (cons_ok (var_ok rfl) (one_ok (lst_ok (cons_ok (by left) (cons_ok (by left) (cons_ok (by left) (cons_ok (by left) (one_ok (op_ok (var_ok rfl) k_ok (is_none _)))))))))) rfl s1))) rfl ?_
  refine R_set (i := 9) (d := .int (u.toNat : Nat)) (call_ok (cons_ok (var_ok rfl) (one_ok (cb_ok (one_ok (var_ok rfl)) (by infer_instance)))) rfl (d3.trans (by rw [eu]))) rfl ?_
  refine R_set (i := 10) (d := rRow oth) (μ1 := sC xs (k1 + 1 + 1 + 1) :: rest) ?_ rfl ?_
  · rw [← hoth]
    refine op_ok (a := .tup ((row.take u.toNat).map rNt ++ [rNt c.toNat])) (op_ok (slice_ok (var_ok rfl) nopart_ok (part_ok (var_ok rfl)) (cut_t _ _ _)) (tup_ok (one_ok (call_ok (cons_ok (var_ok rfl) (one_ok (cb_ok (one_ok (op_ok (var_ok rfl) (var_ok rfl) (own_ix' hu _))) (lenO _ _)))) rfl (d4.trans (by rw [← ec]))))) ?_) (slice_ok (var_ok rfl) (part_ok (op_ok (var_ok rfl) k_ok (addI' _ _))) nopart_ok (cut_d _ _ _)) ?_
    · exact addT (le_size (by simp; omega))
    · rw [chg_rep]
      refine (addT (le_size (by simp; omega))).trans ?_
      rw [List.append_assoc]; rfl
  have hch := height_chg ok hr (u := u.toNat) (c := c.toNat) (by omega) hc
  rw [hoth] at hch
  have O1 := height_ok M3 ok ho
  have O2 := height_ok M3 ok hr
  have O3 := pays_ok M3 ok ho
  have O4 := pays_ok M3 ok hr
  have px : ∀ r : Rw, ixM (sC xs (k1 + 1 + 1 + 1) :: rest) (rI (pays cs ws r)) (.int (u.toNat : Nat)) = some (.int (pay cs ws r u.toNat)) := fun r => (ixT' _ _).trans (pay_ix ok hu)
  refine R_ifn (t_ok (op_ok (op_ok (by left) (by left) (subI _ _)) (op_ok (op_ok (by left) (var_ok rfl) (px oth)) (op_ok (by left) (var_ok rfl) (px row)) (subI _ _)) (neI' _ _))) (by rw [decide_eq_true (by omega)]; rfl) ?_
  refine R_set (i := 11) (lstC_ok (one_ok (var_ok rfl))) rfl ?_
  have nl : nlow cs ws row ≤ 81 := Nat.le_trans (List.length_filter_le _ _) rl
  obtain ⟨v7, v12, hline⟩ := law_line (μ := sC xs (k1 + 1 + 1 + 1) :: rest) M3 ok (fun a b => [some (.scr ns), some (.ref 0), u2, some (rCo cs), some (rWs ws), some (.lst (rRs (rows ws))), some (rRow row), a, some (.lst [rI (loads n ws row), rI (pays cs ws row), .int (height cs ws row), rOpt (chp cs ws row), .bl (chp cs ws row).isNone]), some (.int (u.toNat : Nat)), some (rRow oth), some (.ref (sC xs (k1 + 1 + 1 + 1) :: rest).length), b, u13, u14, u15, u16, u17, u18, u19, u20, u21, u22]) (fun _ _ => rfl) (fun _ _ => rfl) (fun _ _ => rfl) (fun _ _ => rfl) (fun _ _ _ => rfl) (fun _ _ _ => rfl) (intsL 0 400) 81 [] row (intsL 0 400) (some (rOpt (chp cs ws row))) u12 hr nl (by simp [intsL]) (by simp)
  obtain ⟨dl, dm⟩ := dn_ok ok 81 row hr
  generalize hD : dn cs ws 81 row = D at dl dm hline
  obtain ⟨t, ht⟩ : ∃ t, D = row :: t := by rw [← hD]; exact dn_ne 81 row
  refine R_step (for_ev (mrng1 (n := 400) (one_ok k_ok) (by decide)) hline) ?_
  show Turn ns xs 21 k 1000 _
  have hp2 : Pls (rest ++ [Cell.lst (rRs D)]) := hp.snoc (nrs_Rs _)
  have M4 : okMem (sC xs (k1 + 1 + 1 + 1) :: (rest ++ [Cell.lst (rRs D)])) := okMem_pls hp2
  generalize hS : (sC xs (k1 + 1 + 1 + 1) :: (rest ++ [Cell.lst (rRs D)])) = S at M4
  have eS : (sC xs (k1 + 1 + 1 + 1) :: rest) ++ [Cell.lst (rRs ([] ++ D))] = S := by rw [← hS]; rfl
  rw [eS]
  have cell : S[(sC xs (k1 + 1 + 1 + 1) :: rest).length]? = some (.lst (rRs D)) := by
    rw [← eS]; exact get_last
  generalize hi : (sC xs (k1 + 1 + 1 + 1) :: rest).length = i at cell
  refine R_set (i := 13) (d := .lst (rRs ((rows ws).filter (isR cs ws)))) (mcomp_filE (rep := rRow) (chk := []) (itm_ev (var_ok rfl) rfl) ok_nil (le_size (by omega)) fun q hq => ⟨_, rfl, t_ok (op_ok (call_ok (cons_ok (var_ok rfl) (cons_ok (var_ok rfl) (one_ok (var_ok rfl)))) rfl (law_cheaper_ok M4 ok (mem_rows.mp hq))) k_ok (is_none _)), fun _ => var_ok rfl⟩) rfl ?_
  refine R_set (i := 14) (d := .lst (((rows ws).map (height cs ws)).map .int)) (ev_eq (mcomp_mapE (rep := rRow) (f := fun q => .int (height cs ws q)) (chk := []) (itm_ev (var_ok rfl) rfl) ok_nil (le_size (by omega)) fun q hq => ⟨_, rfl, call_ok (cons_ok (var_ok rfl) (cons_ok (var_ok rfl) (one_ok (var_ok rfl)))) rfl (law_height_ok M4 ok (mem_rows.mp hq))⟩) (by rw [List.map_map]; rfl)) rfl ?_
  obtain ⟨w1, w2, w3⟩ := lst_in ok
  have hne : (rows ws).map (height cs ws) ≠ [] := fun e => rows_ne ok (List.map_eq_nil_iff.mp e)
  refine R_set (i := 15) (d := rRow (lwst cs ws)) (op_ok (var_ok rfl) (meth_ok (var_ok rfl) rfl (one_ok (cb_ok (one_ok (var_ok rfl)) (mn_ok hne rfl))) (Dt.idx (Dt.int) (by omega) rfl (mn_mem hne))) ?_) rfl ?_
  · have hlt := (List.getElem?_eq_some_iff.mp w3).1
    rw [ixLn (n := ((rows ws).map (height cs ws)).idxOf (mn ((rows ws).map (height cs ws)))) (xs := rows ws) (f := rRow) hlt rfl]
    rw [List.getD_eq_getElem?_getD, w3]; rfl
  have W1 := way_down_ok M4 ok hr
  rw [hD] at W1
  have W2 := resting_rows_ok M4 ok
  have W3 := lowest_ok M4 ok
  have rsm : ∀ q ∈ (rows ws).filter (isR cs ws), OkR ws q := fun q hq => mem_rows.mp (List.mem_filter.mp hq).1
  have rsl : ((rows ws).filter (isR cs ws)).length ≤ 200 := Nat.le_trans (List.length_filter_le _ _) (by omega)
  have sdD := sd_rows ok (rs := D) (by omega) dm
  have s2 : F_law_same [.lst [.lst (rRs D), .lst (rRs ((rows ws).filter (isR cs ws))), rRow (lwst cs ws)], .lst [.ref i, .lst (rRs ((rows ws).filter (isR cs ws))), rRow (lwst cs ws)]] S = .ok (.bl true) S :=
    law_same M4 (B := 80) (SdL (Sds.cons sdD (Sds.cons (sd_rows ok rsl rsm) (Sds.cons (sd_row ok w1) Sds.nil)))) (pd_lst (pdL_cons (pd_ref cell sdD) rfl)) (by decide) (by decide) (by decide)
  have ninr : notInM S (rRow (lwst cs ws)) (.lst (rRs ((rows ws).filter (isR cs ws)))) = some (.bl false) := dt_row.notIn_f (by omega) rfl (List.mem_filter.mpr ⟨mem_rows.mpr w1, by unfold isR; rw [w2]; rfl⟩)
  refine R_ifn (t_ok (or_f (not_ok (k := true) (call_ok (cons_ok (lst_ok (cons_ok (by left) (cons_ok (by left) (one_ok (by left))))) (one_ok (lst_ok (cons_ok (var_ok rfl) (cons_ok (var_ok rfl) (one_ok (var_ok rfl))))))) rfl s2)) (op_ok (var_ok rfl) (var_ok rfl) ninr))) rfl ?_
  have lD : lstOf S (.ref i) = some (rRs D) := celOf_of cell
  obtain ⟨ps, hps⟩ : ∃ ps : List (MV × List Rw), ps = [(.ref i, D), (.lst (rRs D.reverse), D.reverse), (.lst (rRs (D.drop 1)), D.drop 1), (.lst (rRs (D ++ [row])), D ++ [row]), (.lst (rRs [row, oth]), [row, oth]), (.lst (rRs []), []), (.lst (rRs [row ++ [0]]), [row ++ [0]]), (.lst (rRs [row]), [row])] := ⟨_, rfl⟩
  have hP : ∀ p ∈ ps, p.2.length ≤ 1000 ∧ lstOf S p.1 = some (rRs p.2) ∧ ∃ chk, itmOf S p.1 = some ⟨rRs p.2, chk⟩ ∧ ∀ xs, Itm.ok ⟨xs, chk⟩ S := by
    intro p hp
    rw [hps] at hp
    simp only [List.mem_cons, List.not_mem_nil, or_false] at hp
    have F : ∀ rs : List Rw, rs.length ≤ 1000 → rs.length ≤ 1000 ∧ lstOf S (.lst (rRs rs)) = some (rRs rs) ∧ ∃ chk, itmOf S (.lst (rRs rs)) = some ⟨rRs rs, chk⟩ ∧ ∀ xs, Itm.ok ⟨xs, chk⟩ S := fun rs h => ⟨h, rfl, [], rfl, fun _ => ok_nil⟩
    rcases hp with rfl | rfl | rfl | rfl | rfl | rfl | rfl | rfl
    · exact ⟨by show D.length ≤ _; omega, lD, _, itmC cell, fun _ => ok_one cell⟩
    · exact F _ (by rw [List.length_reverse]; omega)
    · exact F _ (by rw [List.length_drop]; omega)
    · exact F _ (by rw [List.length_append]; simp; omega)
    · exact F _ (by simp)
    · exact F _ (by simp)
    · exact F _ (by simp)
    · exact F _ (by simp)
  have pv : ps.map (·.1) = [.ref i, .lst (rRs D.reverse), .lst (rRs (D.drop 1)), .lst (rRs (D ++ [row])), .lst (rRs [row, oth]), .lst (rRs []), .lst (rRs [row ++ [0]]), .lst (rRs [row])] := by rw [hps]; rfl
  have pl : ps.length = 8 := by rw [hps]; rfl
  have hrev : revM S (.ref i) = some (.lst (rRs D.reverse)) := by
    unfold revM
    rw [lD, rRs, rRs, List.map_reverse]; rfl
  have hdrop : sliceM S (.ref i) (some 1) none = some (.lst (rRs (D.drop 1))) := by
    rw [sliceL lD]
    have := cut_from (rRs D) 1
    rw [show ((1 : Nat) : Int) = 1 from rfl] at this
    rw [this, rRs, rRs, List.map_drop]
  have hadd : addM S (.ref i) (.lst [rRow row]) = some (.lst (rRs (D ++ [row]))) := by
    have : addM S (.ref i) (.lst [rRow row]) = (if (rRs D).length + 1 ≤ sizeLine then some (MV.lst (rRs D ++ [rRow row])) else none) := by
      unfold addM
      dsimp only
      rw [lD]; rfl
    rw [this, if_pos (le_size (by simp [rRs]; omega)), rRs, rRs, List.map_append]; rfl
  have h0 : addM S (rRow row) (.tup [.int 0]) = some (rRow (row ++ [0])) := by
    refine (addT (le_size (by simp; omega))).trans ?_
    show some (MV.tup (row.map rNt ++ [.int 0])) = some (MV.tup ((row ++ [0]).map rNt))
    rw [List.map_append]; rfl
  refine R_set (i := 16) (μ1 := S) (d := .lst (ps.map (·.1))) ?_ rfl ?_
  · rw [pv]
    exact lst_ok (cons_ok (var_ok rfl) (cons_ok (un_ok (var_ok rfl) hrev) (cons_ok (slice_ok (var_ok rfl) (part_ok k_ok) nopart_ok hdrop) (cons_ok (op_ok (var_ok rfl) (lst_ok (one_ok (var_ok rfl))) hadd) (cons_ok (lst_ok (cons_ok (var_ok rfl) (one_ok (var_ok rfl)))) (cons_ok (lst_ok nil_ok) (cons_ok (lst_ok (one_ok (op_ok (var_ok rfl) (tup_ok (one_ok k_ok)) h0))) (one_ok (lst_ok (one_ok (var_ok rfl)))))))))))
  have s3 : F_law_same [.lst (ps.map fun p => .bl (jdg cs ws p.2)), .lst (ps.map fun p => .bl (jdg cs ws p.2))] S = .ok (.bl true) S :=
    law_same M4 (B := 80) (SdL (Sds.map (L := 20) (k := 0) (n := 0) (by omega) fun p _ => Sd.bl)) rfl (by decide) (by decide) (by decide)
  refine R_ifn (t_ok (not_ok (k := true) (call_ok (cons_ok (mcomp_mapE (rep := fun p : MV × List Rw => p.1) (f := fun p => .bl (jdg cs ws p.2)) (xs := ps) (chk := []) (itm_ev (var_ok rfl) rfl) ok_nil (le_size (by omega)) fun p hp => ⟨_, rfl, ?_⟩) (one_ok (mcomp_mapE (rep := fun p : MV × List Rw => p.1) (f := fun p => .bl (jdg cs ws p.2)) (xs := ps) (chk := []) (itm_ev (var_ok rfl) rfl) ok_nil (le_size (by omega)) fun p hp => ⟨_, rfl, ?_⟩))) rfl s3))) rfl ?_
  · obtain ⟨q1, q2, chk, q3, q4⟩ := hP p hp
    exact call_ok (cons_ok (var_ok rfl) (cons_ok (var_ok rfl) (one_ok (var_ok rfl)))) rfl (judge_way_ok M4 ok q1 q2 q3 q4)
  · obtain ⟨q1, q2, chk, q3, q4⟩ := hP p hp
    exact call_ok (cons_ok (var_ok rfl) (cons_ok (var_ok rfl) (one_ok (var_ok rfl)))) rfl (law_right_ok M4 ok q1 q2 q3 q4)
  have cd : sliceM S (rCo cs) (some 1) none = some (rCo (cs.drop 1)) := slTd (n := 1)
  have wd : sliceM S (rWs ws) (some 1) none = some (rWs (ws.drop 1)) := slTd (n := 1)
  have rd : sliceM S (rRow row) (some 1) none = some (rRow (row.drop 1)) := slTd (n := 1)
  have cc : ∀ r : List Int, addM S (.tup [rI r]) (rCo (cs.drop 1)) = some (rCo (r :: cs.drop 1)) := fun r => addT (le_size (by simp; omega))
  have wc : ∀ o : List (List Int), addM S (.tup [rO o]) (rWs (ws.drop 1)) = some (rWs (o :: ws.drop 1)) := fun r => addT (le_size (by simp; omega))
  have rc : addM S (.tup [.int 9]) (rRow (row.drop 1)) = some (rRow (9 :: row.drop 1)) := addT (le_size (by simp; omega))
  have ml : ∀ (x : Int) (k : Nat), 1 ≤ k → k ≤ 1000 → mulM2 S (.tup [.int x]) (.int (k : Nat)) = some (rI (List.replicate k x)) := fun x k h1 h2 => by rw [mulT h1 h2, rI, List.map_replicate]
  have e1 : ((ws.length : Int) + 1) = ((ws.length + 1 : Nat) : Int) := by omega
  refine R_set (i := 17) (d := .lst [.tup [rCo [], rWs ws], .tup [rCo (List.replicate (ws.length + 1) 0 :: cs.drop 1), rWs ws], .tup [rCo (List.replicate ws.length 100 :: cs.drop 1), rWs ws], .tup [rCo cs, rWs []]]) (μ1 := S) ?_ rfl ?_
  · exact lst_ok (cons_ok (tup_ok (cons_ok (tup_ok nil_ok) (one_ok (var_ok rfl)))) (cons_ok (tup_ok (cons_ok (op_ok (tup_ok (one_ok (op_ok (tup_ok (one_ok k_ok)) (op_ok (cb_ok (one_ok (var_ok rfl)) (lenWs _ _)) k_ok ((addI' _ _).trans (by rw [e1]))) (ml 0 _ (by omega) (by omega))))) (slice_ok (var_ok rfl) (part_ok k_ok) nopart_ok cd) (cc _)) (one_ok (var_ok rfl)))) (cons_ok (tup_ok (cons_ok (op_ok (tup_ok (one_ok (op_ok (tup_ok (one_ok k_ok)) (cb_ok (one_ok (var_ok rfl)) (lenWs _ _)) (ml 100 _ (by omega) (by omega))))) (slice_ok (var_ok rfl) (part_ok k_ok) nopart_ok cd) (cc _)) (one_ok (var_ok rfl)))) (one_ok (tup_ok (cons_ok (var_ok rfl) (one_ok (tup_ok nil_ok))))))))
  refine R_set (i := 17) (d := .lst ((bads cs ws).map fun p => .tup [rCo p.1, rWs p.2])) (op_ok (var_ok rfl) (lst_ok (cons_ok (tup_ok (cons_ok (var_ok rfl) (one_ok (op_ok (tup_ok (one_ok (tup_ok nil_ok))) (slice_ok (var_ok rfl) (part_ok k_ok) nopart_ok wd) (wc []))))) (cons_ok (tup_ok (cons_ok (var_ok rfl) (one_ok (op_ok (tup_ok (one_ok (tup_ok (one_ok (tup_ok (one_ok k_ok)))))) (slice_ok (var_ok rfl) (part_ok k_ok) nopart_ok wd) (wc [[9]]))))) (cons_ok (tup_ok (cons_ok (var_ok rfl) (one_ok (op_ok (tup_ok (one_ok (tup_ok (one_ok (tup_ok nil_ok))))) (slice_ok (var_ok rfl) (part_ok k_ok) nopart_ok wd) (wc [[]]))))) (one_ok (tup_ok (cons_ok (var_ok rfl) (one_ok (op_ok (tup_ok (one_ok (tup_ok (one_ok (tup_ok (cons_ok k_ok (one_ok k_ok))))))) (slice_ok (var_ok rfl) (part_ok k_ok) nopart_ok wd) (wc [[0, 0]])))))))))) (addL (le_size0 (by simp)))) rfl ?_
  have B := for_all (t := ⟨(bads cs ws).map fun p : Cs × Ws => .tup [rCo p.1, rWs p.2], []⟩) (g := gT ((gN 18) :: ((gN 19) :: []))) (b := B2_law C) (μ := S) ok_nil (fun p : Cs × Ws => .tup [rCo p.1, rWs p.2]) (fun s : Option MV × Option MV × Option MV => [some (.scr ns), some (.ref 0), u2, some (rCo cs), some (rWs ws), some (.lst (rRs (rows ws))), some (rRow row), v7, some (.lst [rI (loads n ws row), rI (pays cs ws row), .int (height cs ws row), rOpt (chp cs ws row), .bl (chp cs ws row).isNone]), some (.int (u.toNat : Nat)), some (rRow oth), some (.ref i), v12, some (.lst (rRs ((rows ws).filter (isR cs ws)))), some (.lst (((rows ws).map (height cs ws)).map .int)), some (rRow (lwst cs ws)), some (.lst (ps.map fun q : MV × List Rw => q.1)), some (.lst ((bads cs ws).map fun p : Cs × Ws => .tup [rCo p.1, rWs p.2])), s.1, s.2.1, u20, s.2.2, u22]) (fun _ => true) (.bl false) (bads cs ws) (u18, u19, u21) fun p hp s => by
    refine ⟨[some (.scr ns), some (.ref 0), u2, some (rCo cs), some (rWs ws), some (.lst (rRs (rows ws))), some (rRow row), v7, some (.lst [rI (loads n ws row), rI (pays cs ws row), .int (height cs ws row), rOpt (chp cs ws row), .bl (chp cs ws row).isNone]), some (.int (u.toNat : Nat)), some (rRow oth), some (.ref i), v12, some (.lst (rRs ((rows ws).filter (isR cs ws)))), some (.lst (((rows ws).map (height cs ws)).map .int)), some (rRow (lwst cs ws)), some (.lst (ps.map fun q : MV × List Rw => q.1)), some (.lst ((bads cs ws).map fun p : Cs × Ws => .tup [rCo p.1, rWs p.2])), some (rCo p.1), some (rWs p.2), u20, s.2.2, u22], rfl, fun _ => ⟨(some (rCo p.1), some (rWs p.2), some (.lst [.tup [.str "refused"], .tup [.str "refused"], .tup [.str "refused"]])), ?_⟩, fun h => (by cases h)⟩
    exact bad_step C M4 (bads_x M4 ok p hp) (fun a b c => [some (.scr ns), some (.ref 0), u2, some (rCo cs), some (rWs ws), some (.lst (rRs (rows ws))), some (rRow row), v7, some (.lst [rI (loads n ws row), rI (pays cs ws row), .int (height cs ws row), rOpt (chp cs ws row), .bl (chp cs ws row).isNone]), some (.int (u.toNat : Nat)), some (rRow oth), some (.ref i), v12, some (.lst (rRs ((rows ws).filter (isR cs ws)))), some (.lst (((rows ws).map (height cs ws)).map .int)), some (rRow (lwst cs ws)), some (.lst (ps.map fun q : MV × List Rw => q.1)), some (.lst ((bads cs ws).map fun p : Cs × Ws => .tup [rCo p.1, rWs p.2])), a, b, u20, c, u22]) s.2.2 (fun _ _ _ => rfl) (fun _ _ _ => rfl) (fun _ _ _ => rfl) (fun _ _ _ => rfl) (fun _ _ _ _ => rfl)
  rcases B with ⟨_, s, B⟩ | ⟨B, _⟩
  · refine R_step (for_ev (itm_ev (var_ok rfl) rfl) B) ?_
    refine R_set (i := 20) (d := rWs wide4) (op_ok (tup_ok (one_ok (op_ok (tup_ok (one_ok (tup_ok (one_ok k_ok)))) k_ok (mulT (n := 6) (by omega) (by omega))))) k_ok (mulT (n := 4) (by omega) (by omega))) rfl ?_
    have X1 := bad_row M4 ok (row := row ++ [0]) (by simp; omega) (.inl (by simp; omega))
    have X2 := bad_row M4 ok (row := 9 :: row.drop 1) (by simp; omega) (.inr (by
      cases hw : ws with
      | nil => rw [hw] at wl; simp at wl; omega
      | cons o t =>
        refine ⟨(9, o), by simp, ?_⟩
        have := (ok.ol o (by rw [hw]; simp)).2
        simp; omega))
    have X3 := crowd_large M4
    refine R_set (i := 21) (d := .lst [.tup [.str "refused"], .tup [.str "refused"], .tup [.str "large"], .tup [.str "large"]]) (lst_ok (cons_ok (told_not (call_ok (cons_ok (var_ok rfl) (cons_ok (var_ok rfl) (one_ok (op_ok (var_ok rfl) (tup_ok (one_ok k_ok)) h0)))) rfl (pays_x M4 X1))) (cons_ok (told_not (call_ok (cons_ok (var_ok rfl) (cons_ok (var_ok rfl) (one_ok (op_ok (tup_ok (one_ok k_ok)) (slice_ok (var_ok rfl) (part_ok k_ok) nopart_ok rd) rc)))) rfl (height_x M4 X2))) (cons_ok (told_large (call_ok (cons_ok (tup_ok (one_ok (op_ok (tup_ok (one_ok k_ok)) k_ok (mulT (n := 4) (by omega) (by omega))))) (one_ok (var_ok rfl))) rfl (rest_x M4 X3))) (one_ok (told_large (call_ok (cons_ok (tup_ok (one_ok (op_ok (tup_ok (one_ok k_ok)) k_ok (mulT (n := 4) (by omega) (by omega))))) (one_ok (var_ok rfl))) rfl (lowest_x M4 X3)))))))) rfl ?_
    refine R_last (t_ok (op_ok (var_ok rfl) (op_ok (op_ok (lst_ok (one_ok (tup_ok (one_ok k_ok)))) k_ok (mulLst (n := 2) rfl (by omega))) (op_ok (lst_ok (one_ok (tup_ok (one_ok k_ok)))) k_ok (mulLst (n := 2) rfl (by omega))) (addL (le_size0 (by simp)))) (ne_same (B := 80) (k := 2) (n := 36) (sdRs _ (by simp)) rfl (by omega)))) rfl ?_
    rw [← hS]
    exact Turn.mk rfl hp2 (by omega)
  · simp at B
end
end K33

set_option Elab.async false
set_option linter.all false
set_option maxRecDepth 100000
set_option maxHeartbeats 400000

namespace K33
open PySem PySem.Spec PyProof.Rows L2 MM PL Crd
/-- the plain law -/
theorem fin (C : Fin 5 → Addr) (ns : List Int) (_ : ns.length ≤ 63) (_ : ∀ z ∈ ns, Builtin.Int.intBits z ≤ 1048576) : ∃ μ', F_law C [.scr ns] [] = .ok (.bl true) μ' := by
  obtain ⟨xs, sx, hx⟩ := stream_ok ns
  have sx : F_law_stream [.scr ns] [] = .ok (.lst (xs.map .int)) [] := sx
  obtain ⟨us, k, rest, e1, e2⟩ := law_turns (ns := ns) (xs := xs) (N := 20) (c := 1000) (T := 4) (b := B3_law C) (fun us k rest h1 h2 h3 => turn_ok C hx us h1 h2 h3) (by omega) (List.replicate 21 none) (by simp)
  have key : M_law C [some (.scr ns), none, none, none, none, none, none, none, none, none, none, none, none, none, none, none, none, none, none, none, none, none, none] [] = .rt (.bl true) (sC xs k :: rest) := by
    unfold M_law
    refine seq_set (lstC_ok (cons_ok (call_ok (one_ok (var_ok rfl)) rfl sx) (one_ok k_ok))) rfl ?_
    exact seq_step e1 (ret_s (op_ok (tup_ok (cons_ok k_ok (cons_ok k_ok (cons_ok k_ok (cons_ok k_ok (one_ok k_ok)))))) (tup_ok (cons_ok k_ok (cons_ok k_ok (cons_ok k_ok (cons_ok k_ok (one_ok k_ok)))))) (eq_same (B := 80) (SdT (Sds.cons (SdI (by omega) (by omega)) (Sds.cons (SdI (by omega) (by omega)) (Sds.cons (SdI (by omega) (by omega)) (Sds.cons (SdI (by omega) (by omega)) (Sds.cons (SdI (by omega) (by omega)) Sds.nil)))))) rfl (by decide))))
  exact ⟨[], run_rt (μ := []) key rfl rfl⟩
end K33

set_option Elab.async false
set_option linter.all false
set_option maxRecDepth 100000
set_option maxHeartbeats 0
namespace K33
open PySem PySem.Spec PyProof.Rows L2 MM
def D_p_check_crowd : He.DefD := ⟨("check_crowd", none), "check_crowd", "check_crowd", defArgs st_p_check_crowd, defBody st_p_check_crowd, defScope st_p_check_crowd, [], []⟩
def D_p_is_way : He.DefD := ⟨("is_way", none), "is_way", "is_way", defArgs st_p_is_way, defBody st_p_is_way, defScope st_p_is_way, [], []⟩
def D_p_count_rows : He.DefD := ⟨("count_rows", none), "count_rows", "count_rows", defArgs st_p_count_rows, defBody st_p_count_rows, defScope st_p_count_rows, [], []⟩
def D_p_rows_of : He.DefD := ⟨("rows_of", none), "rows_of", "rows_of", defArgs st_p_rows_of, defBody st_p_rows_of, defScope st_p_rows_of, [], []⟩
def D_p_check_row : He.DefD := ⟨("check_row", none), "check_row", "check_row", defArgs st_p_check_row, defBody st_p_check_row, defScope st_p_check_row, [], []⟩
def D_p_known_loads : He.DefD := ⟨("known_loads", none), "known_loads", "known_loads", defArgs st_p_known_loads, defBody st_p_known_loads, defScope st_p_known_loads, [], []⟩
def D_p_loads : He.DefD := ⟨("loads", none), "loads", "loads", defArgs st_p_loads, defBody st_p_loads, defScope st_p_loads, [], []⟩
def D_p_known_pays : He.DefD := ⟨("known_pays", none), "known_pays", "known_pays", defArgs st_p_known_pays, defBody st_p_known_pays, defScope st_p_known_pays, [], []⟩
def D_p_pays : He.DefD := ⟨("pays", none), "pays", "pays", defArgs st_p_pays, defBody st_p_pays, defScope st_p_pays, [], []⟩
def D_p_height : He.DefD := ⟨("height", none), "height", "height", defArgs st_p_height, defBody st_p_height, defScope st_p_height, [], []⟩
def D_p_known_height : He.DefD := ⟨("known_height", none), "known_height", "known_height", defArgs st_p_known_height, defBody st_p_known_height, defScope st_p_known_height, [], []⟩
def D_p_cheaper : He.DefD := ⟨("cheaper", none), "cheaper", "cheaper", defArgs st_p_cheaper, defBody st_p_cheaper, defScope st_p_cheaper, [], []⟩
def D_p_first_cheaper : He.DefD := ⟨("first_cheaper", none), "first_cheaper", "first_cheaper", defArgs st_p_first_cheaper, defBody st_p_first_cheaper, defScope st_p_first_cheaper, [], []⟩
def D_p_is_resting : He.DefD := ⟨("is_resting", none), "is_resting", "is_resting", defArgs st_p_is_resting, defBody st_p_is_resting, defScope st_p_is_resting, [], []⟩
def D_p_resting_rows : He.DefD := ⟨("resting_rows", none), "resting_rows", "resting_rows", defArgs st_p_resting_rows, defBody st_p_resting_rows, defScope st_p_resting_rows, [], []⟩
def D_p_way_down : He.DefD := ⟨("way_down", none), "way_down", "way_down", defArgs st_p_way_down, defBody st_p_way_down, defScope st_p_way_down, [], []⟩
def D_p_lowest : He.DefD := ⟨("lowest", none), "lowest", "lowest", defArgs st_p_lowest, defBody st_p_lowest, defScope st_p_lowest, [], []⟩
def D_p_judge_way : He.DefD := ⟨("judge_way", none), "judge_way", "judge_way", defArgs st_p_judge_way, defBody st_p_judge_way, defScope st_p_judge_way, [], []⟩
def D_law_same : He.DefD := ⟨("_law_same", none), "_law_same", "_law_same", defArgs st_law_same, defBody st_law_same, defScope st_law_same, [], []⟩
def D_law_stream : He.DefD := ⟨("_law_stream", none), "_law_stream", "_law_stream", defArgs st_law_stream, defBody st_law_stream, defScope st_law_stream, [], []⟩
def D_law_next : He.DefD := ⟨("_law_next", none), "_law_next", "_law_next", defArgs st_law_next, defBody st_law_next, defScope st_law_next, [], []⟩
def D_law_told : He.DefD := ⟨("_law_told", none), "_law_told", "_law_told", defArgs st_law_told, defBody st_law_told, defScope st_law_told, [], []⟩
def D_law_crowd : He.DefD := ⟨("_law_crowd", none), "_law_crowd", "_law_crowd", defArgs st_law_crowd, defBody st_law_crowd, defScope st_law_crowd, [], []⟩
def D_law_rows : He.DefD := ⟨("_law_rows", none), "_law_rows", "_law_rows", defArgs st_law_rows, defBody st_law_rows, defScope st_law_rows, [], []⟩
def D_law_loads : He.DefD := ⟨("_law_loads", none), "_law_loads", "_law_loads", defArgs st_law_loads, defBody st_law_loads, defScope st_law_loads, [], []⟩
def D_law_pays : He.DefD := ⟨("_law_pays", none), "_law_pays", "_law_pays", defArgs st_law_pays, defBody st_law_pays, defScope st_law_pays, [], []⟩
def D_law_height : He.DefD := ⟨("_law_height", none), "_law_height", "_law_height", defArgs st_law_height, defBody st_law_height, defScope st_law_height, [], []⟩
def D_law_cheaper : He.DefD := ⟨("_law_cheaper", none), "_law_cheaper", "_law_cheaper", defArgs st_law_cheaper, defBody st_law_cheaper, defScope st_law_cheaper, [], []⟩
def D_law_right : He.DefD := ⟨("_law_right", none), "_law_right", "_law_right", defArgs st_law_right, defBody st_law_right, defScope st_law_right, [], []⟩
def D_law : He.DefD := ⟨("law", none), "law", "law", defArgs st_law, defBody st_law, defScope st_law, [], []⟩
def FN : List He.DefD := [D_p_check_crowd, D_p_is_way, D_p_count_rows, D_p_rows_of, D_p_check_row, D_p_known_loads, D_p_loads, D_p_known_pays, D_p_pays, D_p_height, D_p_known_height, D_p_cheaper, D_p_first_cheaper, D_p_is_resting, D_p_resting_rows, D_p_way_down, D_p_lowest, D_p_judge_way, D_law_same, D_law_stream, D_law_next, D_law_told, D_law_crowd, D_law_rows, D_law_loads, D_law_pays, D_law_height, D_law_cheaper, D_law_right, D_law]
def FA : List He.Fa := faE ++ ([.int "MAX_THINGS" 6, .int "MAX_USERS" 4, .int "MAX_WAYS" 6, .int "MAX_COST" 99, .int "MAX_ROWS" 700, .glo "check_crowd", .glo "is_way", .glo "count_rows", .glo "rows_of", .glo "check_row", .glo "known_loads", .glo "loads", .glo "known_pays", .glo "pays", .glo "height", .glo "known_height", .glo "cheaper", .glo "first_cheaper", .glo "is_resting", .glo "resting_rows", .glo "way_down", .glo "lowest", .glo "judge_way", .glo "_law_same", .glo "_law_stream", .glo "_law_next", .glo "_law_told", .glo "_law_crowd", .glo "_law_rows", .glo "_law_loads", .glo "_law_pays", .glo "_law_height", .glo "_law_cheaper", .glo "_law_right", .glo "law"] : List He.Fa)
def LOOSE : List Str := (["__name__", "ChooseError", "NotAllowed", "TooLarge", "Missing", "BadForm", "Broken", "MAX_THINGS", "MAX_USERS", "MAX_WAYS", "MAX_COST", "MAX_ROWS", "check_crowd", "is_way", "count_rows", "rows_of", "check_row", "known_loads", "loads", "known_pays", "pays", "height", "known_height", "cheaper", "first_cheaper", "is_resting", "resting_rows", "way_down", "lowest", "judge_way"] : List Str) ++ (["_law_same", "_law_stream", "_law_next", "_law_told", "_law_crowd", "_law_rows", "_law_loads", "_law_pays", "_law_height", "_law_cheaper", "_law_right"] : List Str)
abbrev R : PySem.W.OpenRow := PySem.W.OpenLaw.row PySem.Challenge.rw_bothchoose_k33_whole_crowds_that_rest
abbrev TF : List He.Defn := [("law", none)]
abbrev HK : PySem.W.Hook := He.hookX 4 FA FN [] TF errB
def OB (s : PySem.W.SharedT) : He.AlX := He.obsX 4 FA FN [] TF errB (HandSHeadRun.getT s)
theorem OB_eq (s : PySem.W.SharedT) : OB s = HK.obs s.abs := He.obsX_eq (HandSHeadRun.getT_eq s)
theorem RUN (w : World) : HandSHeadRun.RunEq R (PySem.W.view R.prog [43]) HK OB 4000 LOOSE w := by
  intro os
  kernel_rfl
theorem facts {w : World} {K : PySem.W.Frag} {h : Heap} {mg : Str → Option Value} {fa : Addr} (X : K.In h) (G : h.Ns mainGlobals mg) (c : He.SaysX FA FN [] TF errB w h K) (hfa : mg ("law" : Str) = some (.ref fa)) :
    ∃ fd : FuncData, (∀ (s : Shared) (u : Value), BindsTo s fd ⟨[u], []⟩ [("script", u)]) ∧ ∀ base : Heap, K.In base → base.Ns mainGlobals mg → LamX.TabB base mg (He.cT K ("law", none)).1 (He.cT K ("law", none)).2 →
      FnG (PySem.Challenge.rw_bothchoose_k33_whole_crowds_that_rest).prog w K mg base [((He.cT K ("law", none)).2, ("law.<locals>.<lambda>" : Str))] 7 fa fd ["script"] (F_law (errA K)) := by
  have fE : ∀ x ∈ faE, x.ok K = true := fun x hx => c.t.d.facts (List.mem_append_left _ hx)
  have bl : Blt mg := blt_ok X G fE
  have er := errs_ok c.more X G fE
  have hx := errs_sup fE
  obtain ⟨x_NotAllowed, x_TooLarge, x_Missing⟩ := errs_exc X G fE
  have h_MAX_THINGS : ∃ t, mg "MAX_THINGS" = some (.int 6 t) := He.int_ok X G (c.t.d.fact 31 (f := .int "MAX_THINGS" 6) rfl)
  have h_MAX_USERS : ∃ t, mg "MAX_USERS" = some (.int 4 t) := He.int_ok X G (c.t.d.fact 32 (f := .int "MAX_USERS" 4) rfl)
  have h_MAX_WAYS : ∃ t, mg "MAX_WAYS" = some (.int 6 t) := He.int_ok X G (c.t.d.fact 33 (f := .int "MAX_WAYS" 6) rfl)
  have h_MAX_COST : ∃ t, mg "MAX_COST" = some (.int 99 t) := He.int_ok X G (c.t.d.fact 34 (f := .int "MAX_COST" 99) rfl)
  have h_MAX_ROWS : ∃ t, mg "MAX_ROWS" = some (.int 700 t) := He.int_ok X G (c.t.d.fact 35 (f := .int "MAX_ROWS" 700) rfl)
  have u_p_check_crowd : mg "check_crowd" = some (.ref (He.fAd K ("check_crowd", none))) := He.glo_ok X G (c.t.d.fact 36 (f := .glo "check_crowd") rfl)
  have q_p_check_crowd : ∃ fd, FunD K "check_crowd" "check_crowd" (defArgs st_p_check_crowd) (defBody st_p_check_crowd) (defScope st_p_check_crowd) [] [] (He.fAd K ("check_crowd", none)) fd := c.t.d.def_ 0 (d := D_p_check_crowd) rfl
  have u_p_is_way : mg "is_way" = some (.ref (He.fAd K ("is_way", none))) := He.glo_ok X G (c.t.d.fact 37 (f := .glo "is_way") rfl)
  have q_p_is_way : ∃ fd, FunD K "is_way" "is_way" (defArgs st_p_is_way) (defBody st_p_is_way) (defScope st_p_is_way) [] [] (He.fAd K ("is_way", none)) fd := c.t.d.def_ 1 (d := D_p_is_way) rfl
  have u_p_count_rows : mg "count_rows" = some (.ref (He.fAd K ("count_rows", none))) := He.glo_ok X G (c.t.d.fact 38 (f := .glo "count_rows") rfl)
  have q_p_count_rows : ∃ fd, FunD K "count_rows" "count_rows" (defArgs st_p_count_rows) (defBody st_p_count_rows) (defScope st_p_count_rows) [] [] (He.fAd K ("count_rows", none)) fd := c.t.d.def_ 2 (d := D_p_count_rows) rfl
  have u_p_rows_of : mg "rows_of" = some (.ref (He.fAd K ("rows_of", none))) := He.glo_ok X G (c.t.d.fact 39 (f := .glo "rows_of") rfl)
  have q_p_rows_of : ∃ fd, FunD K "rows_of" "rows_of" (defArgs st_p_rows_of) (defBody st_p_rows_of) (defScope st_p_rows_of) [] [] (He.fAd K ("rows_of", none)) fd := c.t.d.def_ 3 (d := D_p_rows_of) rfl
  have u_p_check_row : mg "check_row" = some (.ref (He.fAd K ("check_row", none))) := He.glo_ok X G (c.t.d.fact 40 (f := .glo "check_row") rfl)
  have q_p_check_row : ∃ fd, FunD K "check_row" "check_row" (defArgs st_p_check_row) (defBody st_p_check_row) (defScope st_p_check_row) [] [] (He.fAd K ("check_row", none)) fd := c.t.d.def_ 4 (d := D_p_check_row) rfl
  have u_p_known_loads : mg "known_loads" = some (.ref (He.fAd K ("known_loads", none))) := He.glo_ok X G (c.t.d.fact 41 (f := .glo "known_loads") rfl)
  have q_p_known_loads : ∃ fd, FunD K "known_loads" "known_loads" (defArgs st_p_known_loads) (defBody st_p_known_loads) (defScope st_p_known_loads) [] [] (He.fAd K ("known_loads", none)) fd := c.t.d.def_ 5 (d := D_p_known_loads) rfl
  have u_p_loads : mg "loads" = some (.ref (He.fAd K ("loads", none))) := He.glo_ok X G (c.t.d.fact 42 (f := .glo "loads") rfl)
  have q_p_loads : ∃ fd, FunD K "loads" "loads" (defArgs st_p_loads) (defBody st_p_loads) (defScope st_p_loads) [] [] (He.fAd K ("loads", none)) fd := c.t.d.def_ 6 (d := D_p_loads) rfl
  have u_p_known_pays : mg "known_pays" = some (.ref (He.fAd K ("known_pays", none))) := He.glo_ok X G (c.t.d.fact 43 (f := .glo "known_pays") rfl)
  have q_p_known_pays : ∃ fd, FunD K "known_pays" "known_pays" (defArgs st_p_known_pays) (defBody st_p_known_pays) (defScope st_p_known_pays) [] [] (He.fAd K ("known_pays", none)) fd := c.t.d.def_ 7 (d := D_p_known_pays) rfl
  have u_p_pays : mg "pays" = some (.ref (He.fAd K ("pays", none))) := He.glo_ok X G (c.t.d.fact 44 (f := .glo "pays") rfl)
  have q_p_pays : ∃ fd, FunD K "pays" "pays" (defArgs st_p_pays) (defBody st_p_pays) (defScope st_p_pays) [] [] (He.fAd K ("pays", none)) fd := c.t.d.def_ 8 (d := D_p_pays) rfl
  have u_p_height : mg "height" = some (.ref (He.fAd K ("height", none))) := He.glo_ok X G (c.t.d.fact 45 (f := .glo "height") rfl)
  have q_p_height : ∃ fd, FunD K "height" "height" (defArgs st_p_height) (defBody st_p_height) (defScope st_p_height) [] [] (He.fAd K ("height", none)) fd := c.t.d.def_ 9 (d := D_p_height) rfl
  have u_p_known_height : mg "known_height" = some (.ref (He.fAd K ("known_height", none))) := He.glo_ok X G (c.t.d.fact 46 (f := .glo "known_height") rfl)
  have q_p_known_height : ∃ fd, FunD K "known_height" "known_height" (defArgs st_p_known_height) (defBody st_p_known_height) (defScope st_p_known_height) [] [] (He.fAd K ("known_height", none)) fd := c.t.d.def_ 10 (d := D_p_known_height) rfl
  have u_p_cheaper : mg "cheaper" = some (.ref (He.fAd K ("cheaper", none))) := He.glo_ok X G (c.t.d.fact 47 (f := .glo "cheaper") rfl)
  have q_p_cheaper : ∃ fd, FunD K "cheaper" "cheaper" (defArgs st_p_cheaper) (defBody st_p_cheaper) (defScope st_p_cheaper) [] [] (He.fAd K ("cheaper", none)) fd := c.t.d.def_ 11 (d := D_p_cheaper) rfl
  have u_p_first_cheaper : mg "first_cheaper" = some (.ref (He.fAd K ("first_cheaper", none))) := He.glo_ok X G (c.t.d.fact 48 (f := .glo "first_cheaper") rfl)
  have q_p_first_cheaper : ∃ fd, FunD K "first_cheaper" "first_cheaper" (defArgs st_p_first_cheaper) (defBody st_p_first_cheaper) (defScope st_p_first_cheaper) [] [] (He.fAd K ("first_cheaper", none)) fd := c.t.d.def_ 12 (d := D_p_first_cheaper) rfl
  have u_p_is_resting : mg "is_resting" = some (.ref (He.fAd K ("is_resting", none))) := He.glo_ok X G (c.t.d.fact 49 (f := .glo "is_resting") rfl)
  have q_p_is_resting : ∃ fd, FunD K "is_resting" "is_resting" (defArgs st_p_is_resting) (defBody st_p_is_resting) (defScope st_p_is_resting) [] [] (He.fAd K ("is_resting", none)) fd := c.t.d.def_ 13 (d := D_p_is_resting) rfl
  have u_p_resting_rows : mg "resting_rows" = some (.ref (He.fAd K ("resting_rows", none))) := He.glo_ok X G (c.t.d.fact 50 (f := .glo "resting_rows") rfl)
  have q_p_resting_rows : ∃ fd, FunD K "resting_rows" "resting_rows" (defArgs st_p_resting_rows) (defBody st_p_resting_rows) (defScope st_p_resting_rows) [] [] (He.fAd K ("resting_rows", none)) fd := c.t.d.def_ 14 (d := D_p_resting_rows) rfl
  have u_p_way_down : mg "way_down" = some (.ref (He.fAd K ("way_down", none))) := He.glo_ok X G (c.t.d.fact 51 (f := .glo "way_down") rfl)
  have q_p_way_down : ∃ fd, FunD K "way_down" "way_down" (defArgs st_p_way_down) (defBody st_p_way_down) (defScope st_p_way_down) [] [] (He.fAd K ("way_down", none)) fd := c.t.d.def_ 15 (d := D_p_way_down) rfl
  have u_p_lowest : mg "lowest" = some (.ref (He.fAd K ("lowest", none))) := He.glo_ok X G (c.t.d.fact 52 (f := .glo "lowest") rfl)
  have q_p_lowest : ∃ fd, FunD K "lowest" "lowest" (defArgs st_p_lowest) (defBody st_p_lowest) (defScope st_p_lowest) [] [] (He.fAd K ("lowest", none)) fd := c.t.d.def_ 16 (d := D_p_lowest) rfl
  have u_p_judge_way : mg "judge_way" = some (.ref (He.fAd K ("judge_way", none))) := He.glo_ok X G (c.t.d.fact 53 (f := .glo "judge_way") rfl)
  have q_p_judge_way : ∃ fd, FunD K "judge_way" "judge_way" (defArgs st_p_judge_way) (defBody st_p_judge_way) (defScope st_p_judge_way) [] [] (He.fAd K ("judge_way", none)) fd := c.t.d.def_ 17 (d := D_p_judge_way) rfl
  have u_law_same : mg "_law_same" = some (.ref (He.fAd K ("_law_same", none))) := He.glo_ok X G (c.t.d.fact 54 (f := .glo "_law_same") rfl)
  have q_law_same : ∃ fd, FunD K "_law_same" "_law_same" (defArgs st_law_same) (defBody st_law_same) (defScope st_law_same) [] [] (He.fAd K ("_law_same", none)) fd := c.t.d.def_ 18 (d := D_law_same) rfl
  have u_law_stream : mg "_law_stream" = some (.ref (He.fAd K ("_law_stream", none))) := He.glo_ok X G (c.t.d.fact 55 (f := .glo "_law_stream") rfl)
  have q_law_stream : ∃ fd, FunD K "_law_stream" "_law_stream" (defArgs st_law_stream) (defBody st_law_stream) (defScope st_law_stream) [] [] (He.fAd K ("_law_stream", none)) fd := c.t.d.def_ 19 (d := D_law_stream) rfl
  have u_law_next : mg "_law_next" = some (.ref (He.fAd K ("_law_next", none))) := He.glo_ok X G (c.t.d.fact 56 (f := .glo "_law_next") rfl)
  have q_law_next : ∃ fd, FunD K "_law_next" "_law_next" (defArgs st_law_next) (defBody st_law_next) (defScope st_law_next) [] [] (He.fAd K ("_law_next", none)) fd := c.t.d.def_ 20 (d := D_law_next) rfl
  have u_law_told : mg "_law_told" = some (.ref (He.fAd K ("_law_told", none))) := He.glo_ok X G (c.t.d.fact 57 (f := .glo "_law_told") rfl)
  have q_law_told : ∃ fd, FunD K "_law_told" "_law_told" (defArgs st_law_told) (defBody st_law_told) (defScope st_law_told) [] [] (He.fAd K ("_law_told", none)) fd := c.t.d.def_ 21 (d := D_law_told) rfl
  have u_law_crowd : mg "_law_crowd" = some (.ref (He.fAd K ("_law_crowd", none))) := He.glo_ok X G (c.t.d.fact 58 (f := .glo "_law_crowd") rfl)
  have q_law_crowd : ∃ fd, FunD K "_law_crowd" "_law_crowd" (defArgs st_law_crowd) (defBody st_law_crowd) (defScope st_law_crowd) [] [] (He.fAd K ("_law_crowd", none)) fd := c.t.d.def_ 22 (d := D_law_crowd) rfl
  have u_law_rows : mg "_law_rows" = some (.ref (He.fAd K ("_law_rows", none))) := He.glo_ok X G (c.t.d.fact 59 (f := .glo "_law_rows") rfl)
  have q_law_rows : ∃ fd, FunD K "_law_rows" "_law_rows" (defArgs st_law_rows) (defBody st_law_rows) (defScope st_law_rows) [] [] (He.fAd K ("_law_rows", none)) fd := c.t.d.def_ 23 (d := D_law_rows) rfl
  have u_law_loads : mg "_law_loads" = some (.ref (He.fAd K ("_law_loads", none))) := He.glo_ok X G (c.t.d.fact 60 (f := .glo "_law_loads") rfl)
  have q_law_loads : ∃ fd, FunD K "_law_loads" "_law_loads" (defArgs st_law_loads) (defBody st_law_loads) (defScope st_law_loads) [] [] (He.fAd K ("_law_loads", none)) fd := c.t.d.def_ 24 (d := D_law_loads) rfl
  have u_law_pays : mg "_law_pays" = some (.ref (He.fAd K ("_law_pays", none))) := He.glo_ok X G (c.t.d.fact 61 (f := .glo "_law_pays") rfl)
  have q_law_pays : ∃ fd, FunD K "_law_pays" "_law_pays" (defArgs st_law_pays) (defBody st_law_pays) (defScope st_law_pays) [] [] (He.fAd K ("_law_pays", none)) fd := c.t.d.def_ 25 (d := D_law_pays) rfl
  have u_law_height : mg "_law_height" = some (.ref (He.fAd K ("_law_height", none))) := He.glo_ok X G (c.t.d.fact 62 (f := .glo "_law_height") rfl)
  have q_law_height : ∃ fd, FunD K "_law_height" "_law_height" (defArgs st_law_height) (defBody st_law_height) (defScope st_law_height) [] [] (He.fAd K ("_law_height", none)) fd := c.t.d.def_ 26 (d := D_law_height) rfl
  have u_law_cheaper : mg "_law_cheaper" = some (.ref (He.fAd K ("_law_cheaper", none))) := He.glo_ok X G (c.t.d.fact 63 (f := .glo "_law_cheaper") rfl)
  have q_law_cheaper : ∃ fd, FunD K "_law_cheaper" "_law_cheaper" (defArgs st_law_cheaper) (defBody st_law_cheaper) (defScope st_law_cheaper) [] [] (He.fAd K ("_law_cheaper", none)) fd := c.t.d.def_ 27 (d := D_law_cheaper) rfl
  have u_law_right : mg "_law_right" = some (.ref (He.fAd K ("_law_right", none))) := He.glo_ok X G (c.t.d.fact 64 (f := .glo "_law_right") rfl)
  have q_law_right : ∃ fd, FunD K "_law_right" "_law_right" (defArgs st_law_right) (defBody st_law_right) (defScope st_law_right) [] [] (He.fAd K ("_law_right", none)) fd := c.t.d.def_ 28 (d := D_law_right) rfl
  have u_law : mg "law" = some (.ref (He.fAd K ("law", none))) := He.glo_ok X G (c.t.d.fact 65 (f := .glo "law") rfl)
  have q_law : ∃ fd, FunD K "law" "law" (defArgs st_law) (defBody st_law) (defScope st_law) [] [] (He.fAd K ("law", none)) fd := c.t.d.def_ 29 (d := D_law) rfl
  obtain ⟨fd, ql⟩ := q_law
  have e := hfa.symm.trans u_law
  cases e
  have hb := FunD.bindsA (ps := ["script"]) ql fun _ _ _ _ _ _ us hl => match us, hl with | [_], _ => rfl
  have hco : ∃ cc, fd.code = .ref cc := by
    obtain ⟨oc, od, dV, kV, doc, pm, an, cdv, ct, osl, rfl, lk, hcd, _, _⟩ := ql.ex
    obtain ⟨cc, e⟩ := He.codeIn_ref hcd
    exact ⟨cc, e⟩
  obtain ⟨cc, hcc⟩ := hco
  have ecc : (He.cT K ("law", none)).1 = cc := by
    obtain ⟨oc, od, dV, kV, doc, pm, an, cdv, ct, osl, rfl, lk, hcd, _, _⟩ := ql.ex
    exact He.codeOf_eq lk hcc
  refine ⟨fd, fun s u => hb s [u] rfl, fun base KB NB TB => ?_⟩
  rw [ecc] at TB
  generalize hT : ([((He.cT K ("law", none)).2, ("law.<locals>.<lambda>" : Str))] : Tbs) = T
  have h_p_count_rows : CalM (PySem.Challenge.rw_bothchoose_k33_whole_crowds_that_rest).prog w K mg base T 1 "count_rows" ["ways"] F_p_count_rows := c_p_count_rows (k := 0)  bl q_p_count_rows u_p_count_rows
  have h_p_is_way : CalM (PySem.Challenge.rw_bothchoose_k33_whole_crowds_that_rest).prog w K mg base T 1 "is_way" ["many", "way"] F_p_is_way := c_p_is_way (k := 0)  bl q_p_is_way u_p_is_way
  have h_p_check_crowd : CalM (PySem.Challenge.rw_bothchoose_k33_whole_crowds_that_rest).prog w K mg base T 2 "check_crowd" ["costs", "ways"] F_p_check_crowd := c_p_check_crowd (k := 1) h_MAX_COST h_MAX_ROWS h_MAX_THINGS h_MAX_USERS h_MAX_WAYS x_NotAllowed x_TooLarge (h_p_count_rows.mono (by decide)) (h_p_is_way.mono (by decide)) bl q_p_check_crowd u_p_check_crowd
  have h_p_rows_of : CalM (PySem.Challenge.rw_bothchoose_k33_whole_crowds_that_rest).prog w K mg base T 1 "rows_of" ["ways"] F_p_rows_of := c_p_rows_of (k := 0)  bl q_p_rows_of u_p_rows_of
  have h_p_check_row : CalM (PySem.Challenge.rw_bothchoose_k33_whole_crowds_that_rest).prog w K mg base T 3 "check_row" ["costs", "ways", "row"] F_p_check_row := c_p_check_row (k := 2) x_NotAllowed (h_p_check_crowd.mono (by decide)) bl q_p_check_row u_p_check_row
  have h_p_known_loads : CalM (PySem.Challenge.rw_bothchoose_k33_whole_crowds_that_rest).prog w K mg base T 1 "known_loads" ["costs", "ways", "row"] F_p_known_loads := c_p_known_loads (k := 0)  bl q_p_known_loads u_p_known_loads
  have h_p_loads : CalM (PySem.Challenge.rw_bothchoose_k33_whole_crowds_that_rest).prog w K mg base T 4 "loads" ["costs", "ways", "row"] F_p_loads := c_p_loads (k := 3) (h_p_check_row.mono (by decide)) (h_p_known_loads.mono (by decide)) bl q_p_loads u_p_loads
  have h_p_known_pays : CalM (PySem.Challenge.rw_bothchoose_k33_whole_crowds_that_rest).prog w K mg base T 2 "known_pays" ["costs", "ways", "row"] F_p_known_pays := c_p_known_pays (k := 1) (h_p_known_loads.mono (by decide)) bl q_p_known_pays u_p_known_pays
  have h_p_pays : CalM (PySem.Challenge.rw_bothchoose_k33_whole_crowds_that_rest).prog w K mg base T 4 "pays" ["costs", "ways", "row"] F_p_pays := c_p_pays (k := 3) (h_p_check_row.mono (by decide)) (h_p_known_pays.mono (by decide)) bl q_p_pays u_p_pays
  have h_p_known_height : CalM (PySem.Challenge.rw_bothchoose_k33_whole_crowds_that_rest).prog w K mg base T 2 "known_height" ["costs", "ways", "row"] F_p_known_height := c_p_known_height (k := 1) (h_p_known_loads.mono (by decide)) bl q_p_known_height u_p_known_height
  have h_p_height : CalM (PySem.Challenge.rw_bothchoose_k33_whole_crowds_that_rest).prog w K mg base T 4 "height" ["costs", "ways", "row"] F_p_height := c_p_height (k := 3) (h_p_check_row.mono (by decide)) (h_p_known_height.mono (by decide)) bl q_p_height u_p_height
  have h_p_cheaper : CalM (PySem.Challenge.rw_bothchoose_k33_whole_crowds_that_rest).prog w K mg base T 3 "cheaper" ["costs", "ways", "row"] F_p_cheaper := c_p_cheaper (k := 2) (h_p_known_pays.mono (by decide)) bl q_p_cheaper u_p_cheaper
  have h_p_first_cheaper : CalM (PySem.Challenge.rw_bothchoose_k33_whole_crowds_that_rest).prog w K mg base T 4 "first_cheaper" ["costs", "ways", "row"] F_p_first_cheaper := c_p_first_cheaper (k := 3) (h_p_cheaper.mono (by decide)) (h_p_check_row.mono (by decide)) bl q_p_first_cheaper u_p_first_cheaper
  have h_p_is_resting : CalM (PySem.Challenge.rw_bothchoose_k33_whole_crowds_that_rest).prog w K mg base T 4 "is_resting" ["costs", "ways", "row"] F_p_is_resting := c_p_is_resting (k := 3) (h_p_cheaper.mono (by decide)) (h_p_check_row.mono (by decide)) bl q_p_is_resting u_p_is_resting
  have h_p_resting_rows : CalM (PySem.Challenge.rw_bothchoose_k33_whole_crowds_that_rest).prog w K mg base T 4 "resting_rows" ["costs", "ways"] F_p_resting_rows := c_p_resting_rows (k := 3) (h_p_cheaper.mono (by decide)) (h_p_check_crowd.mono (by decide)) (h_p_rows_of.mono (by decide)) bl q_p_resting_rows u_p_resting_rows
  have h_p_way_down : CalM (PySem.Challenge.rw_bothchoose_k33_whole_crowds_that_rest).prog w K mg base T 4 "way_down" ["costs", "ways", "row"] F_p_way_down := c_p_way_down (k := 3) (h_p_cheaper.mono (by decide)) (h_p_check_row.mono (by decide)) bl q_p_way_down u_p_way_down
  have h_p_lowest : CalM (PySem.Challenge.rw_bothchoose_k33_whole_crowds_that_rest).prog w K mg base T 3 "lowest" ["costs", "ways"] F_p_lowest := c_p_lowest (k := 2) (h_p_check_crowd.mono (by decide)) (h_p_known_height.mono (by decide)) (h_p_rows_of.mono (by decide)) bl q_p_lowest u_p_lowest
  have h_p_judge_way : CalM (PySem.Challenge.rw_bothchoose_k33_whole_crowds_that_rest).prog w K mg base T 3 "judge_way" ["costs", "ways", "rows"] F_p_judge_way := c_p_judge_way (k := 2) (h_p_check_crowd.mono (by decide)) (h_p_known_pays.mono (by decide)) (h_p_rows_of.mono (by decide)) bl q_p_judge_way u_p_judge_way
  have h_law_same : CalM (PySem.Challenge.rw_bothchoose_k33_whole_crowds_that_rest).prog w K mg base T 1 "_law_same" ["told", "due"] F_law_same := c_law_same (k := 0)  bl q_law_same u_law_same
  have h_law_stream : CalM (PySem.Challenge.rw_bothchoose_k33_whole_crowds_that_rest).prog w K mg base T 1 "_law_stream" ["script"] F_law_stream := c_law_stream (k := 0)  bl q_law_stream u_law_stream
  have h_law_next : CalM (PySem.Challenge.rw_bothchoose_k33_whole_crowds_that_rest).prog w K mg base T 1 "_law_next" ["state", "many"] F_law_next := c_law_next (k := 0)  bl q_law_next u_law_next
  have h_law_crowd : CalM (PySem.Challenge.rw_bothchoose_k33_whole_crowds_that_rest).prog w K mg base T 2 "_law_crowd" ["state"] F_law_crowd := c_law_crowd (k := 1) (h_law_next.mono (by decide)) bl q_law_crowd u_law_crowd
  have h_law_rows : CalM (PySem.Challenge.rw_bothchoose_k33_whole_crowds_that_rest).prog w K mg base T 1 "_law_rows" ["ways"] F_law_rows := c_law_rows (k := 0)  bl q_law_rows u_law_rows
  have h_law_loads : CalM (PySem.Challenge.rw_bothchoose_k33_whole_crowds_that_rest).prog w K mg base T 1 "_law_loads" ["costs", "ways", "row"] F_law_loads := c_law_loads (k := 0)  bl q_law_loads u_law_loads
  have h_law_pays : CalM (PySem.Challenge.rw_bothchoose_k33_whole_crowds_that_rest).prog w K mg base T 2 "_law_pays" ["costs", "ways", "row"] F_law_pays := c_law_pays (k := 1) (h_law_loads.mono (by decide)) bl q_law_pays u_law_pays
  have h_law_height : CalM (PySem.Challenge.rw_bothchoose_k33_whole_crowds_that_rest).prog w K mg base T 2 "_law_height" ["costs", "ways", "row"] F_law_height := c_law_height (k := 1) (h_law_loads.mono (by decide)) bl q_law_height u_law_height
  have h_law_cheaper : CalM (PySem.Challenge.rw_bothchoose_k33_whole_crowds_that_rest).prog w K mg base T 3 "_law_cheaper" ["costs", "ways", "row"] F_law_cheaper := c_law_cheaper (k := 2) (h_law_pays.mono (by decide)) bl q_law_cheaper u_law_cheaper
  have h_law_right : CalM (PySem.Challenge.rw_bothchoose_k33_whole_crowds_that_rest).prog w K mg base T 3 "_law_right" ["costs", "ways", "rows"] F_law_right := c_law_right (k := 2) (h_law_pays.mono (by decide)) (h_law_rows.mono (by decide)) bl q_law_right u_law_right
  exact g_law (k := 4) h_MAX_COST h_MAX_ROWS h_MAX_THINGS h_MAX_USERS h_MAX_WAYS (h_law_cheaper.mono (by decide)) (h_law_crowd.mono (by decide)) (h_law_height.mono (by decide)) (h_law_loads.mono (by decide)) (h_law_next.mono (by decide)) (h_law_pays.mono (by decide)) (h_law_right.mono (by decide)) (h_law_rows.mono (by decide)) (h_law_same.mono (by decide)) (h_law_stream.mono (by decide)) (h_p_first_cheaper.mono (by decide)) (h_p_height.mono (by decide)) (h_p_is_resting.mono (by decide)) (h_p_judge_way.mono (by decide)) (h_p_loads.mono (by decide)) (h_p_lowest.mono (by decide)) (h_p_pays.mono (by decide)) (h_p_resting_rows.mono (by decide)) (h_p_way_down.mono (by decide)) bl ql hcc q_law_told u_law_told (He.glo_ok X G (fE (.glo "ChooseError") (by simp [faE]))) er hx TB hT.symm
end K33
open PySem PySem.W PySem.Calls PyProof.Rows
theorem K33.holds (fin : ∀ (C : Fin 5 → Addr) (ns : List Int), ns.length ≤ 63 → (∀ z ∈ ns, Builtin.Int.intBits z ≤ 1048576) → ∃ μ', K33.F_law C [.scr ns] [] = .ok (.bl true) μ') : PySem.Challenge.rw_bothchoose_k33_whole_crowds_that_rest.Holds := by
  w_on; o_law
  refine HandSHeadRun.head_any (r := OpenLaw.row PySem.Challenge.rw_bothchoose_k33_whole_crowds_that_rest) (q := view (OpenLaw.row PySem.Challenge.rw_bothchoose_k33_whole_crowds_that_rest).prog [43]) (H := K33.HK) (ob := K33.OB) (M := 4000) (loose := K33.LOOSE) (d := HandSHeadRun.topDef (OpenLaw.row PySem.Challenge.rw_bothchoose_k33_whole_crowds_that_rest).prog 43) (kwd := []) K33.OB_eq
    (by kernel_rfl) (fun s => by kernel_rfl) K33.RUN (by kernel_rfl) (by kernel_rfl) (by kernel_rfl) (by rfl) (by first | assumption | decide +kernel) (by decide +kernel) ⟨rfl, rfl, rfl, rfl, rfl, by decide +kernel⟩ ?hw ?hc
  case hw => w_witness2
  case hc =>
    refine MM.walk_end (l := PySem.Challenge.rw_bothchoose_k33_whole_crowds_that_rest) (n := 63) (k := 7) (x := "script") rfl (by decide) (by kernel_rfl) ⟨rfl, by decide, by decide⟩ ?look
    intro w mg fa h Y G hmg0
    obtain ⟨K, KX, c⟩ := Y
    have hmg : mg ("law" : PySem.Str) = some (.ref fa) := by
      have e : (HandSHeadRun.topDef (OpenLaw.row PySem.Challenge.rw_bothchoose_k33_whole_crowds_that_rest).prog 43).name = ("law" : PySem.Str) := by kernel_rfl
      rw [← e]
      exact hmg0
    obtain ⟨fd, hb, hF⟩ := K33.facts KX G c hmg
    refine ⟨K, fd, [He.cT K ("law", none)], [((He.cT K ("law", none)).2, ("law.<locals>.<lambda>" : PySem.Str))], K33.F_law (MM.errA K), KX, ?_, ?_, ?_, hb, ?_, fun ns h1 h2 => fin _ ns h1 h2, fun base KB NB TB => hF base KB NB (TB _ List.mem_cons_self)⟩
    · intro p hp
      rw [List.mem_singleton.mp hp]
      exact c.empty _ List.mem_cons_self
    · intro p hp
      rw [List.mem_singleton.mp hp]
      exact c.out _ List.mem_cons_self
    · intro p hp
      rw [List.mem_singleton.mp hp]
      exact PySem.W.codeHd_of_K KX (c.hd _ List.mem_cons_self)
    · intro p hp
      rw [List.mem_singleton.mp hp]
      simp

theorem PySem.Challenge.cw_bothchoose_k33_whole_crowds_that_rest_holds : PySem.Challenge.rw_bothchoose_k33_whole_crowds_that_rest.Holds := by
  exact K33.holds K33.fin
