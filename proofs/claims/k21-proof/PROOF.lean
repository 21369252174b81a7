import PyProof.Rows.All
import Wide.All
import OpenK.AllK
import Wide.FinOn
import PyProof.EqAt
import PyProof.EqKinds
import PyProof.TupleCall
import KE.KLam
import HandS.ForMost
import HandS.ForExc
import HandS.HeadHook4
import HandS.HeadWalk
import HandS.Wide
import HandS.Flow
import HandS.Style
import HandS.TupAny
import HandS.TupMul
import HandS.Deep
import HandS.TupLe
import KE.DatumOrd
import KE.DatumIndex
import HandS.Comp
import HandS.Iter
import HandS.Rev
import HandS.Zip
import KE.GoesNew
import KE.GoesMore
import KE.GoesEnum
import HandS.Lambda
import HandS.Exc
import HandS.ExcCtx
import HandS.Codes
import HandS.Hot
import HandS.HotCalls
import HandS.ExcIs
import HandS.EndTab
import HandS.Defaults
import KE.DataMinMax
import HandS.Star
import HandS.SortInts
import HandS.HeadHook1
import HandS.Head0
import HandS.Head1
import HandS.Head2
import HandS.HeadEnd
import HandS.HeadHook2
import HandS.HeadHook3
import KE.SortData
import PySem.Challenge.RW_bothchoose_k21_whole_best_answers_for_ev
set_option Elab.async false
set_option linter.all false
set_option maxRecDepth 100000
set_option maxHeartbeats 4000000
/-! ## MM: values, memory, what they stand for in the abstract heap -/
namespace MM
open PySem PySem.Spec PyProof.Rows L2
abbrev Frag := PySem.W.Frag

inductive MV where
  | non | bl (b : Bool) | int (i : Int) | str (x : Str) | tup (xs : List MV) | lst (xs : List MV) | ref (i : Nat) | cst (v : V) | scr (ns : List Int)

inductive Cell where
  | dead
  | lst (xs : List MV)

abbrev Mem := List Cell
structure Exc where
  name : Str
  pay : Option MV := none
inductive Out (α : Type) where
  | ok (a : α) (μ : Mem)
  | exc (x : Exc) (μ : Mem)
  | bad

/-- the addresses of the cells; none: a cell that is no more; lists being made -/
structure Io where
  cs : List (Option Addr)
  hid : List Addr
def Own (ι : Io) (a : Addr) : Prop := some a ∈ ι.cs ∨ a ∈ ι.hid
/-- a tuple among the module's own objects -/
def KT (K : Frag) (a : Addr) (xs : List V) : Prop :=
  ∃ (o : Obj) (its : Array Value) (n : Nat), K.lookup a = some o ∧ o.cls = .type "tuple" ∧ o.data = .seq its n ∧ its.size ≤ sizeLine ∧ Vals xs its.toList
def FzL (H : Hp) (ι : Io) (a : Addr) (xs : List V) : Prop := Rd H a (.lst xs) ∧ ¬ Own ι a
def FzT (K : Frag) (H : Hp) (ι : Io) (a : Addr) (xs : List V) : Prop := (Rd H a (.tup xs) ∧ ¬ Own ι a) ∨ KT K a xs
theorem FzT.sq {K : Frag} {H : Hp} {ι : Io} {a : Addr} {xs : List V} (h : FzT K H ι a xs) : SqT K H a xs := h.elim (fun q => .inl q.1) .inr

/-- the script -/
def KL (K : Frag) (a : Addr) (xs : List V) : Prop :=
  ∃ (o : Obj) (its : Array Value) (n : Nat), K.lookup a = some o ∧ o.cls = .type "list" ∧ o.dict = none ∧ o.data = .seq its n ∧ its.size ≤ sizeLine ∧ Vals xs its.toList
def SqS (K : Frag) (H : Hp) (ι : Io) (a : Addr) (ns : List Int) : Prop := FzL H ι a (ns.map V.int) ∨ KL K a (ns.map V.int)
theorem SqS.sq {K : Frag} {H : Hp} {ι : Io} {a : Addr} {ns : List Int} (h : SqS K H ι a ns) : SqL K H a (ns.map V.int) := h.elim (fun q => .inl q.1) .inr
mutual
/-- v is d in the heap H, whose cells stand at ι -/
def RepV (K : Frag) (H : Hp) (ι : Io) : MV → V → Prop
  | .non, v => v = .non
  | .bl b, v => v = .bl b
  | .int i, v => v = .int i
  | .str x, v => v = .str x
  | .tup xs, v => ∃ a vs, v = .ref a ∧ FzT K H ι a vs ∧ RepL K H ι xs vs
  | .lst xs, v => ∃ a vs, v = .ref a ∧ FzL H ι a vs ∧ RepL K H ι xs vs
  | .ref i, v => ∃ a, v = .ref a ∧ (ι.cs[i]? = some (some a) ∨ ι.cs[i]? = some none)
  | .cst u, v => v = u
  | .scr ns, v => ∃ a, v = .ref a ∧ SqS K H ι a ns
def RepL (K : Frag) (H : Hp) (ι : Io) : List MV → List V → Prop
  | [], vs => vs = []
  | x :: xs, vs => ∃ v r, vs = v :: r ∧ RepV K H ι x v ∧ RepL K H ι xs r
end

def CellRep (K : Frag) (H : Hp) (ι : Io) : Cell → Option Addr → Prop
  | .dead, o => o = none
  | .lst xs, o => ∃ a vs, o = some a ∧ H a = some (.lst vs) ∧ RepL K H ι xs vs

/-- the tables of the lambdas' code objects -/
abbrev Tbs := List (Addr × Str)
structure SR (K : Frag) (T : Tbs) (ι : Io) (μ : Mem) (H : Hp) : Prop where
  len : ι.cs.length = μ.length
  nd : ∀ (i j : Nat) (a : Addr), ι.cs[i]? = some (some a) → ι.cs[j]? = some (some a) → i = j
  cell : ∀ (i : Nat) (c : Cell), μ[i]? = some c → ∃ o, ι.cs[i]? = some o ∧ CellRep K H ι c o
  tabs : LamX.Tabs T H
  hid : ∀ a, a ∈ ι.hid → some a ∉ ι.cs ∧ ∃ xs, H a = some (.lst xs)

/-- a is free in H, or a table -/
def Nt (H : Hp) (a : Addr) : Prop := ∀ o, H a = some o → ∃ ps, o = .tbl ps
theorem Nt.of {H : Hp} {a : Addr} (h : H a = none) : Nt H a := fun o e => by rw [h] at e; cases e
structure Ext (ι : Io) (H : Hp) (ι' : Io) (H' : Hp) : Prop where
  len : ι.cs.length ≤ ι'.cs.length
  sub : ∀ (i : Nat), i < ι.cs.length → ι'.cs[i]? = ι.cs[i]? ∨ ι'.cs[i]? = some none
  hid : ι'.hid = ι.hid
  own : ∀ (a : Addr), Own ι' a → Own ι a ∨ Nt H a
  keep : ∀ (a : Addr) (o : HO), H a = some o → ¬ Own ι a → (∀ ps, o ≠ .tbl ps) → H' a = some o
  hkeep : ∀ (a : Addr) (o : HO), a ∈ ι.hid → H a = some o → H' a = some o

/-- the same, lists in the making may be more -/
structure ExtW (ι : Io) (H : Hp) (ι' : Io) (H' : Hp) : Prop where
  len : ι.cs.length ≤ ι'.cs.length
  sub : ∀ (i : Nat), i < ι.cs.length → ι'.cs[i]? = ι.cs[i]? ∨ ι'.cs[i]? = some none
  hid : ∀ (a : Addr), a ∈ ι.hid → a ∈ ι'.hid
  own : ∀ (a : Addr), Own ι' a → Own ι a ∨ Nt H a
  keep : ∀ (a : Addr) (o : HO), H a = some o → ¬ Own ι a → (∀ ps, o ≠ .tbl ps) → H' a = some o
theorem Ext.w {ι ι' : Io} {H H' : Hp} (e : Ext ι H ι' H') : ExtW ι H ι' H' := ⟨e.len, e.sub, fun a h => by rw [e.hid]; exact h, e.own, e.keep⟩
instance {ι ι' : Io} {H H' : Hp} : Coe (Ext ι H ι' H') (ExtW ι H ι' H') := ⟨Ext.w⟩
theorem Own.of {ι : Io} {a : Addr} {i : Nat} (h : ι.cs[i]? = some (some a)) : Own ι a := .inl (List.mem_of_getElem? h)
theorem cs_past {l : List (Option Addr)} {i : Nat} {a : Addr} (h : l.length ≤ i) (e : l[i]? = some (some a)) : False := by rw [List.getElem?_eq_none h] at e; cases e

section
variable {K : Frag} {T : Tbs} {ι ι' ι1 ι2 : Io} {μ : Mem} {H H' H1 H2 : Hp} {a : Addr}
theorem Ext.refl : Ext ι H ι H := ⟨Nat.le_refl _, fun _ _ => .inl rfl, rfl, fun _ h => .inl h, fun _ _ h _ _ => h, fun _ _ _ h => h⟩
/-- what stood and was no cell is none -/
theorem ExtW.unown (e : ExtW ι H ι' H') {o : HO} (h : H a = some o) (n : ¬ Own ι a) (t : ∀ ps, o ≠ .tbl ps) : ¬ Own ι' a := fun q => by
  rcases e.own a q with z | z
  · exact n z
  · obtain ⟨ps, e⟩ := z o h
    exact t ps e
theorem Ext.unown (e : Ext ι H ι' H') {o : HO} (h : H a = some o) (n : ¬ Own ι a) (t : ∀ ps, o ≠ .tbl ps) : ¬ Own ι' a := fun q => by
  rcases e.own a q with z | z
  · exact n z
  · obtain ⟨ps, e⟩ := z o h
    exact t ps e
theorem Ext.trans (e : Ext ι H ι1 H1) (f : Ext ι1 H1 ι2 H2) : Ext ι H ι2 H2 where
  len := Nat.le_trans e.len f.len
  sub := fun i h => by
    rcases f.sub i (Nat.lt_of_lt_of_le h e.len) with z | z
    · rcases e.sub i h with y | y
      · exact .inl (z.trans y)
      · exact .inr (z.trans y)
    · exact .inr z
  hid := f.hid.trans e.hid
  own := fun a h => by
    rcases f.own a h with z | z
    · exact e.own a z
    · rcases Classical.em (Own ι a) with y | y
      · exact .inl y
      · refine .inr fun o q => ?_
        rcases Classical.em (∃ ps, o = .tbl ps) with t | t
        · exact t
        · exact z o (e.keep a o q y fun ps w => t ⟨ps, w⟩)
  keep := fun a o h n t => f.keep a o (e.keep a o h n t) (e.unown h n t) t
  hkeep := fun a o m h => f.hkeep a o (by rw [e.hid]; exact m) (e.hkeep a o m h)

theorem ExtW.trans (e : ExtW ι H ι1 H1) (f : ExtW ι1 H1 ι2 H2) : ExtW ι H ι2 H2 where
  len := Nat.le_trans e.len f.len
  sub := fun i h => by
    rcases f.sub i (Nat.lt_of_lt_of_le h e.len) with z | z
    · rcases e.sub i h with y | y
      · exact .inl (z.trans y)
      · exact .inr (z.trans y)
    · exact .inr z
  hid := fun a h => f.hid a (e.hid a h)
  own := fun a h => by
    rcases f.own a h with z | z
    · exact e.own a z
    · rcases Classical.em (Own ι a) with y | y
      · exact .inl y
      · refine .inr fun o q => ?_
        rcases Classical.em (∃ ps, o = .tbl ps) with t | t
        · exact t
        · exact z o (e.keep a o q y fun ps w => t ⟨ps, w⟩)
  keep := fun a o h n t => f.keep a o (e.keep a o h n t) (e.unown h n t) t
theorem FzL.ext {xs : List V} (h : FzL H ι a xs) (e : ExtW ι H ι' H') : FzL H' ι' a xs := by
  obtain ⟨h | ⟨o, h⟩, n⟩ := h
  · exact ⟨.inl (e.keep _ _ h n fun _ z => by cases z), e.unown h n fun _ z => by cases z⟩
  · exact ⟨.inr ⟨o, e.keep _ _ h n fun _ z => by cases z⟩, e.unown h n fun _ z => by cases z⟩
theorem FzL.move {xs : List V} (h : ∀ a o, H a = some o → ¬ Own ι a → (∀ ps, o ≠ .tbl ps) → H' a = some o ∧ ¬ Own ι' a) (f : FzL H ι a xs) : FzL H' ι' a xs := by
  obtain ⟨f | ⟨o, f⟩, n⟩ := f
  · obtain ⟨h1, h2⟩ := h _ _ f n fun _ z => by cases z
    exact ⟨.inl h1, h2⟩
  · obtain ⟨h1, h2⟩ := h _ _ f n fun _ z => by cases z
    exact ⟨.inr ⟨o, h1⟩, h2⟩
theorem FzT.ext {xs : List V} (h : FzT K H ι a xs) (e : ExtW ι H ι' H') : FzT K H' ι' a xs := by
  rcases h with ⟨h | ⟨o, h⟩, n⟩ | h
  · exact .inl ⟨.inl (e.keep _ _ h n fun _ z => by cases z), e.unown h n fun _ z => by cases z⟩
  · exact .inl ⟨.inr ⟨o, e.keep _ _ h n fun _ z => by cases z⟩, e.unown h n fun _ z => by cases z⟩
  · exact .inr h
mutual
theorem RepV.ext (e : ExtW ι H ι' H') : ∀ (d : MV) (v : V), RepV K H ι d v → RepV K H' ι' d v
  | .non, _, h => h
  | .bl _, _, h => h
  | .int _, _, h => h
  | .str _, _, h => h
  | .cst _, _, h => h
  | .scr ns, v, h => by
    unfold RepV at h ⊢
    obtain ⟨a, e1, f⟩ := h
    exact ⟨a, e1, f.elim (fun q => .inl (q.ext e)) .inr⟩
  | .tup xs, v, h => by
    unfold RepV at h ⊢
    obtain ⟨a, vs, e1, f, r⟩ := h
    exact ⟨a, vs, e1, f.ext e, RepL.ext e xs vs r⟩
  | .lst xs, v, h => by
    unfold RepV at h ⊢
    obtain ⟨a, vs, e1, f, r⟩ := h
    exact ⟨a, vs, e1, f.ext e, RepL.ext e xs vs r⟩
  | .ref i, v, h => by
    unfold RepV at h ⊢
    obtain ⟨a, e1, h⟩ := h
    refine ⟨a, e1, ?_⟩
    have hl : i < ι.cs.length := by
      rcases h with h | h <;> exact (List.getElem?_eq_some_iff.mp h).1
    rcases e.sub i hl with z | z
    · rcases h with h | h
      · exact .inl (z.trans h)
      · exact .inr (z.trans h)
    · exact .inr z
theorem RepL.ext (e : ExtW ι H ι' H') : ∀ (xs : List MV) (vs : List V), RepL K H ι xs vs → RepL K H' ι' xs vs
  | [], _, h => h
  | x :: xs, vs, h => by
    unfold RepL at h ⊢
    obtain ⟨v, r, e1, h1, h2⟩ := h
    exact ⟨v, r, e1, RepV.ext e x v h1, RepL.ext e xs r h2⟩
end

theorem RepL.nil_iff {vs : List V} : RepL K H ι [] vs ↔ vs = [] := by unfold RepL; rfl
theorem RepL.cons_iff {x : MV} {xs : List MV} {vs : List V} : RepL K H ι (x :: xs) vs ↔ ∃ v r, vs = v :: r ∧ RepV K H ι x v ∧ RepL K H ι xs r := by
  constructor
  · intro h; unfold RepL at h; exact h
  · intro h; unfold RepL; exact h
theorem RepL.len : ∀ {xs : List MV} {vs : List V}, RepL K H ι xs vs → xs.length = vs.length
  | [], vs, h => by rw [RepL.nil_iff] at h; rw [h]; rfl
  | x :: xs, vs, h => by
    rw [RepL.cons_iff] at h
    obtain ⟨v, r, rfl, _, h2⟩ := h
    rw [List.length_cons, List.length_cons, RepL.len h2]
theorem RepL.get : ∀ {xs : List MV} {vs : List V} {i : Nat} {d : MV}, RepL K H ι xs vs → xs[i]? = some d → ∃ v, vs[i]? = some v ∧ RepV K H ι d v
  | [], vs, i, d, h, e => by simp at e
  | x :: xs, vs, 0, d, h, e => by
    rw [RepL.cons_iff] at h
    obtain ⟨v, r, rfl, h1, h2⟩ := h
    simp at e; subst e
    exact ⟨v, by simp, h1⟩
  | x :: xs, vs, i + 1, d, h, e => by
    rw [RepL.cons_iff] at h
    obtain ⟨v, r, rfl, h1, h2⟩ := h
    obtain ⟨w, h3, h4⟩ := RepL.get (i := i) h2 (by simpa using e)
    exact ⟨w, by simpa using h3, h4⟩
theorem RepL.get' : ∀ {xs : List MV} {vs : List V} {i : Nat} {v : V}, RepL K H ι xs vs → vs[i]? = some v → ∃ d, xs[i]? = some d ∧ RepV K H ι d v := fun {xs vs i v} h e => by
  have hl := h.len
  have hi : i < xs.length := by rw [hl]; exact (List.getElem?_eq_some_iff.mp e).1
  obtain ⟨w, h1, h2⟩ := h.get (i := i) (d := xs[i]) (by simp [hi])
  rw [e] at h1; cases h1
  exact ⟨_, by simp [hi], h2⟩
theorem RepL.app : ∀ {xs ys : List MV} {vs ws : List V}, RepL K H ι xs vs → RepL K H ι ys ws → RepL K H ι (xs ++ ys) (vs ++ ws)
  | [], ys, vs, ws, h, q => by rw [RepL.nil_iff] at h; subst h; exact q
  | x :: xs, ys, vs, ws, h, q => by
    rw [RepL.cons_iff] at h
    obtain ⟨v, r, rfl, h1, h2⟩ := h
    rw [List.cons_append, RepL.cons_iff]
    exact ⟨v, r ++ ws, rfl, h1, RepL.app h2 q⟩
theorem RepL.one {x : MV} {v : V} (h : RepV K H ι x v) : RepL K H ι [x] [v] := RepL.cons_iff.mpr ⟨v, [], rfl, h, RepL.nil_iff.mpr rfl⟩
theorem RepL.take : ∀ {xs : List MV} {vs : List V} (n : Nat), RepL K H ι xs vs → RepL K H ι (xs.take n) (vs.take n)
  | xs, vs, 0, h => by simp [RepL.nil_iff]
  | [], vs, n + 1, h => by rw [RepL.nil_iff] at h; subst h; simp [RepL.nil_iff]
  | x :: xs, vs, n + 1, h => by
    rw [RepL.cons_iff] at h
    obtain ⟨v, r, rfl, h1, h2⟩ := h
    rw [List.take_succ_cons, List.take_succ_cons, RepL.cons_iff]
    exact ⟨v, r.take n, rfl, h1, RepL.take n h2⟩
theorem RepL.drop : ∀ {xs : List MV} {vs : List V} (n : Nat), RepL K H ι xs vs → RepL K H ι (xs.drop n) (vs.drop n)
  | xs, vs, 0, h => h
  | [], vs, n + 1, h => by rw [RepL.nil_iff] at h; subst h; simp [RepL.nil_iff]
  | x :: xs, vs, n + 1, h => by
    rw [RepL.cons_iff] at h
    obtain ⟨v, r, rfl, h1, h2⟩ := h
    rw [List.drop_succ_cons, List.drop_succ_cons]
    exact RepL.drop n h2
theorem RepL.set : ∀ {xs : List MV} {vs : List V} {d : MV} {v : V} (i : Nat), RepL K H ι xs vs → RepV K H ι d v → RepL K H ι (xs.set i d) (vs.set i v)
  | [], vs, d, v, i, h, q => by rw [RepL.nil_iff] at h; subst h; simp [RepL.nil_iff]
  | x :: xs, vs, d, v, 0, h, q => by
    rw [RepL.cons_iff] at h
    obtain ⟨w, r, rfl, h1, h2⟩ := h
    rw [List.set_cons_zero, List.set_cons_zero, RepL.cons_iff]
    exact ⟨v, r, rfl, q, h2⟩
  | x :: xs, vs, d, v, i + 1, h, q => by
    rw [RepL.cons_iff] at h
    obtain ⟨w, r, rfl, h1, h2⟩ := h
    rw [List.set_cons_succ, List.set_cons_succ, RepL.cons_iff]
    exact ⟨w, r.set i v, rfl, h1, RepL.set i h2 q⟩
theorem RepL.rev : ∀ {xs : List MV} {vs : List V}, RepL K H ι xs vs → RepL K H ι xs.reverse vs.reverse
  | [], vs, h => by rw [RepL.nil_iff] at h; subst h; simp [RepL.nil_iff]
  | x :: xs, vs, h => by
    rw [RepL.cons_iff] at h
    obtain ⟨v, r, rfl, h1, h2⟩ := h
    rw [List.reverse_cons, List.reverse_cons]
    exact RepL.app (RepL.rev h2) (RepL.one h1)

theorem SR.own (s : SR K T ι μ H) (h : Own ι a) : ∃ o, H a = some o ∧ ∃ xs, o = .lst xs := by
  rcases h with h | h
  · obtain ⟨i, hi⟩ := List.getElem?_of_mem h
    have hl : i < μ.length := by rw [← s.len]; exact (List.getElem?_eq_some_iff.mp hi).1
    obtain ⟨o, h1, h2⟩ := s.cell i μ[i] (by simp [hl])
    rw [hi] at h1; cases h1
    cases hc : μ[i] with
    | dead => rw [hc] at h2; cases h2
    | lst xs =>
      rw [hc] at h2
      obtain ⟨b, vs, e, h3, _⟩ := h2
      cases e
      exact ⟨_, h3, _, rfl⟩
  · obtain ⟨_, xs, e⟩ := s.hid a h
    exact ⟨_, e, xs, rfl⟩
theorem SR.fresh (s : SR K T ι μ H) (h : H a = none) : ¬ Own ι a := fun q => by
  obtain ⟨o, e, _⟩ := s.own q
  rw [h] at e; cases e
theorem tabs_upd {o : HO} (t : LamX.Tabs T H) (h : ∀ ps, H a ≠ some (.tbl ps)) (h2 : ∀ c q, H c = some (LamX.CodeO c q) → c ≠ a) : LamX.Tabs T (upd H a o) := fun p hp => by
  obtain ⟨ps, e1, e2, e3⟩ := t p hp
  refine ⟨ps, by rw [upd_ne (fun z => h ps (by rw [← z]; exact e1))]; exact e1, e2, fun pos cv hc => ?_⟩
  obtain ⟨c, e4, e5⟩ := e3 pos cv hc
  exact ⟨c, e4, by rw [upd_ne (h2 c _ e5)]; exact e5⟩
theorem codeO_not_lst {c : Addr} {q : Str} {xs : List V} : LamX.CodeO c q ≠ .lst xs := fun z => by unfold LamX.CodeO at z; cases z

/-- a new thing is laid: no cell -/
theorem Ext.laid {o : HO} (h : H a = none) : Ext ι H ι (upd H a o) := by
  refine ⟨Nat.le_refl _, fun _ _ => .inl rfl, rfl, fun _ h => .inl h, fun b u e _ _ => (by rw [upd_ne (ne_of_none e h)]; exact e), fun b u _ e => (by rw [upd_ne (ne_of_none e h)]; exact e)⟩
theorem CellRep.ext (e : Ext ι H ι' H') {c : Cell} {o : Option Addr} (h : CellRep K H ι c o) (st : ∀ b xs, o = some b → H b = some (.lst xs) → H' b = some (.lst xs)) : CellRep K H' ι' c o := by
  cases c with
  | dead => exact h
  | lst xs =>
    obtain ⟨b, vs, e1, e2, e3⟩ := h
    exact ⟨b, vs, e1, st b vs e1 e2, RepL.ext e xs vs e3⟩
theorem SR.laid {o : HO} (s : SR K T ι μ H) (h : H a = none) : SR K T ι μ (upd H a o) :=
  ⟨s.len, s.nd, fun i c hc => by
    obtain ⟨u, h1, h2⟩ := s.cell i c hc
    exact ⟨u, h1, h2.ext (Ext.laid h) fun b xs _ hb => by rw [upd_ne (ne_of_none hb h)]; exact hb⟩,
    tabs_upd s.tabs (fun ps z => by rw [h] at z; cases z) fun c q z => ne_of_none z h, fun b hb => by
    obtain ⟨h1, xs, h2⟩ := s.hid b hb
    exact ⟨h1, xs, by rw [upd_ne (ne_of_none h2 h)]; exact h2⟩⟩
/-- a new list is laid as a cell -/
def Io.add (ι : Io) (a : Addr) : Io := ⟨ι.cs ++ [some a], ι.hid⟩
theorem Ext.laidC {o : HO} (h : H a = none) : Ext ι H (ι.add a) (upd H a o) := by
  refine ⟨by simp [Io.add], fun i hi => .inl (List.getElem?_append_left hi), rfl, fun b hb => ?_, fun b u e _ _ => (by rw [upd_ne (ne_of_none e h)]; exact e), fun b u _ e => (by rw [upd_ne (ne_of_none e h)]; exact e)⟩
  · rcases hb with hb | hb
    · rcases List.mem_append.mp hb with hb | hb
      · exact .inl (.inl hb)
      · have e : b = a := by simpa using hb
        subst e; exact .inr (Nt.of h)
    · exact .inl (.inr hb)
theorem SR.laidC {xs : List MV} {vs : List V} (s : SR K T ι μ H) (h : H a = none) (r : RepL K H ι xs vs) : SR K T (ι.add a) (μ ++ [.lst xs]) (upd H a (.lst vs)) := by
  have e : Ext ι H (ι.add a) (upd H a (.lst vs)) := Ext.laidC h
  refine ⟨by simp [Io.add, s.len], fun i j b hi hj => ?_, fun i c hc => ?_, tabs_upd s.tabs (fun ps z => by rw [h] at z; cases z) fun c q z => ne_of_none z h, fun b hb => ?_⟩
  · have key : ∀ k, (ι.cs ++ [some a])[k]? = some (some b) → (ι.cs[k]? = some (some b) ∧ b ≠ a) ∨ (k = ι.cs.length ∧ b = a) := fun k hk => by
      by_cases hl : k < ι.cs.length
      · rw [List.getElem?_append_left hl] at hk
        refine .inl ⟨hk, fun z => s.fresh h ?_⟩
        rw [← z]; exact Own.of hk
      · rw [List.getElem?_append_right (Nat.le_of_not_lt hl)] at hk
        cases hq : k - ι.cs.length with
        | zero => rw [hq] at hk; simp at hk; exact .inr ⟨by omega, hk.symm⟩
        | succ m => rw [hq] at hk; simp at hk
    rcases key i hi with ⟨a1, a2⟩ | ⟨a1, a2⟩
    · rcases key j hj with ⟨b1, b2⟩ | ⟨b1, b2⟩
      · exact s.nd i j b a1 b1
      · exact absurd b2 a2
    · rcases key j hj with ⟨b1, b2⟩ | ⟨b1, b2⟩
      · exact absurd a2 b2
      · omega
  · by_cases hl : i < μ.length
    · rw [List.getElem?_append_left hl] at hc
      obtain ⟨u, h1, h2⟩ := s.cell i c hc
      exact ⟨u, (List.getElem?_append_left (by rw [s.len]; exact hl)).trans h1, h2.ext e fun b xs _ hb => by rw [upd_ne (ne_of_none hb h)]; exact hb⟩
    · rw [List.getElem?_append_right (Nat.le_of_not_lt hl)] at hc
      cases hq : i - μ.length with
      | zero =>
        rw [hq] at hc; simp at hc; subst hc
        refine ⟨some a, ?_, a, vs, rfl, upd_same, RepL.ext e xs vs r⟩
        show (ι.cs ++ [some a])[i]? = some (some a)
        rw [List.getElem?_append_right (by rw [s.len]; omega), s.len, hq]; rfl
      | succ m => rw [hq] at hc; simp at hc
  · obtain ⟨h1, ys, h2⟩ := s.hid b hb
    have hne := ne_of_none h2 h
    refine ⟨fun q => ?_, ys, by rw [upd_ne hne]; exact h2⟩
    rcases List.mem_append.mp q with q | q
    · exact h1 q
    · exact hne (by simpa using q)
/-- a cell is written -/
theorem Ext.written {i : Nat} {o : HO} (s : SR K T ι μ H) (hi : ι.cs[i]? = some (some a)) : Ext ι H ι (upd H a o) := by
  refine ⟨Nat.le_refl _, fun _ _ => .inl rfl, rfl, fun _ h => .inl h, fun b u e n _ => (by
    rw [upd_ne (fun z => n (by rw [z]; exact Own.of hi))]; exact e), fun b u m e => (by
    rw [upd_ne (fun z => (s.hid b m).1 (by rw [z]; exact List.mem_of_getElem? hi))]; exact e)⟩
theorem SR.written {i : Nat} {xs : List MV} {vs ws : List V} (s : SR K T ι μ H) (hi : ι.cs[i]? = some (some a)) (ha : H a = some (.lst ws)) (r : RepL K H ι xs vs) : SR K T ι (μ.set i (.lst xs)) (upd H a (.lst vs)) := by
  have e : Ext ι H ι (upd H a (.lst vs)) := Ext.written s hi
  refine ⟨by simp [s.len], s.nd, fun j c hc => ?_, tabs_upd s.tabs (fun ps z => by rw [ha] at z; cases z) fun c q z hb => ?_, fun b hb => ?_⟩
  · by_cases hj : i = j
    · subst hj
      have hl : i < μ.length := by rw [← s.len]; exact (List.getElem?_eq_some_iff.mp hi).1
      rw [List.getElem?_set_self hl] at hc
      cases hc
      exact ⟨_, hi, a, vs, rfl, upd_same, RepL.ext e xs vs r⟩
    · rw [List.getElem?_set_ne hj] at hc
      obtain ⟨u, h1, h2⟩ := s.cell j c hc
      refine ⟨u, h1, h2.ext e fun b ys eb hb => ?_⟩
      rw [upd_ne (fun z => ?_)]
      · exact hb
      · subst eb; subst z; exact hj (s.nd i j _ hi h1)
  · subst hb; rw [ha] at z; exact codeO_not_lst (Option.some.inj z).symm
  · obtain ⟨h1, ys, h2⟩ := s.hid b hb
    refine ⟨h1, ys, ?_⟩
    rw [upd_ne (fun z => h1 (by rw [z]; exact List.mem_of_getElem? hi))]
    exact h2

/-! ### a list that is being made -/
def Io.hide (ι : Io) (a : Addr) : Io := ⟨ι.cs, a :: ι.hid⟩
mutual
theorem RepV.move (h : ∀ a o, H a = some o → ¬ Own ι a → (∀ ps, o ≠ .tbl ps) → H' a = some o ∧ ¬ Own ι' a) (hc : ∀ (i : Nat) (o : Option Addr), ι.cs[i]? = some o → ι'.cs[i]? = some o) : ∀ (d : MV) (v : V), RepV K H ι d v → RepV K H' ι' d v
  | .non, _, q => q
  | .bl _, _, q => q
  | .int _, _, q => q
  | .str _, _, q => q
  | .cst _, _, q => q
  | .scr ns, v, q => by
    unfold RepV at q ⊢
    obtain ⟨a, e1, f⟩ := q
    exact ⟨a, e1, f.elim (fun q => .inl (FzL.move h q)) .inr⟩
  | .tup xs, v, q => by
    unfold RepV at q ⊢
    obtain ⟨a, vs, e1, f, r⟩ := q
    refine ⟨a, vs, e1, ?_, RepL.move h hc xs vs r⟩
    rcases f with ⟨f | ⟨o, f⟩, n⟩ | f
    · obtain ⟨h1, h2⟩ := h _ _ f n fun _ z => by cases z
      exact .inl ⟨.inl h1, h2⟩
    · obtain ⟨h1, h2⟩ := h _ _ f n fun _ z => by cases z
      exact .inl ⟨.inr ⟨o, h1⟩, h2⟩
    · exact .inr f
  | .lst xs, v, q => by
    unfold RepV at q ⊢
    obtain ⟨a, vs, e1, f, r⟩ := q
    exact ⟨a, vs, e1, FzL.move h f, RepL.move h hc xs vs r⟩
  | .ref i, v, q => by
    unfold RepV at q ⊢
    obtain ⟨a, e1, q⟩ := q
    exact ⟨a, e1, q.elim (fun z => .inl (hc _ _ z)) fun z => .inr (hc _ _ z)⟩
theorem RepL.move (h : ∀ a o, H a = some o → ¬ Own ι a → (∀ ps, o ≠ .tbl ps) → H' a = some o ∧ ¬ Own ι' a) (hc : ∀ (i : Nat) (o : Option Addr), ι.cs[i]? = some o → ι'.cs[i]? = some o) : ∀ (xs : List MV) (vs : List V), RepL K H ι xs vs → RepL K H' ι' xs vs
  | [], _, q => q
  | x :: xs, vs, q => by
    rw [RepL.cons_iff] at q ⊢
    obtain ⟨v, r, e1, h1, h2⟩ := q
    exact ⟨v, r, e1, RepV.move h hc x v h1, RepL.move h hc xs r h2⟩
end
theorem SR.move (s : SR K T ι μ H) (h : ∀ a o, H a = some o → ¬ Own ι a → (∀ ps, o ≠ .tbl ps) → H' a = some o ∧ ¬ Own ι' a) (hc : ι'.cs = ι.cs) (hs : ∀ (i : Nat) b xs, ι.cs[i]? = some (some b) → H b = some (.lst xs) → H' b = some (.lst xs)) (ht : LamX.Tabs T H')
    (hh : ∀ a, a ∈ ι'.hid → some a ∉ ι.cs ∧ ∃ xs, H' a = some (.lst xs)) : SR K T ι' μ H' :=
  ⟨by rw [hc]; exact s.len, by rw [hc]; exact s.nd, fun i c q => by
    obtain ⟨o, h1, h2⟩ := s.cell i c q
    refine ⟨o, by rw [hc]; exact h1, ?_⟩
    cases c with
    | dead => exact h2
    | lst xs =>
      obtain ⟨b, vs, e1, e2, e3⟩ := h2
      subst e1
      exact ⟨b, vs, rfl, hs i b vs h1 e2, RepL.move h (fun _ _ q => by rw [hc]; exact q) xs vs e3⟩, ht, by rw [hc]; exact hh⟩
section
variable {D : Addr} {acc acc' : List V}
theorem own_hide {b : Addr} (h : Own (ι.hide D) b) : b = D ∨ Own ι b := by
  rcases h with h | h
  · exact .inr (.inl h)
  · rcases List.mem_cons.mp h with h | h
    · exact .inl h
    · exact .inr (.inr h)
/-- it is begun -/
theorem move_begin (h : H D = none) {o : HO} : ∀ a u, H a = some u → ¬ Own ι a → (∀ ps, u ≠ .tbl ps) → upd H D o a = some u ∧ ¬ Own (ι.hide D) a := fun a u e n _ =>
  ⟨by rw [upd_ne (ne_of_none e h)]; exact e, fun q => (own_hide q).elim (fun z => ne_of_none e h z) n⟩
theorem SR.begin (s : SR K T ι μ H) (h : H D = none) : SR K T (ι.hide D) μ (upd H D (.lst acc)) :=
  s.move (move_begin h) rfl (fun i b xs _ e => by rw [upd_ne (ne_of_none e h)]; exact e) (s.laid (o := .lst acc) h).tabs fun b hb => by
    rcases List.mem_cons.mp hb with hb | hb
    · subst hb; exact ⟨fun q => s.fresh h (.inl q), _, upd_same⟩
    · obtain ⟨h1, xs, h2⟩ := s.hid b hb
      exact ⟨h1, xs, by rw [upd_ne (ne_of_none h2 h)]; exact h2⟩
theorem ExtW.begin {ι0 : Io} {H0 : Hp} (e : Ext ι0 H0 ι H) (h : H0 D = none) : ExtW ι0 H0 (ι.hide D) H :=
  ⟨e.len, e.sub, fun a m => List.mem_cons_of_mem _ (by rw [e.hid]; exact m), fun a q => (own_hide q).elim (fun z => .inr (by rw [z]; exact Nt.of h)) (e.own a), e.keep⟩
/-- a list in the making that was one before grows -/
theorem ExtW.grown {ι0 : Io} {H0 : Hp} {o : HO} (e : ExtW ι0 H0 ι H) (hm : Own ι0 D) : ExtW ι0 H0 ι (upd H D o) :=
  ⟨e.len, e.sub, e.hid, e.own, fun a u q n t => by rw [upd_ne (fun z => n (by rw [z]; exact hm))]; exact e.keep a u q n t⟩
/-- it grows -/
theorem move_grow {o : HO} (hm : D ∈ ι.hid) : ∀ a u, H a = some u → ¬ Own ι a → (∀ ps, u ≠ .tbl ps) → upd H D o a = some u ∧ ¬ Own ι a := fun a u e n _ =>
  ⟨by rw [upd_ne (fun z => n (by rw [z]; exact .inr hm))]; exact e, n⟩
theorem SR.grow (s : SR K T ι μ H) (hm : D ∈ ι.hid) (h : H D = some (.lst acc)) : SR K T ι μ (upd H D (.lst acc')) :=
  s.move (move_grow hm) rfl (fun i b xs hb e => by
      rw [upd_ne (fun z => (s.hid D hm).1 (by rw [← z]; exact List.mem_of_getElem? hb))]; exact e)
    (tabs_upd s.tabs (fun ps z => by rw [h] at z; cases z) fun c q z hb => by subst hb; rw [h] at z; exact codeO_not_lst (Option.some.inj z).symm) fun b hb => by
    by_cases e : b = D
    · subst e; exact ⟨(s.hid b hb).1, _, upd_same⟩
    · obtain ⟨h1, xs, h2⟩ := s.hid b hb
      exact ⟨h1, xs, by rw [upd_ne e]; exact h2⟩
theorem Ext.after {ι0 : Io} {H0 : Hp} {o : HO} (e : Ext ι0 H0 ι H) (h : H0 D = none) : Ext ι0 H0 ι (upd H D o) :=
  ⟨e.len, e.sub, e.hid, e.own, fun a u q n t => (by rw [upd_ne (ne_of_none q h)]; exact e.keep a u q n t), fun a u m q => (by rw [upd_ne (ne_of_none q h)]; exact e.hkeep a u m q)⟩
/-- from a list in the making to one in the making -/
theorem Ext.unhide {ι2 : Io} (s2 : SR K T ι2 μ H') (e : Ext (ι.hide D) H ι2 H') {acc : List V} (hD : H D = some (.lst acc)) : Ext ι H ⟨ι2.cs, ι.hid⟩ H' ∧ ι2 = (Io.mk ι2.cs ι.hid).hide D ∧ H' D = some (.lst acc) := by
  have hk : H' D = some (.lst acc) := e.hkeep D _ (List.mem_cons_self) hD
  have hh : ι2.hid = D :: ι.hid := e.hid
  refine ⟨⟨e.len, e.sub, rfl, fun a q => ?_, fun a o q n t => ?_, fun a o m q => e.hkeep a o (List.mem_cons_of_mem _ m) q⟩, ?_, hk⟩
  · have q2 : Own ι2 a := q.elim .inl fun z => .inr (by rw [hh]; exact List.mem_cons_of_mem _ z)
    rcases e.own a q2 with z | z
    · rcases own_hide z with z | z
      · subst z
        rcases q with q | q
        · exact absurd q (s2.hid a (by rw [hh]; exact List.mem_cons_self)).1
        · exact .inl (.inr q)
      · exact .inl z
    · exact .inr z
  · by_cases hb : a = D
    · subst hb; rw [hD] at q; rw [hk]; exact q
    · exact e.keep a o q (fun z => (own_hide z).elim hb n) t
  · obtain ⟨cs, hid⟩ := ι2
    have hh : hid = D :: ι.hid := hh
    subst hh
    rfl
/-- it is done -/
theorem move_done {ι0 : Io} (he : ι'.hid = D :: ι0.hid) : ∀ a u, H a = some u → ¬ Own ι' a → (∀ ps, u ≠ .tbl ps) → H a = some u ∧ ¬ Own ⟨ι'.cs, ι0.hid⟩ a := fun a u e n _ =>
  ⟨e, fun q => n (q.elim .inl fun q => .inr (by rw [he]; exact List.mem_cons_of_mem _ q))⟩
theorem SR.done {ι0 : Io} (s : SR K T ι' μ H) (he : ι'.hid = D :: ι0.hid) : SR K T ⟨ι'.cs, ι0.hid⟩ μ H :=
  s.move (move_done he) rfl (fun _ _ _ _ e => e) s.tabs fun b hb => s.hid b (by rw [he]; exact List.mem_cons_of_mem _ hb)
end
end

/-! ### what a value reads as -/
/-- the items of a list -/
def celOf (μ : Mem) (i : Nat) : Option (List MV) := match μ[i]? with
  | some (.lst xs) => some xs
  | _ => none
theorem celOf_some {μ : Mem} {i : Nat} {xs : List MV} (h : celOf μ i = some xs) : μ[i]? = some (.lst xs) := by
  unfold celOf at h
  split at h
  · rename_i e; cases h; exact e
  · cases h
def lstOf (μ : Mem) : MV → Option (List MV)
  | .lst xs => some xs
  | .ref i => celOf μ i
  | _ => none
/-- the items of a list or a tuple -/
def seqOf (μ : Mem) : MV → Option (List MV)
  | .tup xs => some xs
  | d => lstOf μ d
section
variable {K : Frag} {T : Tbs} {ι : Io} {μ : Mem} {H : Hp} {d : MV} {v : V} {xs : List MV}
theorem SR.lstR (s : SR K T ι μ H) (r : RepV K H ι d v) (h : lstOf μ d = some xs) : ∃ a vs, v = .ref a ∧ Rd H a (.lst vs) ∧ RepL K H ι xs vs := by
  cases d with
  | lst ys =>
    cases h
    unfold RepV at r
    obtain ⟨a, vs, e, f, q⟩ := r
    exact ⟨a, vs, e, f.1, q⟩
  | ref i =>
    have hm := celOf_some (show celOf μ i = some xs from h)
    unfold RepV at r
    obtain ⟨a, e, r⟩ := r
    obtain ⟨o, h1, b, vs, e2, h2, h3⟩ := s.cell i _ hm
    subst e2
    rcases r with r | r
    · rw [h1] at r; cases r
      exact ⟨a, vs, e, Rd.of h2, h3⟩
    · rw [h1] at r; cases r
  | _ => cases h
theorem SR.lst (s : SR K T ι μ H) (r : RepV K H ι d v) (h : lstOf μ d = some xs) : ∃ a vs, v = .ref a ∧ SqL K H a vs ∧ RepL K H ι xs vs := by
  obtain ⟨a, vs, e, f, q⟩ := s.lstR r h
  exact ⟨a, vs, e, .inl f, q⟩
/-- a list in a cell -/
theorem SR.cel (s : SR K T ι μ H) {i : Nat} (r : RepV K H ι (.ref i) v) (h : μ[i]? = some (.lst xs)) : ∃ a vs, v = .ref a ∧ ι.cs[i]? = some (some a) ∧ H a = some (.lst vs) ∧ RepL K H ι xs vs := by
  unfold RepV at r
  obtain ⟨a, e, r⟩ := r
  obtain ⟨o, h1, b, vs, e2, h2, h3⟩ := s.cell i _ h
  subst e2
  rcases r with r | r
  · rw [h1] at r; cases r
    exact ⟨a, vs, e, h1, h2, h3⟩
  · rw [h1] at r; cases r
theorem RepV.tup_inv (r : RepV K H ι (.tup xs) v) : ∃ a vs, v = .ref a ∧ SqT K H a vs ∧ RepL K H ι xs vs := by
  unfold RepV at r
  obtain ⟨a, vs, e, f, q⟩ := r
  exact ⟨a, vs, e, f.sq, q⟩
theorem RepV.int_inv {i : Int} (r : RepV K H ι (.int i) v) : v = .int i := by unfold RepV at r; exact r
theorem RepV.bl_inv {i : Bool} (r : RepV K H ι (.bl i) v) : v = .bl i := by unfold RepV at r; exact r
theorem RepV.str_inv {i : Str} (r : RepV K H ι (.str i) v) : v = .str i := by unfold RepV at r; exact r
theorem RepV.non_inv (r : RepV K H ι .non v) : v = .non := by unfold RepV at r; exact r
theorem RepV.cst_inv {u : V} (r : RepV K H ι (.cst u) v) : v = u := by unfold RepV at r; exact r
theorem RepV.int {i : Int} : RepV K H ι (.int i) (.int i) := by unfold RepV; rfl
theorem RepV.bl {i : Bool} : RepV K H ι (.bl i) (.bl i) := by unfold RepV; rfl
theorem RepV.str {i : Str} : RepV K H ι (.str i) (.str i) := by unfold RepV; rfl
theorem RepV.non : RepV K H ι .non .non := by unfold RepV; rfl
theorem RepV.scr_inv {ns : List Int} (r : RepV K H ι (.scr ns) v) : ∃ a, v = .ref a ∧ SqL K H a (ns.map V.int) := by
  unfold RepV at r
  obtain ⟨a, e, f⟩ := r
  exact ⟨a, e, f.sq⟩
theorem RepV.cst {u : V} : RepV K H ι (.cst u) u := by unfold RepV; rfl
/-- a tuple, a list newly laid -/
theorem RepV.tup {xs : List MV} {vs : List V} {p : Addr} (s : SR K T ι μ H) (h : H p = none) (r : RepL K H ι xs vs) : RepV K (upd H p (.tup vs)) ι (.tup xs) (.ref p) := by
  unfold RepV
  exact ⟨p, vs, rfl, .inl ⟨.inl upd_same, s.fresh h⟩, RepL.ext (Ext.laid h).w _ _ r⟩
theorem RepV.lst {xs : List MV} {vs : List V} {p : Addr} (s : SR K T ι μ H) (h : H p = none) (r : RepL K H ι xs vs) : RepV K (upd H p (.lst vs)) ι (.lst xs) (.ref p) := by
  unfold RepV
  exact ⟨p, vs, rfl, ⟨.inl upd_same, s.fresh h⟩, RepL.ext (Ext.laid h).w _ _ r⟩
theorem RepV.cell {p : Addr} : RepV K H (ι.add p) (.ref ι.cs.length) (.ref p) := by
  unfold RepV
  exact ⟨p, rfl, .inl (by simp [Io.add])⟩
end
end MM

set_option Elab.async false
set_option linter.all false
set_option maxRecDepth 100000
set_option maxHeartbeats 4000000
/-! ## MM: expressions -/
namespace MM
open PySem PySem.Spec PyProof.Rows L2

abbrev Env := List (Option MV)
def EnvR (K : Frag) (H : Hp) (ι : Io) (ρ : Env) (σ : L2.St) : Prop := ρ.length = σ.length ∧ ∀ (i : Nat) (d : MV), ρ[i]? = some (some d) → ∃ v, σ[i]? = some (some v) ∧ RepV K H ι d v
theorem EnvR.ext {K : Frag} {H H' : Hp} {ι ι' : Io} {ρ : Env} {σ : L2.St} (h : EnvR K H ι ρ σ) (e : Ext ι H ι' H') : EnvR K H' ι' ρ σ :=
  ⟨h.1, fun i d hd => let ⟨v, h1, h2⟩ := h.2 i d hd; ⟨v, h1, h2.ext e⟩⟩
/-- what is wished of an exception -/
abbrev Gm := Str → Option Value
def ExcRep (mg : Gm) (x : Exc) (cls : Value) (dd : Option Addr) : Prop := x.pay = none ∧ dd = none ∧ mg x.name = some cls
abbrev Rel (α β : Type) := Hp → Io → α → β → Prop
def Post {α β : Type} (R : Rel α β) (K : Frag) (mg : Gm) (T : Tbs) (W : WX) (σ : L2.St) (ι : Io) (H : Hp) (Q : β → Hp → Prop) : Out α → Prop
  | .ok d μ' => ∀ v ι' H', Ext ι H ι' H' → SR K T ι' μ' H' → R H' ι' d v → Q v H'
  | .exc x μ' => ∀ cls dd ι' H', Ext ι H ι' H' → SR K T ι' μ' H' → ExcRep mg x cls dd → W cls dd σ H'
  | .bad => False
abbrev Ev (α : Type) := Env → Mem → Out α
def tG {α β : Type} (R : Rel α β) (K : Frag) (mg : Gm) (T : Tbs) (W : WX) (m : Ev α) : L2.St → Hp → (β → Hp → Prop) → Prop := fun σ H Q =>
  ∃ ι ρ μ, SR K T ι μ H ∧ EnvR K H ι ρ σ ∧ Post R K mg T W σ ι H Q (m ρ μ)
abbrev RV (K : Frag) : Rel MV V := fun H ι d v => RepV K H ι d v
abbrev RLs (K : Frag) : Rel (List MV) (List V) := fun H ι d v => RepL K H ι d v
abbrev RB : Rel Bool Bool := fun _ _ a b => a = b

section
variable {α β γ δ : Type}
def mB (m : Ev α) (f : α → Ev γ) : Ev γ := fun ρ μ => match m ρ μ with
  | .ok a μ' => f a ρ μ'
  | .exc x μ' => .exc x μ'
  | .bad => .bad
def mRet (a : α) : Ev α := fun _ μ => .ok a μ
def oO (o : Option α) : Ev α := fun _ μ => match o with
  | some a => .ok a μ
  | none => .bad
theorem Post.mono {R : Rel α β} {K : Frag} {mg : Gm} {T : Tbs} {W : WX} {σ : L2.St} {ι ι' : Io} {H H' : Hp} {Q : β → Hp → Prop} {o : Out α} (h : Post R K mg T W σ ι H Q o) (e : Ext ι H ι' H') : Post R K mg T W σ ι' H' Q o := by
  cases o with
  | ok d μ' => exact fun v ι1 H1 e1 s r => h v ι1 H1 (e.trans e1) s r
  | exc x μ' => exact fun cls dd ι1 H1 e1 s r => h cls dd ι1 H1 (e.trans e1) s r
  | bad => exact h
theorem bindr {R1 : Rel α β} {R2 : Rel γ δ} {K : Frag} {mg : Gm} {T : Tbs} {W : WX} {σ : L2.St} {ι : Io} {ρ : Env} {μ : Mem} {H : Hp} {Q : δ → Hp → Prop} {Q1 : β → Hp → Prop} {m : Ev α} {f : α → Ev γ}
    (h : Post R2 K mg T W σ ι H Q (mB m f ρ μ))
    (k : ∀ d v μ1 ι1 H1, m ρ μ = .ok d μ1 → Ext ι H ι1 H1 → SR K T ι1 μ1 H1 → R1 H1 ι1 d v → Post R2 K mg T W σ ι1 H1 Q (f d ρ μ1) → Q1 v H1) : Post R1 K mg T W σ ι H Q1 (m ρ μ) := by
  unfold mB at h
  cases hm : m ρ μ with
  | ok d μ1 =>
    rw [hm] at h
    exact fun v ι1 H1 e s r => k d v μ1 ι1 H1 hm e s r (Post.mono h e)
  | exc x μ1 => rw [hm] at h; exact h
  | bad => rw [hm] at h; exact h
end

/-- o is a value that stands for some v -/
def PO (K : Frag) (T : Tbs) (ι : Io) (μ : Mem) (H : Hp) (Q : VK) (o : Option MV) : Prop := ∃ d, o = some d ∧ ∀ v H', Ext ι H ι H' → SR K T ι μ H' → RepV K H' ι d v → Q v H'
theorem Post.po {K : Frag} {mg : Gm} {T : Tbs} {W : WX} {σ : L2.St} {ι : Io} {ρ : Env} {μ : Mem} {H : Hp} {Q : VK} {o : Option MV} (h : Post (RV K) K mg T W σ ι H Q (oO o ρ μ)) : PO K T ι μ H Q o := by
  cases o with
  | none => exact h.elim
  | some d => exact ⟨d, rfl, fun v H' e s r => h v ι H' e s r⟩

/-- an expression that is m -/
abbrev RE (X : Cx) (T : Tbs) (W : WX) (e : Expr) (m : Ev MV) : Prop := PE X e (tG (RV X.K) X.K X.mg T W m)
abbrev RT (X : Cx) (T : Tbs) (W : WX) (e : Expr) (m : Ev Bool) : Prop := PT X e (tG RB X.K X.mg T W m)
abbrev RA (X : Cx) (T : Tbs) (W : WX) (es : List Expr) (m : Ev (List MV)) : Prop := PA X es (tG (RLs X.K) X.K X.mg T W m)
theorem PE.mono {X : Cx} {e : Expr} {t t' : TE} (h : PE X e t) (k : ∀ σ H Q, t' σ H Q → t σ H Q) : PE X e t' := ⟨fun pins s σ H Q I q => h.run pins s σ H Q I (k σ H Q q)⟩
theorem PT.mono {X : Cx} {e : Expr} {t t' : TT} (h : PT X e t) (k : ∀ σ H Q, t' σ H Q → t σ H Q) : PT X e t' := ⟨fun pins s σ H Q I q => h.run pins s σ H Q I (k σ H Q q)⟩
theorem PA.mono {X : Cx} {e : List Expr} {t t' : TA} (h : PA X e t) (k : ∀ σ H Q, t' σ H Q → t σ H Q) : PA X e t' := ⟨fun pos pins s σ H Q I q => h.run pos pins s σ H Q I (k σ H Q q)⟩

/-! ### names, constants -/
def mVar (i : Nat) : Ev MV := fun ρ μ => match ρ[i]? with
  | some (some d) => .ok d μ
  | _ => .bad
section
variable {X : Cx} {T : Tbs} {W : WX} {pos : Pos}
theorem re_var (i : Nat) {x : Str} (hN : X.N[i]? = some x) (hv : Vis X.env.scope x) (hd : (x == ("__debug__" : Str)) = false := by decide)
    (hcd : (x == ("__classdict__" : Str)) = false := by decide) : RE X T W (.Name x pos) (mVar i) :=
  PE.mono (pe_var hN hv hd hcd) fun σ H Q ⟨ι, ρ, μ, s, e, h⟩ => by
    unfold mVar at h
    split at h
    · rename_i d hd
      obtain ⟨v, h1, h2⟩ := e.2 i d hd
      exact ⟨v, h1, h v ι H Ext.refl s h2⟩
    · exact h.elim
/-- a constant v of the text that is d -/
theorem re_const {e : Expr} {v : V} {d : MV} (h : PE X e (tC v)) (r : ∀ K H ι, RepV K H ι d v) : RE X T W e (mRet d) :=
  PE.mono h fun σ H Q ⟨ι, ρ, μ, s, e, h⟩ => h v ι H Ext.refl s (r _ _ _)
theorem re_int {i : Int} {j : Nat} : RE X T W (.Constant (.int i) j pos) (mRet (.int i)) := re_const pe_int fun _ _ _ => RepV.int
theorem re_bl {i : Bool} {j : Nat} : RE X T W (.Constant (.bool i) j pos) (mRet (.bl i)) := re_const pe_bl fun _ _ _ => RepV.bl
theorem re_str {i : Str} {j : Nat} : RE X T W (.Constant (.str i) j pos) (mRet (.str i)) := re_const pe_str fun _ _ _ => RepV.str
theorem re_non {j : Nat} : RE X T W (.Constant .none j pos) (mRet .non) := re_const pe_non fun _ _ _ => RepV.non
/-- a global name -/
theorem re_glob {x : Str} {v : V} {u : Value} {d : MV} (hg : Gl X x) (hm : X.mg x = some u) (rv : RelV v u) (r : ∀ K H ι, RepV K H ι d v) (hd : (x == ("__debug__" : Str)) = false := by decide) : RE X T W (.Name x pos) (mRet d) :=
  ⟨fun pins s σ H Q I ⟨ι, ρ, μ, sr, e, h⟩ => ld_glob I hg hm ⟨v, H, I, rv, h v ι H Ext.refl sr (r _ _ _)⟩ hd⟩
end

/-! ### operations on values -/
abbrev Op2 := Mem → MV → MV → Option MV
def rM (K : Frag) (T : Tbs) (op : Op2) : R2 := fun x y H Q => ∃ ι μ d1 d2, SR K T ι μ H ∧ RepV K H ι d1 x ∧ RepV K H ι d2 y ∧ PO K T ι μ H Q (op μ d1 d2)
def mOp (op : Op2) (ma mb : Ev MV) : Ev MV := mB ma fun a => mB mb fun b => fun ρ μ => oO (op μ a b) ρ μ
section
variable {X : Cx} {T : Tbs} {W : WX} {pos : Pos} {a b : Expr} {ma mb : Ev MV} {op : Op2}
theorem two {r : R2} (hr : ∀ x y H Q, rM X.K T op x y H Q → r x y H Q) : ∀ σ H Q, tG (RV X.K) X.K X.mg T W (mOp op ma mb) σ H Q → tOp r (tG (RV X.K) X.K X.mg T W ma) (tG (RV X.K) X.K X.mg T W mb) σ H Q :=
  fun σ H Q ⟨ι, ρ, μ, s, e, h⟩ => ⟨ι, ρ, μ, s, e, bindr h fun d1 x μ1 ι1 H1 _ E1 s1 r1 h1 => ⟨ι1, ρ, μ1, s1, e.ext E1, bindr h1 fun d2 y μ2 ι2 H2 _ E2 s2 r2 h2 => hr _ _ _ _ ⟨ι2, μ2, d1, d2, s2, r1.ext E2, r2, h2.po⟩⟩⟩
theorem re_op {o : Operator} (ho : OpR X (binaryOp o) (rM X.K T op)) (ha : RE X T W a ma) (hb : RE X T W b mb) : RE X T W (.BinOp a o b pos) (mOp op ma mb) := PE.mono (pe_op ho ha hb) (two fun _ _ _ _ h => h)
theorem re_cmp {o : CmpOp} (ho : OpR X (compareOp o) (rM X.K T op)) (ha : RE X T W a ma) (hb : RE X T W b mb) (hm : behindInMarks o b = false) : RE X T W (.Compare a [o] [b] pos) (mOp op ma mb) := PE.mono (pe_cmpR ho ha hb hm) (two fun _ _ _ _ h => h)
theorem re_ix (hr : IxR X (rM X.K T op)) (ha : RE X T W a ma) (hb : RE X T W b mb) (hs : PlainIx b) : RE X T W (.Subscript a b pos) (mOp op ma mb) := PE.mono (pe_ix hr ha hb hs) (two fun _ _ _ _ h => h)
end

/-! ### truth -/
def asB : MV → Option Bool
  | .bl b => some b
  | _ => none
def mT (m : Ev MV) : Ev Bool := mB m fun d => oO (asB d)
section
variable {X : Cx} {T : Tbs} {W : WX} {pos : Pos} {a b c : Expr} {ma mb mc : Ev MV}
theorem asB_some {d : MV} {b : Bool} (h : asB d = some b) : d = .bl b := by
  cases d <;> first | (cases h; rfl) | cases h
theorem bool_end {K : Frag} {mg : Gm} {T : Tbs} {W : WX} {σ : L2.St} {ι : Io} {ρ : Env} {μ : Mem} {H : Hp} {Q : Bool → Hp → Prop} {d : MV} {v : V} (s : SR K T ι μ H) (r : RepV K H ι d v) (h : Post RB K mg T W σ ι H Q (oO (asB d) ρ μ)) : ∃ k, v = .bl k ∧ Q k H := by
  cases hb : asB d with
  | none => rw [hb] at h; exact h.elim
  | some b =>
    rw [hb] at h
    rw [asB_some hb] at r
    exact ⟨b, r.bl_inv, h b ι H Ext.refl s rfl⟩
theorem toB {m : Ev MV} : ∀ σ H Q, tG RB X.K X.mg T W (mT m) σ H Q → tTest (tG (RV X.K) X.K X.mg T W m) σ H Q :=
  fun σ H Q ⟨ι, ρ, μ, s, e, h⟩ => ⟨ι, ρ, μ, s, e, bindr h fun d v μ1 ι1 H1 _ E1 s1 r1 h1 => bool_end s1 r1 h1⟩
theorem PTt.cmp {o : CmpOp} {op : Op2} (ho : OpR X (compareOp o) (rM X.K T op)) (ha : RE X T W a ma) (hb : RE X T W b mb) (hm : behindInMarks o b = false) : RT X T W (.Compare a [o] [b] pos) (mT (mOp op ma mb)) :=
  PT.mono (pt_cmpR ho ha hb hm) fun σ H Q h => by
    obtain ⟨ι, ρ, μ, s, e, h⟩ := toB σ H Q h
    exact two (W := W) (fun _ _ _ _ h => h) _ _ _ ⟨ι, ρ, μ, s, e, h⟩
/-- any expression whose value is a bool -/
theorem rt_val (h : RE X T W a ma) (he : ∀ whole, isTrue a X.env whole = (do let v ← whole; standAt a.pos; holding [v] (truthy v)) := by intro _; rfl) : RT X T W a (mT ma) :=
  PT.mono (pt_val h he) fun σ H Q h => toB σ H Q h
/-- truth of other values -/
def truM (μ : Mem) : MV → Option Bool
  | .non => some false
  | .bl b => some b
  | .int i => some (i != 0)
  | d => (seqOf μ d).map fun xs => !xs.isEmpty

def mAnd (ma mb : Ev MV) : Ev MV := mB ma fun d => fun ρ μ => match d with
  | .bl true => mb ρ μ
  | .bl false => .ok (.bl false) μ
  | _ => .bad
def mOr (ma mb : Ev MV) : Ev MV := mB ma fun d => fun ρ μ => match d with
  | .bl false => mb ρ μ
  | .bl true => .ok (.bl true) μ
  | _ => .bad
def mNot (ma : Ev MV) : Ev MV := mB ma fun d => fun ρ μ => match d with
  | .bl b => .ok (.bl (!b)) μ
  | _ => .bad
def mIf (c : Ev Bool) (ma mb : Ev MV) : Ev MV := mB c fun k => if k = true then ma else mb
theorem re_one {op} (h : RE X T W a ma) : RE X T W (.BoolOp op [a] pos) ma := pe_one h
theorem re_and {rest : List Expr} (ha : RE X T W a ma) (hb : RE X T W (.BoolOp .And (b :: rest) pos) mb) : RE X T W (.BoolOp .And (a :: b :: rest) pos) (mAnd ma mb) :=
  PE.mono (pe_and ha hb) fun σ H Q ⟨ι, ρ, μ, s, e, h⟩ => ⟨ι, ρ, μ, s, e, bindr h fun d v μ1 ι1 H1 _ E1 s1 r1 h1 => by
    cases d with
    | bl k =>
      refine ⟨k, r1.bl_inv, ?_⟩
      cases k with
      | true => exact ⟨ι1, ρ, μ1, s1, e.ext E1, h1⟩
      | false => exact h1 _ ι1 H1 Ext.refl s1 RepV.bl
    | _ => exact h1.elim⟩
theorem re_or {rest : List Expr} (ha : RE X T W a ma) (hb : RE X T W (.BoolOp .Or (b :: rest) pos) mb) : RE X T W (.BoolOp .Or (a :: b :: rest) pos) (mOr ma mb) :=
  PE.mono (pe_or ha hb) fun σ H Q ⟨ι, ρ, μ, s, e, h⟩ => ⟨ι, ρ, μ, s, e, bindr h fun d v μ1 ι1 H1 _ E1 s1 r1 h1 => by
    cases d with
    | bl k =>
      refine ⟨k, r1.bl_inv, ?_⟩
      cases k with
      | false => exact ⟨ι1, ρ, μ1, s1, e.ext E1, h1⟩
      | true => exact h1 _ ι1 H1 Ext.refl s1 RepV.bl
    | _ => exact h1.elim⟩
theorem re_not (ha : RE X T W a ma) : RE X T W (.UnaryOp .Not a pos) (mNot ma) :=
  PE.mono (pe_not ha) fun σ H Q ⟨ι, ρ, μ, s, e, h⟩ => ⟨ι, ρ, μ, s, e, bindr h fun d v μ1 ι1 H1 _ E1 s1 r1 h1 => by
    cases d with
    | bl k => exact ⟨k, r1.bl_inv, h1 _ ι1 H1 Ext.refl s1 RepV.bl⟩
    | _ => exact h1.elim⟩
theorem re_ifExp {mc : Ev Bool} (hc : RT X T W c mc) (ha : RE X T W a ma) (hb : RE X T W b mb) : RE X T W (.IfExp c a b pos) (mIf mc ma mb) :=
  PE.mono (pe_ifExp hc ha hb) fun σ H Q ⟨ι, ρ, μ, s, e, h⟩ => ⟨ι, ρ, μ, s, e, bindr h fun d v μ1 ι1 H1 _ E1 s1 r1 h1 => by
    cases r1
    cases d with
    | true => exact ⟨ι1, ρ, μ1, s1, e.ext E1, h1⟩
    | false => exact ⟨ι1, ρ, μ1, s1, e.ext E1, h1⟩⟩
/-- tests -/
theorem rw_one {op} {m : Ev Bool} (h : RT X T W a m) (ho : op = BoolOp.And ∨ op = BoolOp.Or) : PW X (.BoolOp op [a] pos) (tG RB X.K X.mg T W m) := by
  rcases ho with rfl | rfl
  · exact pw_and1 h
  · exact pw_or1 h
theorem mT_and {K : Frag} {mg : Gm} {σ : L2.St} {ι : Io} {ρ : Env} {μ : Mem} {H : Hp} {Q : Bool → Hp → Prop} (h : Post RB K mg T W σ ι H Q (mT (mAnd ma mb) ρ μ)) : Post RB K mg T W σ ι H Q (mB (mT ma) (fun k => if k = true then mT mb else mRet false) ρ μ) := by
  unfold mT mAnd mB at *
  cases hm : ma ρ μ with
  | ok d μ1 =>
    rw [hm] at h
    cases d with
    | bl k => cases k <;> exact h
    | _ => exact h
  | exc x μ1 => rw [hm] at h; exact h
  | bad => rw [hm] at h; exact h
theorem mT_or {K : Frag} {mg : Gm} {σ : L2.St} {ι : Io} {ρ : Env} {μ : Mem} {H : Hp} {Q : Bool → Hp → Prop} (h : Post RB K mg T W σ ι H Q (mT (mOr ma mb) ρ μ)) : Post RB K mg T W σ ι H Q (mB (mT ma) (fun k => if k = true then mRet true else mT mb) ρ μ) := by
  unfold mT mOr mB at *
  cases hm : ma ρ μ with
  | ok d μ1 =>
    rw [hm] at h
    cases d with
    | bl k => cases k <;> exact h
    | _ => exact h
  | exc x μ1 => rw [hm] at h; exact h
  | bad => rw [hm] at h; exact h
theorem mT_not {K : Frag} {mg : Gm} {σ : L2.St} {ι : Io} {ρ : Env} {μ : Mem} {H : Hp} {Q : Bool → Hp → Prop} (h : Post RB K mg T W σ ι H Q (mT (mNot ma) ρ μ)) : Post RB K mg T W σ ι H Q (mB (mT ma) (fun k => mRet (!k)) ρ μ) := by
  unfold mT mNot mB at *
  cases hm : ma ρ μ with
  | ok d μ1 =>
    rw [hm] at h
    cases d with
    | bl k => cases k <;> exact h
    | _ => exact h
  | exc x μ1 => rw [hm] at h; exact h
  | bad => rw [hm] at h; exact h
theorem rw_and {rest : List Expr} (ha : RT X T W a (mT ma)) (hb : PW X (.BoolOp .And (b :: rest) pos) (tG RB X.K X.mg T W (mT mb))) : PW X (.BoolOp .And (a :: b :: rest) pos) (tG RB X.K X.mg T W (mT (mAnd ma mb))) :=
  ⟨fun wh pins s σ H Q I ⟨ι, ρ, μ, sr, e, h⟩ => (pw_and ha hb).run wh pins s σ H Q I ⟨ι, ρ, μ, sr, e, bindr (mT_and h) fun d v μ1 ι1 H1 _ E1 s1 r1 h1 => by
    cases r1
    cases d with
    | true => exact ⟨ι1, ρ, μ1, s1, e.ext E1, h1⟩
    | false => exact h1 _ ι1 H1 Ext.refl s1 rfl⟩⟩
theorem rw_or {rest : List Expr} (ha : RT X T W a (mT ma)) (hb : PW X (.BoolOp .Or (b :: rest) pos) (tG RB X.K X.mg T W (mT mb))) : PW X (.BoolOp .Or (a :: b :: rest) pos) (tG RB X.K X.mg T W (mT (mOr ma mb))) :=
  ⟨fun wh pins s σ H Q I ⟨ι, ρ, μ, sr, e, h⟩ => (pw_or ha hb).run wh pins s σ H Q I ⟨ι, ρ, μ, sr, e, bindr (mT_or h) fun d v μ1 ι1 H1 _ E1 s1 r1 h1 => by
    cases r1
    cases d with
    | false => exact ⟨ι1, ρ, μ1, s1, e.ext E1, h1⟩
    | true => exact h1 _ ι1 H1 Ext.refl s1 rfl⟩⟩
theorem rw_and1 (h : RT X T W a (mT ma)) : PW X (.BoolOp .And [a] pos) (tG RB X.K X.mg T W (mT ma)) := pw_and1 h
theorem rw_or1 (h : RT X T W a (mT ma)) : PW X (.BoolOp .Or [a] pos) (tG RB X.K X.mg T W (mT ma)) := pw_or1 h
theorem rt_bop {e : Expr} {m : Ev Bool} (h : PW X e (tG RB X.K X.mg T W m)) : RT X T W e m := h.pt
theorem rt_not (ha : RT X T W a (mT ma)) : RT X T W (.UnaryOp .Not a pos) (mT (mNot ma)) :=
  PT.mono (pt_not ha) fun σ H Q ⟨ι, ρ, μ, sr, e, h⟩ => ⟨ι, ρ, μ, sr, e, bindr (mT_not h) fun d v μ1 ι1 H1 _ E1 s1 r1 h1 => by
    cases r1
    exact h1 _ ι1 H1 Ext.refl s1 rfl⟩
/-- a op1 b op2 c -/
def mChain (o1 o2 : Op2) (ma mb mc : Ev MV) : Ev MV := mB ma fun x => mB mb fun y => fun ρ μ => match o1 μ x y with
  | some (.bl true) => mB mc (fun z => fun ρ μ => oO (o2 μ y z) ρ μ) ρ μ
  | some (.bl false) => .ok (.bl false) μ
  | _ => .bad
theorem chainT {o1 o2 : Op2} : ∀ σ H Q, tG (RV X.K) X.K X.mg T W (mChain o1 o2 ma mb mc) σ H Q → tChain (rM X.K T o1) (rM X.K T o2) (tG (RV X.K) X.K X.mg T W ma) (tG (RV X.K) X.K X.mg T W mb) (tG (RV X.K) X.K X.mg T W mc) σ H Q :=
  fun σ H Q ⟨ι, ρ, μ, s, e, h⟩ => ⟨ι, ρ, μ, s, e, bindr h fun d1 x μ1 ι1 H1 _ E1 s1 r1 h1 => ⟨ι1, ρ, μ1, s1, e.ext E1, bindr h1 fun d2 y μ2 ι2 H2 _ E2 s2 r2 h2 => by
    refine ⟨ι2, μ2, d1, d2, s2, r1.ext E2, r2, ?_⟩
    have h2 : Post (RV X.K) X.K X.mg T W σ ι2 H2 Q (match o1 μ2 d1 d2 with
      | some (.bl true) => mB mc (fun z => fun ρ μ => oO (o2 μ d2 z) ρ μ) ρ μ2
      | some (.bl false) => .ok (.bl false) μ2
      | _ => .bad) := h2
    split at h2
    · rename_i ho
      refine ⟨_, ho, fun v H3 E3 s3 r3 => ⟨true, r3.bl_inv, ?_⟩⟩
      exact ⟨ι2, ρ, μ2, s3, (e.ext (E1.trans E2)).ext E3, bindr (h2.mono E3) fun d3 z μ3 ι4 H4 _ E4 s4 r4 h4 => ⟨ι4, μ3, d2, d3, s4, (r2.ext E3).ext E4.w, r4, h4.po⟩⟩
    · rename_i ho
      refine ⟨_, ho, fun v H3 E3 s3 r3 => ⟨false, r3.bl_inv, ?_⟩⟩
      exact h2 _ ι2 H3 E3 s3 RepV.bl
    · exact h2.elim⟩⟩
theorem re_chain {o1 o2 : Op2} {op op' : CmpOp} (ho : OpR X (compareOp op) (rM X.K T o1)) (ho' : OpR X (compareOp op') (rM X.K T o2)) (ha : RE X T W a ma) (hb : RE X T W b mb) (hc : RE X T W c mc)
    (hm : lastMarks [op, op'] [b, c] = false := by with_unfolding_all rfl) : RE X T W (.Compare a [op, op'] [b, c] pos) (mChain o1 o2 ma mb mc) := PE.mono (pe_chain ho ho' ha hb hc hm) chainT
theorem rt_chain {o1 o2 : Op2} {op op' : CmpOp} (ho : OpR X (compareOp op) (rM X.K T o1)) (ho' : OpR X (compareOp op') (rM X.K T o2)) (ha : RE X T W a ma) (hb : RE X T W b mb) (hc : RE X T W c mc)
    (hm : lastMarks [op, op'] [b, c] = false := by with_unfolding_all rfl) : RT X T W (.Compare a [op, op'] [b, c] pos) (mT (mChain o1 o2 ma mb mc)) :=
  PT.mono (pt_chain ho ho' ha hb hc hm) fun σ H Q h => by
    obtain ⟨ι, ρ, μ, s, e, h⟩ := toB σ H Q h
    exact chainT (W := W) _ _ _ ⟨ι, ρ, μ, s, e, h⟩
end

/-! ### argument lists, displays -/
section
variable {X : Cx} {T : Tbs} {W : WX} {pos : Pos} {a : Expr} {es : List Expr} {ma : Ev MV} {ms : Ev (List MV)}
def mNil : Ev (List MV) := mRet []
def mCons (ma : Ev MV) (ms : Ev (List MV)) : Ev (List MV) := mB ma fun d => mB ms fun ds => mRet (d :: ds)
theorem ra_nil : RA X T W [] mNil := PA.mono pa_nil fun σ H Q ⟨ι, ρ, μ, s, e, h⟩ => h [] ι H Ext.refl s (RepL.nil_iff.mpr rfl)
theorem ra_cons (ha : RE X T W a ma) (hr : RA X T W es ms) (hs : starEach (a :: es) X.env = (false, eval a X.env) :: starEach es X.env := by rfl) : RA X T W (a :: es) (mCons ma ms) :=
  PA.mono (pa_cons ha hr hs) fun σ H Q ⟨ι, ρ, μ, s, e, h⟩ => ⟨ι, ρ, μ, s, e, bindr h fun d v μ1 ι1 H1 _ E1 s1 r1 h1 => ⟨ι1, ρ, μ1, s1, e.ext E1, bindr h1 fun ds vs μ2 ι2 H2 _ E2 s2 r2 h2 =>
    h2 (v :: vs) ι2 H2 Ext.refl s2 (RepL.cons_iff.mpr ⟨v, vs, rfl, r1.ext E2, r2⟩)⟩⟩
def mTup (ms : Ev (List MV)) : Ev MV := mB ms fun ds => oO (if ds.length ≤ sizeLine then some (.tup ds) else none)
def mLst (ms : Ev (List MV)) : Ev MV := mB ms fun ds => oO (if ds.length ≤ sizeLine then some (.lst ds) else none)
/-- a list that is a cell -/
def mLstC (ms : Ev (List MV)) : Ev MV := mB ms fun ds => fun ρ μ => if ds.length ≤ sizeLine then .ok (.ref μ.length) (μ ++ [.lst ds]) else .bad
theorem re_tup {k : Nat} (h : RA X T W es ms) : RE X T W (.Tuple es k pos) (mTup ms) :=
  PE.mono (pe_tup h) fun σ H Q ⟨ι, ρ, μ, s, e, h⟩ => ⟨ι, ρ, μ, s, e, bindr h fun d v μ1 ι1 H1 _ E1 s1 r1 h1 => by
    obtain ⟨d', hd, q⟩ := h1.po
    split at hd
    · rename_i hl
      cases hd
      exact ⟨by rw [← r1.len]; exact hl, fun p hp => q _ _ (Ext.laid hp) (s1.laid hp) (RepV.tup s1 hp r1)⟩
    · cases hd⟩
theorem re_lst (h : RA X T W es ms) : RE X T W (.List es pos) (mLst ms) :=
  PE.mono (pe_lst h) fun σ H Q ⟨ι, ρ, μ, s, e, h⟩ => ⟨ι, ρ, μ, s, e, bindr h fun d v μ1 ι1 H1 _ E1 s1 r1 h1 => by
    obtain ⟨d', hd, q⟩ := h1.po
    split at hd
    · rename_i hl
      cases hd
      exact ⟨by rw [← r1.len]; exact hl, fun p hp => q _ _ (Ext.laid hp) (s1.laid hp) (RepV.lst s1 hp r1)⟩
    · cases hd⟩
theorem re_lstC (h : RA X T W es ms) : RE X T W (.List es pos) (mLstC ms) :=
  PE.mono (pe_lst h) fun σ H Q ⟨ι, ρ, μ, s, e, h⟩ => ⟨ι, ρ, μ, s, e, bindr h fun d v μ1 ι1 H1 _ E1 s1 r1 h1 => by
    have h1 : Post (RV X.K) X.K X.mg T W σ ι1 H1 Q (if d.length ≤ sizeLine then .ok (.ref μ1.length) (μ1 ++ [.lst d]) else .bad) := h1
    split at h1
    · rename_i hl
      exact ⟨by rw [← r1.len]; exact hl, fun p hp => h1 _ _ _ (Ext.laidC hp) (s1.laidC hp r1) (by rw [← s1.len]; exact RepV.cell)⟩
    · exact h1.elim⟩
end
end MM

set_option Elab.async false
set_option linter.all false
set_option maxRecDepth 100000
set_option maxHeartbeats 4000000
/-! ## MM: operations on values -/
namespace MM
open PySem PySem.Spec PyProof.Rows L2

/-! ### data -/
mutual
def pd0 : MV → Option PyData
  | .non => some .none
  | .bl b => some (.bool b)
  | .int i => some (.int i)
  | .str x => some (.str x)
  | .tup xs => (pd0L xs).map .tuple
  | .lst xs => (pd0L xs).map .list
  | .ref _ => none
  | .cst _ => none
  | .scr _ => none
def pd0L : List MV → Option (List PyData)
  | [] => some []
  | x :: xs => match pd0 x, pd0L xs with
    | some d, some ds => some (d :: ds)
    | _, _ => none
end
mutual
/-- data, the cells read -/
def pd (μ : Mem) : MV → Option PyData
  | .non => some .none
  | .bl b => some (.bool b)
  | .int i => some (.int i)
  | .str x => some (.str x)
  | .tup xs => (pdL μ xs).map .tuple
  | .lst xs => (pdL μ xs).map .list
  | .ref i => match celOf μ i with
    | some xs => (pd0L xs).map .list
    | none => none
  | .cst _ => none
  | .scr _ => none
def pdL (μ : Mem) : List MV → Option (List PyData)
  | [] => some []
  | x :: xs => match pd μ x, pdL μ xs with
    | some d, some ds => some (d :: ds)
    | _, _ => none
end
section
variable {K : Frag} {T : Tbs} {ι : Io} {μ : Mem} {H : Hp}
mutual
theorem pd0_dp (s : SR K T ι μ H) : ∀ (d : MV) (v : V) (p : PyData), RepV K H ι d v → pd0 d = some p → Dp K H v p
  | .non, v, p, r, h => by cases h; rw [r.non_inv]; exact .non
  | .bl b, v, p, r, h => by cases h; rw [r.bl_inv]; exact .bl b
  | .int i, v, p, r, h => by cases h; rw [r.int_inv]; exact .int i
  | .str x, v, p, r, h => by cases h; rw [r.str_inv]; exact .str x
  | .ref _, _, _, _, h => by cases h
  | .cst _, _, _, _, h => by cases h
  | .scr _, _, _, _, h => by cases h
  | .tup xs, v, p, r, h => by
    unfold pd0 at h
    obtain ⟨ds, h1, h2⟩ := Option.map_eq_some_iff.mp h
    subst h2
    obtain ⟨a, vs, e, f, q⟩ := r.tup_inv
    subst e
    exact .tup f (pd0L_dp s xs vs ds q h1)
  | .lst xs, v, p, r, h => by
    unfold pd0 at h
    obtain ⟨ds, h1, h2⟩ := Option.map_eq_some_iff.mp h
    subst h2
    obtain ⟨a, vs, e, f, q⟩ := s.lst r rfl
    subst e
    exact .lst f (pd0L_dp s xs vs ds q h1)
theorem pd0L_dp (s : SR K T ι μ H) : ∀ (xs : List MV) (vs : List V) (ps : List PyData), RepL K H ι xs vs → pd0L xs = some ps → DpAll K H vs ps
  | [], vs, ps, r, h => by cases h; rw [RepL.nil_iff] at r; subst r; exact .nil
  | x :: xs, vs, ps, r, h => by
    unfold pd0L at h
    rw [RepL.cons_iff] at r
    obtain ⟨v, r', rfl, r1, r2⟩ := r
    split at h
    · rename_i d ds h1 h2
      cases h
      exact .cons (pd0_dp s x v d r1 h1) (pd0L_dp s xs r' ds r2 h2)
    · cases h
end
mutual
theorem pd_dp (s : SR K T ι μ H) : ∀ (d : MV) (v : V) (p : PyData), RepV K H ι d v → pd μ d = some p → Dp K H v p
  | .non, v, p, r, h => by cases h; rw [r.non_inv]; exact .non
  | .bl b, v, p, r, h => by cases h; rw [r.bl_inv]; exact .bl b
  | .int i, v, p, r, h => by cases h; rw [r.int_inv]; exact .int i
  | .str x, v, p, r, h => by cases h; rw [r.str_inv]; exact .str x
  | .cst _, _, _, _, h => by cases h
  | .scr _, _, _, _, h => by cases h
  | .ref i, v, p, r, h => by
    unfold pd at h
    split at h
    · rename_i xs hc
      obtain ⟨ds, h1, h2⟩ := Option.map_eq_some_iff.mp h
      subst h2
      obtain ⟨a, vs, e, f, q⟩ := s.lst r (show lstOf μ (.ref i) = some xs from hc)
      subst e
      exact .lst f (pd0L_dp s xs vs ds q h1)
    · cases h
  | .tup xs, v, p, r, h => by
    unfold pd at h
    obtain ⟨ds, h1, h2⟩ := Option.map_eq_some_iff.mp h
    subst h2
    obtain ⟨a, vs, e, f, q⟩ := r.tup_inv
    subst e
    exact .tup f (pdL_dp s xs vs ds q h1)
  | .lst xs, v, p, r, h => by
    unfold pd at h
    obtain ⟨ds, h1, h2⟩ := Option.map_eq_some_iff.mp h
    subst h2
    obtain ⟨a, vs, e, f, q⟩ := s.lst r rfl
    subst e
    exact .lst f (pdL_dp s xs vs ds q h1)
theorem pdL_dp (s : SR K T ι μ H) : ∀ (xs : List MV) (vs : List V) (ps : List PyData), RepL K H ι xs vs → pdL μ xs = some ps → DpAll K H vs ps
  | [], vs, ps, r, h => by cases h; rw [RepL.nil_iff] at r; subst r; exact .nil
  | x :: xs, vs, ps, r, h => by
    unfold pdL at h
    rw [RepL.cons_iff] at r
    obtain ⟨v, r', rfl, r1, r2⟩ := r
    split at h
    · rename_i d ds h1 h2
      cases h
      exact .cons (pd_dp s x v d r1 h1) (pdL_dp s xs r' ds r2 h2)
    · cases h
end
end

/-! ### ints -/
def okMul (i j : Int) : Prop := i.natAbs.log2 + j.natAbs.log2 < 1000000
instance (i j : Int) : Decidable (okMul i j) := by unfold okMul; infer_instance
def okDiv (j : Int) : Prop := (0 < j ∧ j.natAbs.log2 < 9000) ∨ (j ≠ 0 ∧ j.natAbs < 1073741824)
instance (j : Int) : Decidable (okDiv j) := by unfold okDiv; infer_instance
def mulT (xs : List MV) (k : Int) : Option MV :=
  if k = 1 then some (.tup xs) else if xs ≠ [] ∧ 2 ≤ k ∧ k ≤ 1000 ∧ xs.length ≤ 1000 then some (.tup (List.replicate k.toNat xs).flatten) else none
def addM : Op2 := fun μ a b => match a, b with
  | .int i, .int j => some (.int (i + j))
  | .int i, .bl k => some (.int (i + b2i k))
  | .str x, .str y => if x.length + y.length ≤ sizeLine then some (.str (x ++ y)) else none
  | .tup xs, .tup ys => if xs.length + ys.length ≤ sizeLine then some (.tup (xs ++ ys)) else none
  | _, _ => match lstOf μ a, lstOf μ b with
    | some xs, some ys => if xs.length + ys.length ≤ sizeLine then some (.lst (xs ++ ys)) else none
    | _, _ => none
def subM : Op2 := fun _ a b => match a, b with
  | .int i, .int j => some (.int (i - j))
  | _, _ => none
def mulM : Op2 := fun μ a b => match a, b with
  | .int i, .int j => if okMul i j then some (.int (i * j)) else none
  | .tup xs, .int k => if xs ≠ [] ∧ 2 ≤ k ∧ k ≤ 1000 ∧ xs.length ≤ 1000 then some (.tup (List.replicate k.toNat xs).flatten) else none
  | _, _ => none
def fdivM : Op2 := fun _ a b => match a, b with
  | .int i, .int j => if okDiv j then some (.int (i.fdiv j)) else none
  | _, _ => none
def modM : Op2 := fun _ a b => match a, b with
  | .int i, .int j => if j ≠ 0 then some (.int (i.fmod j)) else none
  | _, _ => none
def powM : Op2 := fun _ a b => match a, b with
  | .int i, .int j => if 0 ≤ j ∧ j ≤ 1000000 ∧ i.natAbs < 2 ^ 64 then some (.int (i ^ j.toNat)) else none
  | _, _ => none
def shlM : Op2 := fun _ a b => match a, b with
  | .int i, .int j => if 0 ≤ j ∧ j ≤ 1000000 ∧ i.natAbs < 2 ^ 64 then some (.int (i * 2 ^ j.toNat)) else none
  | _, _ => none
def shrM : Op2 := fun _ a b => match a, b with
  | .int i, .int j => if 0 ≤ j then some (.int (i / 2 ^ j.toNat)) else none
  | _, _ => none
def bandM : Op2 := fun _ a b => match a, b with
  | .int i, .int j => some (.int (Builtin.bitAnd i j))
  | _, _ => none
def borM : Op2 := fun _ a b => match a, b with
  | .int i, .int j => some (.int (Builtin.bitOr i j))
  | _, _ => none
def ltM : Op2 := fun _ a b => match a, b with
  | .int i, .int j => some (.bl (decide (i < j)))
  | _, _ => none
def leM : Op2 := fun _ a b => match a, b with
  | .int i, .int j => some (.bl (decide (i ≤ j)))
  | _, _ => none
def gtM : Op2 := fun _ a b => match a, b with
  | .int i, .int j => some (.bl (decide (j < i)))
  | _, _ => none
def geM : Op2 := fun _ a b => match a, b with
  | .int i, .int j => some (.bl (decide (j ≤ i)))
  | _, _ => none
def eqD (μ : Mem) (a b : MV) : Option Bool := match pd μ a, pd μ b with
  | some d, some e => if SeqAt.shaped d = true ∧ SeqAt.shaped e = true then some (PyData.eqv d e) else none
  | _, _ => none
def eqM : Op2 := fun μ a b => (eqD μ a b).map .bl
def neM : Op2 := fun μ a b => (eqD μ a b).map fun k => .bl (!k)
def inDl (μ : Mem) (a b : MV) : Option Bool := match pd μ a, pd μ b with
  | some d, some (.list ds) => if SeqAt.shaped d = true ∧ SeqAt.shaped (.list ds) = true then some (ds.any fun z => PyData.eqv z d) else none
  | _, _ => none
/-- in a tuple of plain values -/
def flatD : MV → Option V
  | .int i => some (.int i)
  | .str x => some (.str x)
  | .bl b => some (.bl b)
  | .non => some .non
  | _ => none
def flatDs : List MV → Option (List V)
  | [] => some []
  | x :: xs => match flatD x, flatDs xs with
    | some v, some vs => some (v :: vs)
    | _, _ => none
def inT (a : MV) (ys : List MV) : Option Bool := match flatD a, flatDs ys with
  | some v, some vs => if flatV v = true ∧ vs.all flatV = true then some (inV v vs) else none
  | _, _ => none
def inB (μ : Mem) (a b : MV) : Option Bool := match b with
  | .tup ys => inT a ys
  | _ => inDl μ a b
def inM : Op2 := fun μ a b => (inB μ a b).map .bl
def notInM : Op2 := fun μ a b => (inB μ a b).map fun k => .bl (!k)
def isNonB : MV → Option Bool
  | .non => some true
  | .cst _ => none
  | _ => some false
def isM : Op2 := fun _ a b => match b with
  | .non => (isNonB a).map .bl
  | _ => none
def isNotM : Op2 := fun _ a b => match b with
  | .non => (isNonB a).map fun k => .bl (!k)
  | _ => none
def ixM : Op2 := fun μ a b => match b with
  | .int i => match a with
    | .str z => if z.length ≤ sizeLine then (atI z.cps.toList i).map fun c => .str ⟨#[c]⟩ else none
    | _ => (seqOf μ a).bind fun xs => atI xs i
  | _ => none

section
variable {X : Cx} {T : Tbs}
theorem PO.val {K : Frag} {ι : Io} {μ : Mem} {H : Hp} {Q : VK} {o : Option MV} {d : MV} {v : V} (q : PO K T ι μ H Q o) (s : SR K T ι μ H) (e : o = some d) (r : RepV K H ι d v) : Q v H := by
  obtain ⟨d', h, q⟩ := q
  rw [e] at h; cases h
  exact q v H Ext.refl s r
/-- two ints -/
theorem opII {f : Value → Value → Sem Value} {C : Int → Int → Prop} {g : Int → Int → V} {op : Op2} (h : OpR X f (rI C g))
    (hop : ∀ μ a b d, op μ a b = some d → ∃ i j, a = .int i ∧ b = .int j ∧ C i j ∧ ∀ K H ι, RepV K H ι d (g i j)) : OpR X f (rM X.K T op) := by
  intro pins s σ H x y v u Q I rx ry ⟨ι, μ, d1, d2, sr, r1, r2, d, e, q⟩
  obtain ⟨i, j, rfl, rfl, c, r⟩ := hop μ d1 d2 d e
  exact h pins s σ H x y v u Q I rx ry ⟨i, j, r1.int_inv, r2.int_inv, c, q _ H Ext.refl sr (r _ _ _)⟩
theorem rI_of {f : Value → Value → Sem Value} {g : Int → Int → V} (h : OpR X f (rI0 g)) : OpR X f (rI (fun _ _ => True) g) := by
  intro pins s σ H x y v u Q I rx ry ⟨i, j, e1, e2, _, q⟩
  exact h pins s σ H x y v u Q I rx ry ⟨i, j, e1, e2, q⟩
theorem m_sub : OpR X (binaryOp .Sub) (rM X.K T subM) := opII (rI_of op_sub) fun μ a b d h => by
  unfold subM at h; split at h
  · cases h; exact ⟨_, _, rfl, rfl, trivial, fun _ _ _ => RepV.int⟩
  · cases h
theorem m_pow : OpR X (binaryOp .Pow) (rM X.K T powM) := opII op_pow fun μ a b d h => by
  unfold powM at h; split at h
  · split at h
    · cases h; exact ⟨_, _, rfl, rfl, by assumption, fun _ _ _ => RepV.int⟩
    · cases h
  · cases h
theorem m_shl : OpR X (binaryOp .LShift) (rM X.K T shlM) := opII op_shl fun μ a b d h => by
  unfold shlM at h; split at h
  · split at h
    · cases h; exact ⟨_, _, rfl, rfl, by assumption, fun _ _ _ => RepV.int⟩
    · cases h
  · cases h
theorem m_shr : OpR X (binaryOp .RShift) (rM X.K T shrM) := opII op_shr fun μ a b d h => by
  unfold shrM at h; split at h
  · split at h
    · cases h; exact ⟨_, _, rfl, rfl, by assumption, fun _ _ _ => RepV.int⟩
    · cases h
  · cases h
theorem m_band : OpR X (binaryOp .BitAnd) (rM X.K T bandM) := opII (rI_of op_and) fun μ a b d h => by
  unfold bandM at h; split at h
  · cases h; exact ⟨_, _, rfl, rfl, trivial, fun _ _ _ => RepV.int⟩
  · cases h
theorem m_bor : OpR X (binaryOp .BitOr) (rM X.K T borM) := opII (rI_of op_or) fun μ a b d h => by
  unfold borM at h; split at h
  · cases h; exact ⟨_, _, rfl, rfl, trivial, fun _ _ _ => RepV.int⟩
  · cases h
theorem m_mod : OpR X (binaryOp .Mod) (rM X.K T modM) := opII op_modN fun μ a b d h => by
  unfold modM at h; split at h
  · split at h
    · cases h; exact ⟨_, _, rfl, rfl, by assumption, fun _ _ _ => RepV.int⟩
    · cases h
  · cases h
theorem m_lt : OpR X (compareOp .Lt) (rM X.K T ltM) := opII (rI_of op_lt) fun μ a b d h => by
  unfold ltM at h; split at h
  · cases h; exact ⟨_, _, rfl, rfl, trivial, fun _ _ _ => RepV.bl⟩
  · cases h
theorem m_le : OpR X (compareOp .LtE) (rM X.K T leM) := opII (rI_of op_le) fun μ a b d h => by
  unfold leM at h; split at h
  · cases h; exact ⟨_, _, rfl, rfl, trivial, fun _ _ _ => RepV.bl⟩
  · cases h
theorem m_gt : OpR X (compareOp .Gt) (rM X.K T gtM) := opII (rI_of op_gt) fun μ a b d h => by
  unfold gtM at h; split at h
  · cases h; exact ⟨_, _, rfl, rfl, trivial, fun _ _ _ => RepV.bl⟩
  · cases h
theorem m_ge : OpR X (compareOp .GtE) (rM X.K T geM) := opII (rI_of op_ge) fun μ a b d h => by
  unfold geM at h; split at h
  · cases h; exact ⟨_, _, rfl, rfl, trivial, fun _ _ _ => RepV.bl⟩
  · cases h
theorem m_fdiv : OpR X (binaryOp .FloorDiv) (rM X.K T fdivM) := by
  intro pins s σ H x y v u Q I rx ry ⟨ι, μ, d1, d2, sr, r1, r2, d, e, q⟩
  unfold fdivM at e
  split at e
  · rename_i i j
    split at e
    · rename_i c
      cases e
      rcases c with c | c
      · have h0 : (0 : Int) ≤ j := Int.le_of_lt c.1
        have z : Q (.int (i.fdiv j)) H := q _ H Ext.refl sr RepV.int
        rw [Int.fdiv_eq_ediv_of_nonneg i h0] at z
        exact op_fdivW pins s σ H x y v u Q I rx ry ⟨i, j, r1.int_inv, r2.int_inv, c, z⟩
      · exact op_fdivN pins s σ H x y v u Q I rx ry ⟨i, j, r1.int_inv, r2.int_inv, c, q _ H Ext.refl sr RepV.int⟩
    · cases e
  · cases e
theorem Vals.unlen {xs : List MV} {vs : List V} {K : Frag} {H : Hp} {ι : Io} (r : RepL K H ι xs vs) : xs = [] ↔ vs = [] := by
  have h := r.len
  constructor
  · rintro rfl; exact List.eq_nil_of_length_eq_zero h.symm
  · rintro rfl; exact List.eq_nil_of_length_eq_zero h
theorem Rd.at {pins : List (Addr × Obj)} {σ : L2.St} {H : Hp} {s : Shared} {a : Addr} {vs : List V} (I : L2.Inv X pins σ H s) (h : Rd H a (.lst vs)) :
    vs.length ≤ sizeLine ∧ ∃ (its : List Value) (n : Nat), Vals vs its ∧ s.heap.get? a = some { cls := .type "list", data := .seq its.toArray n } := h.ok I.hok
theorem m_add : OpR X (binaryOp .Add) (rM X.K T addM) := by
  intro pins s σ H x y v u Q I rx ry ⟨ι, μ, d1, d2, sr, r1, r2, d, e, q⟩
  unfold addM at e
  split at e
  · cases e
    exact op_add pins s σ H x y v u Q I rx ry ⟨_, _, r1.int_inv, r2.int_inv, q _ H Ext.refl sr RepV.int⟩
  · cases e
    exact op_add_ib pins s σ H x y v u Q I rx ry ⟨_, _, r1.int_inv, r2.bl_inv, q _ H Ext.refl sr RepV.int⟩
  · split at e
    · rename_i hz
      cases e
      exact op_add_str pins s σ H x y v u Q I rx ry ⟨_, _, r1.str_inv, r2.str_inv, hz, q _ H Ext.refl sr RepV.str⟩
    · cases e
  · rename_i xs ys
    split at e
    · rename_i hz
      cases e
      obtain ⟨a, vs, rfl, t1, l1⟩ := r1.tup_inv
      obtain ⟨b, ws, rfl, t2, l2⟩ := r2.tup_inv
      refine op_catA pins s σ H _ _ v u Q I rx ry ⟨a, b, vs, ws, rfl, rfl, t1, t2, by rw [← l1.len, ← l2.len]; exact hz, fun h0 => ?_, fun _ h0 => ?_, fun _ _ p hp => ?_⟩
      · have h1 := (Vals.unlen l1).mpr h0
        subst h1
        exact q _ H Ext.refl sr r2
      · have h1 := (Vals.unlen l2).mpr h0
        subst h1
        rw [List.append_nil] at q
        exact q _ H Ext.refl sr r1
      · exact q _ _ (Ext.laid hp) (sr.laid hp) (RepV.tup sr hp (l1.app l2))
    · cases e
  · split at e
    · rename_i xs ys h1 h2
      split at e
      · rename_i hz
        cases e
        obtain ⟨a, vs, rfl, t1, l1⟩ := sr.lstR r1 h1
        obtain ⟨b, ws, rfl, t2, l2⟩ := sr.lstR r2 h2
        cases rx
        cases ry
        obtain ⟨z1, as, n1, v1, g1⟩ := Rd.at I t1
        obtain ⟨z2, bs, n2, v2, g2⟩ := Rd.at I t2
        have hlen : vs.length + ws.length ≤ sizeLine := by rw [← l1.len, ← l2.len]; exact hz
        refine PySem.P.add_list g1 g2 ?_ (by simp only [List.size_toArray]; rw [← v1.length, ← v2.length]; exact hlen)
        have hp := I.hok.fresh (Nat.le_refl s.heap.objs.size)
        have ea : as.toArray ++ bs.toArray = (as ++ bs).toArray := List.append_toArray as bs
        rw [ea]
        exact ⟨.ref s.heap.objs.size, _, I.lnew (t' := s.toks) (v1.append v2) (by rw [List.length_append]; exact hlen), rfl, q _ _ (Ext.laid hp) (sr.laid hp) (RepV.lst sr hp (l1.app l2))⟩
      · cases e
    · cases e
theorem RepL.rep {K : Frag} {H : Hp} {ι : Io} {xs : List MV} {vs : List V} (h : RepL K H ι xs vs) : ∀ k : Nat, RepL K H ι (List.replicate k xs).flatten (List.replicate k vs).flatten
  | 0 => by simp [RepL.nil_iff]
  | k + 1 => by
    rw [List.replicate_succ, List.replicate_succ, List.flatten_cons, List.flatten_cons]
    exact h.app (RepL.rep h k)
theorem m_mul : OpR X (binaryOp .Mult) (rM X.K T mulM) := by
  intro pins s σ H x y v u Q I rx ry ⟨ι, μ, d1, d2, sr, r1, r2, d, e, q⟩
  unfold mulM at e
  split at e
  · split at e
    · rename_i hc
      cases e
      exact op_mulW pins s σ H x y v u Q I rx ry ⟨_, _, r1.int_inv, r2.int_inv, hc, q _ H Ext.refl sr RepV.int⟩
    · cases e
  · split at e
    · rename_i hc
      cases e
      obtain ⟨a, vs, rfl, t1, l1⟩ := r1.tup_inv
      have hl := l1.len
      refine op_repT pins s σ H _ y v u Q I rx ry ⟨a, _, vs, rfl, r2.int_inv, t1, fun z => hc.1 ((Vals.unlen l1).mpr z), hc.2.1, hc.2.2.1, by omega, fun p hp => ?_⟩
      exact q _ _ (Ext.laid hp) (sr.laid hp) (RepV.tup sr hp (l1.rep _))
    · cases e
  · cases e
theorem eqD_some {μ : Mem} {a b : MV} {k : Bool} (h : eqD μ a b = some k) : ∃ d e, pd μ a = some d ∧ pd μ b = some e ∧ SeqAt.shaped d = true ∧ SeqAt.shaped e = true ∧ PyData.eqv d e = k := by
  unfold eqD at h
  split at h
  · rename_i d e h1 h2
    split at h
    · rename_i hs
      cases h
      exact ⟨d, e, h1, h2, hs.1, hs.2, rfl⟩
    · cases h
  · cases h
theorem m_eq (hu : X.A.units + 64 < cLine) : OpR X (compareOp .Eq) (rM X.K T eqM) := by
  intro pins s σ H x y v u Q I rx ry ⟨ι, μ, d1, d2, sr, r1, r2, d, e, q⟩
  obtain ⟨k, hk, rfl⟩ := Option.map_eq_some_iff.mp e
  obtain ⟨a, b, h1, h2, s1, s2, rfl⟩ := eqD_some hk
  exact op_eqD hu pins s σ H x y v u Q I rx ry ⟨a, b, pd_dp sr d1 x a r1 h1, pd_dp sr d2 y b r2 h2, s1, s2, q _ H Ext.refl sr RepV.bl⟩
theorem m_ne (hu : X.A.units + 64 < cLine) : OpR X (compareOp .NotEq) (rM X.K T neM) := by
  intro pins s σ H x y v u Q I rx ry ⟨ι, μ, d1, d2, sr, r1, r2, d, e, q⟩
  obtain ⟨k, hk, rfl⟩ := Option.map_eq_some_iff.mp e
  obtain ⟨a, b, h1, h2, s1, s2, rfl⟩ := eqD_some hk
  exact op_neD hu pins s σ H x y v u Q I rx ry ⟨a, b, pd_dp sr d1 x a r1 h1, pd_dp sr d2 y b r2 h2, s1, s2, q _ H Ext.refl sr RepV.bl⟩
theorem flatD_rep {K : Frag} {H : Hp} {ι : Io} {d : MV} {v w : V} (r : RepV K H ι d v) (h : flatD d = some w) : v = w := by
  cases d with
  | int i => cases h; exact r.int_inv
  | str i => cases h; exact r.str_inv
  | bl i => cases h; exact r.bl_inv
  | non => cases h; exact r.non_inv
  | _ => cases h
theorem flatDs_rep {K : Frag} {H : Hp} {ι : Io} : ∀ {xs : List MV} {vs ws : List V}, RepL K H ι xs vs → flatDs xs = some ws → vs = ws
  | [], vs, ws, r, h => by cases h; exact RepL.nil_iff.mp r
  | x :: xs, vs, ws, r, h => by
    rw [RepL.cons_iff] at r
    obtain ⟨v, r', rfl, r1, r2⟩ := r
    unfold flatDs at h
    split at h
    · rename_i w ws' h1 h2
      cases h
      rw [flatD_rep r1 h1, flatDs_rep r2 h2]
    · cases h
theorem inB_some {K : Frag} {H : Hp} {ι : Io} {μ : Mem} {a b : MV} {k : Bool} {x y : V} (sr : SR K T ι μ H) (r1 : RepV K H ι a x) (r2 : RepV K H ι b y) (h : inB μ a b = some k) :
    (∃ p xs, y = .ref p ∧ SqT K H p xs ∧ flatV x = true ∧ xs.all flatV = true ∧ inV x xs = k) ∨
    (∃ d ds, Dp K H x d ∧ Dp K H y (.list ds) ∧ SeqAt.shaped d = true ∧ SeqAt.shaped (.list ds) = true ∧ (ds.any fun z => PyData.eqv z d) = k) := by
  unfold inB at h
  split at h
  · unfold inT at h
    split at h
    · rename_i v vs h1 h2
      split at h
      · rename_i hf
        cases h
        obtain ⟨p, ws, rfl, t, l⟩ := r2.tup_inv
        have e1 := flatD_rep r1 h1
        have e2 := flatDs_rep l h2
        subst e1 e2
        exact .inl ⟨p, _, rfl, t, hf.1, hf.2, rfl⟩
      · cases h
    · cases h
  · unfold inDl at h
    split at h
    · rename_i d ds h1 h2
      split at h
      · rename_i hf
        cases h
        exact .inr ⟨d, ds, pd_dp sr a x d r1 h1, pd_dp sr b y _ r2 h2, hf.1, hf.2, rfl⟩
      · cases h
    · cases h
theorem m_in (hu : X.A.units + 65 < cLine) : OpR X (compareOp .In) (rM X.K T inM) := by
  intro pins s σ H x y v u Q I rx ry ⟨ι, μ, d1, d2, sr, r1, r2, d, e, q⟩
  obtain ⟨k, hk, rfl⟩ := Option.map_eq_some_iff.mp e
  rcases inB_some sr r1 r2 hk with ⟨p, xs, e1, t, f1, f2, e2⟩ | ⟨a, ds, h1, h2, s1, s2, e2⟩
  · exact op_in_seq pins s σ H x y v u Q I rx ry ⟨p, xs, e1, .inr t, f1, f2, by rw [e2]; exact q _ H Ext.refl sr RepV.bl⟩
  · exact op_inD hu pins s σ H x y v u Q I rx ry ⟨a, ds, h1, h2, s1, s2, by rw [e2]; exact q _ H Ext.refl sr RepV.bl⟩
theorem m_notIn (hu : X.A.units + 65 < cLine) : OpR X (compareOp .NotIn) (rM X.K T notInM) := by
  intro pins s σ H x y v u Q I rx ry ⟨ι, μ, d1, d2, sr, r1, r2, d, e, q⟩
  obtain ⟨k, hk, rfl⟩ := Option.map_eq_some_iff.mp e
  rcases inB_some sr r1 r2 hk with ⟨p, xs, e1, t, f1, f2, e2⟩ | ⟨a, ds, h1, h2, s1, s2, e2⟩
  · exact op_notIn_seq pins s σ H x y v u Q I rx ry ⟨p, xs, e1, .inr t, f1, f2, by rw [e2]; exact q _ H Ext.refl sr RepV.bl⟩
  · exact op_notInD hu pins s σ H x y v u Q I rx ry ⟨a, ds, h1, h2, s1, s2, by rw [e2]; exact q _ H Ext.refl sr RepV.bl⟩
theorem isNonB_rep {K : Frag} {H : Hp} {ι : Io} {d : MV} {v : V} {k : Bool} (r : RepV K H ι d v) (h : isNonB d = some k) : decide (v = .non) = k := by
  cases d with
  | non => cases h; rw [r.non_inv]; rfl
  | bl b => cases h; rw [r.bl_inv]; rfl
  | int b => cases h; rw [r.int_inv]; rfl
  | str b => cases h; rw [r.str_inv]; rfl
  | tup xs => cases h; obtain ⟨a, vs, e, _⟩ := r.tup_inv; subst e; rfl
  | lst xs => cases h; unfold RepV at r; obtain ⟨a, vs, e, _⟩ := r; subst e; rfl
  | ref i => cases h; unfold RepV at r; obtain ⟨a, e, _⟩ := r; subst e; rfl
  | cst u => cases h
  | scr ns => cases h; obtain ⟨a, e, _⟩ := r.scr_inv; subst e; rfl
theorem m_is : OpR X (compareOp .Is) (rM X.K T isM) := by
  intro pins s σ H x y v u Q I rx ry ⟨ι, μ, d1, d2, sr, r1, r2, d, e, q⟩
  unfold isM at e
  split at e
  · obtain ⟨k, hk, rfl⟩ := Option.map_eq_some_iff.mp e
    exact op_isN pins s σ H x y v u Q I rx ry ⟨r2.non_inv, by rw [isNonB_rep r1 hk]; exact q _ H Ext.refl sr RepV.bl⟩
  · cases e
theorem m_isNot : OpR X (compareOp .IsNot) (rM X.K T isNotM) := by
  intro pins s σ H x y v u Q I rx ry ⟨ι, μ, d1, d2, sr, r1, r2, d, e, q⟩
  unfold isNotM at e
  split at e
  · obtain ⟨k, hk, rfl⟩ := Option.map_eq_some_iff.mp e
    exact op_notN pins s σ H x y v u Q I rx ry ⟨r2.non_inv, by rw [isNonB_rep r1 hk]; exact q _ H Ext.refl sr RepV.bl⟩
  · cases e
theorem ixN_lt {n : Nat} {i : Int} {j : Nat} (h : ixN n i = some j) : j < n := (ixN_seq h).2.1
theorem atI_rep {K : Frag} {H : Hp} {ι : Io} {xs : List MV} {vs : List V} {i : Int} {d : MV} (r : RepL K H ι xs vs) (h : atI xs i = some d) : ∃ v, atI vs i = some v ∧ RepV K H ι d v := by
  unfold atI at h ⊢
  rw [← r.len]
  obtain ⟨j, h1, h2⟩ := Option.bind_eq_some_iff.mp h
  obtain ⟨v, h3, h4⟩ := r.get h2
  exact ⟨v, by rw [h1]; exact h3, h4⟩
theorem m_ix : IxR X (rM X.K T ixM) := by
  intro value slice pins s σ H x y v u Q I rx ry ⟨ι, μ, d1, d2, sr, r1, r2, d, e, q⟩ hs
  unfold ixM at e
  split at e
  · rename_i i
    split at e
    · rename_i z
      split at e
      · rename_i hz
        obtain ⟨c, hc, rfl⟩ := Option.map_eq_some_iff.mp e
        exact ix_str value slice pins s σ H x y v u Q I rx ry ⟨z, i, c, r1.str_inv, r2.int_inv, hz, hc, q _ H Ext.refl sr RepV.str⟩ hs
      · cases e
    · obtain ⟨xs, h1, h2⟩ := Option.bind_eq_some_iff.mp e
      unfold seqOf at h1
      split at h1
      · cases h1
        obtain ⟨a, vs, rfl, t, l⟩ := r1.tup_inv
        obtain ⟨w', h3, h4⟩ := atI_rep l h2
        exact ix_tup value slice pins s σ H _ y v u Q I rx ry ⟨a, vs, i, w', rfl, r2.int_inv, t, h3, q _ H Ext.refl sr h4⟩ hs
      · obtain ⟨a, vs, rfl, t, l⟩ := sr.lst r1 h1
        obtain ⟨w', h3, h4⟩ := atI_rep l h2
        exact ix_list value slice pins s σ H _ y v u Q I rx ry ⟨a, vs, i, w', rfl, r2.int_inv, t, h3, q _ H Ext.refl sr h4⟩ hs
  · cases e
/-! ### one-place -/
def rM1 (K : Frag) (T : Tbs) (op : Mem → MV → Option MV) : V → Hp → VK → Prop := fun x H Q => ∃ ι μ d1, SR K T ι μ H ∧ RepV K H ι d1 x ∧ PO K T ι μ H Q (op μ d1)
def negM : Mem → MV → Option MV := fun _ a => match a with
  | .int i => some (.int (-i))
  | _ => none
theorem m_neg : UnR X (unaryOp .USub) (rM1 X.K T negM) := by
  intro pins s σ H x v Q I rx ⟨ι, μ, d1, sr, r1, d, e, q⟩
  unfold negM at e
  split at e
  · cases e
    exact un_neg pins s σ H x v Q I rx ⟨_, r1.int_inv, q _ H Ext.refl sr RepV.int⟩
  · cases e
def mUn (op : Mem → MV → Option MV) (ma : Ev MV) : Ev MV := mB ma fun a => fun ρ μ => oO (op μ a) ρ μ
theorem re_un {W : WX} {pos : Pos} {a : Expr} {ma : Ev MV} {o : UnaryOp} {op : Mem → MV → Option MV} (ho : UnR X (unaryOp o) (rM1 X.K T op)) (ha : RE X T W a ma) : RE X T W (.UnaryOp o a pos) (mUn op ma) :=
  PE.mono (pe_un ho ha) fun σ H Q ⟨ι, ρ, μ, s, e, h⟩ => ⟨ι, ρ, μ, s, e, bindr h fun d1 x μ1 ι1 H1 _ E1 s1 r1 h1 => ⟨ι1, μ1, d1, s1, r1, h1.po⟩⟩
end
end MM

set_option Elab.async false
set_option linter.all false
set_option maxRecDepth 100000
set_option maxHeartbeats 4000000
/-! ## MM: slices, calls of built-ins, methods -/
namespace MM
open PySem PySem.Spec PyProof.Rows L2

/-! ### slices -/
def cutM {α : Type} (xs : List α) (lo hi : Option Int) : List α := (xs.drop (HT.sIx xs.length 0 lo)).take (HT.sIx xs.length xs.length hi - HT.sIx xs.length 0 lo)
theorem cutM_V (xs : List V) (lo hi : Option Int) : cutM xs lo hi = cutV xs lo hi := rfl
theorem RepL.cut {K : Frag} {H : Hp} {ι : Io} {xs : List MV} {vs : List V} (r : RepL K H ι xs vs) (lo hi : Option Int) : RepL K H ι (cutM xs lo hi) (cutV vs lo hi) := by
  unfold cutM cutV
  rw [r.len]
  exact (r.drop _).take _
def sliceM (μ : Mem) (d : MV) (lo hi : Option Int) : Option MV := match d with
  | .tup xs => some (.tup (cutM xs lo hi))
  | .scr ns => some (.lst ((cutM ns lo hi).map .int))
  | d => (lstOf μ d).map fun xs => .lst (cutM xs lo hi)
def rSl (K : Frag) (T : Tbs) : V → Option Int → Option Int → Hp → VK → Prop := fun x lo hi H Q => ∃ ι μ d, SR K T ι μ H ∧ RepV K H ι d x ∧ PO K T ι μ H Q (sliceM μ d lo hi)
theorem map_cutM {α β : Type} (f : α → β) (xs : List α) (lo hi : Option Int) : cutM (xs.map f) lo hi = (cutM xs lo hi).map f := by
  unfold cutM
  rw [List.length_map, List.map_take, List.map_drop]
theorem RepL.ints {K : Frag} {H : Hp} {ι : Io} : ∀ ns : List Int, RepL K H ι (ns.map MV.int) (ns.map V.int)
  | [] => RepL.nil_iff.mpr rfl
  | n :: ns => RepL.cons_iff.mpr ⟨_, _, rfl, RepV.int, RepL.ints ns⟩
section
variable {X : Cx} {T : Tbs} {W : WX} {pos p2 : Pos} {a : Expr} {lo hi : Option Expr} {ma : Ev MV} {ml mh : Ev (Option Int)}
theorem m_slice : SlR X (rSl X.K T) := by
  intro pins s σ H x v vl vu lo hi sl Q I rx hs pl pu ⟨ι, μ, d, sr, r1, d', e, q⟩
  unfold sliceM at e
  split at e
  · rename_i xs
    cases e
    obtain ⟨b, vs, rfl, t, l⟩ := r1.tup_inv
    refine sl_tupA pins s σ H _ v vl vu lo hi sl Q I rx hs pl pu ⟨b, vs, rfl, t, fun hw => ?_, fun _ p hp => ?_⟩
    · have z : cutM xs lo hi = xs := by
        unfold cutM
        rw [l.len, hw.1, hw.2, List.drop_zero, Nat.sub_zero, ← l.len, List.take_length]
      rw [z] at q
      exact q _ H Ext.refl sr r1
    · exact q _ _ (Ext.laid hp) (sr.laid hp) (RepV.tup sr hp (l.cut lo hi))
  · rename_i ns
    cases e
    obtain ⟨b, rfl, t⟩ := r1.scr_inv
    refine sl_list pins s σ H _ v vl vu lo hi sl Q I rx hs pl pu ⟨b, _, rfl, t, fun p hp => ?_⟩
    rw [← cutM_V, map_cutM]
    exact q _ _ (Ext.laid hp) (sr.laid hp) (RepV.lst sr hp (RepL.ints _))
  · obtain ⟨xs, h1, rfl⟩ := Option.map_eq_some_iff.mp e
    obtain ⟨b, vs, rfl, t, l⟩ := sr.lst r1 h1
    refine sl_list pins s σ H _ v vl vu lo hi sl Q I rx hs pl pu ⟨b, _, rfl, t, fun p hp => ?_⟩
    exact q _ _ (Ext.laid hp) (sr.laid hp) (RepV.lst sr hp (l.cut lo hi))
abbrev RO : Rel (Option Int) (Option Int) := fun _ _ a b => a = b
def asI : MV → Option (Option Int)
  | .int i => some (some i)
  | _ => none
def mPart (m : Ev MV) : Ev (Option Int) := mB m fun d => oO (asI d)
def mNoPart : Ev (Option Int) := mRet none
theorem PO.mono {e : Option Expr} {t t' : TO} (h : L2.PO X e t) (k : ∀ σ H Q, t' σ H Q → t σ H Q) : L2.PO X e t' := ⟨fun pins s σ H Q I q => h.run pins s σ H Q I (k σ H Q q)⟩
theorem rp_none : L2.PO X none (tG RO X.K X.mg T W mNoPart) := PO.mono po_none fun σ H Q ⟨ι, ρ, μ, s, e, h⟩ => h none ι H Ext.refl s rfl
theorem rp_some {e : Expr} (h : RE X T W e ma) : L2.PO X (some e) (tG RO X.K X.mg T W (mPart ma)) :=
  PO.mono (po_some h) fun σ H Q ⟨ι, ρ, μ, s, e, h⟩ => ⟨ι, ρ, μ, s, e, bindr h fun d v μ1 ι1 H1 _ E1 s1 r1 h1 => by
    cases d with
    | int i => exact ⟨i, r1.int_inv, h1 (some i) ι1 H1 Ext.refl s1 rfl⟩
    | _ => exact h1.elim⟩
def mSlice (ma : Ev MV) (ml mh : Ev (Option Int)) : Ev MV := mB ma fun d => mB ml fun l => mB mh fun h => fun ρ μ => oO (sliceM μ d l h) ρ μ
theorem re_slice (ha : RE X T W a ma) (hl : L2.PO X lo (tG RO X.K X.mg T W ml)) (hh : L2.PO X hi (tG RO X.K X.mg T W mh)) : RE X T W (.Subscript a (.Slice lo hi none p2) pos) (mSlice ma ml mh) :=
  PE.mono (pe_slice m_slice ha hl hh) fun σ H Q ⟨ι, ρ, μ, s, e, h⟩ => ⟨ι, ρ, μ, s, e, bindr h fun d x μ1 ι1 H1 _ E1 s1 r1 h1 => ⟨ι1, ρ, μ1, s1, e.ext E1, bindr h1 fun l l' μ2 ι2 H2 _ E2 s2 r2 h2 => by
    cases r2
    exact ⟨ι2, ρ, μ2, s2, (e.ext E1).ext E2, bindr h2 fun k k' μ3 ι3 H3 _ E3 s3 r3 h3 => by
      cases r3
      exact ⟨ι3, μ3, d, s3, (r1.ext E2).ext E3.w, h3.po⟩⟩⟩⟩
end

/-! ### calls of built-ins -/
abbrev OpC := Mem → List MV → Option MV
def rC (K : Frag) (T : Tbs) (op : OpC) : List V → Hp → VK → Prop := fun xs H Q => ∃ ι μ ds, SR K T ι μ H ∧ RepL K H ι ds xs ∧ PO K T ι μ H Q (op μ ds)
def mCB (op : OpC) (ms : Ev (List MV)) : Ev MV := mB ms fun ds => fun ρ μ => oO (op μ ds) ρ μ
section
variable {X : Cx} {T : Tbs} {W : WX} {pos p : Pos} {e : Expr} {es : List Expr} {ms : Ev (List MV)} {op : OpC} {x : Str} {id : String}
theorem callM : ∀ σ H Q, tG (RV X.K) X.K X.mg T W (mCB op ms) σ H Q → tCB (rC X.K T op) (tG (RLs X.K) X.K X.mg T W ms) σ H Q :=
  fun σ H Q ⟨ι, ρ, μ, s, e, h⟩ => ⟨ι, ρ, μ, s, e, bindr h fun ds vs μ1 ι1 H1 _ E1 s1 r1 h1 => ⟨ι1, μ1, ds, s1, r1, h1.po⟩⟩
theorem re_callB (hc : CallR X (.builtin id) (rC X.K T op)) (hg : Gl X x) (hm : X.mg x = none) (hv : bootBuiltins x = some (.builtin id)) (ha : RA X T W (e :: es) ms) (hn : x ≠ "__name__" := by decide) (hdb : (x == ("__debug__" : Str)) = false := by decide)
    (hs : starEach (e :: es) X.env = (false, eval e X.env) :: starEach es X.env := by rfl) (hpl : (backTo pos (starEach es X.env)).any (·.1) = false := by rfl) : RE X T W (.Call (.Name x p) (e :: es) [] pos) (mCB op ms) :=
  PE.mono (pe_callB hc hg hm hv ha hn hdb hs hpl) callM
theorem re_callTy (hc : CallR X (.type id) (rC X.K T op)) (hg : Gl X x) (hm : X.mg x = none) (hv : bootBuiltins x = some (.type id)) (ha : RA X T W (e :: es) ms) (hn : x ≠ "__name__" := by decide) (hdb : (x == ("__debug__" : Str)) = false := by decide)
    (hs : starEach (e :: es) X.env = (false, eval e X.env) :: starEach es X.env := by rfl) (hpl : (backTo pos (starEach es X.env)).any (·.1) = false := by rfl) : RE X T W (.Call (.Name x p) (e :: es) [] pos) (mCB op ms) :=
  PE.mono (pe_callTy hc hg hm hv ha hn hdb hs hpl) callM

def lenM : OpC := fun μ ds => match ds with
  | [.str z] => if z.length ≤ sizeLine then some (.int z.length) else none
  | [.scr ns] => some (.int ns.length)
  | [d] => (seqOf μ d).map fun xs => .int xs.length
  | _ => none
def absM : OpC := fun _ ds => match ds with
  | [.int i] => some (.int (if i < 0 then -i else i))
  | _ => none
def intM : OpC := fun _ ds => match ds with
  | [.int i] => some (.int i)
  | [.bl b] => some (.int (if b then 1 else 0))
  | _ => none
def strM : OpC := fun _ ds => match ds with
  | [.int i] => if i.natAbs.log2 < 1920 then some (.str (toString i)) else none
  | _ => none
def intsOf : List MV → Option (List Int)
  | [] => some []
  | .int i :: r => (intsOf r).map (i :: ·)
  | _ :: _ => none
def blsOf : List MV → Option (List Bool)
  | [] => some []
  | .bl i :: r => (blsOf r).map (i :: ·)
  | _ :: _ => none
def sumM : OpC := fun μ ds => match ds with
  | [d] => (lstOf μ d).bind fun xs => (intsOf xs).map fun ns => .int ns.sum
  | _ => none
def anyM : OpC := fun μ ds => match ds with
  | [d] => (lstOf μ d).bind fun xs => (blsOf xs).map fun ns => .bl (ns.any _root_.id)
  | _ => none
def allM : OpC := fun μ ds => match ds with
  | [d] => (lstOf μ d).bind fun xs => (blsOf xs).map fun ns => .bl (ns.all _root_.id)
  | _ => none
def tupleM : OpC := fun μ ds => match ds with
  | [.tup xs] => some (.tup xs)
  | [d] => (lstOf μ d).map .tup
  | _ => none
def listM : OpC := fun μ ds => match ds with
  | [d] => (seqOf μ d).map .lst
  | _ => none
theorem RepL.one_inv {K : Frag} {H : Hp} {ι : Io} {d : MV} {xs : List V} (r : RepL K H ι [d] xs) : ∃ v, xs = [v] ∧ RepV K H ι d v := by
  rw [RepL.cons_iff] at r
  obtain ⟨v, r', rfl, r1, r2⟩ := r
  rw [RepL.nil_iff] at r2
  subst r2
  exact ⟨v, rfl, r1⟩
theorem RepL.two_inv {K : Frag} {H : Hp} {ι : Io} {d e : MV} {xs : List V} (r : RepL K H ι [d, e] xs) : ∃ v u, xs = [v, u] ∧ RepV K H ι d v ∧ RepV K H ι e u := by
  rw [RepL.cons_iff] at r
  obtain ⟨v, r', rfl, r1, r2⟩ := r
  obtain ⟨u, rfl, r3⟩ := r2.one_inv
  exact ⟨v, u, rfl, r1, r3⟩
theorem seq_inv {K : Frag} {H : Hp} {ι : Io} {μ : Mem} {d : MV} {v : V} {xs : List MV} (sr : SR K T ι μ H) (r : RepV K H ι d v) (h : seqOf μ d = some xs) : ∃ a vs, v = .ref a ∧ (SqL K H a vs ∨ SqT K H a vs) ∧ RepL K H ι xs vs := by
  unfold seqOf at h
  split at h
  · cases h
    obtain ⟨a, vs, e, t, l⟩ := r.tup_inv
    exact ⟨a, vs, e, .inr t, l⟩
  · obtain ⟨a, vs, e, t, l⟩ := sr.lst r h
    exact ⟨a, vs, e, .inl t, l⟩
theorem intsOf_rep {K : Frag} {H : Hp} {ι : Io} : ∀ {xs : List MV} {vs : List V} {ns : List Int}, RepL K H ι xs vs → intsOf xs = some ns → vs = ns.map V.int
  | [], vs, ns, r, h => by cases h; exact RepL.nil_iff.mp r
  | x :: xs, vs, ns, r, h => by
    rw [RepL.cons_iff] at r
    obtain ⟨v, r', rfl, r1, r2⟩ := r
    cases x with
    | int i =>
      obtain ⟨ms, h1, rfl⟩ := Option.map_eq_some_iff.mp (show (intsOf xs).map (i :: ·) = some ns from h)
      rw [r1.int_inv, intsOf_rep r2 h1]
      rfl
    | _ => cases h
theorem blsOf_rep {K : Frag} {H : Hp} {ι : Io} : ∀ {xs : List MV} {vs : List V} {ns : List Bool}, RepL K H ι xs vs → blsOf xs = some ns → vs = ns.map V.bl
  | [], vs, ns, r, h => by cases h; exact RepL.nil_iff.mp r
  | x :: xs, vs, ns, r, h => by
    rw [RepL.cons_iff] at r
    obtain ⟨v, r', rfl, r1, r2⟩ := r
    cases x with
    | bl i =>
      obtain ⟨ms, h1, rfl⟩ := Option.map_eq_some_iff.mp (show (blsOf xs).map (i :: ·) = some ns from h)
      rw [r1.bl_inv, blsOf_rep r2 h1]
      rfl
    | _ => cases h
theorem c_len : CallR X (.builtin "len") (rC X.K T lenM) := by
  intro pins s σ H xs us Q I rx ⟨ι, μ, ds, sr, r1, d, e, q⟩
  unfold lenM at e
  split at e
  · split at e
    · rename_i hz
      cases e
      obtain ⟨v, rfl, r⟩ := r1.one_inv
      exact call_len_str pins s σ H _ us Q I rx ⟨_, by rw [r.str_inv], hz, q _ H Ext.refl sr RepV.int⟩
    · cases e
  · cases e
    obtain ⟨v, rfl, r⟩ := r1.one_inv
    obtain ⟨a, rfl, t⟩ := r.scr_inv
    refine call_len_seq pins s σ H _ us Q I rx ⟨a, _, rfl, .inl t, ?_⟩
    rw [List.length_map]
    exact q _ H Ext.refl sr RepV.int
  · obtain ⟨xs', h1, rfl⟩ := Option.map_eq_some_iff.mp e
    obtain ⟨v, rfl, r⟩ := r1.one_inv
    obtain ⟨a, vs, rfl, t, l⟩ := seq_inv sr r h1
    refine call_len_seq pins s σ H _ us Q I rx ⟨a, vs, rfl, t, ?_⟩
    rw [← l.len]
    exact q _ H Ext.refl sr RepV.int
  · cases e
theorem c_abs : CallR X (.builtin "abs") (rC X.K T absM) := by
  intro pins s σ H xs us Q I rx ⟨ι, μ, ds, sr, r1, d, e, q⟩
  unfold absM at e
  split at e
  · cases e
    obtain ⟨v, rfl, r⟩ := r1.one_inv
    exact call_abs pins s σ H _ us Q I rx ⟨_, by rw [r.int_inv], q _ H Ext.refl sr RepV.int⟩
  · cases e
theorem c_int : CallR X (.type "int") (rC X.K T intM) := by
  intro pins s σ H xs us Q I rx ⟨ι, μ, ds, sr, r1, d, e, q⟩
  unfold intM at e
  split at e
  · cases e
    obtain ⟨v, rfl, r⟩ := r1.one_inv
    exact call_int1 pins s σ H _ us Q I rx (.inl ⟨_, by rw [r.int_inv], q _ H Ext.refl sr RepV.int⟩)
  · cases e
    obtain ⟨v, rfl, r⟩ := r1.one_inv
    exact call_int1 pins s σ H _ us Q I rx (.inr ⟨_, by rw [r.bl_inv], q _ H Ext.refl sr RepV.int⟩)
  · cases e
theorem c_str : CallR X (.type "str") (rC X.K T strM) := by
  intro pins s σ H xs us Q I rx ⟨ι, μ, ds, sr, r1, d, e, q⟩
  unfold strM at e
  split at e
  · split at e
    · rename_i hz
      cases e
      obtain ⟨v, rfl, r⟩ := r1.one_inv
      exact call_str_int pins s σ H _ us Q I rx ⟨_, by rw [r.int_inv], hz, q _ H Ext.refl sr RepV.str⟩
    · cases e
  · cases e
theorem c_sum (hc : X.calm = true) : CallR X (.builtin "sum") (rC X.K T sumM) := by
  intro pins s σ H xs us Q I rx ⟨ι, μ, ds, sr, r1, d, e, q⟩
  unfold sumM at e
  split at e
  · obtain ⟨ys, h1, e⟩ := Option.bind_eq_some_iff.mp e
    obtain ⟨ns, h2, rfl⟩ := Option.map_eq_some_iff.mp e
    obtain ⟨v, rfl, r⟩ := r1.one_inv
    obtain ⟨a, vs, rfl, t, l⟩ := sr.lst r h1
    rw [intsOf_rep l h2] at t
    exact cr_sum hc pins s σ H _ us Q I rx ⟨a, ns, rfl, t, q _ H Ext.refl sr RepV.int⟩
  · cases e
theorem c_any (hc : X.calm = true) : CallR X (.builtin "any") (rC X.K T anyM) := by
  intro pins s σ H xs us Q I rx ⟨ι, μ, ds, sr, r1, d, e, q⟩
  unfold anyM at e
  split at e
  · obtain ⟨ys, h1, e⟩ := Option.bind_eq_some_iff.mp e
    obtain ⟨ns, h2, rfl⟩ := Option.map_eq_some_iff.mp e
    obtain ⟨v, rfl, r⟩ := r1.one_inv
    obtain ⟨a, vs, rfl, t, l⟩ := sr.lst r h1
    rw [blsOf_rep l h2] at t
    exact cr_any hc pins s σ H _ us Q I rx ⟨a, ns, rfl, t, q _ H Ext.refl sr RepV.bl⟩
  · cases e
theorem c_all (hc : X.calm = true) : CallR X (.builtin "all") (rC X.K T allM) := by
  intro pins s σ H xs us Q I rx ⟨ι, μ, ds, sr, r1, d, e, q⟩
  unfold allM at e
  split at e
  · obtain ⟨ys, h1, e⟩ := Option.bind_eq_some_iff.mp e
    obtain ⟨ns, h2, rfl⟩ := Option.map_eq_some_iff.mp e
    obtain ⟨v, rfl, r⟩ := r1.one_inv
    obtain ⟨a, vs, rfl, t, l⟩ := sr.lst r h1
    rw [blsOf_rep l h2] at t
    exact cr_all hc pins s σ H _ us Q I rx ⟨a, ns, rfl, t, q _ H Ext.refl sr RepV.bl⟩
  · cases e
theorem c_tuple : CallR X (.type "tuple") (rC X.K T tupleM) := by
  intro pins s σ H xs us Q I rx ⟨ι, μ, ds, sr, r1, d, e, q⟩
  unfold tupleM at e
  split at e
  · cases e
    obtain ⟨v, rfl, r⟩ := r1.one_inv
    obtain ⟨a, vs, rfl, t, l⟩ := id r.tup_inv
    exact call_tuple_of pins s σ H _ us Q I rx ⟨a, vs, rfl, .inr ⟨t, q _ H Ext.refl sr r⟩⟩
  · obtain ⟨ys, h1, rfl⟩ := Option.map_eq_some_iff.mp e
    obtain ⟨v, rfl, r⟩ := r1.one_inv
    obtain ⟨a, vs, rfl, t, l⟩ := sr.lst r h1
    exact call_tuple_of pins s σ H _ us Q I rx ⟨a, vs, rfl, .inl ⟨t, fun p hp => q _ _ (Ext.laid hp) (sr.laid hp) (RepV.tup sr hp l)⟩⟩
  · cases e
theorem c_list : CallR X (.type "list") (rC X.K T listM) := by
  intro pins s σ H xs us Q I rx ⟨ι, μ, ds, sr, r1, d, e, q⟩
  unfold listM at e
  split at e
  · obtain ⟨ys, h1, rfl⟩ := Option.map_eq_some_iff.mp e
    obtain ⟨v, rfl, r⟩ := r1.one_inv
    obtain ⟨a, vs, rfl, t, l⟩ := seq_inv sr r h1
    exact call_list_of pins s σ H _ us Q I rx ⟨a, vs, rfl, t, fun p hp => q _ _ (Ext.laid hp) (sr.laid hp) (RepV.lst sr hp l)⟩
  · cases e
end

/-! ### repr -/
def reprM : OpC := fun μ ds => match ds with
  | [.int i] => if i.natAbs.log2 < 1920 then some (.str (toString i)) else none
  | [d] => match pd μ d with
    | some (.list p) => if (PyData.list p).showable = true ∧ (PyData.list p).hasDict = false ∧ (PyData.list p).depth ≤ 60 ∧ (PyData.list p).shown.length ≤ sizeLine then some (.str (PyData.list p).shown) else none
    | some (.tuple p) => if (PyData.tuple p).showable = true ∧ (PyData.tuple p).hasDict = false ∧ (PyData.tuple p).depth ≤ 60 ∧ (PyData.tuple p).shown.length ≤ sizeLine then some (.str (PyData.tuple p).shown) else none
    | _ => none
  | _ => none
theorem c_repr {X : Cx} {T : Tbs} (hu : X.A.units + 64 < cLine) (hg : X.A.guards = some []) : CallR X (.builtin "repr") (rC X.K T reprM) := by
  intro pins s σ H xs us Q I rx ⟨ι, μ, ds, sr, r1, d, e, q⟩
  have go : ∀ (d1 : MV) (p : PyData) (v : V) (u : Value), RepV X.K H ι d1 v → RelV v u → pd μ d1 = some p → (∃ a, u = .ref a) → p.showable = true → p.hasDict = false → p.depth ≤ 60 → p.shown.length ≤ sizeLine → (Q (.str p.shown) H) →
      wpAny (model X.prog X.w) X.A (call (.builtin "repr") [u]) (EP X pins σ Q) X.xe s := by
    intro d1 p v u r ru hp ⟨a, ea⟩ h1 h2 h3 h4 hq
    subst ea
    obtain ⟨as, rd⟩ := Dp.reads I p v _ (pd_dp sr d1 v p r hp) ru
    refine repr_of_reads' rd h1 (fun z => by rw [h2] at z; cases z) hg (by omega) (fun b o h => h) (fun h' u' tk hk => ?_) h4
    exact ⟨.str p.shown, H, I.kept hk, ⟨_, rfl⟩, hq⟩
  unfold reprM at e
  split at e
  · split at e
    · rename_i hz
      cases e
      obtain ⟨v, rfl, r⟩ := r1.one_inv
      rw [r.int_inv] at rx
      obtain ⟨u, rfl, t, rfl⟩ := vals1 rx
      exact PySem.P.repr_of_int hz ⟨.str _, H, I.tok _, ⟨_, rfl⟩, q _ H Ext.refl sr RepV.str⟩
    · cases e
  · obtain ⟨v, rfl, r⟩ := r1.one_inv
    obtain ⟨u, rfl, ru⟩ := vals1 rx
    split at e
    · rename_i p hp
      split at e
      · rename_i hh
        cases e
        have hd := pd_dp sr _ v _ r hp
        have hr : ∃ a, u = Value.ref a := by
          cases hd with
          | lst h1 h2 => exact ⟨_, ru⟩
        exact go _ _ v u r ru hp hr hh.1 hh.2.1 hh.2.2.1 hh.2.2.2 (q _ H Ext.refl sr RepV.str)
      · cases e
    · rename_i p hp
      split at e
      · rename_i hh
        cases e
        have hd := pd_dp sr _ v _ r hp
        have hr : ∃ a, u = Value.ref a := by
          cases hd with
          | tup h1 h2 => exact ⟨_, ru⟩
        exact go _ _ v u r ru hp hr hh.1 hh.2.1 hh.2.2.1 hh.2.2.2 (q _ H Ext.refl sr RepV.str)
      · cases e
    · cases e
  · cases e
end MM

set_option Elab.async false
set_option linter.all false
set_option maxRecDepth 100000
set_option maxHeartbeats 4000000
/-! ## MM: statements, loops -/
namespace MM
open PySem PySem.Spec PyProof.Rows L2

inductive SOut where
  | nx (ρ : Env) (μ : Mem) | rt (d : MV) (μ : Mem) | bk (ρ : Env) (μ : Mem) | ct (ρ : Env) (μ : Mem) | exc (x : Exc) (μ : Mem) | bad
abbrev SM := Env → Mem → SOut
def SPost (K : Frag) (mg : Gm) (T : Tbs) (W : WX) (ι : Io) (H : Hp) (D : Ends) : SOut → Prop
  | .nx ρ' μ' => ∀ σ' ι' H', Ext ι H ι' H' → SR K T ι' μ' H' → EnvR K H' ι' ρ' σ' → D.nx σ' H'
  | .rt d μ' => ∀ v ι' H', Ext ι H ι' H' → SR K T ι' μ' H' → RepV K H' ι' d v → D.rt v H'
  | .bk ρ' μ' => ∀ σ' ι' H', Ext ι H ι' H' → SR K T ι' μ' H' → EnvR K H' ι' ρ' σ' → D.bk σ' H'
  | .ct ρ' μ' => ∀ σ' ι' H', Ext ι H ι' H' → SR K T ι' μ' H' → EnvR K H' ι' ρ' σ' → D.ct σ' H'
  | .exc x μ' => ∀ cls dd σ' ι' H', Ext ι H ι' H' → SR K T ι' μ' H' → ExcRep mg x cls dd → W cls dd σ' H'
  | .bad => False
def tS (K : Frag) (mg : Gm) (T : Tbs) (W : WX) (b : SM) : TS := fun D σ H => ∃ ι ρ μ, SR K T ι μ H ∧ EnvR K H ι ρ σ ∧ SPost K mg T W ι H D (b ρ μ)
abbrev RS (X : Cx) (T : Tbs) (W : WX) (st : Stmt) (b : SM) : Prop := PS X st (tS X.K X.mg T W b)
abbrev RSs (X : Cx) (T : Tbs) (W : WX) (st : List Stmt) (b : SM) : Prop := PSs X st (tS X.K X.mg T W b)
theorem PS.mono {X : Cx} {e : Stmt} {t t' : TS} (h : PS X e t) (k : ∀ D σ H, t' D σ H → t D σ H) : PS X e t' := ⟨fun pins s σ H Q I q => h.run pins s σ H Q I (k Q σ H q)⟩
theorem PSs.mono {X : Cx} {e : List Stmt} {t t' : TS} (h : PSs X e t) (k : ∀ D σ H, t' D σ H → t D σ H) : PSs X e t' := ⟨fun pins s σ H Q I q => h.run pins s σ H Q I (k Q σ H q)⟩
theorem PG.mono {X : Cx} {e : Expr} {t t' : TG} (h : PG X e t) (k : ∀ v σ H Q, t' v σ H Q → t v σ H Q) : PG X e t' := ⟨fun pins s σ H v u Q I r q => h.run pins s σ H v u Q I r (k v σ H Q q)⟩
theorem PGs.mono {X : Cx} {e : List Expr} {t t' : TGs} (h : PGs X e t) (k : ∀ v σ H Q, t' v σ H Q → t v σ H Q) : PGs X e t' := ⟨fun pins s σ H v u Q I r q => h.run pins s σ H v u Q I r (k v σ H Q q)⟩
section
variable {K : Frag} {mg : Gm} {T : Tbs} {W : WX} {ι ι' : Io} {H H' : Hp} {D D' : Ends}
theorem SPost.ext {o : SOut} (h : SPost K mg T W ι H D o) (e : Ext ι H ι' H') : SPost K mg T W ι' H' D o := by
  cases o with
  | nx ρ μ => exact fun σ1 ι1 H1 e1 s r => h σ1 ι1 H1 (e.trans e1) s r
  | rt d μ => exact fun v ι1 H1 e1 s r => h v ι1 H1 (e.trans e1) s r
  | bk ρ μ => exact fun σ1 ι1 H1 e1 s r => h σ1 ι1 H1 (e.trans e1) s r
  | ct ρ μ => exact fun σ1 ι1 H1 e1 s r => h σ1 ι1 H1 (e.trans e1) s r
  | exc x μ => exact fun cls dd σ1 ι1 H1 e1 s r => h cls dd σ1 ι1 H1 (e.trans e1) s r
  | bad => exact h
end
def sSeq (a b : SM) : SM := fun ρ μ => match a ρ μ with
  | .nx ρ' μ' => b ρ' μ'
  | o => o
def sPass : SM := fun ρ μ => .nx ρ μ
/-- an expression, and what follows -/
def sE {α : Type} (m : Ev α) (f : α → SM) : SM := fun ρ μ => match m ρ μ with
  | .ok a μ' => f a ρ μ'
  | .exc x μ' => .exc x μ'
  | .bad => .bad
def sDrop (m : Ev MV) : SM := sE m fun _ => sPass
def sRet (m : Ev MV) : SM := sE m fun d => fun _ μ => .rt d μ
def sRetN : SM := fun _ μ => .rt .non μ
def sIf (c : Ev Bool) (a b : SM) : SM := sE c fun k => if k = true then a else b
abbrev TgM := MV → Env → Mem → Option (Env × Mem)
def sAsg (m : Ev MV) (g : TgM) : SM := sE m fun d => fun ρ μ => match g d ρ μ with
  | some (ρ', μ') => .nx ρ' μ'
  | none => .bad
/-- but for the slots vs the same -/
def ButAt (vs : List Nat) (σ σ' : L2.St) : Prop := σ'.length = σ.length ∧ ∀ i, i ∉ vs → σ'[i]? = σ[i]?
def tGt (K : Frag) (T : Tbs) (vs : List Nat) (g : TgM) : TG := fun v σ H Q => ∃ ι ρ μ d, SR K T ι μ H ∧ EnvR K H ι ρ σ ∧ RepV K H ι d v ∧ ∃ ρ' μ', g d ρ μ = some (ρ', μ') ∧ ∀ σ' ι' H', Ext ι H ι' H' → SR K T ι' μ' H' → EnvR K H' ι' ρ' σ' → ButAt vs σ σ' → Q σ' H'
abbrev RG (X : Cx) (T : Tbs) (vs : List Nat) (tg : Expr) (g : TgM) : Prop := PG X tg (tGt X.K T vs g)
section
variable {X : Cx} {T : Tbs} {W : WX} {pos : Pos} {st : Stmt} {sts : List Stmt} {a b : SM} {e : Expr} {me : Ev MV} {mc : Ev Bool} {g : TgM} {tg : Expr}
theorem bindS {α β : Type} {R : Rel α β} {K : Frag} {mg : Gm} {ι : Io} {ρ : Env} {μ : Mem} {H : Hp} {σ : L2.St} {D : Ends} {Q1 : β → Hp → Prop} {m : Ev α} {f : α → SM}
    (h : SPost K mg T W ι H D (sE m f ρ μ))
    (k : ∀ d v μ1 ι1 H1, m ρ μ = .ok d μ1 → Ext ι H ι1 H1 → SR K T ι1 μ1 H1 → R H1 ι1 d v → SPost K mg T W ι1 H1 D (f d ρ μ1) → Q1 v H1) : Post R K mg T W σ ι H Q1 (m ρ μ) := by
  unfold sE at h
  cases hm : m ρ μ with
  | ok d μ1 =>
    rw [hm] at h
    exact fun v ι1 H1 e s r => k d v μ1 ι1 H1 hm e s r (SPost.ext h e)
  | exc x μ1 => rw [hm] at h; exact fun cls dd ι1 H1 e s r => h cls dd σ ι1 H1 e s r
  | bad => rw [hm] at h; exact h
theorem ss_nil : RSs X T W [] sPass := PSs.mono pss_nil fun D σ H ⟨ι, ρ, μ, s, e, h⟩ => h σ ι H Ext.refl s e
theorem ss_cons (h1 : RS X T W st a) (h2 : RSs X T W sts b) : RSs X T W (st :: sts) (sSeq a b) :=
  PSs.mono (pss_cons h1 h2) fun D σ H ⟨ι, ρ, μ, s, e, h⟩ => ⟨ι, ρ, μ, s, e, by
    unfold sSeq at h
    cases ha : a ρ μ with
    | nx ρ' μ' => rw [ha] at h; exact fun σ1 ι1 H1 e1 s1 r1 => ⟨ι1, ρ', μ', s1, r1, SPost.ext h e1⟩
    | rt d μ' => rw [ha] at h; exact h
    | bk ρ' μ' => rw [ha] at h; exact h
    | ct ρ' μ' => rw [ha] at h; exact h
    | exc x μ' => rw [ha] at h; exact h
    | bad => rw [ha] at h; exact h⟩
theorem ss_one (h1 : RS X T W st a) : RSs X T W [st] a := pss_one h1
theorem s_pass : RS X T W (.Pass pos) sPass := PS.mono ps_pass fun D σ H ⟨ι, ρ, μ, s, e, h⟩ => h σ ι H Ext.refl s e
theorem s_break : RS X T W (.Break pos) (fun ρ μ => .bk ρ μ) := PS.mono ps_break fun D σ H ⟨ι, ρ, μ, s, e, h⟩ => h σ ι H Ext.refl s e
theorem s_cont : RS X T W (.Continue pos) (fun ρ μ => .ct ρ μ) := PS.mono ps_continue fun D σ H ⟨ι, ρ, μ, s, e, h⟩ => h σ ι H Ext.refl s e
theorem s_expr (h : RE X T W e me) (hs : swapsWith e none pos.line X.env = pure false := by rfl) : RS X T W (.Expr e pos) (sDrop me) :=
  PS.mono (ps_expr h hs) fun D σ H ⟨ι, ρ, μ, s, e, h⟩ => ⟨ι, ρ, μ, s, e, bindS h fun d v μ1 ι1 H1 _ E1 s1 r1 h1 => h1 σ ι1 H1 Ext.refl s1 (e.ext E1)⟩
theorem s_ret (h : RE X T W e me) : RS X T W (.Return (some e) pos) (sRet me) :=
  PS.mono (ps_ret h) fun D σ H ⟨ι, ρ, μ, s, e, h⟩ => ⟨ι, ρ, μ, s, e, bindS h fun d v μ1 ι1 H1 _ E1 s1 r1 h1 => h1 v ι1 H1 Ext.refl s1 r1⟩
theorem s_retN : RS X T W (.Return none pos) sRetN := PS.mono ps_retN fun D σ H ⟨ι, ρ, μ, s, e, h⟩ => h .non ι H Ext.refl s RepV.non
theorem s_if {c : Expr} {p q : List Stmt} (hc : RT X T W c mc) (ha : RSs X T W p a) (hb : RSs X T W q b) : RS X T W (.If c p q pos) (sIf mc a b) :=
  PS.mono (ps_if hc ha hb) fun D σ H ⟨ι, ρ, μ, s, e, h⟩ => ⟨ι, ρ, μ, s, e, bindS h fun d v μ1 ι1 H1 _ E1 s1 r1 h1 => by
    cases r1
    cases d with
    | true => exact ⟨ι1, ρ, μ1, s1, e.ext E1, h1⟩
    | false => exact ⟨ι1, ρ, μ1, s1, e.ext E1, h1⟩⟩
/-! ### targets -/
def gN (i : Nat) : TgM := fun d ρ μ => some (ρ.set i (some d), μ)
theorem EnvR.set {K : Frag} {H : Hp} {ι : Io} {ρ : Env} {σ : L2.St} {i : Nat} {d : MV} {v : V} (e : EnvR K H ι ρ σ) (r : RepV K H ι d v) : EnvR K H ι (ρ.set i (some d)) (σ.set i (some v)) := by
  refine ⟨by simp [e.1], fun j d' h => ?_⟩
  by_cases hj : i = j
  · subst hj
    by_cases hl : i < ρ.length
    · rw [List.getElem?_set_self hl] at h
      cases h
      exact ⟨v, by rw [List.getElem?_set_self (by rw [← e.1]; exact hl)], r⟩
    · rw [List.getElem?_eq_none (by simp; omega)] at h
      cases h
  · rw [List.getElem?_set_ne hj] at h
    obtain ⟨w, h1, h2⟩ := e.2 j d' h
    exact ⟨w, by rw [List.getElem?_set_ne hj]; exact h1, h2⟩
theorem g_name {i : Nat} {x : Str} (hN : X.N.Nodup) (hi : X.N[i]? = some x) (hx : Loc X.env.scope x) (hf : X.fn x = true ∨ X.env.scope.names.lookup x = some .local) : RG X T [i] (.Name x pos) (gN i) :=
  PG.mono (pg_name hN hi hx hf) fun v σ H Q ⟨ι, ρ, μ, d, s, e, r, ρ', μ', hg, h⟩ => by
    cases hg
    exact h _ ι H Ext.refl s (e.set r) ⟨by simp, fun j hj => List.getElem?_set_ne (fun z => hj (by simp [z]))⟩
def gTs : List TgM → List MV → Env → Mem → Option (Env × Mem)
  | [], [], ρ, μ => some (ρ, μ)
  | g :: gs, d :: ds, ρ, μ => match g d ρ μ with
    | some (ρ', μ') => gTs gs ds ρ' μ'
    | none => none
  | _, _, _, _ => none
def tGts (K : Frag) (T : Tbs) (ws : List Nat) (gs : List TgM) : TGs := fun vs σ H Q => ∃ ι ρ μ ds, SR K T ι μ H ∧ EnvR K H ι ρ σ ∧ RepL K H ι ds vs ∧ ∃ ρ' μ', gTs gs ds ρ μ = some (ρ', μ') ∧ ∀ σ' ι' H', Ext ι H ι' H' → SR K T ι' μ' H' → EnvR K H' ι' ρ' σ' → ButAt ws σ σ' → Q σ' H'
abbrev RGs (X : Cx) (T : Tbs) (ws : List Nat) (ts : List Expr) (gs : List TgM) : Prop := PGs X ts (tGts X.K T ws gs)
theorem ButAt.refl {vs : List Nat} {σ : L2.St} : ButAt vs σ σ := ⟨rfl, fun _ _ => rfl⟩
theorem ButAt.app {vs ws : List Nat} {σ σ1 σ2 : L2.St} (a : ButAt vs σ σ1) (b : ButAt ws σ1 σ2) : ButAt (vs ++ ws) σ σ2 := ⟨b.1.trans a.1, fun i h => (b.2 i (fun z => h (List.mem_append_right _ z))).trans (a.2 i (fun z => h (List.mem_append_left _ z)))⟩
theorem gs_nil : RGs X T [] [] [] := PGs.mono pgs_nil fun vs σ H Q ⟨ι, ρ, μ, ds, s, e, r, ρ', μ', hg, h⟩ => by
  cases ds with
  | nil => cases hg; exact ⟨RepL.nil_iff.mp r, h _ ι H Ext.refl s e .refl⟩
  | cons d ds => cases hg
theorem gs_cons {t : Expr} {ts : List Expr} {vs ws : List Nat} {g : TgM} {gs : List TgM} (h1 : RG X T vs t g) (h2 : RGs X T ws ts gs) (hs : (assignEach (t :: ts) X.env).map (·.2) = assign t X.env :: (assignEach ts X.env).map (·.2) := by rfl) : RGs X T (vs ++ ws) (t :: ts) (g :: gs) :=
  PGs.mono (pgs_cons h1 h2 hs) fun vs σ H Q ⟨ι, ρ, μ, ds, s, e, r, ρ', μ', hg, h⟩ => by
    cases ds with
    | nil => cases hg
    | cons d ds =>
      rw [RepL.cons_iff] at r
      obtain ⟨v, rr, rfl, r1, r2⟩ := r
      have hg : (match g d ρ μ with
        | some (ρ', μ') => gTs gs ds ρ' μ'
        | none => none) = some (ρ', μ') := hg
      split at hg
      · rename_i ρ1 μ1 h3
        exact ⟨v, rr, rfl, ι, ρ, μ, d, s, e, r1, ρ1, μ1, h3, fun σ1 ι1 H1 E1 s1 e1 b1 => ⟨ι1, ρ1, μ1, ds, s1, e1, RepL.ext E1 _ _ r2, ρ', μ', hg, fun σ2 ι2 H2 E2 s2 e2 b2 => h σ2 ι2 H2 (E1.trans E2) s2 e2 (b1.app b2)⟩⟩
      · cases hg
def gT (gs : List TgM) : TgM := fun d ρ μ => match d with
  | .tup ds => if ds.length = gs.length then gTs gs ds ρ μ else none
  | _ => none
theorem g_tup {ts : List Expr} {k n : Nat} {ws : List Nat} {gs : List TgM} (hc : X.calm = true) (h : RGs X T ws ts gs) (hl : gs.length = n) (hn : (assignEach ts X.env).length = n := by rfl) (hst : (assignEach ts X.env).findIdx? (·.1) = none := by rfl) : RG X T ws (.Tuple ts k pos) (gT gs) :=
  PG.mono (pg_tup hc h hn hst) fun v σ H Q ⟨ι, ρ, μ, d, s, e, r, ρ', μ', hg, h⟩ => by
    unfold gT at hg
    split at hg
    · split at hg
      · rename_i ds hd
        obtain ⟨a, vs, rfl, t, l⟩ := r.tup_inv
        exact ⟨a, vs, rfl, t, by rw [← l.len, hd, hl], ι, ρ, μ, _, s, e, l, ρ', μ', hg, h⟩
      · cases hg
    · cases hg
theorem asgM {K : Frag} {mg : Gm} {vs : List Nat} : ∀ D σ H, tS K mg T W (sAsg me g) D σ H → tAsg (tG (RV K) K mg T W me) (tGt K T vs g) D σ H :=
  fun D σ H ⟨ι, ρ, μ, s, e, h⟩ => ⟨ι, ρ, μ, s, e, bindS h fun d v μ1 ι1 H1 _ E1 s1 r1 h1 => by
    have h1 : SPost K mg T W ι1 H1 D (match g d ρ μ1 with
      | some (ρ', μ') => .nx ρ' μ'
      | none => .bad) := h1
    split at h1
    · rename_i ρ' μ' hg
      exact ⟨ι1, ρ, μ1, d, s1, e.ext E1, r1, ρ', μ', hg, fun σ' ι' H' E' s' e' _ => h1 σ' ι' H' E' s' e'⟩
    · exact h1.elim⟩
theorem s_asg {vs : List Nat} (he : RE X T W e me) (hg : RG X T vs tg g) (hs : swapsWithSole [tg] e pos.line X.env = pure false := by rfl) (hw : swappedStores [tg] e X.env = pure none := by rfl)
    (h1 : (assignEach [tg] X.env).map (·.2) = [assign tg X.env] := by rfl) : RS X T W (.Assign [tg] e pos) (sAsg me g) := PS.mono (ps_asg he hg hs hw h1) asgM
theorem nameM {K : Frag} {mg : Gm} {i : Nat} : ∀ D σ H, tS K mg T W (sAsg me (gN i)) D σ H → tAsg (tG (RV K) K mg T W me) (gName i) D σ H :=
  fun D σ H ⟨ι, ρ, μ, s, e, h⟩ => ⟨ι, ρ, μ, s, e, bindS h fun d v μ1 ι1 H1 _ E1 s1 r1 h1 => h1 _ ι1 H1 Ext.refl s1 ((e.ext E1).set r1)⟩
theorem s_set {i : Nat} {x : Str} {pos' : Pos} (hN : X.N.Nodup) (hi : X.N[i]? = some x) (hx : Loc X.env.scope x) (he : RE X T W e me) (hf : X.fn x = true ∨ X.env.scope.names.lookup x = some .local)
    (hs : swapsWith e (some (.Name x pos')) pos.line X.env = pure false := by rfl) : RS X T W (.Assign [.Name x pos'] e pos) (sAsg me (gN i)) := PS.mono (ps_set hN hi hx he hs hf) nameM
/-- a, b = x, y -/
def sPar (i j : Nat) (ms : Ev (List MV)) : SM := sE ms fun ds => fun ρ μ => match ds with
  | [x, y] => .nx ((ρ.set i (some x)).set j (some y)) μ
  | _ => .bad
theorem s_par {i j : Nat} {x y : Str} {p q : Expr} {ms : Ev (List MV)} {px py pt : Pos} {kt k2 pt2} (hc : X.calm = true) (hN : X.N.Nodup) (hi : X.N[i]? = some x) (hj : X.N[j]? = some y) (hij : i ≠ j)
    (hx : X.env.scope.names.lookup x = some .local) (hy : X.env.scope.names.lookup y = some .local) (ha : RA X T W [p, q] ms)
    (hw : swappedStores [.Tuple [.Name x px, .Name y py] kt pt] (.Tuple [p, q] k2 pt2) X.env = pure (some [x, y]))
    (hs : swapsWithSole [.Tuple [.Name x px, .Name y py] kt pt] (.Tuple [p, q] k2 pt2) pos.line X.env = pure false := by rfl) :
    RS X T W (.Assign [.Tuple [.Name x px, .Name y py] kt pt] (.Tuple [p, q] k2 pt2) pos) (sPar i j ms) :=
  PS.mono (ps_par hc hN hi hj hij hx hy ha hw hs) fun D σ H ⟨ι, ρ, μ, s, e, h⟩ => ⟨ι, ρ, μ, s, e, bindS h fun ds vs μ1 ι1 H1 _ E1 s1 r1 h1 => by
    match ds, r1, h1 with
    | [x, y], r1, h1 =>
      obtain ⟨v, u, e2, r2, r3⟩ := RepL.two_inv r1
      exact ⟨v, u, e2, h1 _ ι1 H1 Ext.refl s1 (((e.ext E1).set r2).set r3)⟩
    | [], _, h1 => exact h1.elim
    | [_], _, h1 => exact h1.elim
    | _ :: _ :: _ :: _, _, h1 => exact h1.elim⟩
end

/-! ### what is walked -/
structure Itm where
  items : List MV
  chk : List (Nat × List MV)
def Itm.ok (t : Itm) (μ : Mem) : Prop := ∀ p ∈ t.chk, celOf μ p.1 = some p.2
def ItR (K : Frag) (T : Tbs) (J : It) (t : Itm) (ι0 : Io) (H0 : Hp) : Prop := ∀ ι μ H, ExtW ι0 H0 ι H → SR K T ι μ H → t.ok μ →
  (∀ (i : Nat) (d : MV), t.items[i]? = some d → J.go i H ∧ ∀ x H', J.yld i H x H' → Ext ι H ι H' ∧ SR K T ι μ H' ∧ RepV K H' ι d x) ∧ J.stop t.items.length H
theorem ItR.ext {K : Frag} {T : Tbs} {J : It} {t : Itm} {ι0 ι1 : Io} {H0 H1 : Hp} (h : ItR K T J t ι0 H0) (e : ExtW ι0 H0 ι1 H1) : ItR K T J t ι1 H1 := fun ι μ H e1 s c => h ι μ H (e.trans e1) s c
abbrev RJ (K : Frag) (T : Tbs) : Rel Itm It := fun H ι t J => ItR K T J t ι H
abbrev RI (X : Cx) (T : Tbs) (W : WX) (tg iter : Expr) (m : Ev Itm) : Prop := PI X tg iter (tG (RJ X.K T) X.K X.mg T W m)
theorem PI.mono {X : Cx} {tg e : Expr} {t t' : TI} (h : PI X tg e t) (k : ∀ σ H Q, t' σ H Q → t σ H Q) : PI X tg e t' := ⟨fun pins s σ H Q I q => h.run pins s σ H Q I (k σ H Q q)⟩
theorem PI.or {X : Cx} {tg e : Expr} {t t' : TI} (h : PI X tg e t) (h' : PI X tg e t') : PI X tg e (fun σ H R => t σ H R ∨ t' σ H R) := ⟨fun pins s σ H Q I q => q.elim (h.run pins s σ H Q I) (h'.run pins s σ H Q I)⟩
def itmOf (μ : Mem) : MV → Option Itm
  | .tup xs => some ⟨xs, []⟩
  | .lst xs => some ⟨xs, []⟩
  | .ref i => (celOf μ i).map fun xs => ⟨xs, [(i, xs)]⟩
  | _ => none
/-- where a cell's list stands, as long as it stays -/
theorem itl_ref {K : Frag} {T : Tbs} {ι0 : Io} {μ0 : Mem} {H0 : Hp} {i : Nat} {v : V} {xs : List MV} (s0 : SR K T ι0 μ0 H0) (r : RepV K H0 ι0 (.ref i) v) (h : celOf μ0 i = some xs) :
    ∃ a, v = .ref a ∧ (∃ vs, SqL K H0 a vs) ∧ ∀ ι μ H, ExtW ι0 H0 ι H → SR K T ι μ H → celOf μ i = some xs → ∃ vs, SqL K H a vs ∧ RepL K H ι xs vs := by
  obtain ⟨a, vs, e, hi, ha, l⟩ := s0.cel r (celOf_some h)
  refine ⟨a, e, ⟨vs, SqL.of ha⟩, fun ι μ H e1 s1 ok => ?_⟩
  obtain ⟨o, h1, b, ws, eb, h2, h3⟩ := s1.cell i _ (celOf_some ok)
  subst eb
  have hl : i < ι0.cs.length := (List.getElem?_eq_some_iff.mp hi).1
  rcases e1.sub i hl with z | z
  · rw [h1, hi] at z; cases z
    exact ⟨ws, SqL.of h2, h3⟩
  · rw [h1] at z; cases z
def mItm (m : Ev MV) : Ev Itm := mB m fun d => fun ρ μ => oO (itmOf μ d) ρ μ
section
variable {X : Cx} {T : Tbs} {W : WX} {pos p : Pos} {tg e : Expr} {me : Ev MV}
/-- a list is walked, a tuple is walked -/
theorem ri_seq (he : RE X T W e me) : RI X T W tg e (mItm me) :=
  PI.mono (PI.or (pi_list he) (pi_tup he)) fun σ H R ⟨ι, ρ, μ, s, en, h⟩ => by
    have key : ∀ d μ1, me ρ μ = .ok d μ1 → (∃ xs, d = .tup xs) ∨ ¬ ∃ xs, d = .tup xs := fun d _ _ => Classical.em _
    cases hm : me ρ μ with
    | bad => unfold mItm mB at h; rw [hm] at h; exact h.elim
    | exc x μ1 =>
      refine .inl ⟨ι, ρ, μ, s, en, ?_⟩
      unfold mItm mB at h; rw [hm] at h ⊢; exact h
    | ok d μ1 =>
      unfold mItm mB at h
      rw [hm] at h
      have h : Post (RJ X.K T) X.K X.mg T W σ ι H R (oO (itmOf μ1 d) ρ μ1) := h
      cases ht : itmOf μ1 d with
      | none => rw [ht] at h; exact h.elim
      | some t =>
        rw [ht] at h
        have fin : ∀ v ι1 H1, Ext ι H ι1 H1 → SR X.K T ι1 μ1 H1 → RepV X.K H1 ι1 d v → ∃ a, v = .ref a ∧ (((∃ vs, SqL X.K H1 a vs) ∧ (¬ ∃ xs, d = .tup xs) ∧ R (Itl X.K a) H1) ∨ ((∃ vs, SqT X.K H1 a vs) ∧ (∃ xs, d = .tup xs) ∧ R (Itt X.K a) H1)) := fun v ι1 H1 E1 s1 r1 => by
          by_cases hd : ∃ xs, d = .tup xs
          · obtain ⟨xs, rfl⟩ := hd
            cases ht
            unfold RepV at r1
            obtain ⟨a, vs, e1, f, l⟩ := r1
            refine ⟨a, e1, .inr ⟨⟨vs, f.sq⟩, ⟨xs, rfl⟩, h _ ι1 H1 E1 s1 fun ι2 μ2 H2 E2 s2 _ => ?_⟩⟩
            have t2 := (f.ext E2).sq
            have l2 := RepL.ext E2 _ _ l
            refine ⟨fun i d hi => ?_, vs, t2, by rw [l2.len]; exact Nat.le_refl _⟩
            obtain ⟨w, h3, h4⟩ := l2.get hi
            exact ⟨⟨vs, w, t2, h3⟩, fun x H' ⟨e2, hx⟩ => by
              subst e2
              have := hx vs t2
              rw [h3] at this; cases this
              exact ⟨Ext.refl, s2, h4⟩⟩
          · have hnt : ∀ xs, d ≠ .tup xs := fun xs z => hd ⟨xs, z⟩
            cases d with
            | tup xs => exact absurd rfl (hnt xs)
            | lst xs =>
              cases ht
              unfold RepV at r1
              obtain ⟨a, vs, e1, f, l⟩ := r1
              refine ⟨a, e1, .inl ⟨⟨vs, .inl f.1⟩, hd, h _ ι1 H1 E1 s1 fun ι2 μ2 H2 E2 s2 _ => ?_⟩⟩
              have t2 : SqL X.K H2 a vs := .inl (f.ext E2).1
              have l2 := RepL.ext E2 _ _ l
              refine ⟨fun i d hi => ?_, vs, t2, by rw [l2.len]; exact Nat.le_refl _⟩
              obtain ⟨w, h3, h4⟩ := l2.get hi
              exact ⟨⟨vs, w, t2, h3⟩, fun x H' ⟨e2, hx⟩ => by
                subst e2
                have := hx vs t2
                rw [h3] at this; cases this
                exact ⟨Ext.refl, s2, h4⟩⟩
            | ref j =>
              obtain ⟨xs, hc, rfl⟩ := Option.map_eq_some_iff.mp ht
              obtain ⟨a, e1, q1, st⟩ := itl_ref s1 r1 hc
              refine ⟨a, e1, .inl ⟨q1, hd, h _ ι1 H1 E1 s1 fun ι2 μ2 H2 E2 s2 ok => ?_⟩⟩
              obtain ⟨ws, t2, l2⟩ := st ι2 μ2 H2 E2 s2 (ok (j, xs) (by simp))
              refine ⟨fun i d hi => ?_, ws, t2, by rw [l2.len]; exact Nat.le_refl _⟩
              obtain ⟨w, h3, h4⟩ := l2.get hi
              exact ⟨⟨ws, w, t2, h3⟩, fun x H' ⟨e2, hx⟩ => by
                subst e2
                have := hx ws t2
                rw [h3] at this; cases this
                exact ⟨Ext.refl, s2, h4⟩⟩
            | _ => cases ht
        by_cases hd : ∃ xs, d = .tup xs
        · refine .inr ⟨ι, ρ, μ, s, en, ?_⟩
          rw [hm]
          intro v ι1 H1 E1 s1 r1
          obtain ⟨a, e1, z | ⟨z1, _, z2⟩⟩ := fin v ι1 H1 E1 s1 r1
          · exact absurd hd z.2.1
          · exact ⟨a, e1, z1, z2⟩
        · refine .inl ⟨ι, ρ, μ, s, en, ?_⟩
          rw [hm]
          intro v ι1 H1 E1 s1 r1
          obtain ⟨a, e1, ⟨z1, _, z2⟩ | z⟩ := fin v ι1 H1 E1 s1 r1
          · exact ⟨a, e1, z1, z2⟩
          · exact absurd z.2.1 hd
end
end MM

set_option Elab.async false
set_option linter.all false
set_option maxRecDepth 100000
set_option maxHeartbeats 4000000
/-! ## MM: loops, comprehensions -/
namespace MM
open PySem PySem.Spec PyProof.Rows L2
open Classical in
noncomputable def guardO {α : Type} (p : Prop) (o : α) (b : α) : α := if p then o else b

/-! ### for -/
open Classical in
noncomputable def forL (t : Itm) (g : TgM) (b : SM) : List MV → SM
  | [], ρ, μ => if t.ok μ then .nx ρ μ else .bad
  | x :: xs, ρ, μ => if t.ok μ then (match g x ρ μ with
    | some (ρ1, μ1) => (match b ρ1 μ1 with
      | .nx ρ2 μ2 => forL t g b xs ρ2 μ2
      | .ct ρ2 μ2 => forL t g b xs ρ2 μ2
      | .bk ρ2 μ2 => .nx ρ2 μ2
      | .rt d μ2 => .rt d μ2
      | .exc x μ2 => .exc x μ2
      | .bad => .bad)
    | none => .bad) else .bad
noncomputable def sFor (m : Ev Itm) (g : TgM) (b : SM) : SM := sE m fun t => forL t g b t.items
theorem drop_get {α : Type} {xs : List α} {i : Nat} {x : α} {r : List α} (h : xs.drop i = x :: r) : xs[i]? = some x ∧ xs.drop (i + 1) = r ∧ i < xs.length := by
  have hl : i < xs.length := by
    rcases Nat.lt_or_ge i xs.length with q | q
    · exact q
    · rw [List.drop_eq_nil_of_le q] at h; cases h
  rw [List.drop_eq_getElem_cons hl] at h
  injection h with h1 h2
  exact ⟨by rw [← h1]; simp [hl], h2, hl⟩
theorem drop_none {α : Type} {xs : List α} {i : Nat} (hi : i ≤ xs.length) (h : xs.drop i = []) : i = xs.length := by
  have := List.drop_eq_nil_iff.mp h
  omega
section
variable {X : Cx} {T : Tbs} {W : WX} {pos : Pos} {tg iter : Expr} {body : List Stmt} {m : Ev Itm} {g : TgM} {b : SM} {vs : List Nat}
theorem s_for (hp : PassesOwn (model X.prog X.w) X.A X.env X.xe) (hc : X.calm = true) (hi : RI X T W tg iter m) (hg : RG X T vs tg g) (hb : RSs X T W body b) (hs : ∀ x, foldedSetIterable iter X.env x = pure x := by intro _; rfl) :
    RS X T W (.For tg iter body [] pos) (sFor m g b) :=
  PS.mono (ps_for hp hc hi hg hb hs) fun D σ H ⟨ι, ρ, μ, s, e, h⟩ => ⟨ι, ρ, μ, s, e, bindS h fun t J μ1 ι1 H1 _ E1 s1 r1 h1 => by
    refine ⟨fun i n σ' H' => n = t.items.length - i ∧ i ≤ t.items.length ∧ ∃ ι' ρ' μ', Ext ι1 H1 ι' H' ∧ SR X.K T ι' μ' H' ∧ EnvR X.K H' ι' ρ' σ' ∧ SPost X.K X.mg T W ι' H' D (forL t g b (t.items.drop i) ρ' μ'),
      ⟨t.items.length, by simp, Nat.zero_le _, ι1, ρ, μ1, Ext.refl, s1, e.ext E1, h1⟩, ?_⟩
    rintro i n σ' H' ⟨rfl, hi, ι', ρ', μ', E', s', e', q⟩
    cases hd : t.items.drop i with
    | nil =>
      rw [hd] at q
      unfold forL at q
      split at q
      · rename_i ok
        have := drop_none hi hd
        subst this
        exact .inl ⟨(r1 ι' μ' H' E' s' ok).2, q σ' ι' H' Ext.refl s' e'⟩
      · exact q.elim
    | cons x xs =>
      rw [hd] at q
      unfold forL at q
      split at q
      · rename_i ok
        obtain ⟨hx, hdr, hlt⟩ := drop_get hd
        obtain ⟨go, yl⟩ := (r1 ι' μ' H' E' s' ok).1 i x hx
        refine .inr ⟨go, fun σ2 H2 => ∃ ι2 ρ2 μ2, Ext ι1 H1 ι2 H2 ∧ SR X.K T ι2 μ2 H2 ∧ EnvR X.K H2 ι2 ρ2 σ2 ∧ SPost X.K X.mg T W ι2 H2 D (forL t g b xs ρ2 μ2), fun σ2 H2 w2 => ⟨t.items.length - (i + 1), by omega, rfl, hlt, by rw [hdr]; exact w2⟩, fun v H2 y => ?_⟩
        obtain ⟨E2, s2, r2⟩ := yl v H2 y
        split at q
        · rename_i ρ1 μ1' hgx
          refine ⟨ι', ρ', μ', x, s2, e'.ext E2, r2, ρ1, μ1', hgx, fun σ3 ι3 H3 E3 s3 e3 _ => ⟨ι3, ρ1, μ1', s3, e3, ?_⟩⟩
          have E03 : Ext ι1 H1 ι3 H3 := E'.trans (E2.trans E3)
          cases hb : b ρ1 μ1' with
          | nx ρ2 μ2 => rw [hb] at q; exact fun σ4 ι4 H4 E4 s4 e4 => ⟨ι4, ρ2, μ2, E03.trans E4, s4, e4, SPost.ext q (E2.trans (E3.trans E4))⟩
          | ct ρ2 μ2 => rw [hb] at q; exact fun σ4 ι4 H4 E4 s4 e4 => ⟨ι4, ρ2, μ2, E03.trans E4, s4, e4, SPost.ext q (E2.trans (E3.trans E4))⟩
          | bk ρ2 μ2 => rw [hb] at q; exact fun σ4 ι4 H4 E4 s4 e4 => q σ4 ι4 H4 (E2.trans (E3.trans E4)) s4 e4
          | rt d μ2 => rw [hb] at q; exact fun v ι4 H4 E4 s4 r4 => q v ι4 H4 (E2.trans (E3.trans E4)) s4 r4
          | exc x μ2 => rw [hb] at q; exact fun cls dd σ4 ι4 H4 E4 s4 r4 => q cls dd σ4 ι4 H4 (E2.trans (E3.trans E4)) s4 r4
          | bad => rw [hb] at q; exact q
        · exact q.elim
      · exact q.elim⟩
end

/-! ### while -/
def whileN (c : Ev Bool) (b : SM) : Nat → SM
  | 0, _, _ => .bad
  | n + 1, ρ, μ => match c ρ μ with
    | .ok true μ1 => (match b ρ μ1 with
      | .nx ρ2 μ2 => whileN c b n ρ2 μ2
      | .ct ρ2 μ2 => whileN c b n ρ2 μ2
      | .bk ρ2 μ2 => .nx ρ2 μ2
      | .rt d μ2 => .rt d μ2
      | .exc x μ2 => .exc x μ2
      | .bad => .bad)
    | .ok false μ1 => .nx ρ μ1
    | .exc x μ1 => .exc x μ1
    | .bad => .bad
def FUEL : Nat := 1000000000000
def sWhile (c : Ev Bool) (b : SM) : SM := whileN c b FUEL
section
variable {X : Cx} {T : Tbs} {W : WX} {pos : Pos} {ce : Expr} {body : List Stmt} {c : Ev Bool} {b : SM}
theorem s_while (hp : PassesOwn (model X.prog X.w) X.A X.env X.xe) (hc : RT X T W ce c) (hb : RSs X T W body b) : RS X T W (.While ce body [] pos) (sWhile c b) :=
  PS.mono (ps_while hp hc hb) fun D σ H ⟨ι, ρ, μ, s, e, h⟩ => by
    refine ⟨fun n σ' H' => ∃ ι' ρ' μ', Ext ι H ι' H' ∧ SR X.K T ι' μ' H' ∧ EnvR X.K H' ι' ρ' σ' ∧ SPost X.K X.mg T W ι' H' D (whileN c b n ρ' μ'), ⟨FUEL, ι, ρ, μ, Ext.refl, s, e, h⟩, ?_⟩
    rintro n σ' H' ⟨ι', ρ', μ', E', s', e', q⟩
    refine ⟨ι', ρ', μ', s', e', ?_⟩
    cases n with
    | zero => exact q.elim
    | succ n =>
      unfold whileN at q
      cases hcx : c ρ' μ' with
      | bad => rw [hcx] at q; exact q
      | exc x μ1 => rw [hcx] at q; exact fun cls dd ι1 H1 E1 s1 r1 => q cls dd σ' ι1 H1 E1 s1 r1
      | ok k μ1 =>
        rw [hcx] at q
        intro k' ι1 H1 E1 s1 r1
        cases r1
        cases k with
        | false =>
          rw [if_neg Bool.false_ne_true]
          exact q σ' ι1 H1 E1 s1 (e'.ext E1)
        | true =>
          rw [if_pos rfl]
          refine ⟨fun σ2 H2 => ∃ ι2 ρ2 μ2, Ext ι H ι2 H2 ∧ SR X.K T ι2 μ2 H2 ∧ EnvR X.K H2 ι2 ρ2 σ2 ∧ SPost X.K X.mg T W ι2 H2 D (whileN c b n ρ2 μ2), fun σ2 H2 w2 => ⟨n, Nat.lt_succ_self n, w2⟩, ι1, ρ', μ1, s1, e'.ext E1, ?_⟩
          have E01 : Ext ι H ι1 H1 := E'.trans E1
          have q : SPost X.K X.mg T W ι' H' D (match b ρ' μ1 with
            | .nx ρ2 μ2 => whileN c b n ρ2 μ2
            | .ct ρ2 μ2 => whileN c b n ρ2 μ2
            | .bk ρ2 μ2 => .nx ρ2 μ2
            | .rt d μ2 => .rt d μ2
            | .exc x μ2 => .exc x μ2
            | .bad => .bad) := q
          cases hb : b ρ' μ1 with
          | nx ρ2 μ2 => rw [hb] at q; exact fun σ4 ι4 H4 E4 s4 e4 => ⟨ι4, ρ2, μ2, E01.trans E4, s4, e4, SPost.ext q (E1.trans E4)⟩
          | ct ρ2 μ2 => rw [hb] at q; exact fun σ4 ι4 H4 E4 s4 e4 => ⟨ι4, ρ2, μ2, E01.trans E4, s4, e4, SPost.ext q (E1.trans E4)⟩
          | bk ρ2 μ2 => rw [hb] at q; exact fun σ4 ι4 H4 E4 s4 e4 => q σ4 ι4 H4 (E1.trans E4) s4 e4
          | rt d μ2 => rw [hb] at q; exact fun v ι4 H4 E4 s4 r4 => q v ι4 H4 (E1.trans E4) s4 r4
          | exc x μ2 => rw [hb] at q; exact fun cls dd σ4 ι4 H4 E4 s4 r4 => q cls dd σ4 ι4 H4 (E1.trans E4) s4 r4
          | bad => rw [hb] at q; exact q
end

/-! ### comprehensions -/
def wipeE (ρ : Env) : List Nat → Env
  | [] => ρ
  | v :: vs => (wipeE ρ vs).set v none
theorem wipeE_len (ρ : Env) : ∀ vs, (wipeE ρ vs).length = ρ.length
  | [] => rfl
  | v :: vs => by unfold wipeE; rw [List.length_set, wipeE_len ρ vs]
theorem wipe_at (σ : L2.St) : ∀ (vs : List Nat) (i : Nat), (wipe σ vs)[i]? = if i ∈ vs ∧ i < σ.length then some none else σ[i]?
  | [], i => by simp [wipe]
  | v :: vs, i => by
    unfold wipe
    by_cases hv : v = i
    · subst hv
      by_cases hl : v < σ.length
      · rw [List.getElem?_set_self (by rw [wipe_length]; exact hl), if_pos ⟨List.mem_cons_self, hl⟩]
      · rw [List.getElem?_eq_none (by rw [List.length_set, wipe_length]; omega), if_neg (fun z => hl z.2), List.getElem?_eq_none (by omega)]
    · rw [List.getElem?_set_ne hv, wipe_at σ vs i]
      have e : (i ∈ v :: vs) ↔ i ∈ vs := by
        simp only [List.mem_cons]
        exact ⟨fun z => z.elim (fun z => absurd z.symm hv) id, .inr⟩
      simp only [e]
theorem wipeE_at (σ : Env) : ∀ (vs : List Nat) (i : Nat), (wipeE σ vs)[i]? = if i ∈ vs ∧ i < σ.length then some none else σ[i]?
  | [], i => by simp [wipeE]
  | v :: vs, i => by
    unfold wipeE
    by_cases hv : v = i
    · subst hv
      by_cases hl : v < σ.length
      · rw [List.getElem?_set_self (by rw [wipeE_len]; exact hl), if_pos ⟨List.mem_cons_self, hl⟩]
      · rw [List.getElem?_eq_none (by rw [List.length_set, wipeE_len]; omega), if_neg (fun z => hl z.2), List.getElem?_eq_none (by omega)]
    · rw [List.getElem?_set_ne hv, wipeE_at σ vs i]
      have e : (i ∈ v :: vs) ↔ i ∈ vs := by
        simp only [List.mem_cons]
        exact ⟨fun z => z.elim (fun z => absurd z.symm hv) id, .inr⟩
      simp only [e]
theorem EnvR.wipe {K : Frag} {H : Hp} {ι : Io} {ρ : Env} {σ : L2.St} (e : EnvR K H ι ρ σ) (vs : List Nat) : EnvR K H ι (wipeE ρ vs) (L2.wipe σ vs) := by
  refine ⟨by rw [wipeE_len, wipe_length, e.1], fun i d h => ?_⟩
  rw [wipeE_at] at h
  rw [wipe_at]
  by_cases hc : i ∈ vs ∧ i < ρ.length
  · rw [if_pos hc] at h; cases h
  · rw [if_neg hc] at h
    rw [if_neg (by rw [← e.1]; exact hc)]
    exact e.2 i d h
theorem wipe_but {ws vs : List Nat} {σ σ' : L2.St} (b : ButAt ws (L2.wipe σ vs) σ') (h : ∀ i ∈ ws, i ∈ vs) : L2.wipe σ' vs = L2.wipe σ vs := by
  have hl : σ'.length = σ.length := b.1.trans (wipe_length _ _)
  refine List.ext_getElem? fun i => ?_
  rw [wipe_at, wipe_at, hl]
  by_cases hc : i ∈ vs ∧ i < σ.length
  · rw [if_pos hc, if_pos hc]
  · rw [if_neg hc, if_neg hc]
    by_cases hi : i ∈ vs
    · have : ¬ i < σ.length := fun z => hc ⟨hi, z⟩
      rw [List.getElem?_eq_none (by omega), List.getElem?_eq_none (by omega)]
    · rw [b.2 i (fun z => hi (h i z)), wipe_at, if_neg (fun z => hi z.1)]
open Classical in
noncomputable def compL (t : Itm) (g : TgM) (c : Ev Bool) (e : Ev MV) (ρ : Env) : List MV → Mem → Option (List MV × Mem)
  | [], μ => if t.ok μ then some ([], μ) else none
  | x :: xs, μ => if t.ok μ then (match g x ρ μ with
    | some (ρ1, μ1) => (match c ρ1 μ1 with
      | .ok true μ2 => (match e ρ1 μ2 with
        | .ok d μ3 => (match compL t g c e ρ xs μ3 with
          | some (ds, μ4) => some (d :: ds, μ4)
          | none => none)
        | _ => none)
      | .ok false μ2 => compL t g c e ρ xs μ2
      | _ => none)
    | none => none) else none
def oOm {α : Type} (o : Option (α × Mem)) : Out α := match o with
  | some (a, μ) => .ok a μ
  | none => .bad
open Classical in
noncomputable def compT (t : Itm) (g : TgM) (c : Ev Bool) (e : Ev MV) (ρ : Env) (μ : Mem) : Option (List MV × Mem) := if t.items.length ≤ sizeLine then compL t g c e ρ t.items μ else none
open Classical in
noncomputable def mCompL (vs : List Nat) (m : Ev Itm) (g : TgM) (c : Ev Bool) (e : Ev MV) : Ev (List MV) := mB m fun t => fun ρ μ => oOm (compT t g c e (wipeE ρ vs) μ)
noncomputable def mComp (vs : List Nat) (m : Ev Itm) (g : TgM) (c : Ev Bool) (e : Ev MV) : Ev MV := mB (mCompL vs m g c e) fun ds => mRet (.lst ds)
noncomputable def mCompC (vs : List Nat) (m : Ev Itm) (g : TgM) (c : Ev Bool) (e : Ev MV) : Ev MV := mB (mCompL vs m g c e) fun ds => fun _ μ => .ok (.ref μ.length) (μ ++ [.lst ds])
abbrev W0 : WX := fun _ _ _ _ => False
theorem RepL.of_hide {K : Frag} {H : Hp} {ι : Io} {D : Addr} {xs : List MV} {vs : List V} (h : RepL K H (ι.hide D) xs vs) : RepL K H ι xs vs :=
  RepL.move (ι := ι.hide D) (ι' := ι) (fun a u e n _ => ⟨e, fun q => n (q.elim .inl fun q => .inr (List.mem_cons_of_mem _ q))⟩) (fun _ _ q => q) xs vs h
theorem RepL.grow {K : Frag} {H : Hp} {ι : Io} {D : Addr} {o : HO} (hm : D ∈ ι.hid) {xs : List MV} {vs : List V} (h : RepL K H ι xs vs) : RepL K (upd H D o) ι xs vs := RepL.move (move_grow hm) (fun _ _ q => q) _ _ h
theorem EnvR.grow {K : Frag} {H : Hp} {ι : Io} {D : Addr} {o : HO} (hm : D ∈ ι.hid) {ρ : Env} {σ : L2.St} (h : EnvR K H ι ρ σ) : EnvR K (upd H D o) ι ρ σ :=
  ⟨h.1, fun i d hd => let ⟨v, h1, h2⟩ := h.2 i d hd; ⟨v, h1, RepV.move (move_grow hm) (fun _ _ q => q) _ _ h2⟩⟩
theorem EnvR.begin {K : Frag} {H : Hp} {ι : Io} {D : Addr} {o : HO} (hn : H D = none) {ρ : Env} {σ : L2.St} (h : EnvR K H ι ρ σ) : EnvR K (upd H D o) (ι.hide D) ρ σ :=
  ⟨h.1, fun i d hd => let ⟨v, h1, h2⟩ := h.2 i d hd; ⟨v, h1, RepV.move (move_begin hn) (fun _ _ q => q) _ _ h2⟩⟩
section
variable {X : Cx} {T : Tbs} {W : WX} {tg iter : Expr} {g : TgM} {c : Ev Bool} {e : Ev MV} {vs ws : List Nat} {mi : Ev Itm}
theorem comp_core {K : Frag} {mg : Gm} {Q : VK} {σ : L2.St} {ι : Io} {H : Hp} {ρ : Env} {μ : Mem} {t : Itm} {J : It} (hw : ∀ i ∈ ws, i ∈ vs) (s : SR K T ι μ H) (en : EnvR K H ι ρ σ) (r : ItR K T J t ι H) (ds : List MV) (μ' : Mem) (hl : t.items.length ≤ sizeLine)
    (hc : compL t g c e (wipeE ρ vs) t.items μ = some (ds, μ'))
    (fin : ∀ (D : Addr) (vs : List V) (ι' : Io) (H' : Hp), Ext ι H ι' H' → SR K T (ι'.hide D) μ' H' → ¬ Own ι' D → H D = none → H' D = some (.lst vs) → RepL K H' (ι'.hide D) ds vs → Q (.ref D) H') :
    ∀ D, H D = none → ∃ Wv : Nat → Nat → Hp → Prop, (∃ m, Wv 0 m (upd H D (.lst []))) ∧ ∀ i m H, Wv i m H →
      (J.stop i H ∧ Q (.ref D) H) ∨ (J.go i H ∧ ∃ Nx : Hp → Prop, (∀ H', Nx H' → ∃ m', m' < m ∧ Wv (i + 1) m' H') ∧ ∀ x H', J.yld i H x H' → tGt K T ws g x (L2.wipe σ vs) H' fun σ2 H2 => L2.wipe σ2 vs = L2.wipe σ vs ∧ tG RB K mg T W0 c σ2 H2 fun b H3 =>
        if b = true then tG (RV K) K mg T W0 e σ2 H3 fun y H4 => ∃ acc, H4 D = some (.lst acc) ∧ acc.length < sizeLine ∧ Nx (upd H4 D (.lst (acc ++ [y]))) else Nx H3) := by
  intro D hD
  -- what holds when so many items are left
  let St : Nat → Hp → Prop := fun i H' => ∃ ι1 μ1 acc accM rest, Ext ι H ι1 H' ∧ SR K T (ι1.hide D) μ1 H' ∧ H' D = some (.lst acc) ∧ RepL K H' (ι1.hide D) accM acc ∧ EnvR K H' (ι1.hide D) ρ σ ∧ accM.length ≤ i ∧ accM ++ rest = ds ∧ compL t g c e (wipeE ρ vs) (t.items.drop i) μ1 = some (rest, μ')
  refine ⟨fun i m H' => m = t.items.length - i ∧ i ≤ t.items.length ∧ St i H', ⟨t.items.length, by simp, Nat.zero_le _, ι, μ, [], [], ds, Ext.after Ext.refl hD, s.begin hD, upd_same, RepL.nil_iff.mpr rfl, en.begin hD, Nat.le_refl _, rfl, hc⟩, ?_⟩
  rintro i m H1 ⟨rfl, hi, ι1, μ1, acc, accM, rest, E1, s1, hd1, ra, en1, hal, hap, hcl⟩
  have EW : ExtW ι H (ι1.hide D) H1 := ExtW.begin E1 hD
  cases hd : t.items.drop i with
  | nil =>
    rw [hd] at hcl
    unfold compL at hcl
    split at hcl
    · rename_i ok
      cases hcl
      have := drop_none hi hd
      subst this
      refine .inl ⟨(r _ _ H1 EW s1 ok).2, ?_⟩
      have nd : ¬ Own ι1 D := fun q => by
        rcases q with q | q
        · exact (s1.hid D List.mem_cons_self).1 q
        · have := E1.own D (.inr q)
          rcases this with z | z
          · exact s.fresh hD z
          · rw [E1.hid] at q
            exact s.fresh hD (.inr q)
      rw [List.append_nil] at hap
      subst hap
      exact fin D acc ι1 H1 E1 s1 nd hD hd1 ra
    · cases hcl
  | cons x xs =>
    rw [hd] at hcl
    unfold compL at hcl
    split at hcl
    · rename_i ok
      obtain ⟨hx, hdr, hlt⟩ := drop_get hd
      obtain ⟨go, yl⟩ := (r _ μ1 H1 EW s1 ok).1 i x hx
      refine .inr ⟨go, St (i + 1), fun H' h' => ⟨t.items.length - (i + 1), by omega, rfl, hlt, h'⟩, fun v H2 y => ?_⟩
      obtain ⟨E2, s2, r2⟩ := yl v H2 y
      split at hcl
      · rename_i ρ1 μ2 hg
        refine ⟨ι1.hide D, wipeE ρ vs, μ1, x, s2, (en1.ext E2).wipe vs, r2, ρ1, μ2, hg, fun σ3 ι3 H3 E3 s3 e3 b3 => ⟨wipe_but b3 hw, ι3, ρ1, μ2, s3, e3, ?_⟩⟩
        have E23 := E2.trans E3
        split at hcl
        · rename_i μ3 hc3
          rw [hc3]
          intro k ι4 H4 E4 s4 r4
          cases r4
          rw [if_pos rfl]
          refine ⟨ι4, ρ1, μ3, s4, e3.ext E4, ?_⟩
          have E24 := E23.trans E4
          split at hcl
          · rename_i d μ4 he
            rw [he]
            intro w ι5 H5 E5 s5 r5
            have E25 := E24.trans E5
            obtain ⟨F1, F2, F3⟩ := Ext.unhide s5 E25 hd1
            split at hcl
            · rename_i ds' μ5 hrec
              cases hcl
              have hm : D ∈ ι5.hid := by rw [F2]; exact List.mem_cons_self
              have ra5 : RepL K H5 ι5 accM acc := RepL.ext E25 _ _ ra
              have hla : acc.length < sizeLine := by rw [← ra.len]; omega
              refine ⟨acc, F3, hla, ⟨ι5.cs, ι1.hid⟩, μ4, acc ++ [w], accM ++ [d], ds', Ext.after (E1.trans F1) hD, ?_, upd_same, ?_, ?_, by simp; omega, by rw [List.append_assoc]; exact hap, by rw [hdr]; exact hrec⟩
              · rw [← F2]; exact SR.grow s5 hm F3
              · rw [← F2]; exact RepL.grow hm (ra5.app (RepL.one r5))
              · rw [← F2]; exact EnvR.grow hm (en1.ext E25)
            · cases hcl
          · cases hcl
        · rename_i μ3 hc3
          rw [hc3]
          intro k ι4 H4 E4 s4 r4
          cases r4
          rw [if_neg Bool.false_ne_true]
          have E24 := E23.trans E4
          obtain ⟨F1, F2, F3⟩ := Ext.unhide s4 E24 hd1
          refine ⟨⟨ι4.cs, ι1.hid⟩, μ3, acc, accM, rest, E1.trans F1, by rw [← F2]; exact s4, F3, ?_, ?_, by omega, hap, by rw [hdr]; exact hcl⟩
          · rw [← F2]; exact RepL.ext E24 _ _ ra
          · rw [← F2]; exact en1.ext E24
        · cases hcl
      · cases hcl
    · cases hcl
theorem compM {K : Frag} {mg : Gm} (hw : ∀ i ∈ ws, i ∈ vs) (f : List MV → Ev MV)
    (hf : ∀ {σ ι H Q ρ μ' ds}, Post (RV K) K mg T W σ ι H Q (f ds ρ μ') → ∀ (D : Addr) (vs : List V) (ι' : Io) (H' : Hp), Ext ι H ι' H' → SR K T (ι'.hide D) μ' H' → ¬ Own ι' D → H D = none → H' D = some (.lst vs) → RepL K H' (ι'.hide D) ds vs → Q (.ref D) H') :
    ∀ σ H Q, tG (RV K) K mg T W (mB (mCompL vs mi g c e) f) σ H Q → tLc (tG (RJ K T) K mg T W mi) (tGt K T ws g) (tG RB K mg T W0 c) (tG (RV K) K mg T W0 e) vs σ H Q :=
  fun σ H Q ⟨ι, ρ, μ, s, en, h⟩ => ⟨ι, ρ, μ, s, en, by
    have h : Post (RV K) K mg T W σ ι H Q (mB mi (fun t => mB (fun ρ μ => oOm (compT t g c e (wipeE ρ vs) μ)) f) ρ μ) := by
      unfold mCompL mB at h
      unfold mB
      cases hm : mi ρ μ with
      | ok t μ1 => rw [hm] at h; exact h
      | exc x μ1 => rw [hm] at h; exact h
      | bad => rw [hm] at h; exact h
    exact bindr h fun t J μ1 ι1 H1 _ E1 s1 r1 h1 => by
      unfold mB at h1
      dsimp only at h1
      cases hc : compT t g c e (wipeE ρ vs) μ1 with
      | none => rw [hc] at h1; exact h1.elim
      | some p =>
        obtain ⟨ds, μ'⟩ := p
        rw [hc] at h1
        unfold compT at hc
        split at hc
        · rename_i hl
          exact comp_core hw s1 (en.ext E1) r1 ds μ' hl hc (hf h1)
        · cases hc⟩

/-- a list just made becomes a cell -/
theorem SR.adopt {K : Frag} {ι' : Io} {μ' : Mem} {H' : Hp} {D : Addr} {ds : List MV} {us : List V} (s : SR K T (ι'.hide D) μ' H') (nd : ¬ Own ι' D) (h : H' D = some (.lst us)) (r : RepL K H' (ι'.hide D) ds us) : SR K T (ι'.add D) (μ' ++ [.lst ds]) H' := by
  have ow : ∀ b, Own (ι'.add D) b → Own (ι'.hide D) b := fun b q => by
    rcases q with q | q
    · rcases List.mem_append.mp q with q | q
      · exact .inl q
      · have e : b = D := by simpa using q
        exact .inr (by rw [e]; exact List.mem_cons_self)
    · exact .inr (List.mem_cons_of_mem _ q)
  have mv : ∀ a o, H' a = some o → ¬ Own (ι'.hide D) a → (∀ ps, o ≠ .tbl ps) → H' a = some o ∧ ¬ Own (ι'.add D) a := fun a o e n _ => ⟨e, fun q => n (ow a q)⟩
  have mc : ∀ (i : Nat) (o : Option Addr), (ι'.hide D).cs[i]? = some o → (ι'.add D).cs[i]? = some o := fun i o e => (List.getElem?_append_left (List.getElem?_eq_some_iff.mp e).1).trans e
  have r2 : RepL K H' (ι'.add D) ds us := RepL.move mv mc _ _ r
  have nD : some D ∉ ι'.cs := (s.hid D List.mem_cons_self).1
  have hl : ι'.cs.length = μ'.length := s.len
  refine ⟨by simp [Io.add, hl], fun i j b hi hj => ?_, fun i c hc => ?_, s.tabs, fun b hb => ?_⟩
  · have key : ∀ k, (ι'.cs ++ [some D])[k]? = some (some b) → (ι'.cs[k]? = some (some b) ∧ b ≠ D) ∨ (k = ι'.cs.length ∧ b = D) := fun k hk => by
      by_cases hl : k < ι'.cs.length
      · rw [List.getElem?_append_left hl] at hk
        exact .inl ⟨hk, fun z => nD (by rw [← z]; exact List.mem_of_getElem? hk)⟩
      · rw [List.getElem?_append_right (Nat.le_of_not_lt hl)] at hk
        cases hq : k - ι'.cs.length with
        | zero => rw [hq] at hk; simp at hk; exact .inr ⟨by omega, hk.symm⟩
        | succ m => rw [hq] at hk; simp at hk
    rcases key i hi with ⟨a1, a2⟩ | ⟨a1, a2⟩
    · rcases key j hj with ⟨b1, b2⟩ | ⟨b1, b2⟩
      · exact s.nd i j b a1 b1
      · exact absurd b2 a2
    · rcases key j hj with ⟨b1, b2⟩ | ⟨b1, b2⟩
      · exact absurd a2 b2
      · omega
  · by_cases hlt : i < μ'.length
    · rw [List.getElem?_append_left hlt] at hc
      obtain ⟨u, h1, h2⟩ := s.cell i c hc
      refine ⟨u, mc i u h1, ?_⟩
      cases c with
      | dead => exact h2
      | lst xs =>
        obtain ⟨b, vs, e1, e2, e3⟩ := h2
        exact ⟨b, vs, e1, e2, RepL.move mv mc xs vs e3⟩
    · rw [List.getElem?_append_right (Nat.le_of_not_lt hlt)] at hc
      cases hq : i - μ'.length with
      | zero =>
        rw [hq] at hc; simp at hc; subst hc
        refine ⟨some D, ?_, D, us, rfl, h, r2⟩
        show (ι'.cs ++ [some D])[i]? = some (some D)
        rw [List.getElem?_append_right (by rw [hl]; omega), hl, hq]; rfl
      | succ m => rw [hq] at hc; simp at hc
  · obtain ⟨h1, xs, h2⟩ := s.hid b (List.mem_cons_of_mem _ hb)
    refine ⟨fun q => ?_, xs, h2⟩
    rcases List.mem_append.mp q with q | q
    · exact h1 q
    · have e : b = D := by simpa using q
      exact nd (.inr (by rw [← e]; exact hb))
theorem Ext.adopt {ι ι' : Io} {H H' : Hp} {D : Addr} (e : Ext ι H ι' H') (h : H D = none) : Ext ι H (ι'.add D) H' :=
  ⟨by simp [Io.add]; have := e.len; omega, fun i hi => by
    rcases e.sub i hi with z | z
    · exact .inl ((List.getElem?_append_left (Nat.lt_of_lt_of_le hi e.len)).trans z)
    · exact .inr ((List.getElem?_append_left (Nat.lt_of_lt_of_le hi e.len)).trans z), e.hid, fun a q => by
    rcases q with q | q
    · rcases List.mem_append.mp q with q | q
      · exact e.own a (.inl q)
      · have e : a = D := by simpa using q
        subst e; exact .inr (Nt.of h)
    · exact e.own a (.inr q), e.keep, e.hkeep⟩
end
end MM

set_option Elab.async false
set_option linter.all false
set_option maxRecDepth 100000
set_option maxHeartbeats 4000000
/-! ## MM: comprehensions as values -/
namespace MM
open PySem PySem.Spec PyProof.Rows L2
section
variable {X : Cx} {T : Tbs} {W : WX} {tg iter elt : Expr} {ifs : List Expr} {scope : Scope} {own : List (Str × Nat)} {pos spos py : Pos} {g : TgM} {c : Ev Bool} {e : Ev MV} {ws : List Nat} {mi : Ev Itm}
abbrev mYes : Ev Bool := mRet true
theorem rts_nil {X : Cx} {T : Tbs} : PTs X [] (tG RB X.K X.mg T W0 mYes) := ⟨fun pins s σ H Q I ⟨ι, ρ, μ, sr, e, h⟩ => pts_nil.run pins s σ H Q I (h true ι H Ext.refl sr rfl)⟩
theorem rts_one {X : Cx} {T : Tbs} {x : Expr} {m : Ev Bool} (h : RT X T W0 x m) : PTs X [x] (tG RB X.K X.mg T W0 m) := pts_one h
abbrev Blk (X : Cx) (scope : Scope) (P : Cx → Prop) : Prop := ∀ (s : Shared) (H : Hp) (C : Addr) (cl : List (Str × Addr)) (fp : List Addr), P (X.blk s H scope (compEnvC scope cl C X.env) fp)
theorem compF : ∀ {K : Frag} {mg : Gm} {σ ι H Q ρ μ' ds}, Post (RV K) K mg T W σ ι H Q (mRet (.lst ds) ρ μ') → ∀ (D : Addr) (vs : List V) (ι' : Io) (H' : Hp), Ext ι H ι' H' → SR K T (ι'.hide D) μ' H' → ¬ Own ι' D → H D = none → H' D = some (.lst vs) → RepL K H' (ι'.hide D) ds vs → Q (.ref D) H' :=
  fun h D vs ι' H' E s nd hn hd r => h _ ι' H' E (SR.done (ι' := ι'.hide D) (D := D) (ι0 := ι') s rfl) (by
    unfold RV RepV
    exact ⟨D, vs, rfl, ⟨Rd.of hd, nd⟩, r.of_hide⟩)
theorem compCF : ∀ {K : Frag} {mg : Gm} {σ ι H Q ρ μ' ds}, Post (RV K) K mg T W σ ι H Q ((fun (_ : Env) (μ : Mem) => Out.ok (MV.ref μ.length) (μ ++ [.lst ds])) ρ μ') → ∀ (D : Addr) (vs : List V) (ι' : Io) (H' : Hp), Ext ι H ι' H' → SR K T (ι'.hide D) μ' H' → ¬ Own ι' D → H D = none → H' D = some (.lst vs) → RepL K H' (ι'.hide D) ds vs → Q (.ref D) H' :=
  fun h D vs ι' H' E s nd hn hd r => h _ (ι'.add D) H' (E.adopt hn) (s.adopt nd hd r) (by
    rw [← s.len]
    exact RepV.cell)
theorem re_comp (hc : X.calm = true) (hN : X.N.Nodup) (hi : RI X T W tg iter mi) (ok : BlkOk X.N X.env.scope scope own) (hw : ∀ i ∈ ws, i ∈ own.map (·.2))
    (hg : Blk X scope fun X => RG X T ws tg g) (ht : Blk X scope fun X => PTs X ifs (tG RB X.K X.mg T W0 c)) (he : Blk X scope fun X => RE X T W0 elt e) (hs : ∀ x, foldedSetIterable iter X.env x = pure x := by intro _; rfl) :
    RE X T W (.ListComp elt [⟨tg, iter, ifs, 0⟩] scope pos) (mComp (own.map (·.2)) mi g c e) :=
  PE.mono (pe_lc hc hN hi ok hg ht he hs) (compM hw (fun ds => mRet (.lst ds)) fun {σ ι H Q ρ μ' ds} h => compF (ρ := ρ) h)
theorem re_compC (hc : X.calm = true) (hN : X.N.Nodup) (hi : RI X T W tg iter mi) (ok : BlkOk X.N X.env.scope scope own) (hw : ∀ i ∈ ws, i ∈ own.map (·.2))
    (hg : Blk X scope fun X => RG X T ws tg g) (ht : Blk X scope fun X => PTs X ifs (tG RB X.K X.mg T W0 c)) (he : Blk X scope fun X => RE X T W0 elt e) (hs : ∀ x, foldedSetIterable iter X.env x = pure x := by intro _; rfl) :
    RE X T W (.ListComp elt [⟨tg, iter, ifs, 0⟩] scope pos) (mCompC (own.map (·.2)) mi g c e) :=
  PE.mono (pe_lc hc hN hi ok hg ht he hs) (compM hw (fun ds => fun _ μ => .ok (.ref μ.length) (μ ++ [.lst ds])) fun {σ ι H Q ρ μ' ds} h => compCF (ρ := ρ) h)
/-- name = [..] -/
theorem s_setComp {i : Nat} {y : Str} {m : Ev MV} (hc : X.calm = true) (hN : X.N.Nodup) (hy : X.N[i]? = some y) (hyl : X.env.scope.names.lookup y = some .local)
    (hsw : swapsWith (.ListComp elt [⟨tg, iter, ifs, 0⟩] scope pos) (some (.Name y py)) spos.line X.env = pure true) (hi : RI X T W tg iter mi) (ok : BlkOk X.N X.env.scope scope own) (hw : ∀ i ∈ ws, i ∈ own.map (·.2))
    (hg : Blk X scope fun X => RG X T ws tg g) (ht : Blk X scope fun X => PTs X ifs (tG RB X.K X.mg T W0 c)) (he : Blk X scope fun X => RE X T W0 elt e)
    (hm : ∀ K mg σ H Q, tG (RV K) K mg T W m σ H Q → tLc (tG (RJ K T) K mg T W mi) (tGt K T ws g) (tG RB K mg T W0 c) (tG (RV K) K mg T W0 e) (own.map (·.2)) σ H Q)
    (hs : ∀ x, foldedSetIterable iter X.env x = pure x := by intro _; rfl) :
    RS X T W (.Assign [.Name y py] (.ListComp elt [⟨tg, iter, ifs, 0⟩] scope pos) spos) (sAsg m (gN i)) :=
  PS.mono (ps_setLc hc hN hy hyl hsw hi ok hg ht he hs) fun D σ H h => hm _ _ _ _ _ (nameM D σ H h)
end
end MM

set_option Elab.async false
set_option linter.all false
set_option maxRecDepth 100000
set_option maxHeartbeats 4000000
/-! ## MM: ranges, reversed, comprehensions over two -/
namespace MM
open PySem PySem.Spec PyProof.Rows L2
/-- lo, lo + c, .. -/
def stepL (lo c : Int) (n : Nat) : List MV := (List.range n).map fun i => MV.int (lo + (i : Nat) * c)
theorem stepL_len (lo c : Int) (n : Nat) : (stepL lo c n).length = n := by simp [stepL]
theorem stepL_get {lo c : Int} {n i : Nat} {d : MV} (h : (stepL lo c n)[i]? = some d) : i < n ∧ d = .int (lo + (i : Nat) * c) := by
  unfold stepL at h
  rw [List.getElem?_map] at h
  by_cases hi : i < n
  · rw [List.getElem?_range hi] at h
    cases h
    exact ⟨hi, rfl⟩
  · rw [List.getElem?_eq_none (by simp; omega)] at h
    cases h
def intsL (lo : Int) (n : Nat) : List MV := (List.range n).map fun i => MV.int (lo + (i : Nat))
theorem intsL_len (lo : Int) (n : Nat) : (intsL lo n).length = n := by simp [intsL]
theorem intsL_get {lo : Int} {n i : Nat} {d : MV} (h : (intsL lo n)[i]? = some d) : i < n ∧ d = .int (lo + (i : Nat)) := by
  unfold intsL at h
  rw [List.getElem?_map] at h
  by_cases hi : i < n
  · rw [List.getElem?_range hi] at h
    cases h
    exact ⟨hi, rfl⟩
  · rw [List.getElem?_eq_none (by simp; omega)] at h
    cases h
def Rg62 (i : Int) : Prop := -(2 ^ 62) ≤ i ∧ i < 2 ^ 62
instance (i : Int) : Decidable (Rg62 i) := by unfold Rg62; exact inferInstance
def rng1 : List MV → Option Itm
  | [.int j] => if Rg62 j then some ⟨intsL 0 j.toNat, []⟩ else none
  | _ => none
def rng2 : List MV → Option Itm
  | [.int i, .int j] => if Rg62 i ∧ Rg62 j then some ⟨intsL i (j - i).toNat, []⟩ else none
  | _ => none
def rng3 : List MV → Option Itm
  | [.int i, .int j, .int (.negSucc 0)] => if Rg62 i ∧ Rg62 j then some ⟨stepL i (-1) (i - j).toNat, []⟩ else none
  | _ => none
def mRng (f : List MV → Option Itm) (ms : Ev (List MV)) : Ev Itm := mB ms fun ds => fun ρ μ => oO (f ds) ρ μ
theorem itr_ok {K : Frag} {T : Tbs} {lo : Int} {n : Nat} {ι : Io} {H : Hp} : ItR K T (Itr lo n) ⟨intsL lo n, []⟩ ι H := fun ι1 μ1 H1 E1 s1 _ =>
  ⟨fun i d h => ⟨(intsL_get h).1, fun x H' ⟨e1, e2⟩ => by
    subst e1
    rw [e2, (intsL_get h).2]
    exact ⟨Ext.refl, s1, RepV.int⟩⟩, by rw [intsL_len]; exact Nat.le_refl _⟩
theorem itc_ok {K : Frag} {T : Tbs} {lo c : Int} {n : Nat} {ι : Io} {H : Hp} : ItR K T (Itc lo c n) ⟨stepL lo c n, []⟩ ι H := fun ι1 μ1 H1 E1 s1 _ =>
  ⟨fun i d h => ⟨(stepL_get h).1, fun x H' ⟨e1, e2⟩ => by
    subst e1
    rw [e2, (stepL_get h).2]
    exact ⟨Ext.refl, s1, RepV.int⟩⟩, by rw [stepL_len]; exact Nat.le_refl _⟩
section
variable {X : Cx} {T : Tbs} {W : WX} {tg a b c : Expr} {p pos : Pos} {ms : Ev (List MV)}
theorem rngM {f : List MV → Option Itm} {R : It → Hp → Prop} {K : Frag} {mg : Gm} {σ : L2.St} {H : Hp} {P : List V → Hp → Prop}
    (hf : ∀ ds vs t ι1 H1, f ds = some t → RepL K H1 ι1 ds vs → (∀ J, (∀ ι H, ItR K T J t ι H) → R J H1) → P vs H1) (h : tG (RJ K T) K mg T W (mRng f ms) σ H R) : tG (RLs K) K mg T W ms σ H P := by
  obtain ⟨ι, ρ, μ, s, e, h⟩ := h
  refine ⟨ι, ρ, μ, s, e, bindr h fun ds vs μ1 ι1 H1 _ E1 s1 r1 h1 => ?_⟩
  cases hd : f ds with
  | none =>
    have h1 : Post (RJ K T) K mg T W σ ι1 H1 R (oO (f ds) ρ μ1) := h1
    rw [hd] at h1; exact h1.elim
  | some t =>
    have h1 : Post (RJ K T) K mg T W σ ι1 H1 R (oO (f ds) ρ μ1) := h1
    rw [hd] at h1
    exact hf ds vs t ι1 H1 hd r1 fun J hJ => h1 J ι1 H1 Ext.refl s1 (hJ _ _)
theorem ri_rng1 (hg : Gl X "range") (hm : X.mg "range" = none) (ha : RA X T W [a] ms) (hs : starEach [a] X.env = [(false, eval a X.env)] := by rfl) : RI X T W tg (.Call (.Name "range" p) [a] [] pos) (mRng rng1 ms) :=
  PI.mono (pi_range1 hg hm ha hs) fun σ H R h => rngM (fun ds vs t ι1 H1 hf r k => by
    unfold rng1 at hf
    split at hf
    · rename_i j
      split at hf
      · rename_i hj
        cases hf
        obtain ⟨v, rr, rfl, h1, h2⟩ := RepL.cons_iff.mp r
        rw [RepL.nil_iff] at h2; subst h2
        cases h1.int_inv
        exact ⟨j, rfl, hj.1, hj.2, k _ fun _ _ => itr_ok⟩
      · cases hf
    · cases hf) h
theorem ri_rng2 (hg : Gl X "range") (hm : X.mg "range" = none) (ha : RA X T W [a, b] ms) (hs : starEach [a, b] X.env = [(false, eval a X.env), (false, eval b X.env)] := by rfl) (hs2 : starEach [b] X.env = [(false, eval b X.env)] := by rfl) : RI X T W tg (.Call (.Name "range" p) [a, b] [] pos) (mRng rng2 ms) :=
  PI.mono (pi_range2 hg hm ha hs hs2) fun σ H R h => rngM (fun ds vs t ι1 H1 hf r k => by
    unfold rng2 at hf
    split at hf
    · rename_i i j
      split at hf
      · rename_i hj
        cases hf
        obtain ⟨v, rr, rfl, h1, h2⟩ := RepL.cons_iff.mp r
        obtain ⟨w, rr, rfl, h3, h4⟩ := RepL.cons_iff.mp h2
        rw [RepL.nil_iff] at h4; subst h4
        cases h1.int_inv
        cases h3.int_inv
        exact ⟨i, j, rfl, ⟨hj.1.1, hj.1.2, hj.2.1, hj.2.2⟩, k _ fun _ _ => itr_ok⟩
      · cases hf
    · cases hf) h
theorem ri_rng3 (hg : Gl X "range") (hm : X.mg "range" = none) (ha : RA X T W [a, b, c] ms) (hs : starEach [a, b, c] X.env = (false, eval a X.env) :: starEach [b, c] X.env := by rfl) (hpl : (backTo pos (starEach [b, c] X.env)).any (·.1) = false := by rfl) : RI X T W tg (.Call (.Name "range" p) [a, b, c] [] pos) (mRng rng3 ms) :=
  PI.mono (pi_range3 hg hm ha hs hpl) fun σ H R h => rngM (fun ds vs t ι1 H1 hf r k => by
    unfold rng3 at hf
    split at hf
    · rename_i i j
      split at hf
      · rename_i hj
        cases hf
        obtain ⟨v, rr, rfl, h1, h2⟩ := RepL.cons_iff.mp r
        obtain ⟨w, rr, rfl, h3, h4⟩ := RepL.cons_iff.mp h2
        obtain ⟨x, rr, rfl, h5, h6⟩ := RepL.cons_iff.mp h4
        rw [RepL.nil_iff] at h6; subst h6
        cases h1.int_inv
        cases h3.int_inv
        cases h5.int_inv
        exact ⟨i, j, _, _, rfl, RgC.neg hj.1.1 hj.1.2 hj.2.1 hj.2.2, k _ fun _ _ => itc_ok⟩
      · cases hf
    · cases hf) h
end
end MM

set_option Elab.async false
set_option linter.all false
set_option maxRecDepth 100000
set_option maxHeartbeats 4000000
/-! ## MM: enumerate and zip over lists and tuples in any mix -/
namespace MM
open PySem PySem.Spec PyProof.Rows L2
def Sk (k : Bool) (K : Frag) (H : Hp) (a : Addr) (xs : List V) : Prop := match k with
  | true => SqL K H a xs
  | false => SqT K H a xs
def ItK (k : Bool) (h : Heap) (it a : Addr) (i : Nat) : Prop := match k with
  | true => h.IsListIter it a i
  | false => h.IsTupleIter it a i
def ObK (k : Bool) (h : Heap) (a : Addr) (its : Array Value) : Prop := match k with
  | true => h.IsList a its
  | false => h.IsTuple a its
def obK (k : Bool) (a : Addr) : Obj := match k with
  | true => { cls := .type "list_iterator", data := .fields #[.ref a, .int 0 0] }
  | false => { cls := .type "tuple_iterator", data := .fields #[.ref a, .int 0 0] }
section
variable {X : Cx} {pins : List (Addr × Obj)} {σ : L2.St} {H : Hp} {s : Shared} {k : Bool} {a it : Addr} {xs ys : List V}
theorem inv_sk (I : Inv X pins σ H s) (h : Sk k X.K H a xs) : ∃ its : List Value, Vals xs its ∧ ObK k s.heap a its.toArray ∧ xs.length ≤ sizeLine := by
  cases k with
  | true =>
    obtain ⟨its, r, p, z⟩ := I.list (show SqL X.K H a xs from h)
    exact ⟨its, r, p.isList, z⟩
  | false =>
    obtain ⟨its, r, p, z⟩ := I.tuple (show SqT X.K H a xs from h)
    exact ⟨its, r, p, z⟩
theorem inv_sk_inj (I : Inv X pins σ H s) (h : Sk k X.K H a xs) (h' : Sk k X.K H a ys) : xs = ys := by
  cases k with
  | true => exact I.list_inj (show SqL X.K H a xs from h) h'
  | false => exact I.tuple_inj (show SqT X.K H a xs from h) h'
theorem drK {prog : Program} {w : World} {A : Around} (k : Bool) (hh : A.handled = none) (it a : Addr) (hne : a ≠ it) (items : Array Value) :
    Draws prog w A it [it, a] items.size (fun i v => items[i]? = some v) (fun i h => ItK k h it a i ∧ ObK k h a items) := by
  cases k with
  | true => exact Draws.list hh it a hne items
  | false => exact Draws.tuple hh it a hne items
theorem bgK (k : Bool) (a : Addr) (items : Array Value) : Begins (.ref a) (obK k a) fun h => ObK k h a items := by
  cases k with
  | true => exact begins_list a items
  | false => exact begins_tuple a items
theorem ItK.new {h : Heap} (e : h.get? it = some (obK k a)) : ItK k h it a 0 := by
  cases k with
  | true => exact ⟨_, e, rfl, rfl⟩
  | false => exact ⟨_, e, rfl, rfl⟩
theorem ItK.obj {h : Heap} {i : Nat} (st : ItK k h it a i) : ∃ o, h.get? it = some o ∧ (o.cls = .type "list_iterator" ∨ o.cls = .type "tuple_iterator") ∧ ∀ v, o.data ≠ .cell v := by
  cases k with
  | true =>
    obtain ⟨o, e, c, d⟩ := st
    exact ⟨o, e, .inl c, fun v z => by rw [d] at z; cases z⟩
  | false =>
    obtain ⟨o, e, c, d⟩ := st
    exact ⟨o, e, .inr c, fun v z => by rw [d] at z; cases z⟩
theorem ItK.at {h h' : Heap} {i : Nat} (st : ItK k h it a i) (e : ∀ o, h.get? it = some o → h'.get? it = some o) : ItK k h' it a i := by
  cases k with
  | true => exact Heap.IsListIter.at st e
  | false => exact Heap.IsTupleIter.at st e
theorem ObK.obj {h : Heap} {its : Array Value} (st : ObK k h a its) : ∃ o, h.get? a = some o ∧ (o.cls = .type "list" ∨ o.cls = .type "tuple") := by
  cases k with
  | true =>
    obtain ⟨o, e, c, d⟩ := st
    exact ⟨o, e, .inl c⟩
  | false =>
    obtain ⟨o, e, c, d⟩ := st
    exact ⟨o, e, .inr c⟩
theorem ty_ne {x y : String} (h : x ≠ y) : (Value.type x) ≠ .type y := fun z => h (by injection z)
theorem ne_cls {h : Heap} {a b : Addr} {o o' : Obj} (e : h.get? a = some o) (e' : h.get? b = some o') (n : o.cls ≠ o'.cls) : a ≠ b := fun z => by
  subst z
  rw [e] at e'; cases e'
  exact n rfl
theorem obk_ne_it {h : Heap} {its : Array Value} {k' : Bool} {i : Nat} {b : Addr} (st : ObK k h a its) (si : ItK k' h it b i) : a ≠ it := by
  obtain ⟨o, e, c⟩ := st.obj
  obtain ⟨o', e', c', _⟩ := si.obj
  refine ne_cls e e' fun z => ?_
  rcases c with c | c <;> rcases c' with c' | c' <;> (rw [c, c'] at z; exact ty_ne (by decide) z)
theorem obk_ne {h : Heap} {its : Array Value} {b : Addr} {o' : Obj} (st : ObK k h a its) (e' : h.get? b = some o') (n1 : o'.cls ≠ .type "list") (n2 : o'.cls ≠ .type "tuple") : b ≠ a := by
  obtain ⟨o, e, c⟩ := st.obj
  refine ne_cls e' e fun z => ?_
  rcases c with c | c
  · exact n1 (z.trans c)
  · exact n2 (z.trans c)
end
/-- the sequence at a as it stands at each turn, each item in a new pair -/
def IteK (k : Bool) (K : Frag) (a : Addr) : It :=
  ⟨fun i H => ∃ (xs : List V) (x : V), Sk k K H a xs ∧ xs[i]? = some x, fun i H v H' => ∃ T x, v = .ref T ∧ H T = none ∧ H' = upd H T (.tup [.int (i : Nat), x]) ∧ ∀ xs, Sk k K H a xs → xs[i]? = some x, fun i H => ∃ xs : List V, Sk k K H a xs ∧ xs.length = i⟩
theorem new_pair {X : Cx} {pins : List (Addr × Obj)} {σ : L2.St} {H : Hp} {s : Shared} {h' : Heap} {ch : List Addr} {T : Addr} {u v : Value} {x y : V} {tk : Nat} (I : Inv X pins σ H s) (hk : ∀ b o, b ∉ ch → s.heap.get? b = some o → h'.get? b = some o) (hf : ∀ b ∈ ch, FpOk X pins H b) (hT : s.heap.objs.size ≤ T)
    (ht : h'.IsTuple T #[u, v]) (rx : RelV x u) (ry : RelV y v) : Inv X pins σ (upd H T (.tup [x, y])) { s with heap := h', toks := tk } := by
  refine I.turnedNew (ch := ch) hk hf hT ⟨by show 2 ≤ sizeLine; decide, [u, v], .cons rx (.cons ry .nil), ?_⟩
  obtain ⟨o, e, c, n, d⟩ := ht
  exact ⟨o, e, c, n, d⟩
theorem turn_enumK {P : Program} {w : World} {K : Frag} {elts : List Expr} {kk : Nat} {tpos : Pos} (k : Bool) (a e it : Addr) :
    Turn P w K (.Tuple elts kk tpos) (IteK k K a) [e, it] e (fun i h => (∃ old, IsEnum h e it ((i : Nat) : Int) old) ∧ ItK k h it a i ∧ e ≠ it) where
  mem := by simp
  obj := fun i h st b hb => by
    obtain ⟨⟨old, he⟩, hit, _⟩ := st
    have e' : b = e ∨ b = it := by simpa using hb
    rcases e' with z | z
    · rw [z]; exact ⟨_, he, fun v q => nomatch q⟩
    · rw [z]
      obtain ⟨o, e1, _, e2⟩ := hit.obj
      exact ⟨o, e1, e2⟩
  keep := fun i h h' st q => let ⟨⟨old, he⟩, hi, hne⟩ := st; ⟨⟨old, q e (by simp) _ he⟩, hi.at fun o z => q it (by simp) o z, hne⟩
  item := by
    intro X hP hw hK hc i pins s σ H E I hf st hg
    subst hP hw hK
    obtain ⟨⟨old, he⟩, hit, hne⟩ := st
    obtain ⟨xs, x, hq, hx⟩ := hg
    obtain ⟨its, rv, p, hz⟩ := inv_sk I hq
    obtain ⟨u, hu, ru⟩ := rv.get hx
    have hai : a ≠ it := obk_ne_it p hit
    have hea : e ≠ a := obk_ne p he (ty_ne (by decide)) (ty_ne (by decide))
    have hu' : its.toArray[i]? = some u := by simpa using hu
    have hi : i < its.toArray.size := (Array.getElem?_eq_some_iff.mp hu').1
    have D := drK (prog := X.prog) (w := X.w) (A := X.A.in1) k (I.ok.hd hc) it a hai its.toArray
    have G := GoesN.enumFrom (elts := elts) (x1 := kk) (pos := tpos) (0 : Int) D e hne (by simp [hne, hea]) (by simp)
    refine G.goes i s _ E hi ⟨⟨old, by rw [Int.zero_add]; exact he⟩, hit, p⟩ fun v h' tk hY hst' hk htk => ?_
    obtain ⟨T, t, x', rfl, hT, hx', hTup⟩ := hY
    rw [hu'] at hx'; cases hx'
    obtain ⟨⟨old', he'⟩, hit', _⟩ := hst'
    have I1 : Inv X pins σ (upd H T (.tup [.int (i : Nat), x])) { s with heap := h', toks := tk } := new_pair (ch := [e, it]) I hk hf hT hTup ⟨t, by rw [Int.zero_add]⟩ ru
    refine ⟨.ref T, _, I1, rfl, ⟨T, x, rfl, I.hok.fresh hT, rfl, fun ys hy => by rw [inv_sk_inj I hy hq]; exact hx⟩, ⟨⟨old', by rw [Int.zero_add] at he'; exact he'⟩, hit', hne⟩, fun b hb => ?_⟩
    have hb' : b < s.heap.objs.size := by
      have e' : b = e ∨ b = it := by simpa using hb
      rcases e' with z | z
      · rw [z]; exact Heap.lt_size he
      · rw [z]
        obtain ⟨o, e1, _⟩ := hit.obj
        exact Heap.lt_size e1
    rw [upd_ne (Nat.ne_of_lt (Nat.lt_of_lt_of_le hb' hT))]
    exact (hf b hb).1
  done := by
    intro X hP hw hK hc i pins s σ H E I hf st hg
    subst hP hw hK
    obtain ⟨⟨old, he⟩, hit, hne⟩ := st
    obtain ⟨xs, hq, hx⟩ := hg
    obtain ⟨its, rv, p, hz⟩ := inv_sk I hq
    have hai : a ≠ it := obk_ne_it p hit
    have hea : e ≠ a := obk_ne p he (ty_ne (by decide)) (ty_ne (by decide))
    have hl : i = its.toArray.size := by rw [← hx, rv.length]; simp
    have D := drK (prog := X.prog) (w := X.w) (A := X.A.in1) k (I.ok.hd hc) it a hai its.toArray
    have G := GoesN.enumFrom (elts := elts) (x1 := kk) (pos := tpos) (0 : Int) D e hne (by simp [hne, hea]) (by simp)
    subst hl
    exact G.stops s (fun s1 => Inv X pins σ H s1) E ⟨⟨old, by rw [Int.zero_add]; exact he⟩, hit, p⟩ fun h' tk hk htk => I.turnedL (t' := tk) (ch := [e, it]) hk hf
  self := fun A i s Q E st h => let ⟨⟨_, he⟩, _⟩ := st; wpAny_pyIter_enum he h
/-- the sequences at a and b as they stand at each turn, the items in new pairs -/
def ItzK (k1 k2 : Bool) (K : Frag) (a b : Addr) : It :=
  ⟨fun i H => ∃ (xs ys : List V) (x y : V), Sk k1 K H a xs ∧ Sk k2 K H b ys ∧ xs[i]? = some x ∧ ys[i]? = some y,
    fun i H v H' => ∃ T x y, v = .ref T ∧ H T = none ∧ H' = upd H T (.tup [x, y]) ∧ (∀ xs, Sk k1 K H a xs → xs[i]? = some x) ∧ ∀ ys, Sk k2 K H b ys → ys[i]? = some y,
    fun i H => ∃ xs ys : List V, Sk k1 K H a xs ∧ Sk k2 K H b ys ∧ min xs.length ys.length = i⟩
structure Sep5 (z TI TO i1 i2 : Addr) : Prop where
  a1 : TI ≠ z
  a2 : TO ≠ z
  a3 : TI ≠ TO
  a4 : TI ≠ i1
  a5 : TI ≠ i2
  a6 : z ≠ i1
  a7 : z ≠ i2
  a8 : TO ≠ i1
  a9 : TO ≠ i2
  a10 : i1 ≠ i2
theorem turn_zipK {P : Program} {w : World} {K : Frag} {elts : List Expr} {kk : Nat} {tpos : Pos} {k1 k2 : Bool} {a b z TI TO i1 i2 : Addr} (S : Sep5 z TI TO i1 i2) :
    Turn P w K (.Tuple elts kk tpos) (ItzK k1 k2 K a b) [z, TI, TO, i1, i2] z (fun i h => IsZip h z TI TO .none ∧ IsTupOf2 h TI (.ref i1) (.ref i2) ∧ (∃ x y, IsTupOf2 h TO x y) ∧ (ItK k1 h i1 a i ∧ TO ≠ a ∧ TI ≠ a) ∧ (ItK k2 h i2 b i ∧ TO ≠ b ∧ TI ≠ b)) where
  mem := by simp
  obj := fun i h st c hc => by
    obtain ⟨hz, hTI, ⟨x, y, hTO⟩, ⟨h1, _⟩, ⟨h2, _⟩⟩ := st
    have e' : c = z ∨ c = TI ∨ c = TO ∨ c = i1 ∨ c = i2 := by simpa using hc
    rcases e' with q | q | q | q | q
    · rw [q]; exact ⟨_, hz, fun v q => nomatch q⟩
    · rw [q]; exact ⟨_, hTI, fun v q => nomatch q⟩
    · rw [q]; exact ⟨_, hTO, fun v q => nomatch q⟩
    · rw [q]; obtain ⟨o, e1, _, e2⟩ := h1.obj; exact ⟨o, e1, e2⟩
    · rw [q]; obtain ⟨o, e1, _, e2⟩ := h2.obj; exact ⟨o, e1, e2⟩
  keep := fun i h h' st k => by
    obtain ⟨hz, hTI, ⟨x, y, hTO⟩, ⟨h1, n1⟩, ⟨h2, n2⟩⟩ := st
    exact ⟨k z (by simp) _ hz, k TI (by simp) _ hTI, ⟨x, y, k TO (by simp) _ hTO⟩, ⟨h1.at fun o q => k i1 (by simp) o q, n1⟩, ⟨h2.at fun o q => k i2 (by simp) o q, n2⟩⟩
  item := by
    intro X hP hw hK hc i pins s σ H E I hf st hg
    subst hP hw hK
    obtain ⟨hz, hTI, ⟨x0, y0, hTO⟩, ⟨h1, n1, m1⟩, ⟨h2, n2, m2⟩⟩ := st
    obtain ⟨xs, ys, x, y, hqx, hqy, hx, hy⟩ := hg
    obtain ⟨its, rv, p, _⟩ := inv_sk I hqx
    obtain ⟨its2, rv2, p2, _⟩ := inv_sk I hqy
    obtain ⟨u, hu, ru⟩ := rv.get hx
    obtain ⟨u2, hu2, ru2⟩ := rv2.get hy
    have hu' : its.toArray[i]? = some u := by simpa using hu
    have hu2' : its2.toArray[i]? = some u2 := by simpa using hu2
    have q1 : i < its.toArray.size := (Array.getElem?_eq_some_iff.mp hu').1
    have q2 : i < its2.toArray.size := (Array.getElem?_eq_some_iff.mp hu2').1
    have hza : z ≠ a := obk_ne p hz (ty_ne (by decide)) (ty_ne (by decide))
    have hzb : z ≠ b := obk_ne p2 hz (ty_ne (by decide)) (ty_ne (by decide))
    have hai1 := obk_ne_it p h1
    have hai2 := obk_ne_it p h2
    have hbi1 := obk_ne_it p2 h1
    have hbi2 := obk_ne_it p2 h2
    have D1 := drK (prog := X.prog) (w := X.w) (A := X.A.in1) k1 (I.ok.hd hc) i1 a hai1 its.toArray
    have D2 := drK (prog := X.prog) (w := X.w) (A := X.A.in1) k2 (I.ok.hd hc) i2 b hbi2 its2.toArray
    have SS : ZipSep2 z TI TO i1 i2 [i1, a] [i2, b] := ⟨S.a1, S.a2, S.a3, S.a4, by simp, by simp [S.a6, hza], by simp [S.a8, n1], S.a5, by simp, by simp [S.a7, hzb], by simp [S.a9, n2], by simp [S.a10, hbi1.symm], by simp [S.a10.symm, hai2.symm]⟩
    have G := GoesN.zip2 (elts := elts) (x1 := kk) (pos := tpos) SS D1 D2
    refine G.goes i s _ E (Nat.lt_min.mpr ⟨q1, q2⟩) ⟨hz, hTI, ⟨x0, y0, hTO⟩, ⟨h1, p⟩, ⟨h2, p2⟩⟩ fun v h' tk hY hst' hk htk => ?_
    obtain ⟨T, v1, v2, rfl, hT, hv1, hv2, hTup⟩ := hY
    rw [hu'] at hv1; cases hv1
    rw [hu2'] at hv2; cases hv2
    obtain ⟨hz', hTI', ⟨x1, y1, hTO'⟩, ⟨h1', _⟩, ⟨h2', _⟩⟩ := hst'
    have I1 : Inv X pins σ (upd H T (.tup [x, y])) { s with heap := h', toks := tk } := new_pair (ch := [z, TI, TO, i1, i2]) I (fun c o hcm q => hk c o (fun m => hcm (by
      simp only [List.mem_cons] at m ⊢
      rcases m with m | m | m | m | m
      · exact .inl m
      · exact .inr (.inr (.inl m))
      · exact .inr (.inr (.inr (.inl m)))
      · exact .inr (.inr (.inr (.inr (.inl m))))
      · cases m)) q) hf hT hTup ru ru2
    refine ⟨.ref T, _, I1, rfl, ⟨T, x, y, rfl, I.hok.fresh hT, rfl, fun l hl => by rw [inv_sk_inj I hl hqx]; exact hx, fun l hl => by rw [inv_sk_inj I hl hqy]; exact hy⟩, ⟨hz', hTI', ⟨x1, y1, hTO'⟩, ⟨h1', n1, m1⟩, ⟨h2', n2, m2⟩⟩, fun c hcm => ?_⟩
    have hlt : c < s.heap.objs.size := by
      have e' : c = z ∨ c = TI ∨ c = TO ∨ c = i1 ∨ c = i2 := by simpa using hcm
      rcases e' with q | q | q | q | q
      · rw [q]; exact Heap.lt_size hz
      · rw [q]; exact Heap.lt_size hTI
      · rw [q]; exact Heap.lt_size hTO
      · rw [q]; obtain ⟨o, e1, _⟩ := h1.obj; exact Heap.lt_size e1
      · rw [q]; obtain ⟨o, e1, _⟩ := h2.obj; exact Heap.lt_size e1
    rw [upd_ne (Nat.ne_of_lt (Nat.lt_of_lt_of_le hlt hT))]
    exact (hf c hcm).1
  done := by
    intro X hP hw hK hc i pins s σ H E I hf st hg
    subst hP hw hK
    obtain ⟨hz, hTI, ⟨x0, y0, hTO⟩, ⟨h1, n1, m1⟩, ⟨h2, n2, m2⟩⟩ := st
    obtain ⟨xs, ys, hqx, hqy, hend⟩ := hg
    obtain ⟨its, rv, p, _⟩ := inv_sk I hqx
    obtain ⟨its2, rv2, p2, _⟩ := inv_sk I hqy
    have hza : z ≠ a := obk_ne p hz (ty_ne (by decide)) (ty_ne (by decide))
    have hzb : z ≠ b := obk_ne p2 hz (ty_ne (by decide)) (ty_ne (by decide))
    have hai1 := obk_ne_it p h1
    have hai2 := obk_ne_it p h2
    have hbi1 := obk_ne_it p2 h1
    have hbi2 := obk_ne_it p2 h2
    have D1 := drK (prog := X.prog) (w := X.w) (A := X.A.in1) k1 (I.ok.hd hc) i1 a hai1 its.toArray
    have D2 := drK (prog := X.prog) (w := X.w) (A := X.A.in1) k2 (I.ok.hd hc) i2 b hbi2 its2.toArray
    have SS : ZipSep2 z TI TO i1 i2 [i1, a] [i2, b] := ⟨S.a1, S.a2, S.a3, S.a4, by simp, by simp [S.a6, hza], by simp [S.a8, n1], S.a5, by simp, by simp [S.a7, hzb], by simp [S.a9, n2], by simp [S.a10, hbi1.symm], by simp [S.a10.symm, hai2.symm]⟩
    have G := GoesN.zip2 (elts := elts) (x1 := kk) (pos := tpos) SS D1 D2
    have hl : i = min its.toArray.size its2.toArray.size := by rw [← hend, rv.length, rv2.length]; simp
    subst hl
    exact G.stops s (fun s1 => Inv X pins σ H s1) E ⟨hz, hTI, ⟨x0, y0, hTO⟩, ⟨h1, p⟩, ⟨h2, p2⟩⟩ fun h' tk hk htk => I.turnedL (t' := tk) (ch := [z, TI, TO, i1, i2]) (fun c o hcm q => hk c o (fun m => hcm (by
      simp only [List.mem_cons] at m ⊢
      rcases m with m | m | m | m | m
      · exact .inl m
      · exact .inr (.inr (.inl m))
      · exact .inr (.inr (.inr (.inl m)))
      · exact .inr (.inr (.inr (.inr (.inl m))))
      · cases m)) q) hf
  self := fun A i s Q E st h => wpAny_pyIter_zip st.1 h
end MM

set_option Elab.async false
set_option linter.all false
set_option maxRecDepth 100000
set_option maxHeartbeats 4000000
/-! ## MM: the calls of enumerate and zip -/
namespace MM
open PySem PySem.Spec PyProof.Rows L2
open AutoSeq1 (wpAny_loadPart')
set_option maxHeartbeats 1000000 in
theorem meets_enum1 {v : Value} {o : Obj} {H : Heap → Prop} (B : Begins v o H) :
    Meets (Builtin.«enumerate.__new__» ⟨[.type "enumerate", v], []⟩) (fun _ R s => H s.heap ∧
      R (.ok (.ret (.ref (s.heap.push o).objs.size))) { s with heap := (s.heap.push o).push { cls := .type "enumerate", data := .fields #[.none, .bool false, .ref s.heap.objs.size, rawInt 0, .none, .none] } }) :=
  .of_wp fun prog w A R s h => by
    obtain ⟨hp, g, d, tk, os⟩ := s; obtain ⟨h1, h⟩ := h
    have hsub := sub_enumerate
    have q1 : ∀ {A' : Around} {E : Value → Shared → Prop} {Q : Value → Shared → Prop}, Q (.ref hp.objs.size) ⟨hp.push o, g, d, tk, os⟩ → wpAny (model prog w) A' (pyIter v) Q E ⟨hp, g, d, tk, os⟩ :=
      fun q => B.iter prog w _ _ ⟨hp, g, d, tk, os⟩ _ h1 q
    wp_walk using q1
    refine wpAny_stack_any fun st => wpAny_pure ?_
    split
    · rename_i c _ _ _ _ _
      cases (c == Value.type "enumerate")
      · wp_walk using q1
        exact ⟨_, rfl, h⟩
      · wp_walk using q1
        exact ⟨_, rfl, h⟩
    · wp_walk using q1
      exact ⟨_, rfl, h⟩
theorem call_enum1 {prog : Program} {w : World} {A : Around} {E : Value → Shared → Prop} {s : Shared} {v : Value} {o : Obj} {H : Heap → Prop} {Q : Value → Shared → Prop} (B : Begins v o H) (h1 : H s.heap)
    (h : ∀ h', IsEnum h' (s.heap.objs.size + 1) s.heap.objs.size 0 .none → h'.get? s.heap.objs.size = some o → h'.objs.size = s.heap.objs.size + 2 →
      (∀ b o, s.heap.get? b = some o → h'.get? b = some o) → Q (.ref (s.heap.objs.size + 1)) { s with heap := h' }) :
    wpAny (model prog w) A (call (.type "enumerate") [v]) Q E s := by
  refine callType_new F.called_enumerate (by decide) (F.typeCall_enumerate_1 _) (F.newCall_enumerate_1 _) (fun obj => F.args_object_init_2 obj _) F.entry_enumerate_new
    (meets_enum1 B) ⟨h1, ?_⟩
  have hz : (s.heap.push o).objs.size = s.heap.objs.size + 1 := Heap.size_push ..
  show _ ∧ _
  rw [hz]
  have he : IsEnum ((s.heap.push o).push { cls := .type "enumerate", data := .fields #[.none, .bool false, .ref s.heap.objs.size, rawInt 0, .none, .none] }) (s.heap.objs.size + 1) s.heap.objs.size 0 .none := by
    have := Heap.get?_push_size (s.heap.push o) (o := { cls := .type "enumerate", data := .fields #[.none, .bool false, .ref s.heap.objs.size, rawInt 0, .none, .none] }) rfl
    rw [hz] at this; exact this
  refine ⟨⟨_, he, rfl⟩, h _ he (Heap.get?_push_of_some _ (Heap.get?_push_size _ B.free)) (by rw [Heap.size_push, hz]) fun b o x => Heap.get?_push_of_some _ (Heap.get?_push_of_some _ x)⟩
section
variable {X : Cx} {T : Tbs} {W : WX} {pos p tpos : Pos} {e e2 : Expr} {elts : List Expr} {kk : Nat} {ms : Ev (List MV)}
theorem pi_enumK {ta : TA} (hg : Gl X "enumerate") (hm : X.mg "enumerate" = none) (ha : PA X [e] ta) (hs : starEach [e] X.env = [(false, eval e X.env)] := by rfl) :
    PI X (.Tuple elts kk tpos) (.Call (.Name "enumerate" p) [e] [] pos) (fun σ H R => ta σ H fun vs H1 => ∃ k a xs, vs = [.ref a] ∧ Sk k X.K H1 a xs ∧ R (IteK k X.K a) H1) := by
  refine ⟨fun pins s σ H R I h => ?_⟩
  refine Call_ (ld_blt I hg hm boot_enumerate (PyProof.Rows.callWith_type1 (thn (ha.run pos pins s σ H _ I h) fun us s1 ⟨vs, H1, I1, r1, q1⟩ => ?_) hs rfl))
  obtain ⟨k, a, xs, ex, hq, q⟩ := q1
  subst ex
  cases r1 with
  | cons r rr =>
    cases rr
    cases r
    obtain ⟨its, rv, p', hz⟩ := inv_sk I1 hq
    refine call_enum1 (bgK k a its.toArray) p' fun h' he hit hsz hk => wpAny_pyIter_enum he ?_
    have I2 : Inv X pins σ H1 { s1 with heap := h' } := I1.kept (t' := s1.toks) hk
    refine ⟨s1.heap.objs.size + 1, [s1.heap.objs.size + 1, s1.heap.objs.size], _, _, H1, rfl, I2, turn_enumK k a (s1.heap.objs.size + 1) s1.heap.objs.size, ⟨⟨.none, he⟩, ItK.new hit, Nat.succ_ne_self _⟩, fun b hb => ?_, q⟩
    have e' : b = s1.heap.objs.size + 1 ∨ b = s1.heap.objs.size := by simpa using hb
    have hle : s1.heap.objs.size ≤ b := by
      rcases e' with z | z
      · rw [z]; exact Nat.le_add_right _ _
      · rw [z]; exact Nat.le_refl _
    exact I1.fpOk hle (I1.hok.fresh hle)
theorem pi_zipK {ta : TA} (hg : Gl X "zip") (hm : X.mg "zip" = none) (ha : PA X [e, e2] ta)
    (hs : starEach [e, e2] X.env = (false, eval e X.env) :: starEach [e2] X.env := by rfl) (hpl : (backTo pos (starEach [e2] X.env)).any (·.1) = false := by rfl) :
    PI X (.Tuple elts kk tpos) (.Call (.Name "zip" p) [e, e2] [] pos) (fun σ H R => ta σ H fun vs H1 => ∃ k1 k2 a b xs ys, vs = [.ref a, .ref b] ∧ Sk k1 X.K H1 a xs ∧ Sk k2 X.K H1 b ys ∧ R (ItzK k1 k2 X.K a b) H1) := by
  refine ⟨fun pins s σ H R I h => ?_⟩
  refine Call_ (ld_blt I hg hm PyProof.Rows.boot_zip (PyProof.Rows.callWith_type1 (thn (ha.run pos pins s σ H _ I h) fun us s1 ⟨vs, H1, I1, r1, q1⟩ => ?_) hs hpl))
  obtain ⟨k1, k2, a, b, xs, ys, ex, hqx, hqy, q⟩ := q1
  subst ex
  cases r1 with
  | cons r rr =>
    cases rr with
    | cons r' rr =>
      cases rr
      cases r
      cases r'
      obtain ⟨its, rv, p1, _⟩ := inv_sk I1 hqx
      obtain ⟨its2, rv2, p2, _⟩ := inv_sk I1 hqy
      have la : a < s1.heap.objs.size := by obtain ⟨o, e1, _⟩ := p1.obj; exact Heap.lt_size e1
      have lb : b < s1.heap.objs.size := by obtain ⟨o, e1, _⟩ := p2.obj; exact Heap.lt_size e1
      have fresh5 : ∀ c, c ∈ [s1.heap.objs.size + 4, s1.heap.objs.size + 2, s1.heap.objs.size + 3, s1.heap.objs.size, s1.heap.objs.size + 1] → FpOk X pins H1 c := fun c hcm => by
        have e' : c = s1.heap.objs.size + 4 ∨ c = s1.heap.objs.size + 2 ∨ c = s1.heap.objs.size + 3 ∨ c = s1.heap.objs.size ∨ c = s1.heap.objs.size + 1 := by simpa using hcm
        have hle : s1.heap.objs.size ≤ c := by
          rcases e' with z | z | z | z | z
          · rw [z]; exact Nat.le_add_right _ _
          · rw [z]; exact Nat.le_add_right _ _
          · rw [z]; exact Nat.le_add_right _ _
          · rw [z]; exact Nat.le_refl _
          · rw [z]; exact Nat.le_add_right _ _
        exact I1.fpOk hle (I1.hok.fresh hle)
      generalize hN : s1.heap.objs.size = N at la lb fresh5
      refine zip_begins2 (bgK k1 a its.toArray) (bgK k2 b its2.toArray) p1 p2 fun h' hz hTI hTO h1 h2 hsz hk => wpAny_pyIter_zip hz ?_
      rw [hN] at hz hTI hTO h1 h2 ⊢
      have I2 : Inv X pins σ H1 { s1 with heap := h' } := I1.kept (t' := s1.toks) hk
      have S : Sep5 (N + 4) (N + 2) (N + 3) N (N + 1) := ⟨by show (N + 2 : Nat) ≠ N + 4; omega, by show (N + 3 : Nat) ≠ N + 4; omega, by show (N + 2 : Nat) ≠ N + 3; omega, by show (N + 2 : Nat) ≠ N; omega, by show (N + 2 : Nat) ≠ N + 1; omega, by show (N + 4 : Nat) ≠ N; omega, by show (N + 4 : Nat) ≠ N + 1; omega, by show (N + 3 : Nat) ≠ N; omega, by show (N + 3 : Nat) ≠ N + 1; omega, by show (N : Nat) ≠ N + 1; omega⟩
      exact ⟨N + 4, [N + 4, N + 2, N + 3, N, N + 1], _, _, H1, rfl, I2, turn_zipK S, ⟨hz, hTI, ⟨_, _, hTO⟩, ⟨ItK.new h1, Nat.ne_of_gt (Nat.lt_add_right 3 la), Nat.ne_of_gt (Nat.lt_add_right 2 la)⟩, ⟨ItK.new h2, Nat.ne_of_gt (Nat.lt_add_right 3 lb), Nat.ne_of_gt (Nat.lt_add_right 2 lb)⟩⟩, fresh5, q⟩
end
end MM

set_option Elab.async false
set_option linter.all false
set_option maxRecDepth 100000
set_option maxHeartbeats 4000000
/-! ## MM: loops over enumerate and zip -/
namespace MM
open PySem PySem.Spec PyProof.Rows L2
theorem seq_stays {K : Frag} {T : Tbs} {ι0 : Io} {μ0 : Mem} {H0 : Hp} {d : MV} {v : V} {t : Itm} (s0 : SR K T ι0 μ0 H0) (r : RepV K H0 ι0 d v) (h : itmOf μ0 d = some t) :
    ∃ k a, v = .ref a ∧ (∃ vs, Sk k K H0 a vs) ∧ ∀ ι μ H, ExtW ι0 H0 ι H → SR K T ι μ H → t.ok μ → ∃ vs, Sk k K H a vs ∧ RepL K H ι t.items vs := by
  cases d with
  | tup xs =>
    cases h
    unfold RepV at r
    obtain ⟨a, vs, e1, f, l⟩ := r
    exact ⟨false, a, e1, ⟨vs, f.sq⟩, fun ι μ H E s _ => ⟨vs, (f.ext E).sq, RepL.ext E _ _ l⟩⟩
  | lst xs =>
    cases h
    unfold RepV at r
    obtain ⟨a, vs, e1, f, l⟩ := r
    exact ⟨true, a, e1, ⟨vs, (.inl f.1 : SqL K H0 a vs)⟩, fun ι μ H E s _ => ⟨vs, (.inl (f.ext E).1 : SqL K H a vs), RepL.ext E _ _ l⟩⟩
  | ref j =>
    obtain ⟨xs, hc, rfl⟩ := Option.map_eq_some_iff.mp h
    obtain ⟨a, e1, q1, st⟩ := itl_ref s0 r hc
    exact ⟨true, a, e1, q1, fun ι μ H E s ok => st ι μ H E s (ok (j, xs) (by simp))⟩
  | _ => cases h
def enumL : Nat → List MV → List MV
  | _, [] => []
  | n, x :: xs => .tup [.int (n : Nat), x] :: enumL (n + 1) xs
theorem enumL_len : ∀ (n : Nat) (xs : List MV), (enumL n xs).length = xs.length
  | _, [] => rfl
  | n, x :: xs => by unfold enumL; rw [List.length_cons, List.length_cons, enumL_len]
theorem enumL_get : ∀ (n : Nat) (xs : List MV) (i : Nat), (enumL n xs)[i]? = (xs[i]?).map fun x => .tup [.int ((n + i : Nat) : Nat), x]
  | _, [], i => by simp [enumL]
  | n, x :: xs, 0 => by simp [enumL]
  | n, x :: xs, i + 1 => by
    unfold enumL
    rw [List.getElem?_cons_succ, List.getElem?_cons_succ, enumL_get (n + 1) xs i]
    have : n + 1 + i = n + (i + 1) := by omega
    rw [this]
def zipL (xs ys : List MV) : List MV := List.zipWith (fun a b => MV.tup [a, b]) xs ys
theorem zipL_len (xs ys : List MV) : (zipL xs ys).length = min xs.length ys.length := by unfold zipL; simp
theorem zipL_get {xs ys : List MV} {i : Nat} {d : MV} (h : (zipL xs ys)[i]? = some d) : ∃ a b, xs[i]? = some a ∧ ys[i]? = some b ∧ d = .tup [a, b] := by
  unfold zipL at h
  rw [List.getElem?_zipWith] at h
  cases ha : xs[i]? with
  | none => rw [ha] at h; cases h
  | some a =>
    cases hb : ys[i]? with
    | none => rw [ha, hb] at h; cases h
    | some b => rw [ha, hb] at h; cases h; exact ⟨a, b, rfl, rfl, rfl⟩
def enumOf (μ : Mem) (ds : List MV) : Option Itm := match ds with
  | [d] => (itmOf μ d).map fun t => ⟨enumL 0 t.items, t.chk⟩
  | _ => none
def zipOf (μ : Mem) (ds : List MV) : Option Itm := match ds with
  | [d1, d2] => match itmOf μ d1, itmOf μ d2 with
    | some t1, some t2 => some ⟨zipL t1.items t2.items, t1.chk ++ t2.chk⟩
    | _, _ => none
  | _ => none
def mItA (f : Mem → List MV → Option Itm) (ms : Ev (List MV)) : Ev Itm := mB ms fun ds => fun ρ μ => oO (f μ ds) ρ μ
def mEnum (ms : Ev (List MV)) : Ev Itm := mItA enumOf ms
def mZip (ms : Ev (List MV)) : Ev Itm := mItA zipOf ms
theorem itA {K : Frag} {mg : Gm} {T : Tbs} {W : WX} {ms : Ev (List MV)} {f : Mem → List MV → Option Itm} {R : It → Hp → Prop} {σ : L2.St} {H : Hp} {P : List V → Hp → Prop}
    (hf : ∀ ds vs t μ1 ι1 H1, SR K T ι1 μ1 H1 → f μ1 ds = some t → RepL K H1 ι1 ds vs → (∀ J, ItR K T J t ι1 H1 → R J H1) → P vs H1) (h : tG (RJ K T) K mg T W (mItA f ms) σ H R) : tG (RLs K) K mg T W ms σ H P := by
  obtain ⟨ι, ρ, μ, s, e, h⟩ := h
  refine ⟨ι, ρ, μ, s, e, bindr h fun ds vs μ1 ι1 H1 _ E1 s1 r1 h1 => ?_⟩
  have h1 : Post (RJ K T) K mg T W σ ι1 H1 R (oO (f μ1 ds) ρ μ1) := h1
  cases hd : f μ1 ds with
  | none => rw [hd] at h1; exact h1.elim
  | some t =>
    rw [hd] at h1
    exact hf ds vs t μ1 ι1 H1 s1 hd r1 fun J hJ => h1 J ι1 H1 Ext.refl s1 hJ
section
variable {X : Cx} {T : Tbs} {W : WX} {pos p tpos : Pos} {e e2 : Expr} {elts : List Expr} {kk : Nat} {ms : Ev (List MV)}
theorem sk_inj {K : Frag} {k : Bool} {H : Hp} {a : Addr} {xs : List V} : Sk k K H a xs → Sk k K H a xs := id
theorem RepV.pair {K : Frag} {T : Tbs} {ι : Io} {μ : Mem} {H : Hp} {p : Addr} {d1 d2 : MV} {x y : V} (s : SR K T ι μ H) (h : H p = none) (r1 : RepV K H ι d1 x) (r2 : RepV K H ι d2 y) : RepV K (upd H p (.tup [x, y])) ι (.tup [d1, d2]) (.ref p) :=
  RepV.tup s h (RepL.cons_iff.mpr ⟨x, [y], rfl, r1, RepL.one r2⟩)
theorem ri_enum (hg : Gl X "enumerate") (hm : X.mg "enumerate" = none) (ha : RA X T W [e] ms) (hs : starEach [e] X.env = [(false, eval e X.env)] := by rfl) : RI X T W (.Tuple elts kk tpos) (.Call (.Name "enumerate" p) [e] [] pos) (mEnum ms) :=
  PI.mono (pi_enumK hg hm ha hs) fun σ H R h => itA (fun ds vs t μ1 ι1 H1 s1 hf r kf => by
    unfold enumOf at hf
    split at hf
    · rename_i d
      obtain ⟨t0, h0, rfl⟩ := Option.map_eq_some_iff.mp hf
      obtain ⟨v, rr, rfl, h1, h2⟩ := RepL.cons_iff.mp r
      rw [RepL.nil_iff] at h2; subst h2
      obtain ⟨k, a, rfl, ⟨us, hu⟩, st⟩ := seq_stays s1 h1 h0
      refine ⟨k, a, us, rfl, hu, kf _ fun ι2 μ2 H2 E2 s2 ok => ?_⟩
      obtain ⟨ws, hw, rl⟩ := st ι2 μ2 H2 E2 s2 ok
      refine ⟨fun i d' hi => ?_, ws, hw, by rw [← rl.len]; exact (enumL_len 0 _).symm⟩
      have hi : (enumL 0 t0.items)[i]? = some d' := hi
      rw [enumL_get] at hi
      obtain ⟨d0, hd0, rfl⟩ := Option.map_eq_some_iff.mp hi
      obtain ⟨x, hx, rx⟩ := rl.get hd0
      refine ⟨⟨ws, x, hw, hx⟩, ?_⟩
      rintro v' H' ⟨P, x', rfl, hP, rfl, hx'⟩
      have := hx' ws hw
      rw [hx] at this; cases this
      refine ⟨Ext.laid hP, s2.laid hP, ?_⟩
      rw [Nat.zero_add]
      exact RepV.pair s2 hP RepV.int rx
    · cases hf) h
theorem ri_zip (hg : Gl X "zip") (hm : X.mg "zip" = none) (ha : RA X T W [e, e2] ms) (hs : starEach [e, e2] X.env = (false, eval e X.env) :: starEach [e2] X.env := by rfl) (hpl : (backTo pos (starEach [e2] X.env)).any (·.1) = false := by rfl) :
    RI X T W (.Tuple elts kk tpos) (.Call (.Name "zip" p) [e, e2] [] pos) (mZip ms) :=
  PI.mono (pi_zipK hg hm ha hs hpl) fun σ H R h => itA (fun ds vs t μ1 ι1 H1 s1 hf r kf => by
    unfold zipOf at hf
    split at hf
    · rename_i d1 d2
      split at hf
      · rename_i t1 t2 h01 h02
        cases hf
        obtain ⟨v, rr, rfl, h1, h2⟩ := RepL.cons_iff.mp r
        obtain ⟨v2, rr, rfl, h3, h4⟩ := RepL.cons_iff.mp h2
        rw [RepL.nil_iff] at h4; subst h4
        obtain ⟨k, a, rfl, ⟨us, hu⟩, st⟩ := seq_stays s1 h1 h01
        obtain ⟨k2, a2, rfl, ⟨us2, hu2⟩, st2⟩ := seq_stays s1 h3 h02
        refine ⟨k, k2, a, a2, us, us2, rfl, hu, hu2, kf _ fun ι2 μ2 H2 E2 s2 ok => ?_⟩
        obtain ⟨ws, hw, rl⟩ := st ι2 μ2 H2 E2 s2 fun q hq => ok q (List.mem_append_left _ hq)
        obtain ⟨ws2, hw2, rl2⟩ := st2 ι2 μ2 H2 E2 s2 fun q hq => ok q (List.mem_append_right _ hq)
        refine ⟨fun i d' hi => ?_, ws, ws2, hw, hw2, by rw [← rl.len, ← rl2.len]; exact (zipL_len _ _).symm⟩
        obtain ⟨b1, b2, hb1, hb2, rfl⟩ := zipL_get hi
        obtain ⟨x, hx, rx⟩ := rl.get hb1
        obtain ⟨y, hy, ry⟩ := rl2.get hb2
        refine ⟨⟨ws, ws2, x, y, hw, hw2, hx, hy⟩, ?_⟩
        rintro v' H' ⟨P, x', y', rfl, hP, rfl, hx', hy'⟩
        have := hx' ws hw
        rw [hx] at this; cases this
        have := hy' ws2 hw2
        rw [hy] at this; cases this
        exact ⟨Ext.laid hP, s2.laid hP, RepV.pair s2 hP rx ry⟩
      · cases hf
    · cases hf) h
end
end MM

set_option Elab.async false
set_option linter.all false
set_option maxRecDepth 100000
set_option maxHeartbeats 4000000
/-! ## MM: functions -/
namespace MM
open PySem PySem.Spec PyProof.Rows L2

/-! ### what leaves a function -/
/-- no cell from n on is meant -/
def okN (n : Nat) : MV → Bool
  | .ref i => decide (i < n)
  | .tup xs => okNs n xs
  | .lst xs => okNs n xs
  | _ => true
where okNs (n : Nat) : List MV → Bool
  | [] => true
  | x :: xs => okN n x && okNs n xs
def okC (n : Nat) : Cell → Bool
  | .dead => true
  | .lst xs => okN.okNs n xs
/-- cells from n on become values -/
def frzN (n : Nat) (μ : Mem) : Nat → MV → MV
  | 0, d => d
  | k + 1, .ref i => if i < n then .ref i else (match μ[i]? with
    | some (.lst xs) => .lst (frzNs n μ k xs)
    | _ => .ref i)
  | k + 1, .tup xs => .tup (frzNs n μ k xs)
  | k + 1, .lst xs => .lst (frzNs n μ k xs)
  | _ + 1, d => d
where frzNs (n : Nat) (μ : Mem) (k : Nat) : List MV → List MV
  | [] => []
  | x :: xs => frzN n μ k x :: frzNs n μ k xs
/-- what leaves: all cells of the function's own go, if nothing means them any more -/
def chopO (n : Nat) : Out MV → Out MV
  | .ok d μ => if okN n (frzN n μ 9 d) && (μ.take n).all (okC n) then .ok (frzN n μ 9 d) (μ.take n) else .ok d μ
  | .exc x μ => if (μ.take n).all (okC n) then .exc x (μ.take n) else .exc x μ
  | .bad => .bad
def chopI (n : Nat) (ι : Io) : Io := ⟨ι.cs.take n, ι.hid⟩
section
variable {K : Frag} {T : Tbs} {ι ι' : Io} {μ : Mem} {H H' : Hp} {n : Nat}
theorem chop_own {a : Addr} (h : Own (chopI n ι) a) : Own ι a := h.elim (fun q => .inl (List.mem_of_mem_take q)) .inr
theorem chop_get {i : Nat} (hi : i < n) : (chopI n ι).cs[i]? = ι.cs[i]? := List.getElem?_take_of_lt hi
mutual
theorem RepV.chop : ∀ (d : MV) (v : V), okN n d = true → RepV K H ι d v → RepV K H (chopI n ι) d v
  | .non, _, _, q => q
  | .bl _, _, _, q => q
  | .int _, _, _, q => q
  | .str _, _, _, q => q
  | .cst _, _, _, q => q
  | .scr ns, v, _, q => by
    unfold RepV at q ⊢
    obtain ⟨a, e1, f⟩ := q
    exact ⟨a, e1, f.elim (fun q => .inl ⟨q.1, fun z => q.2 (chop_own z)⟩) .inr⟩
  | .tup xs, v, o, q => by
    unfold RepV at q ⊢
    unfold okN at o
    obtain ⟨a, vs, e1, f, r⟩ := q
    exact ⟨a, vs, e1, f.elim (fun q => .inl ⟨q.1, fun z => q.2 (chop_own z)⟩) .inr, RepL.chop xs vs o r⟩
  | .lst xs, v, o, q => by
    unfold RepV at q ⊢
    unfold okN at o
    obtain ⟨a, vs, e1, f, r⟩ := q
    exact ⟨a, vs, e1, ⟨f.1, fun z => f.2 (chop_own z)⟩, RepL.chop xs vs o r⟩
  | .ref i, v, o, q => by
    unfold RepV at q ⊢
    unfold okN at o
    rw [chop_get (of_decide_eq_true o)]
    exact q
theorem RepL.chop : ∀ (xs : List MV) (vs : List V), okN.okNs n xs = true → RepL K H ι xs vs → RepL K H (chopI n ι) xs vs
  | [], _, _, q => by rw [RepL.nil_iff] at q ⊢; exact q
  | x :: xs, vs, o, q => by
    rw [RepL.cons_iff] at q ⊢
    unfold okN.okNs at o
    rw [Bool.and_eq_true] at o
    obtain ⟨v, r, e1, h1, h2⟩ := q
    exact ⟨v, r, e1, RepV.chop x v o.1 h1, RepL.chop xs r o.2 h2⟩
end
/-- a value with cells from n on made values, seen where these are no cells -/
theorem rep_frz (s : SR K T ι μ H) : ∀ (k : Nat), (∀ (d : MV) (v : V), okN n (frzN n μ k d) = true → RepV K H ι d v → RepV K H (chopI n ι) (frzN n μ k d) v) ∧
    ∀ (xs : List MV) (vs : List V), okN.okNs n (frzN.frzNs n μ k xs) = true → RepL K H ι xs vs → RepL K H (chopI n ι) (frzN.frzNs n μ k xs) vs := by
  intro k
  induction k with
  | zero =>
    have h1 : ∀ (d : MV) (v : V), okN n (frzN n μ 0 d) = true → RepV K H ι d v → RepV K H (chopI n ι) (frzN n μ 0 d) v := fun d v o q => by
      unfold frzN at o ⊢
      exact RepV.chop d v o q
    refine ⟨h1, fun xs => ?_⟩
    induction xs with
    | nil => intro vs _ q; unfold frzN.frzNs; rw [RepL.nil_iff] at q ⊢; exact q
    | cons x xs ih =>
      intro vs o q
      unfold frzN.frzNs at o ⊢
      unfold okN.okNs at o
      rw [Bool.and_eq_true] at o
      rw [RepL.cons_iff] at q ⊢
      obtain ⟨v, r, e1, a1, a2⟩ := q
      exact ⟨v, r, e1, h1 x v o.1 a1, ih r o.2 a2⟩
  | succ k ihk =>
    obtain ⟨i1, i2⟩ := ihk
    have h1 : ∀ (d : MV) (v : V), okN n (frzN n μ (k + 1) d) = true → RepV K H ι d v → RepV K H (chopI n ι) (frzN n μ (k + 1) d) v := fun d v o q => by
      cases d with
      | ref i =>
        unfold frzN at o ⊢
        split at o
        · rename_i hi
          rw [if_pos hi]
          exact RepV.chop (.ref i) v (by unfold okN; exact decide_eq_true hi) q
        · rename_i hi
          rw [if_neg hi]
          split at o
          · rename_i xs hx
            obtain ⟨a, vs, e, hc, ha, l⟩ := s.cel q hx
            subst e
            unfold okN at o
            unfold RepV
            refine ⟨a, vs, rfl, ⟨Rd.of ha, fun z => ?_⟩, i2 xs vs o l⟩
            rcases z with z | z
            · obtain ⟨j, hj⟩ := List.getElem?_of_mem z
              have hjn : j < n := by
                rcases Nat.lt_or_ge j n with y | y
                · exact y
                · have : (ι.cs.take n)[j]? = none := List.getElem?_eq_none (by simp; omega)
                  rw [show (chopI n ι).cs = ι.cs.take n from rfl, this] at hj; cases hj
              rw [chop_get hjn] at hj
              have := s.nd i j a hc hj
              omega
            · exact (s.hid a z).1 (List.mem_of_getElem? hc)
          · unfold okN at o
            exact absurd (of_decide_eq_true o) hi
      | tup xs =>
        unfold frzN at o ⊢
        unfold okN at o
        unfold RepV at q ⊢
        obtain ⟨a, vs, e1, f, r⟩ := q
        exact ⟨a, vs, e1, f.elim (fun q => .inl ⟨q.1, fun z => q.2 (chop_own z)⟩) .inr, i2 xs vs o r⟩
      | lst xs =>
        unfold frzN at o ⊢
        unfold okN at o
        unfold RepV at q ⊢
        obtain ⟨a, vs, e1, f, r⟩ := q
        exact ⟨a, vs, e1, ⟨f.1, fun z => f.2 (chop_own z)⟩, i2 xs vs o r⟩
      | scr ns => unfold frzN; exact RepV.chop _ v (by unfold okN; rfl) q
      | non => unfold frzN; exact RepV.chop _ v (by unfold okN; rfl) q
      | bl b => unfold frzN; exact RepV.chop _ v (by unfold okN; rfl) q
      | int b => unfold frzN; exact RepV.chop _ v (by unfold okN; rfl) q
      | str b => unfold frzN; exact RepV.chop _ v (by unfold okN; rfl) q
      | cst b => unfold frzN; exact RepV.chop _ v (by unfold okN; rfl) q
    refine ⟨h1, fun xs => ?_⟩
    induction xs with
    | nil => intro vs _ q; unfold frzN.frzNs; rw [RepL.nil_iff] at q ⊢; exact q
    | cons x xs ih =>
      intro vs o q
      unfold frzN.frzNs at o ⊢
      unfold okN.okNs at o
      rw [Bool.and_eq_true] at o
      rw [RepL.cons_iff] at q ⊢
      obtain ⟨v, r, e1, a1, a2⟩ := q
      exact ⟨v, r, e1, h1 x v o.1 a1, ih r o.2 a2⟩
theorem SR.chop (s : SR K T ι μ H) (h : (μ.take n).all (okC n) = true) : SR K T (chopI n ι) (μ.take n) H := by
  rw [List.all_eq_true] at h
  have lt : ∀ {i : Nat} {o : Option Addr}, (chopI n ι).cs[i]? = some o → i < n := fun {i o} e => by
    rcases Nat.lt_or_ge i n with y | y
    · exact y
    · have : (ι.cs.take n)[i]? = none := List.getElem?_eq_none (by simp; omega)
      rw [show (chopI n ι).cs = ι.cs.take n from rfl, this] at e; cases e
  refine ⟨by simp [chopI, s.len], fun i j a hi hj => ?_, fun i c hc => ?_, s.tabs, fun a ha => ?_⟩
  · rw [chop_get (lt hi)] at hi
    rw [chop_get (lt hj)] at hj
    exact s.nd i j a hi hj
  · have hin : i < n := by
      rcases Nat.lt_or_ge i n with y | y
      · exact y
      · rw [List.getElem?_eq_none (by simp; omega)] at hc; cases hc
    have hm := h c (List.mem_of_getElem? hc)
    rw [List.getElem?_take_of_lt hin] at hc
    obtain ⟨o, h1, h2⟩ := s.cell i c hc
    refine ⟨o, by rw [chop_get hin]; exact h1, ?_⟩
    cases c with
    | dead => exact h2
    | lst xs =>
      obtain ⟨a, vs, e1, e2, e3⟩ := h2
      exact ⟨a, vs, e1, e2, RepL.chop xs vs hm e3⟩
  · obtain ⟨h1, h2⟩ := s.hid a ha
    exact ⟨fun z => h1 (List.mem_of_mem_take z), h2⟩
theorem Ext.chop (e : Ext ι H ι' H') (h : ι.cs.length = n) : Ext ι H (chopI n ι') H' :=
  ⟨by simp [chopI]; have := e.len; omega, fun i hi => by rw [chop_get (by omega)]; exact e.sub i hi, e.hid, fun a q => e.own a (chop_own q), e.keep, e.hkeep⟩
end

/-- what a call promises -/
def PostF (K : Frag) (mg : Gm) (T : Tbs) (ι : Io) (H : Hp) (Q : VK) (E : XK) : Out MV → Prop
  | .ok d μ' => ∀ v ι' H', Ext ι H ι' H' → SR K T ι' μ' H' → RepV K H' ι' d v → Q v H'
  | .exc x μ' => ∀ cls dd ι' H', Ext ι H ι' H' → SR K T ι' μ' H' → ExcRep mg x cls dd → E cls dd H'
  | .bad => False
theorem PostF.chop {K : Frag} {mg : Gm} {T : Tbs} {ι : Io} {H : Hp} {Q : VK} {E : XK} {n : Nat} {o : Out MV} (h : PostF K mg T ι H Q E (chopO n o)) (hn : ι.cs.length = n) : PostF K mg T ι H Q E o := by
  cases o with
  | ok d μ =>
    dsimp only [chopO] at h
    split at h
    · rename_i hc
      rw [Bool.and_eq_true] at hc
      exact fun v ι' H' e s r => h v _ H' (e.chop hn) (s.chop hc.2) ((rep_frz s 9).1 d v hc.1 r)
    · exact h
  | exc x μ =>
    dsimp only [chopO] at h
    split at h
    · rename_i hc
      exact fun cls dd ι' H' e s r => h cls dd _ H' (e.chop hn) (s.chop hc) r
    · exact h
  | bad => exact h
abbrev FM := List MV → Mem → Out MV
def spM (K : Frag) (mg : Gm) (T : Tbs) (n : Nat) (F : FM) : Sp := fun vs H Q E => ∃ ι μ ds, SR K T ι μ H ∧ RepL K H ι ds vs ∧ ds.length = n ∧ PostF K mg T ι H Q E (F ds μ)
/-- a function that is F -/
structure FnG (P : Program) (w : World) (K : Frag) (mg : Gm) (base : Heap) (T : Tbs) (k : Nat) (f : Addr) (fd : FuncData) (ps : List Str) (F : FM) : Prop where
  run : ∀ (A : Around) (outer : List PySem.Env) (s : Shared) (H : Hp) (args : Args) (us : List Value) (vs : List V) (Q : VK) (E : XK), Room k A → A.guards = some [] → Env0 P w K mg base A outer s H → BindsTo s fd args (ps.zip us) → Vals vs us → spM K mg T ps.length F vs H Q E →
    codeAny (model P w) A (.call (.ref f) args) (CR (L2N.CX P w) outer P w H s Q E) s
def envS (N : List Str) (ds : List MV) : Env := ds.map some ++ List.replicate (N.length - ds.length) none
def outS : SOut → Out MV
  | .nx _ μ => .ok .non μ
  | .rt d μ => .ok d μ
  | .exc x μ => .exc x μ
  | _ => .bad
/-- a def's own -/
def runF (N : List Str) (b : SM) : FM := fun ds μ => outS (b (envS N ds) μ)
/-- .. without what it made -/
def runC (N : List Str) (b : SM) : FM := fun ds μ => chopO μ.length (outS (b (envS N ds) μ))
theorem envS_start {K : Frag} {H : Hp} {ι : Io} {N : List Str} {ds : List MV} {vs : List V} (r : RepL K H ι ds vs) : EnvR K H ι (envS N ds) (L2.start N vs) := by
  have hl := r.len
  refine ⟨by simp [envS, L2.start, hl], fun i d h => ?_⟩
  unfold envS at h
  unfold L2.start
  rcases Nat.lt_or_ge i ds.length with hi | hi
  · rw [List.getElem?_append_left (by simpa using hi)] at h
    rw [List.getElem?_append_left (by simpa [← hl] using hi)]
    rw [List.getElem?_map] at h ⊢
    cases hd : ds[i]? with
    | none => rw [hd] at h; cases h
    | some d0 =>
      rw [hd] at h
      cases h
      obtain ⟨v, hv, rv⟩ := r.get hd
      exact ⟨v, by rw [hv]; rfl, rv⟩
  · rw [List.getElem?_append_right (by simpa using hi)] at h
    have := List.mem_of_getElem? h
    rw [List.mem_replicate] at this
    cases this.2
abbrev wE (E : XK) : WX := fun cls d _ H => E cls d H
section
variable {P : Program} {w : World} {K : Frag} {mg : Gm} {base : Heap} {T : Tbs} {k : Nat} {f : Addr} {name qual : Str} {params : Arguments} {body : List Stmt} {scope : Scope} {dV kV doc pm cdv ct oc : Value} {an od : Option Addr} {osl : Array (Option Value)} {N ps : List Str} {b : SM}
theorem post_of {ι : Io} {H : Hp} {Q : VK} {E : XK} {o : SOut} (h : PostF K mg T ι H Q E (outS o)) : SPost K mg T (wE E) ι H { nx := fun _ H' => Q .non H', rt := Q } o := by
  cases o with
  | nx ρ μ => exact fun σ' ι' H' e s r => h .non ι' H' e s RepV.non
  | rt d μ => exact fun v ι' H' e s r => h v ι' H' e s r
  | bk ρ μ => exact h.elim
  | ct ρ μ => exact h.elim
  | exc x μ => exact fun cls dd σ' ι' H' e s r => h cls dd ι' H' e s r
  | bad => exact h
theorem FnG.mk' (lk : K.lookup f = some ⟨oc, od, .func (PySem.W.fnOf name qual params body scope dV kV doc pm an cdv ct), osl⟩) (hcd : PySem.W.codeIn K cdv qual = true) (S : FnScope N ps scope)
    (hb : ∀ (A : Around) (outer : List PySem.Env) (s : Shared) (H : Hp) (E : XK), Room k (A.deeper (envOfC qual scope s.heap.objs.size f cdv)) → A.guards = some [] → RSs (cxOf (L2N.CX P w) P w K mg base N qual scope f cdv A outer s H E) T (wE E) body b) :
    FnG P w K mg base T (k + 1) f (PySem.W.fnOf name qual params body scope dV kV doc pm an cdv ct) ps (runF N b) :=
  ⟨fun A outer s H args us vs Q E hr hg e0 hbt r ⟨ι, μ, ds, sr, rl, hl, h⟩ => by
    refine LamX.run_ofS lk hcd S hr e0 hbt r (by rw [← rl.len, hl]) fun hr' => ⟨_, hb A outer s H E hr' hg, ι, envS N ds, μ, sr, envS_start rl, post_of h⟩⟩
/-- the same, chopped -/
theorem FnG.chop {fd : FuncData} (F : FnG P w K mg base T k f fd ps (runF N b)) : FnG P w K mg base T k f fd ps (runC N b) :=
  ⟨fun A outer s H args us vs Q E hr hg e0 hbt r ⟨ι, μ, ds, sr, rl, hl, h⟩ => F.run A outer s H args us vs Q E hr hg e0 hbt r ⟨ι, μ, ds, sr, rl, hl, PostF.chop h sr.len⟩⟩
theorem FnG.mono {fd : FuncData} {F : FM} {j : Nat} (G : FnG P w K mg base T k f fd ps F) (h : k ≤ j) : FnG P w K mg base T j f fd ps F :=
  ⟨fun A outer s H args us vs Q E hr => G.run A outer s H args us vs Q E (hr.mono h)⟩
end
end MM

set_option Elab.async false
set_option linter.all false
set_option maxRecDepth 100000
set_option maxHeartbeats 4000000
/-! ## MM: calls of functions -/
namespace MM
open PySem PySem.Spec PyProof.Rows L2
def mCall (n : Nat) (F : FM) (ms : Ev (List MV)) : Ev MV := mB ms fun ds => fun _ μ => if ds.length = n then F ds μ else .bad
theorem postF_of {K : Frag} {mg : Gm} {T : Tbs} {W : WX} {σ : L2.St} {ι : Io} {H : Hp} {Q : VK} {o : Out MV} (h : Post (RV K) K mg T W σ ι H Q o) : PostF K mg T ι H Q (fun cls d H' => W cls d σ H') o := by
  cases o with
  | ok d μ => exact h
  | exc x μ => exact h
  | bad => exact h
/-- the arguments are as the callee wants them -/
theorem call_args {K : Frag} {mg : Gm} {T : Tbs} {W : WX} {n : Nat} {F : FM} {ms : Ev (List MV)} {σ : L2.St} {H : Hp} {Q : VK} (h : tG (RV K) K mg T W (mCall n F ms) σ H Q) :
    tG (RLs K) K mg T W ms σ H fun vs H1 => vs.length = n ∧ spM K mg T n F vs H1 Q fun cls d H' => W cls d σ H' := by
  obtain ⟨ι, ρ, μ, s, e, h⟩ := h
  refine ⟨ι, ρ, μ, s, e, bindr h fun ds vs μ1 ι1 H1 _ E1 s1 r1 h1 => ?_⟩
  have h1 : Post (RV K) K mg T W σ ι1 H1 Q (if ds.length = n then F ds μ1 else .bad) := h1
  split at h1
  · rename_i hl
    exact ⟨by rw [← RepL.len r1, hl], ι1, μ1, ds, s1, r1, hl, postF_of h1⟩
  · exact h1.elim
section
variable {X : Cx} {T : Tbs} {W : WX} {k : Nat} {f : Addr} {fd : FuncData} {ps : List Str} {F : FM} {x : Str} {p pos : Pos} {e : Expr} {es : List Expr} {ms : Ev (List MV)}
theorem run_G {pins : List (Addr × Obj)} {σ : L2.St} {H : Hp} {s : Shared} {Q : VK} {us : List Value} {vs : List V} (G : FnG X.prog X.w X.K X.mg X.base T k f fd ps F) (hr : Room k X.A) (hgd : X.A.guards = some []) (hb : L2.Binds X.K fd ps []) (tk : L2N.Takes X W)
    (I : Inv X pins σ H s) (r : Vals vs us) (hl : vs.length = ps.length) (h : spM X.K X.mg T ps.length F vs H Q fun cls d H' => W cls d σ H') : wpAny (model X.prog X.w) X.A (call (.ref f) us) (EP X pins σ Q) X.xe s := by
  have hlu : us.length = ps.length := by rw [← r.length]; exact hl
  have b2 := hb s us I.kIn (by rw [List.append_nil]; exact hlu)
  rw [List.append_nil] at b2
  refine wpAny_call (codeAny_mono (G.run X.A X.stack s H ⟨us, []⟩ us vs Q _ hr hgd I.env0 b2 r h) fun r s' hq => ?_)
  cases r with
  | error e => exact tk e s' (L2N.XE.of_call I (fun _ _ _ h => h) hq)
  | ok fl =>
    cases fl with
    | ret u => exact I.after hq
    | next => exact False.elim hq
    | brk => exact False.elim hq
    | cont => exact False.elim hq
theorem re_call (G : FnG X.prog X.w X.K X.mg X.base T k f fd ps F) (hr : Room k X.A) (hgd : X.A.guards = some []) (hg : Gl X x) (hm : X.mg x = some (.ref f)) (hk : PySem.W.keepIn X.K (.ref f) = true) (hb : L2.Binds X.K fd ps []) (tk : L2N.Takes X W)
    (ha : RA X T W (e :: es) ms) (hdb : (x == ("__debug__" : Str)) = false := by decide) (he : starEach (e :: es) X.env = (false, eval e X.env) :: starEach es X.env := by rfl) (hpl : (backTo pos (starEach es X.env)).any (·.1) = false := by rfl) :
    RE X T W (.Call (.Name x p) (e :: es) [] pos) (mCall ps.length F ms) := by
  refine ⟨fun pins s σ H Q I h => ?_⟩
  refine wpAny_Call_Name_kw (ld_glob I hg hm ?_ hdb)
  refine PySem.W.callWith_K (h₀ := X.base) I.ok.mod.kin hk (thn (ha.run pos pins s σ H _ I (call_args h)) fun us s1 ⟨vs, H1, I1, r, q1, q2⟩ => ⟨I1.kIn, ?_⟩) he hpl
  exact run_G G hr hgd hb tk I1 r q1 q2
end
end MM

set_option Elab.async false
set_option linter.all false
set_option maxRecDepth 100000
set_option maxHeartbeats 4000000
/-! ## MM: a comprehension over a range while an exception is handled -/
namespace MM
open PySem PySem.Spec PyProof.Rows L2
/-- X handles the exception at x1, whose record stays -/
def HotP (X : Cx) (q : Addr × Obj) : Prop := L2H.Hot1 X.A q ∧ q ∈ X.pn
section
variable {X : Cx} {q : Addr × Obj} {pins : List (Addr × Obj)} {σ : L2.St} {H : Hp} {s : Shared}
theorem HotP.at_ (c : HotP X q) (J : Inv X pins σ H s) : HotX.HotAt X.A q.1 s.heap := by
  obtain ⟨⟨hh, v1, e1, c1⟩, hp⟩ := c
  exact ⟨hh, q.2, v1, (J.pin q (List.mem_append_left _ hp)).1, e1, c1⟩
/-- a range of small bounds, walked -/
def iHot (ta : TA) : L2.St → Hp → (Nat → Hp → Prop) → Prop := fun σ H R => ta σ H fun vs H1 => ∃ j : Int, vs = [.int j] ∧ -(2 ^ 62) ≤ j ∧ j < 2 ^ 62 ∧ R j.toNat H1
def PIR (X : Cx) (iter : Expr) (wi : L2.St → Hp → (Nat → Hp → Prop) → Prop) : Prop :=
  ∀ (pins : List (Addr × Obj)) (s : Shared) (σ : L2.St) (H : Hp) (R : Nat → Hp → Prop), Inv X pins σ H s → wi σ H R →
    wpAny (model X.prog X.w) X.A (eval iter X.env) (fun v s1 => wpAny (model X.prog X.w) X.A (pyIter v) (fun itv s2 => ∃ (it : Addr) (n : Nat) (H' : Hp), itv = .ref it ∧ Inv X pins σ H' s2 ∧ IsRangeIter s2.heap it 0 n 1 ∧ FpOk X pins H' it ∧ R n H') X.xe s1) X.xe s
theorem pir_range {a : Expr} {ta : TA} {p pos : Pos} (hg : Gl X "range") (hm : X.mg "range" = none) (ha : PA X [a] ta) (hs : starEach [a] X.env = [(false, eval a X.env)] := by rfl) : PIR X (.Call (.Name "range" p) [a] [] pos) (iHot ta) := by
  intro pins s σ H R J h
  refine Call_ (ld_blt J hg hm boot_range (PyProof.Rows.callWith_type1 (thn (ha.run pos pins s σ H _ J h) fun us s1 ⟨vs, H1, J1, r1, q1⟩ => ?_) hs rfl))
  obtain ⟨j, e, b1, b2, q⟩ := q1
  subst e
  cases r1 with
  | cons r rr =>
    cases rr
    obtain ⟨t, rfl⟩ := r
    refine call_range_1 (wpAny_pyIter_range (IsRange.new ..) (small_one (by omega) (by omega) b1 b2) ?_)
    generalize hR : ({ cls := .type "range", data := .fields #[.int 0 _, .int j _, .int 1 _] } : Obj) = orng
    have J2 : Inv X pins σ H1 { s1 with heap := s1.heap.push orng } := J1.kept (t' := s1.toks) fun b o e => Heap.get?_push_of_some _ e
    refine ⟨_, j.toNat, H1, rfl, J2.kept fun b o e => Heap.get?_push_of_some _ e, ?_, J2.fpOk (Nat.le_refl _) (J2.hok.fresh (Nat.le_refl _)), q⟩
    have e2 : ((j.toNat : Nat) : Int) = Builtin.Range.rangeSize 0 j 1 := by rw [rangeSize_one]; split <;> omega
    rw [e2]
    exact Heap.get?_push_size _ rfl
/-- the next number, the end -/
theorem hot_item {x1 it : Addr} {i n : Nat} {A : Around} {P : Program} {w : World} {tg : Expr} {E : Value → Shared → Prop} (J : Inv X pins σ H s) (hf : FpOk X pins H it) (st : IsRangeIter s.heap it ((i : Nat) : Int) ((n : Int) - (i : Nat)) 1) (hi : i < n) :
    wpAny (model X.prog X.w) X.A (pyNext (.ref it)) (fun r s1 => ∃ u, r = some u ∧
      wpAny (model X.prog X.w) X.A (letOwnedTupleGo tg (.ref it) u) (fun _ s2 => Inv X pins σ H s2 ∧ RelV (.int ((i : Nat) : Int)) u ∧ IsRangeIter s2.heap it ((i + 1 : Nat) : Int) ((n : Int) - (i + 1 : Nat)) 1) E s1) E s := by
  obtain ⟨f0, f1, f2, f3, f4, f5⟩ := hf
  refine wpAny_pyNext_range_item st (by omega) fun h' st' sb => ?_
  have st2 : IsRangeIter h' it ((i + 1 : Nat) : Int) ((n : Int) - ((i + 1 : Nat) : Int)) 1 := by
    have e1 : ((i : Nat) : Int) + 1 = ((i + 1 : Nat) : Int) := by omega
    have e2 : (n : Int) - ((i : Nat) : Int) - 1 = (n : Int) - ((i + 1 : Nat) : Int) := by omega
    rw [e1, e2] at st'
    exact st'
  have J1 : Inv X pins σ H { s with heap := h', toks := s.toks + 1 } := J.turned (fun b o hb e => (sb.2 b hb).trans e) f0 f1 f3 f4 f5
  exact ⟨_, rfl, go_of (s := { s with heap := h', toks := s.toks + 1 }) (n := "range_iterator") st2 rfl rfl (by decide) ⟨J1, ⟨s.toks, rfl⟩, st2⟩⟩
theorem hot_done {x1 it : Addr} {i n : Nat} {E : Value → Shared → Prop} (hot : HotX.HotAt X.A x1 s.heap) (J : Inv X pins σ H s) (hf : FpOk X pins H it) (st : IsRangeIter s.heap it ((i : Nat) : Int) ((n : Int) - (i : Nat)) 1) (hi : n ≤ i) :
    wpAny (model X.prog X.w) X.A (pyNext (.ref it)) (fun r s1 => r = none ∧ Inv X pins σ H s1) E s := by
  obtain ⟨f0, f1, f2, f3, f4, f5⟩ := hf
  exact HotX.pyNext_range_end_hot hot st (by omega) fun h' eb => ⟨rfl, J.turned (t' := s.toks) (fun b o _ e => eb b o e) f0 f1 f3 f4 f5⟩
/-- the comprehension's own walk: own copies of what stands in the calm one, for a handled exception -/
theorem hot_core {Q : VK} {elt tg iter : Expr} {ifs : List Expr} {scope : Scope} {own : List (Str × Nat)} {pos pos' : Pos} {wi : L2.St → Hp → (Nat → Hp → Prop) → Prop} {g : TG} {tt : TT} {te : TE} {use : Option (Value → Sem Unit)} {Qf : Value → Shared → Prop}
    (hot : HotP X q) (hN : X.N.Nodup) (J0 : Inv X pins σ H s) (hi : PIR X iter wi) (ok : BlkOk X.N X.env.scope scope own)
    (gB : ∀ (s : Shared) (H : Hp) (C : Addr) (cl : List (Str × Addr)) (fp : List Addr), PG (X.blk s H scope (compEnvC scope cl C X.env) fp) tg g) (tB : ∀ (s : Shared) (H : Hp) (C : Addr) (cl : List (Str × Addr)) (fp : List Addr), PTs (X.blk s H scope (compEnvC scope cl C X.env) fp) ifs tt)
    (eB : ∀ (s : Shared) (H : Hp) (C : Addr) (cl : List (Str × Addr)) (fp : List Addr), PE (X.blk s H scope (compEnvC scope cl C X.env) fp) elt te) (hs : ∀ x, foldedSetIterable iter X.env x = pure x)
    (want : wi σ H fun n H1 => ∀ D, H1 D = none → ∃ W : Nat → Nat → Hp → Prop, (∃ m, W 0 m (upd H1 D (.lst []))) ∧ ∀ i m H, W i m H →
      ((Itr 0 n).stop i H ∧ Q (.ref D) H) ∨ ((Itr 0 n).go i H ∧ ∃ Nx : Hp → Prop, (∀ H', Nx H' → ∃ m', m' < m ∧ W (i + 1) m' H') ∧ ∀ x H', (Itr 0 n).yld i H x H' → g x (L2.wipe σ (own.map (·.2))) H' fun σ2 H2 => L2.wipe σ2 (own.map (·.2)) = L2.wipe σ (own.map (·.2)) ∧ tt σ2 H2 fun b H3 =>
        if b = true then te σ2 H3 fun y H4 => ∃ acc, H4 D = some (.lst acc) ∧ acc.length < sizeLine ∧ Nx (upd H4 D (.lst (acc ++ [y]))) else Nx H3))
    (back : ∀ D C s' m H', Inv X pins σ H' s' → Q (.ref D) H' → s'.heap.Ns C m → FpOk X pins H' C → compPost (model X.prog X.w) X.A X.xe use Qf (.ref D) C (.ok .next) s') :
    wpAny (model X.prog X.w) X.A (comprehension (.ListComp elt [⟨tg, iter, ifs, 0⟩] scope pos) scope X.env pos' (newList []) false (eval iter X.env) use) Qf X.xe s := by
  have frees : ∀ y ∈ scope.names, y.2 = .free → ∃ c, X.env.cells.lookup y.1 = some c := fun y hy e =>
    (ok.free y hy e).elim (fun z => J0.ok.has _ (.inl z)) fun z => J0.ok.has _ (.inr z)
  refine wpAny_comprehension_free (use := use) rfl hs (closure_ok frees) ok.kind (fun y hy e => by rw [ok.uniq y hy, e])
    (thn (hi pins s σ H _ J0 want) fun _ sA hA => thn hA fun itv sB hB => ?_)
  obtain ⟨it, n, HB, e, JB, stB, fB, turnF⟩ := hB
  subst e
  refine wpAny_newObj_type (newEnv_comp ?_) (by show 0 ≤ sizeLine; decide)
  generalize hD : sB.heap.objs.size = D
  have freeD : HB D = none := JB.hok.fresh (Nat.le_of_eq hD)
  obtain ⟨W, ⟨mA, wA⟩, turn⟩ := turnF D freeD
  generalize hsC : ({ sB with heap := sB.heap.push { cls := .type "list", data := .seq ([] : List Value).toArray } } : Shared) = sC
  have heapC : sC.heap = sB.heap.push { cls := .type "list", data := .seq ([] : List Value).toArray } := by rw [← hsC]
  have JC : Inv X pins σ (upd HB D (.lst [])) sC := by
    rw [← hsC]
    refine JB.laid (t' := sB.toks) (fun b o z => Heap.get?_push_of_some _ z) (Nat.le_of_eq hD) ⟨Nat.zero_le _, [], 0, .nil, ?_⟩
    rw [← hD]
    exact Heap.get?_push_size _ rfl
  have itlt : it < sB.heap.objs.size := Heap.lt_size stB
  have fC : FpOk X pins (upd HB D (.lst [])) it ∧ it < sC.heap.objs.size := by
    refine ⟨⟨?_, fB.2⟩, by rw [heapC, Heap.size_push]; exact Nat.lt_succ_of_lt itlt⟩
    rw [upd_ne (by rw [← hD]; exact Nat.ne_of_lt itlt)]
    exact fB.1
  have fC' : ∀ b ∈ [it], FpOk X pins (upd HB D (.lst [])) b ∧ b < sC.heap.objs.size := fun b hb => by
    rw [List.mem_singleton.mp hb]
    exact fC
  have stC : IsRangeIter sC.heap it 0 n 1 := by
    rw [heapC]
    exact Heap.get?_push_of_some _ stB
  have JD := block_start JC ok hN fC'
  have pg := gB sC (upd HB D (.lst [])) sC.heap.objs.size (cellsFrom (sC.heap.objs.size + 1) scope.names (cloFrom X.env.cells scope.names [])) [it]
  have pt := tB sC (upd HB D (.lst [])) sC.heap.objs.size (cellsFrom (sC.heap.objs.size + 1) scope.names (cloFrom X.env.cells scope.names [])) [it]
  have pe := eB sC (upd HB D (.lst [])) sC.heap.objs.size (cellsFrom (sC.heap.objs.size + 1) scope.names (cloFrom X.env.cells scope.names [])) [it]
  show codeAny _ _ (.compStart (.ListComp elt [⟨tg, iter, ifs, 0⟩] scope pos) 0 (.ref it) (.ref D) (compEnvC scope (cellsFrom (sC.heap.objs.size + 1) scope.names (cloFrom X.env.cells scope.names [])) sC.heap.objs.size X.env)) (compPost (model X.prog X.w) X.A X.xe use Qf (.ref D) sC.heap.objs.size) { sC with heap := pushCells (sC.heap.push { cls := .type "dict", data := .dict #[] }) scope.names }
  have itC : (upd HB D (.lst [])) it = none := fC.1.1
  have pinq := JC.pin q (List.mem_append_left _ hot.2)
  generalize hcE : compEnvC scope (cellsFrom (sC.heap.objs.size + 1) scope.names (cloFrom X.env.cells scope.names [])) sC.heap.objs.size X.env = cE at JD pg pt pe ⊢
  have locE : cE.locals = sC.heap.objs.size := by subst hcE; rfl
  generalize hHC : upd HB D (.lst []) = HC at JC JD pg pt pe wA itC fC fC' pinq
  generalize hsD : ({ sC with heap := pushCells (sC.heap.push { cls := .type "dict", data := .dict #[] }) scope.names } : Shared) = sD at JD ⊢
  have stD : IsRangeIter sD.heap it 0 n 1 := by
    rw [← hsD]
    exact pushCells_keeps _ _ _ _ (Heap.get?_push_of_some _ stC)
  have fpB : ∀ {σ' : L2.St} {H' : Hp} {s' : Shared}, Inv (X.blk sC HC scope cE [it]) [] σ' H' s' → H' it = none → FpOk (X.blk sC HC scope cE [it]) [] H' it := fun {σ' H' s'} J' z =>
    ⟨z, (J'.ok.exf it (by simp)).1, J'.ok.exfs it (by simp), .inl (by simp), fun x c e => (J'.ok.exf it (by simp)).2 x c e, fun p hp => absurd (show p ∈ ([] : List (Addr × Obj)) ++ [] from hp) (by simp)⟩
  have itq : q.1 ≠ it := fC.1.2.2.2.2.2 q (List.mem_append_left _ hot.2)
  have hotB : ∀ {σ' : L2.St} {H' : Hp} {s' : Shared}, Inv (X.blk sC HC scope cE [it]) [] σ' H' s' → HotX.HotAt X.A q.1 s'.heap := fun {σ' H' s'} J' => by
    obtain ⟨⟨hh, v1, e1, c1⟩, _⟩ := hot
    obtain ⟨a1, a2, a3, a4, _⟩ := pinq
    exact ⟨hh, q.2, v1, J'.base.keep q.1 q.2 a1 a2 (fun z => (List.mem_cons.mp (JC.stkSub q.1 z)).elim a3 a4) (fun z => itq (List.mem_singleton.mp z)), e1, c1⟩
  have loop : codeAny (model X.prog X.w) X.A (.compLoop (.ListComp elt [⟨tg, iter, ifs, 0⟩] scope pos) 0 (.ref it) (.ref D) cE) (compPost (model X.prog X.w) X.A X.xe use Qf (.ref D) sC.heap.objs.size) sD := by
    refine compLoop_any (fun k s' => ∃ i H', Inv (X.blk sC HC scope cE [it]) [] (L2.wipe σ (own.map (·.2))) H' s' ∧ IsRangeIter s'.heap it ((i : Nat) : Int) ((n : Int) - (i : Nat)) 1 ∧ H' it = none ∧ W i k H') ?_ mA ⟨0, HC, JD, by simpa using stD, itC, wA⟩
    rintro k sE ⟨i, HE, JE, stE, nE, wE'⟩
    rcases turn i k HE wE' with ⟨stop, qq⟩ | ⟨go, Nx, goes, step⟩
    · refine thnF (hot_done (X := X.blk sC HC scope cE [it]) (hotB JE) JE (fpB JE nE) stE stop) fun r sF ⟨hr, JF⟩ => ?_
      subst hr
      have JG : Inv X pins σ HE sF := JC.call' (ch := [it]) JF.os JF.base JF.hok JF.bare fun b hb => ⟨(fC' b hb).1.2.2.2.1, (fC' b hb).1.2.1, (fC' b hb).1.2.2.2.2.1, (fC' b hb).1.2.2.2.2.2⟩
      have nC : HE sC.heap.objs.size = none := by
        have z : HE cE.locals = none := JF.free
        rw [locE] at z
        exact z
      obtain ⟨m, hn, _⟩ := JF.loc
      have hn : sF.heap.Ns cE.locals m := hn
      rw [locE] at hn
      exact back D sC.heap.objs.size sF m HE JG qq hn (JC.fpOk (Nat.le_refl _) nC)
    · refine thnF (hot_item (X := X.blk sC HC scope cE [it]) (tg := tg) (x1 := q.1) (A := X.A) (P := X.prog) (w := X.w) JE (fpB JE nE) stE go) fun r sF ⟨u, hr, hF⟩ => ?_
      subst hr
      refine thnF hF fun _ sG ⟨JG, rG, stG⟩ => ?_
      have objs : ∀ b ∈ [it], ∃ o, sG.heap.get? b = some o ∧ ∀ v, o.data ≠ .cell v := fun b hb => by
        rw [List.mem_singleton.mp hb]
        exact ⟨_, stG, fun v z => by cases z⟩
      have JG' := JG.pinned (fun b hb => by rw [List.mem_singleton.mp hb]; exact fpB JG nE) objs
      refine thnF (pg.run _ sG _ HE (.int ((i : Nat) : Int)) u _ JG' rG (step (.int ((i : Nat) : Int)) HE ⟨rfl, by rw [Int.zero_add]⟩)) fun _ sI ⟨σI, HI, JI, hwI, qI⟩ => ?_
      refine thnF (pt.run _ sI σI HI _ JI qI) fun b sK ⟨HK, JK, qK⟩ => ?_
      have fin : ∀ {s' : Shared} {H' : Hp}, Inv (X.blk sC HC scope cE [it]) ([] ++ pinsAt [it] sG.heap) σI H' s' → Nx H' → ∃ m, m < k ∧ ∃ i H', Inv (X.blk sC HC scope cE [it]) [] (L2.wipe σ (own.map (·.2))) H' s' ∧ IsRangeIter s'.heap it ((i : Nat) : Int) ((n : Int) - (i : Nat)) 1 ∧ H' it = none ∧ W i m H' := fun {s' H'} J' nx => by
        obtain ⟨m', hm, w'⟩ := goes H' nx
        have pz := J'.pin (it, _) (List.mem_append_right _ (List.mem_append_right _ (mem_pinsAt (fp := [it]) (by simp) stG)))
        have hl : (L2.wipe σ (own.map (·.2))).length = σI.length := by rw [← hwI, wipe_length]
        refine ⟨m', hm, i + 1, H', (J'.unpinned (pins := [])).weak hl (fun j v e => ?_), pz.1, pz.2.1, w'⟩
        rw [← hwI] at e
        exact (wipe_some e).1
      cases b with
      | false =>
        simp only [Bool.false_eq_true, if_false] at qK ⊢
        exact fin JK qK
      | true =>
        simp only [if_true] at qK ⊢
        refine thnF (pe.run _ sK σI HK _ JK qK) fun z sL ⟨yv, HL, JL, rL, acc, hDL, hzL, nx⟩ => ?_
        exact app_ok (X := X.blk sC HC scope cE [it]) JL hDL hzL rL fun sM JM => fin JM nx
  exact codeAny_compStart_list loop (wpAny_pyIter_rangeiter stD loop)
end
end MM

set_option Elab.async false
set_option linter.all false
set_option maxRecDepth 100000
set_option maxHeartbeats 4000000
/-! ## MM: lambdas without parameters, called by their name -/
namespace MM
open PySem PySem.Spec PyProof.Rows L2
/-- the names of a lambda's body among the slots of who made it -/
structure LamP (sc scope : Scope) (N N' : List Str) : Prop where
  kind : scope.kind = .function
  co : scope.isCoroutine = false
  gen : scope.isGenerator = false
  cell : ∀ y ∈ scope.names, y.2 ≠ .cell
  own : ∀ y ∈ scope.names, y.2 = .local → y.1 ∉ N'
  free : ∀ y ∈ scope.names, y.2 = .free → sc.names.lookup y.1 = some .cell ∨ sc.names.lookup y.1 = some .free
  len : N'.length = N.length
  same : ∀ (i : Nat) (y : Str), N'[i]? = some y → scope.names.lookup y = some .free → N[i]? = some y
def lamPB (sc scope : Scope) (N N' : List Str) : Bool :=
  decide (scope.kind = .function) && !scope.isCoroutine && !scope.isGenerator && (scope.names.all fun y => !decide (y.2 = .cell) && (!decide (y.2 = .local) || decide (y.1 ∉ N')) && (!decide (y.2 = .free) || decide (sc.names.lookup y.1 = some .cell) || decide (sc.names.lookup y.1 = some .free))) &&
    decide (N'.length = N.length) && ((List.range N'.length).all fun i => match N'[i]? with
      | some y => !decide (scope.names.lookup y = some .free) || decide (N[i]? = some y)
      | none => true)
theorem lamP_by {sc scope : Scope} {N N' : List Str} (h : lamPB sc scope N N' = true) : LamP sc scope N N' := by
  unfold lamPB at h
  simp only [Bool.and_eq_true, Bool.or_eq_true, Bool.not_eq_true', decide_eq_true_eq, decide_eq_false_iff_not, List.all_eq_true] at h
  obtain ⟨⟨⟨⟨⟨h1, h2⟩, h3⟩, h4⟩, h5⟩, h6⟩ := h
  refine ⟨h1, h2, h3, fun y hy => (h4 y hy).1.1, fun y hy e => ((h4 y hy).1.2).elim (fun z => absurd e z) id, fun y hy e => ?_, h5, fun i y e hl => ?_⟩
  · rcases (h4 y hy).2 with (z | z) | z
    · exact absurd e z
    · exact .inl z
    · exact .inr z
  · have hi : i < N'.length := (List.getElem?_eq_some_iff.mp e).1
    have q := h6 i (List.mem_range.mpr hi)
    rw [e] at q
    simp only [Bool.or_eq_true, Bool.not_eq_true', decide_eq_true_eq, decide_eq_false_iff_not] at q
    exact q.elim (fun z => absurd hl z) id
theorem LamP.has {X : Cx} {scope : Scope} {N' : List Str} (L : LamP X.env.scope scope X.N N') (ok : X.Ok) : ∀ y ∈ scope.names, y.2 = .free → ∃ c, X.env.cells.lookup y.1 = some c := fun y hy e =>
  (L.free y hy e).elim (fun k => ok.has _ (.inl k)) fun k => ok.has _ (.inr k)
/-- the context of the lambda's body, entered at s from the frames outer -/
def lamC (X : Cx) (N' : List Str) (A : Around) (outer : List PySem.Env) (s : Shared) (H : Hp) (E : XK) (scope : Scope) (f c' : Addr) : Cx where
  prog := X.prog
  w := X.w
  K := X.K
  mg := X.mg
  base := X.base
  A := A.deeper (LamX.lamEnv X scope s.heap.objs.size f c')
  N := N'
  s_0 := s
  H_0 := H
  env := LamX.lamEnv X scope s.heap.objs.size f c'
  outer := outer
  stack := LamX.lamEnv X scope s.heap.objs.size f c' :: outer
  ex := []
  fn := fun _ => false
  calm := true
  pn := []
  xe := fun e s' => wpAny (model X.prog X.w) (A.deeper (LamX.lamEnv X scope s.heap.objs.size f c')) (leaving (LamX.lamEnv X scope s.heap.objs.size f c') e) (fun _ s'' => L2N.CX X.prog X.w outer H s E e s'') (fun e' s'' => L2N.CX X.prog X.w outer H s E e' s'') s'
section
variable {X : Cx} {pins : List (Addr × Obj)} {σ : L2.St} {H HZ : Hp} {s s1 : Shared} {N' : List Str}
theorem lam_inv {A : Around} {outer : List PySem.Env} {E : XK} {scope : Scope} {f c' : Addr} {h₁ : Heap} {tk : Nat} {mp : Str → Option Value} (J : Inv X pins σ H s) (L : LamP X.env.scope scope X.N N') (e0 : Env0 X.prog X.w X.K X.mg X.base A outer s1 HZ) (hd : A.handled = none)
    (un : Un (frs X.stack) [] H HZ s.heap s1.heap) (hns : h₁.Ns s1.heap.objs.size mp) (kp : ∀ b o, s1.heap.get? b = some o → h₁.get? b = some o) :
    Inv (lamC X N' A outer s1 HZ E scope f c') [] σ HZ { s1 with heap := h₁, toks := tk } := by
  have frees := L.has J.ok
  have orig : ∀ {y c}, (cloFrom X.env.cells scope.names []).lookup y = some c → X.env.cells.lookup y = some c := fun {y c} e => by
    rcases cloFrom_mem (PySem.mem_of_lookup e) with hm | ⟨h1, h2⟩
    · cases hm
    · obtain ⟨c1, hc⟩ := frees _ h1 rfl
      have hc : X.env.cells.lookup y = some c1 := hc
      have e2 : c = c1 := by
        rw [h2, hc] <;> rfl
      rw [e2]
      exact hc
  have found : ∀ {y}, scope.names.lookup y = some .free → ∃ c, (cloFrom X.env.cells scope.names []).lookup y = some c := fun {y} hl => by
    have hy : (y, NameKind.free) ∈ scope.names := PySem.mem_of_lookup hl
    exact mem_lookup (cloFrom_has (cells := X.env.cells) (acc := []) hy)
  have cellIs : ∀ {c : Addr} {v : Option Value}, H c = none → s.heap.IsCell c v → h₁.IsCell c v := fun {c v} n ⟨o, ho, hd⟩ => by
    obtain ⟨sl, q⟩ := un.any ho n (by simp)
    exact ⟨_, kp _ _ q, hd⟩
  have noEx : ∀ b : Addr, b ∉ (lamC X N' A outer s1 HZ E scope f c').ex := fun b z => absurd (show b ∈ ([] : List Addr) from z) (by simp)
  refine ⟨⟨e0.mod, L.kind, rfl, rfl, Nat.le_refl _, fun y z c e1 e2 => J.ok.inj y z c (orig e1) (orig e2), fun y hy => ?_, fun y c z _ => ?_, fun _ => hd, Around.frames_deeper e0.frames, .inr ⟨rfl, rfl⟩, fun b z => absurd z (noEx b), e0.bs, e0.bsz, fun b _ _ => noEx b,
      fun b z => absurd z (noEx b), e0.funs, e0.frf⟩,
    rfl, e0.bare, Un.kept kp, ⟨_, hns, fun i y v e1 e2 e3 => ?_⟩, fun y c e => ?_, e0.hok.fresh (Nat.le_refl _), fun y c e => ?_, fun q hq => absurd (show q ∈ ([] : List (Addr × Obj)) ++ [] from hq) (by simp), e0.hok.kept kp, J.len.trans L.len.symm⟩
  · have hy : scope.names.lookup y = some .cell ∨ scope.names.lookup y = some .free := hy
    rcases hy with hy | hy
    · exact absurd rfl (L.cell _ (PySem.mem_of_lookup hy))
    · exact found hy
  · have z : false = true := z
    cases z
  · have e3 : Vis scope y := e3
    have e1 : N'[i]? = some y := e1
    rcases e3 with k | k | k
    · exact absurd (List.mem_of_getElem? e1) (L.own _ (PySem.mem_of_lookup k) rfl)
    · exact absurd rfl (L.cell _ (PySem.mem_of_lookup k))
    · obtain ⟨m, hn, hl⟩ := J.loc
      have hvis : Vis X.env.scope y := (L.free _ (PySem.mem_of_lookup k) rfl).elim (fun k => .inr (.inl k)) (fun k => .inr (.inr k))
      obtain ⟨w', r, q⟩ := hl i y v (L.same i y e1 k) e2 hvis
      obtain ⟨c2, h2⟩ := found k
      refine ⟨w', r, .inr ⟨.inr k, c2, h2, ?_⟩⟩
      have c1 := orig h2
      rcases q with ⟨k', _⟩ | ⟨_, c3, e', z⟩
      · have k' : X.env.scope.names.lookup y = some .local := k'
        rcases L.free _ (PySem.mem_of_lookup k) rfl with k2 | k2 <;> rw [show X.env.scope.names.lookup y = _ from k2] at k' <;> cases k'
      · rw [c1] at e'
        cases e'
        exact cellIs (J.freeC y _ c1) z
  · obtain ⟨w', z⟩ := J.cell y c (orig e)
    exact ⟨w', cellIs (J.freeC y c (orig e)) z⟩
  · obtain ⟨v, o, ho, hd⟩ := J.cell y c (orig e)
    exact un.free c o ho (J.freeC y c (orig e)) (by simp)
/-- the lambda made: what is tracked is kept but for the tables -/
theorem ext_of {K : Frag} {T : Tbs} {ι : Io} {μ : Mem} {H1 : Hp} (s : SR K T ι μ H) (e : LamX.ExtN H H1) : Ext ι H ι H1 :=
  ⟨Nat.le_refl _, fun _ _ => .inl rfl, rfl, fun _ h => .inl h, fun a o h _ n => e a o h n, fun a o m h => by
    obtain ⟨_, xs, q⟩ := s.hid a m
    rw [q] at h; cases h
    exact e a _ q fun ps z => by cases z⟩
theorem sr_of {K : Frag} {T : Tbs} {ι : Io} {μ : Mem} {H1 : Hp} (s : SR K T ι μ H) (e : LamX.ExtN H H1) (t : LamX.Tabs T H1) : SR K T ι μ H1 :=
  ⟨s.len, s.nd, fun i c hc => by
    obtain ⟨o, h1, h2⟩ := s.cell i c hc
    exact ⟨o, h1, h2.ext (ext_of s e) fun b xs _ hb => e b _ hb fun ps z => by cases z⟩, t, fun a m => by
    obtain ⟨h1, xs, q⟩ := s.hid a m
    exact ⟨h1, xs, e a _ q fun ps z => by cases z⟩⟩
/-- a(): the lambda that a def got. Z: that def's context, entered at s -/
theorem act_lam {Ez : XK} {Ng : List Str} {qg : Str} {sg : Scope} {g f c' : Addr} {cdg pm ctv : Value} {params : Arguments} {body : Expr} {scope : Scope} {k i : Nat} {a : Str} {pn : List (Addr × Obj)} {xe : Value → Shared → Prop} {W : WX} {tb : XK → TE} {p1 p2 : Pos}
    (J : Inv X pins σ H s) (L : LamP X.env.scope scope X.N N') (hf : s.heap.get? f = some (PySem.W.kla_obj "<lambda>" (X.env.qual ++ "<lambda>") params body scope (cloFrom X.env.cells scope.names []) pm c' ctv)) (hfn : H f = none) (hfr : f ∉ frs X.stack)
    (hown : ∀ y ∈ scope.names, y.2 ≠ .local)
    (hbind : bindArgs (PySem.W.kla_fn "<lambda>" (X.env.qual ++ "<lambda>") params body scope (cloFrom X.env.cells scope.names []) pm (.ref c') ctv) ⟨[], []⟩ = pure [])
    (tk : L2N.Takes ((cxOf (L2N.CX X.prog X.w) X.prog X.w X.K X.mg X.base Ng qg sg g cdg X.A X.stack s H Ez).tr pn xe) W) (hr : Room (k + 1) (X.A.deeper (envOfC qg sg s.heap.objs.size g cdg))) (hgd : X.A.guards = some [])
    (hbody : ∀ (A : Around) (outer : List PySem.Env) (s : Shared) (H : Hp) (E : XK), Room k (A.deeper (LamX.lamEnv X scope s.heap.objs.size f c')) → A.guards = some [] → PE (lamC X N' A outer s H E scope f c') body (tb E))
    (hN : Ng[i]? = some a) (hv : Vis sg a) (hd : (a == ("__debug__" : Str)) = false := by decide) (hcd : (a == ("__classdict__" : Str)) = false := by decide) :
    PE ((cxOf (L2N.CX X.prog X.w) X.prog X.w X.K X.mg X.base Ng qg sg g cdg X.A X.stack s H Ez).tr pn xe) (.Call (.Name a p1) [] [] p2)
      (fun σZ HZ Q => σZ[i]? = some (some (.ref f)) ∧ HZ c' = some (LamX.CodeO c' (X.env.qual ++ "<lambda>")) ∧ tb (fun cls d H' => W cls d σZ H') σ HZ Q) := by
  refine ⟨fun pinsZ sZ σZ HZ Q JZ h => ?_⟩
  obtain ⟨hs, hc, ht⟩ := h
  refine wpAny_Call_Name_kw (thn ((pe_var (pos := p1) (i := i) hN hv hd hcd).run pinsZ sZ σZ HZ (fun v H1 => v = .ref f ∧ H1 = HZ) JZ ⟨.ref f, hs, rfl, rfl⟩) fun u s2 ⟨v, H1, J1, r1, q1⟩ => ?_)
  obtain ⟨ev, eH⟩ := q1
  subst ev
  rw [eH] at J1
  obtain rfl : u = Value.ref f := r1
  have there : s2.heap.get? f = some (PySem.W.kla_obj "<lambda>" (X.env.qual ++ "<lambda>") params body scope (cloFrom X.env.cells scope.names []) pm c' ctv) := J1.base.keep f _ hf hfn hfr (fun z => nomatch (show f ∈ ([] : List Addr) from z))
  refine PySem.W.callWith_F0 ⟨_, _, _, _, there⟩ ?_
  have un : Un (frs X.stack) [] H HZ s.heap s2.heap := J1.base
  obtain ⟨⟨oc, vs, t, hoc, hdc, hvc⟩, _, _⟩ := J1.hok c' _ hc
  have rc : codeAny (model X.prog X.w) (X.A.deeper (envOfC qg sg s.heap.objs.size g cdg)) (.call (.ref f) ⟨[], []⟩) (CR (L2N.CX X.prog X.w) (envOfC qg sg s.heap.objs.size g cdg :: X.stack) X.prog X.w HZ s2 Q (fun cls d H' => W cls d σZ H')) s2 := by
    refine PySem.W.kla_callFunE hr.depth there rfl L.co L.gen rfl ⟨c', oc, vs, t, rfl, hoc, hdc, hvc⟩ ?_
    rw [hbind]
    refine wpAny_pure (wpAny_newFunctionEnv L.cell (fun y hy => absurd hy (by simp)) (fun h₁ hns hsb => ⟨J1.nolimit.fresh _ hsb, ?_⟩) L.kind)
    show codeAny _ _ (.expr body (LamX.lamEnv X scope s2.heap.objs.size f c')) _ _
    have kp : ∀ b o, s2.heap.get? b = some o → h₁.get? b = some o := fun b o e => hsb.extBut b o (Nat.ne_of_lt (Heap.lt_size e)) (Heap.get?_push_of_some _ e)
    have J3 : Inv (lamC X N' (X.A.deeper (envOfC qg sg s.heap.objs.size g cdg)) (envOfC qg sg s.heap.objs.size g cdg :: X.stack) s2 HZ (fun cls d H' => W cls d σZ H') scope f c') [] σ HZ { s2 with heap := h₁, toks := s2.toks + ([] : List (Str × Value)).length } :=
      lam_inv J L J1.env0 hr.hd un hns kp
    refine PySem.W.kla_codeExpr (wpAny_mono ((hbody _ _ s2 HZ _ (hr.deeper _) hgd).run [] _ _ HZ Q J3 ht) (fun v s' hq => ?_) fun e s' hq => hq)
    obtain ⟨w', H', J', rv, q⟩ := hq
    exact ⟨w', H', J'.os, J'.bare, J'.base, J'.hok, rv, q⟩
  refine wpAny_call (codeAny_mono rc fun r s' hq => ?_)
  cases r with
  | error e => exact tk e s' (L2N.XE.of_call J1 (fun _ _ _ h => h) hq)
  | ok fl =>
    cases fl with
    | ret u => exact J1.after hq
    | next => exact False.elim hq
    | brk => exact False.elim hq
    | cont => exact False.elim hq
end
end MM

set_option Elab.async false
set_option linter.all false
set_option maxRecDepth 100000
set_option maxHeartbeats 4000000
/-! ## MM: what a def tells of a lambda's end -/
namespace MM
open PySem PySem.Spec PyProof.Rows L2
/-! ### rules of the suite -/
theorem in_lookup {β : Type} {a : Nat} {b : β} : ∀ {l : List (Nat × β)}, l.lookup a = some b → (a, b) ∈ l
  | [], h => by cases h
  | (x, y) :: r, h => by
    unfold List.lookup at h
    split at h
    · rename_i e
      cases h
      have : a = x := by simpa using e
      rw [this]; exact List.mem_cons_self
    · exact List.mem_cons_of_mem _ (in_lookup h)
theorem mB_assoc {α β γ : Type} {m : Ev α} {f : α → Ev β} {g : β → Ev γ} : mB (mB m f) g = mB m (fun a => mB (f a) g) := by
  funext ρ μ
  unfold mB
  cases m ρ μ <;> rfl
theorem rng1_some {ds : List MV} {t : Itm} (h : rng1 ds = some t) : ∃ j : Int, ds = [.int j] ∧ Rg62 j ∧ t = ⟨intsL 0 j.toNat, []⟩ := by
  unfold rng1 at h
  split at h
  · rename_i j
    split at h
    · rename_i hj
      cases h
      exact ⟨j, rfl, hj, rfl⟩
    · cases h
  · cases h
section
variable {X : Cx} {T : Tbs} {W : WX} {tg iter elt : Expr} {ifs : List Expr} {scope : Scope} {own : List (Str × Nat)} {pos spos py : Pos} {g : TgM} {c : Ev Bool} {e : Ev MV} {ws : List Nat} {q : Addr × Obj} {ms : Ev (List MV)}
/-- name = [.. for .. in range(..)] -/
theorem s_setHot {i : Nat} {y : Str} {a : Expr} {p rpos : Pos} (hot : HotP X q) (hN : X.N.Nodup) (hy : X.N[i]? = some y) (hyl : X.env.scope.names.lookup y = some .local)
    (hsw : swapsWith (.ListComp elt [⟨tg, .Call (.Name "range" p) [a] [] rpos, ifs, 0⟩] scope pos) (some (.Name y py)) spos.line X.env = pure true) (hgr : Gl X "range") (hmr : X.mg "range" = none) (ha : RA X T W [a] ms)
    (ok : BlkOk X.N X.env.scope scope own) (hw : ∀ i ∈ ws, i ∈ own.map (·.2))
    (hg : Blk X scope fun X => RG X T ws tg g) (ht : Blk X scope fun X => PTs X ifs (tG RB X.K X.mg T W0 c)) (he : Blk X scope fun X => RE X T W0 elt e) (hsa : starEach [a] X.env = [(false, eval a X.env)] := by rfl)
    (hs : ∀ x, foldedSetIterable (.Call (.Name "range" p) [a] [] rpos) X.env x = pure x := by intro _; rfl) :
    RS X T W (.Assign [.Name y py] (.ListComp elt [⟨tg, .Call (.Name "range" p) [a] [] rpos, ifs, 0⟩] scope pos) spos) (sAsg (mComp (own.map (·.2)) (mRng rng1 ms) g c e) (gN i)) := by
  refine ⟨fun pins s σ H D J h => ?_⟩
  rw [exec_Assign_Name_used _ _ _ _ hsw]
  refine wpAny_bind (wpAny_standAt (wpAny_bind ?_))
  show wpAny _ X.A (do let _ ← comprehension (.ListComp elt [⟨tg, .Call (.Name "range" p) [a] [] rpos, ifs, 0⟩] scope pos) scope X.env (firstIterPos [⟨tg, .Call (.Name "range" p) [a] [] rpos, ifs, 0⟩] pos) (newList []) false (eval (.Call (.Name "range" p) [a] [] rpos) X.env) (some (assign (.Name y py) X.env))) _ _ s
  obtain ⟨ι, ρ, μ, sr, en, h⟩ := nameM D σ H h
  have h : Post (RV X.K) X.K X.mg T W σ ι H (fun x H1 => gName i x σ H1 D.nx) (mB ms (fun ds => mB (fun ρ μ => oO (rng1 ds) ρ μ) (fun t => mB (fun ρ μ => oOm (compT t g c e (wipeE ρ (own.map (·.2))) μ)) (fun ds => mRet (.lst ds)))) ρ μ) := by
    unfold mComp mCompL mRng at h
    rw [mB_assoc, mB_assoc] at h
    exact h
  have want : iHot (tG (RLs X.K) X.K X.mg T W ms) σ H fun n H1 => ∀ D' , H1 D' = none → ∃ W : Nat → Nat → Hp → Prop, (∃ m, W 0 m (upd H1 D' (.lst []))) ∧ ∀ i' m H, W i' m H →
      ((Itr 0 n).stop i' H ∧ gName i (.ref D') σ H D.nx) ∨ ((Itr 0 n).go i' H ∧ ∃ Nx : Hp → Prop, (∀ H', Nx H' → ∃ m', m' < m ∧ W (i' + 1) m' H') ∧ ∀ x H', (Itr 0 n).yld i' H x H' → tGt X.K T ws g x (L2.wipe σ (own.map (·.2))) H' fun σ2 H2 => L2.wipe σ2 (own.map (·.2)) = L2.wipe σ (own.map (·.2)) ∧ tG RB X.K X.mg T W0 c σ2 H2 fun b H3 =>
        if b = true then tG (RV X.K) X.K X.mg T W0 e σ2 H3 fun y H4 => ∃ acc, H4 D' = some (.lst acc) ∧ acc.length < sizeLine ∧ Nx (upd H4 D' (.lst (acc ++ [y]))) else Nx H3) :=
    ⟨ι, ρ, μ, sr, en, bindr h fun ds vs μ1 ι1 H1 _ E1 s1 r1 h1 => by
      unfold mB at h1
      dsimp only at h1
      cases hr : rng1 ds with
      | none => rw [hr] at h1; exact h1.elim
      | some t =>
        rw [hr] at h1
        obtain ⟨j, rfl, hj, rfl⟩ := rng1_some hr
        obtain ⟨v, rr, rfl, b1, b2⟩ := RepL.cons_iff.mp r1
        rw [RepL.nil_iff] at b2; subst b2
        cases b1.int_inv
        refine ⟨j, rfl, hj.1, hj.2, ?_⟩
        dsimp only [oO] at h1
        cases hc : compT ⟨intsL 0 j.toNat, []⟩ g c e (wipeE ρ (own.map (·.2))) μ1 with
        | none => rw [hc] at h1; exact h1.elim
        | some pr =>
          obtain ⟨ds, μ'⟩ := pr
          rw [hc] at h1
          unfold compT at hc
          split at hc
          · rename_i hl
            exact comp_core (K := X.K) (mg := X.mg) (Q := fun v H1 => gName i v σ H1 D.nx) hw s1 (en.ext E1) (itr_ok (K := X.K) (T := T) (ι := ι1) (H := H1)) ds μ' hl hc (compF (ρ := ρ) h1)
          · cases hc⟩
  refine wpAny_bind (thn (hot_core (Q := fun v H1 => gName i v σ H1 D.nx) (Qf := fun _ s' => SP X pins D .next s') hot hN J (pir_range hgr hmr ha hsa) ok hg ht he hs want fun L C s' m H' J' q hn f => ?_) fun _ s' hq => wpAny_pure (wpAny_pure hq))
  show wpAny _ _ (assign (.Name y py) X.env (.ref L)) _ _ _
  refine wpAny_assign_Name (store_ok2 (v := V.ref L) J' hN hy (.inl hyl) rfl (fun s2 J2 ⟨a, sb, ha⟩ => ?_) (.inr hyl))
  obtain ⟨f0, f1, f2, f3, f4, f5⟩ := f
  have apart : C ≠ a := by
    rcases ha with z | z
    · rw [z]; exact f1
    · exact fun e => f4 y a z e.symm
  refine ⟨m, hn.sameBut sb apart, fun h3 sb3 => ?_⟩
  exact ⟨_, H', J2.turned (t' := s2.toks) (fun b o hb e => (sb3.2 b hb).trans e) f0 f1 f3 f4 f5, q⟩
/-- isinstance(e, c) of the exception that is held, of the class at D; bs tells of classes -/
def isEM (bs : List (Addr × Bool)) (a : Addr) : OpC := fun _ ds => match ds with
  | [.cst (.ref b), .cst (.ref C)] => if b = a then (bs.lookup C).map .bl else none
  | _ => none
theorem c_isE {D a : Addr} {oe : Obj} {pn : List (Addr × Obj)} {bs : List (Addr × Bool)} (C : ExcC X.K D) (hz : Zc (.ref D) none oe) (hf : ∃ vs, oe.data = .fields vs) (hk : ∀ p ∈ bs, PySem.W.kitOne X.K (.ref D) (.ref p.1) = some p.2) :
    CallR (X.suite a ((a, oe) :: pn)) (.builtin "isinstance") (rC X.K T (isEM bs a)) := by
  intro pins s σ H xs us Q J r h
  refine call_isE C hz hf pins s σ H xs us Q J r ?_
  obtain ⟨ι, μ, ds, sr, rl, d, hd, k⟩ := h
  unfold isEM at hd
  split at hd
  · rename_i b C'
    split at hd
    · rename_i hb
      subst hb
      obtain ⟨bo, hl, rfl⟩ := Option.map_eq_some_iff.mp hd
      obtain ⟨v, rr, rfl, b1, b2⟩ := RepL.cons_iff.mp rl
      obtain ⟨v2, rr, rfl, b3, b4⟩ := RepL.cons_iff.mp b2
      rw [RepL.nil_iff] at b4; subst b4
      cases b1.cst_inv
      cases b3.cst_inv
      exact ⟨.ref C', .ref C', bo, rfl, fun u e => e, hk (C', bo) (in_lookup hl), k _ H Ext.refl sr RepV.bl⟩
    · cases hd
  · cases hd
end
end MM

set_option Elab.async false
set_option linter.all false
set_option maxRecDepth 100000
set_option maxHeartbeats 4000000
/-! ## MM: told(lambda: body) -/
namespace MM
open PySem PySem.Spec PyProof.Rows L2
/-- an error's name: its class, what it is told as -/
structure Kind where
  name : Str
  cls : Addr
  told : Str
abbrev NoX : XK := fun _ _ _ => False
def kindOf (ks : List Kind) (x : Str) : Option Str := (ks.find? fun k => decide (k.name = x)).map (·.told)
/-- what is told of m's end -/
def toldO (ks : List Kind) : Out MV → Out MV
  | .ok d μ => .ok (.tup [.str "told", d]) μ
  | .exc x μ => match kindOf ks x.name with
    | some k => .ok (.tup [.str k]) μ
    | none => .bad
  | .bad => .bad
def mTold (ks : List Kind) (m : Ev MV) : Ev MV := fun ρ μ => toldO ks (m ρ μ)
/-- the frame of the def that tells -/
abbrev toldX (X : Cx) (Ng : List Str) (x : Str) (sg : Scope) (g : Addr) (cdv : Value) (s : Shared) (H : Hp) : Cx := cxOf (L2N.CX X.prog X.w) X.prog X.w X.K X.mg X.base Ng x sg g cdv X.A X.stack s H NoX
theorem PSs.ex {α : Type} {X : Cx} {e : List Stmt} {t : α → TS} (h : ∀ a, PSs X e (t a)) : PSs X e (fun D σ H => ∃ a, t a D σ H) := ⟨fun pins s σ H D I ⟨a, q⟩ => (h a).run pins s σ H D I q⟩
theorem PSs.and {p : Prop} {X : Cx} {e : List Stmt} {t : TS} (h : p → PSs X e t) : PSs X e (fun D σ H => p ∧ t D σ H) := ⟨fun pins s σ H D I ⟨a, q⟩ => (h a).run pins s σ H D I q⟩
theorem kindOf_some {ks : List Kind} {x k : Str} (h : kindOf ks x = some k) : ∃ kd ∈ ks, kd.name = x ∧ kd.told = k := by
  unfold kindOf at h
  obtain ⟨kd, h1, h2⟩ := Option.map_eq_some_iff.mp h
  have h3 := List.find?_some h1
  exact ⟨kd, List.mem_of_find?_eq_some h1, of_decide_eq_true h3, h2⟩
section
variable {X : Cx} {T : Tbs} {W : WX}
/-- told(lambda: body): Zs, the suite's reading for each kind -/
theorem re_told {ks : List Kind} {x a ce en : Str} {g c P CS : Addr} {k j kt : Nat} {pg : Arguments} {b₀ : Stmt} {suite : List Stmt} {sg : Scope} {dV kV doc pm cdv ct oc : Value} {an od : Option Addr} {osl : Array (Option Value)} {Ng : List Str} {N' : List Str}
    {params : Arguments} {body : Expr} {scope : Scope} {mb : Ev MV} {p lpos pos p1 p2 p3 p4 p5 p6 p7 p8 : Pos} {sm : Addr → Kind → SM}
    (hg : Gl X x) (hm : X.mg x = some (.ref g)) (hk : PySem.W.keepIn X.K (.ref g) = true)
    (lk : X.K.lookup g = some ⟨oc, od, .func (PySem.W.fnOf x x pg [.Try [.Return (some (.Tuple [.Constant (.str "told") j p3, .Call (.Name a p1) [] [] p2] kt p4)) p5] [.ExceptHandler (some (.Name ce p6)) (some en) (b₀ :: suite) p7] [] [] p8] sg dV kV doc pm an cdv ct), osl⟩)
    (hcg : PySem.W.codeIn X.K cdv x = true) (hb : L2.Binds X.K (PySem.W.fnOf x x pg [.Try [.Return (some (.Tuple [.Constant (.str "told") j p3, .Call (.Name a p1) [] [] p2] kt p4)) p5] [.ExceptHandler (some (.Name ce p6)) (some en) (b₀ :: suite) p7] [] [] p8] sg dV kV doc pm an cdv ct) [a] []) (Sg : FnScope Ng [a] sg)
    (hNa : Ng[0]? = some a) (hva : Vis sg a) (hNe : Ng[1]? = some en) (hle : sg.names.lookup en = some .local) (hgc : sg.names.lookup ce = some .globalImplicit) (hmc : X.mg ce = some (.ref CS)) (hdc : (ce == ("__debug__" : Str)) = false)
    (hks : ∀ kd ∈ ks, X.mg kd.name = some (.ref kd.cls) ∧ PySem.W.exmOne X.K (.ref kd.cls) (.ref CS) = some true)
    (hsu : ∀ kd ∈ ks, ∀ (s : Shared) (H : Hp) (e : Addr) (oe : Obj) (pn : List (Addr × Obj)), L2N.Zn (.ref kd.cls) none oe → (∃ vs, oe.data = .fields vs) → HotP ((toldX X Ng x sg g cdv s H).suite e ((e, oe) :: pn)) (e, oe) →
      RSs ((toldX X Ng x sg g cdv s H).suite e ((e, oe) :: pn)) T W0 (b₀ :: suite) (sm e kd))
    (hsm : ∀ kd ∈ ks, ∀ (e : Addr) (d : MV) (μ : Mem), sm e kd ((envS Ng [d]).set 1 (some (.cst (.ref e)))) μ = .rt (.tup [.str kd.told]) μ)
    (TB : LamX.TabB X.base X.mg c P) (hcode : X.env.code = .ref c) (hmT : (P, X.env.qual ++ "<lambda>") ∈ T) (hu : ∀ p ∈ T, p.1 = P → p.2 = X.env.qual ++ "<lambda>") (hr : Room (k + 2) X.A) (hgd : X.A.guards = some [])
    (L : LamP X.env.scope scope X.N N') (hown : ∀ y ∈ scope.names, y.2 ≠ .local) (hdef : defaultsOf params X.env = ([], []))
    (hbind : ∀ (q : Str) (cl : List (Str × Addr)) (pm cv ctv : Value), bindArgs (PySem.W.kla_fn "<lambda>" q params body scope cl pm cv ctv) ⟨[], []⟩ = pure [])
    (hbody : ∀ (A : Around) (outer : List PySem.Env) (s : Shared) (H : Hp) (E : XK) (f c' : Addr), Room k (A.deeper (LamX.lamEnv X scope s.heap.objs.size f c')) → A.guards = some [] → RE (lamC X N' A outer s H E scope f c') T (wE E) body mb)
    (hdb : (x == ("__debug__" : Str)) = false := by decide) (hd : (a == ("__debug__" : Str)) = false := by decide) (hcd : (a == ("__classdict__" : Str)) = false := by decide) :
    RE X T W (.Call (.Name x p) [.Lambda params body scope lpos] [] pos) (mTold ks mb) := by
  refine ⟨fun pins s σ H Q J h => ?_⟩
  obtain ⟨ι, ρ, μ, sr, en', h⟩ := h
  refine wpAny_Call_Name_kw (ld_glob J hg hm ?_ hdb)
  refine PySem.W.callWith_K (h₀ := X.base) J.ok.mod.kin hk ?_ (by rfl) (by rfl)
  show wpAny _ _ (spliced ((false, eval (.Lambda params body scope lpos) X.env) :: backTo pos (starEach [] X.env))) _ _ s
  refine Calls.spliced_cons (LamX.lam_make2 J TB hcode hmT hu sr.tabs hdef (L.has J.ok) fun f c' pm' ctv H1 s' J1 eN T1 hf hfn hfr hco => ?_)
  refine Calls.spliced_nil ⟨J1.kIn, ?_⟩
  have E1 : Ext ι H ι H1 := ext_of sr eN
  have sr1 : SR X.K T ι μ H1 := sr_of sr eN T1
  have en1 : EnvR X.K H1 ι ρ σ := en'.ext E1
  -- what the call of the lambda must meet
  have rc : codeAny (model X.prog X.w) X.A (.call (.ref g) ⟨[.ref f], []⟩) (CR (L2N.CX X.prog X.w) X.stack X.prog X.w H1 s' Q NoX) s' := by
    refine LamX.run_ofS (N := Ng) (ps := [a]) (us := [.ref f]) (vs := [.ref f]) lk hcg Sg hr J1.env0 (hb s' [.ref f] J1.kIn rfl) (.cons rfl .nil) rfl fun hr' => ?_
    have Zt : L2N.Takes (toldX X Ng x sg g cdv s' H1) (wE NoX) := L2N.takes_of (E := NoX) rfl rfl rfl rfl
    -- the two roads
    let tb : WX → TS := fun W' D σZ HZ => σZ[0]? = some (some (.ref f)) ∧ HZ c' = some (LamX.CodeO c' (X.env.qual ++ "<lambda>")) ∧ tG (RV X.K) X.K X.mg T (wE fun cls d H' => W' cls d σZ H') mb σ HZ fun v H2 => ∀ p, H2 p = none → D.rt (.ref p) (upd H2 p (.tup [.str "told", v]))
    let ts : Addr → Value → Option Addr → TS := fun e cls d D σZ HZ => ∃ kd : Kind, (kd ∈ ks ∧ cls = .ref kd.cls ∧ d = none) ∧ tS X.K X.mg T W0 (sm e kd) D σZ HZ
    have body_ok : ∀ (W' : WX) (pn : List (Addr × Obj)) (xe : Value → Shared → Prop), L2N.Takes ((toldX X Ng x sg g cdv s' H1).tr pn xe) W' → PSs ((toldX X Ng x sg g cdv s' H1).tr pn xe) [.Return (some (.Tuple [.Constant (.str "told") j p3, .Call (.Name a p1) [] [] p2] kt p4)) p5] (tb W') := fun W' pn xe tk => by
      have act := act_lam (p1 := p1) (p2 := p2) (tb := fun E => tG (RV X.K) X.K X.mg T (wE E) mb) J1 L hf hfn hfr hown (hbind _ _ _ _ _) tk hr' hgd (fun A outer s H E hr2 hg2 => hbody A outer s H E f c' hr2 hg2) hNa hva hd hcd
      refine pss_one (PS.mono (ps_ret (pe_tup (pa_cons pe_str (pa_cons act pa_nil)))) fun D σZ HZ q => ?_)
      obtain ⟨q1, q2, ι2, ρ2, μ2, a1, a2, a3⟩ := q
      refine ⟨q1, q2, ι2, ρ2, μ2, a1, a2, ?_⟩
      cases hmb : mb ρ2 μ2 with
      | ok d μ3 =>
        rw [hmb] at a3
        exact fun v ι3 H3 e3 s3 r3 => ⟨by show 2 ≤ sizeLine; decide, a3 v ι3 H3 e3 s3 r3⟩
      | exc x μ3 => rw [hmb] at a3; exact a3
      | bad => rw [hmb] at a3; exact a3
    have suite_ok : ∀ (e : Addr) (oe : Obj) (cls : Value) (d : Option Addr) (pn : List (Addr × Obj)), L2N.Zn cls d oe → (∃ vs, oe.data = .fields vs) → PSs ((toldX X Ng x sg g cdv s' H1).suite e ((e, oe) :: pn)) (b₀ :: suite) (ts e cls d) := fun e oe cls d pn hz hf' =>
      PSs.ex fun kd => PSs.and fun ⟨m1, m2, m3⟩ => by
        subst m2 m3
        refine hsu kd m1 s' H1 e oe pn hz hf' ⟨⟨rfl, ?_⟩, List.mem_cons_self⟩
        obtain ⟨vs, hv⟩ := hf'
        exact ⟨vs, hv, hz.2.2 vs hv⟩
    refine ⟨_, pss_one (L2N.ps_try_as (i := 1) (c := .ref CS) (tb := tb) (ts := ts) (Wout := wE NoX) rfl rfl Sg.nd hNe hle ⟨hgc, hdc, .inl hmc⟩ Zt (fun W' pn xe tk _ => body_ok W' pn xe tk) suite_ok), ?_⟩
    have st0 : (L2.start Ng [V.ref f])[0]? = some (some (.ref f)) := rfl
    refine ⟨st0, hco, ι, ρ, μ, sr1, en1, ?_⟩
    have h : Post (RV X.K) X.K X.mg T W σ ι H Q (toldO ks (mb ρ μ)) := h
    cases hmb : mb ρ μ with
    | bad => rw [hmb] at h; exact h.elim
    | ok d μ1 =>
      rw [hmb] at h
      intro v ι2 H2 e2 s2 r2 p hp
      refine h _ ι2 _ (E1.trans (e2.trans (Ext.laid hp))) (s2.laid hp) (RepV.tup s2 hp (RepL.cons_iff.mpr ⟨.str "told", [v], rfl, RepV.str, RepL.one r2⟩))
    | exc ex μ1 =>
      rw [hmb] at h
      intro cls dd ι2 H2 e2 s2 r2
      obtain ⟨r1, r3, r4⟩ := r2
      have h : Post (RV X.K) X.K X.mg T W σ ι H Q (match kindOf ks ex.name with
        | some k => .ok (.tup [.str k]) μ1
        | none => .bad) := h
      cases hko : kindOf ks ex.name with
      | none => rw [hko] at h; exact h.elim
      | some kt =>
        rw [hko] at h
        obtain ⟨kd, hmem, hnm, htd⟩ := kindOf_some hko
        obtain ⟨k1, k2⟩ := hks kd hmem
        rw [hnm, r4] at k1
        cases k1
        refine ⟨true, k2, fun _ e hne => ⟨kd, ⟨hmem, rfl, r3⟩, ?_⟩, fun z => by cases z⟩
        refine ⟨ι2, (envS Ng [.cst (.ref f)]).set 1 (some (.cst (.ref e))), μ1, s2, EnvR.set (envS_start (RepL.one RepV.cst)) RepV.cst, ?_⟩
        rw [hsm kd hmem e (.cst (.ref f)) μ1]
        intro v ι3 H3 e3 s3 r3'
        rw [htd] at r3'
        exact h v ι3 H3 (E1.trans (e2.trans e3)) s3 r3'
  refine wpAny_call (codeAny_mono rc fun r s2 hq => ?_)
  cases r with
  | error e =>
    obtain ⟨_, _, _, _, _, _, _, _, _, _, _, _, z⟩ := (show L2N.CX X.prog X.w X.stack H1 s' NoX e s2 from hq)
    exact z.elim
  | ok fl =>
    cases fl with
    | ret u => exact J1.after hq
    | next => exact False.elim hq
    | brk => exact False.elim hq
    | cont => exact False.elim hq
end
end MM

set_option Elab.async false
set_option linter.all false
set_option maxRecDepth 100000
set_option maxHeartbeats 4000000
/-! ## MM: raise -/
namespace MM
open PySem PySem.Spec PyProof.Rows L2
def sRaise (x : Str) : SM := fun _ μ => .exc ⟨x, none⟩ μ
section
variable {X : Cx} {T : Tbs} {W : WX} {pos p p2 cp : Pos}
theorem s_raise {C : Addr} {bmB : List Value} {B newId initId : String} {x m : Str} {j : Nat} (hc : X.calm = true) (tk : L2N.Takes X W) (F : ExcBaseFacts B newId initId bmB) (q : PySem.W.excIn X.K C bmB newId = true) (gC : X.mg x = some (.ref C)) (kC : PySem.W.keepIn X.K (.ref C) = true) (r : Raises X (.ref C)) (hg : Gl X x)
    (hdb : (x == ("__debug__" : Str)) = false := by decide) : RS X T W (.Raise (some (.Call (.Name x p) [.Constant (.str m) j p2] [] cp)) none pos) (sRaise x) :=
  PS.mono (L2N.ps_raise hc tk (L2N.pmk_own F q gC kC r hg hdb)) fun D σ H ⟨ι, ρ, μ, s, e, h⟩ => h (.ref C) none σ ι H Ext.refl s ⟨rfl, rfl, gC⟩
end
end MM

set_option Elab.async false
set_option linter.all false
set_option maxRecDepth 100000
set_option maxHeartbeats 4000000
/-! ## MM: methods of lists, items stored -/
namespace MM
open PySem PySem.Spec PyProof.Rows L2
/-- a method: of the thing, the arguments -/
abbrev OpM := Mem → MV → List MV → Option (MV × Mem)
def oM (o : Option (MV × Mem)) : Ev MV := fun _ _ => match o with
  | some (d, μ) => .ok d μ
  | none => .bad
def isLst (μ : Mem) (d : MV) : Ev MV := fun _ _ => match lstOf μ d with
  | some _ => .ok d μ
  | none => .bad
def mMeth (op : OpM) (mo : Ev MV) (ms : Ev (List MV)) : Ev MV := mB mo fun d => mB (fun ρ μ => isLst μ d ρ μ) fun d => mB ms fun ds => fun ρ μ => oM (op μ d ds) ρ μ
def appM : OpM := fun μ d ds => match d, ds with
  | .ref i, [y] => match μ[i]? with
    | some (.lst xs) => if xs.length < sizeLine then some (.non, μ.set i (.lst (xs ++ [y]))) else none
    | _ => none
  | _, _ => none
def extM : OpM := fun μ d ds => match d, ds with
  | .ref i, [y] => match μ[i]?, lstOf μ y with
    | some (.lst xs), some ys => if xs.length + ys.length ≤ sizeLine then some (.non, μ.set i (.lst (xs ++ ys))) else none
    | _, _ => none
  | _, _ => none
def popM : OpM := fun μ d ds => match d, ds with
  | .ref i, [] => match μ[i]? with
    | some (.lst xs) => match xs[xs.length - 1]? with
      | some y => some (y, μ.set i (.lst xs.dropLast))
      | none => none
    | _ => none
  | _, _ => none
def popAtM : OpM := fun μ d ds => match d, ds with
  | .ref i, [.int k] => match μ[i]? with
    | some (.lst xs) => if Rg62 k then (match seqIndex? k xs.length with
      | some j => match xs[j]? with
        | some y => some (y, μ.set i (.lst (xs.eraseIdx j)))
        | none => none
      | none => none) else none
    | _ => none
  | _, _ => none
/-- the first place of an equal one -/
def firstD (d : PyData) : List PyData → Nat → Option Nat
  | [], _ => none
  | z :: zs, n => if PyData.eqv z d = true then some n else firstD d zs (n + 1)
def idxM : OpM := fun μ d ds => match ds with
  | [y] => match (lstOf μ d).bind (pdL μ), pd μ y with
    | some zs, some p => if SeqAt.shaped (.list zs) = true ∧ SeqAt.shaped p = true then (firstD p zs 0).map fun j => (.int (j : Nat), μ) else none
    | _, _ => none
  | _ => none
theorem firstD_spec {d : PyData} : ∀ {zs : List PyData} {n j : Nat}, firstD d zs n = some j → ∃ k z, j = n + k ∧ zs[k]? = some z ∧ PyData.eqv z d = true ∧ ∀ (m : Nat) (z' : PyData), m < k → zs[m]? = some z' → PyData.eqv z' d = false
  | [], _, _, h => by cases h
  | z :: zs, n, j, h => by
    unfold firstD at h
    split at h
    · rename_i e
      cases h
      exact ⟨0, z, by omega, rfl, e, fun m z' hm => absurd hm (Nat.not_lt_zero _)⟩
    · rename_i e
      obtain ⟨k, z', h1, h2, h3, h4⟩ := firstD_spec h
      refine ⟨k + 1, z', by omega, by simpa using h2, h3, fun m z'' hm hz => ?_⟩
      cases m with
      | zero =>
        simp at hz
        subst hz
        exact Bool.eq_false_iff.mpr e
      | succ m => exact h4 m z'' (Nat.lt_of_succ_lt_succ hm) (by simpa using hz)
section
variable {X : Cx} {T : Tbs} {W : WX} {apos cpos : Pos} {o e : Expr} {es : List Expr} {mo : Ev MV} {ms : Ev (List MV)} {op : OpM} {name : Str} {id : String}
/-- what the method does is r -/
def MetM (X : Cx) (T : Tbs) (op : OpM) (r : V → List V → Hp → VK → Prop) : Prop := ∀ (x : V) (vs : List V) (H : Hp) (Q : VK) (ι : Io) (μ : Mem) (d : MV) (ds : List MV) (y : MV) (μ' : Mem), SR X.K T ι μ H → RepV X.K H ι d x → RepL X.K H ι ds vs → op μ d ds = some (y, μ') →
  (∀ v ι' H', Ext ι H ι' H' → SR X.K T ι' μ' H' → RepV X.K H' ι' y v → Q v H') → r x vs H Q
theorem methM {r : V → List V → Hp → VK → Prop} (hr : MetM X T op r) : ∀ σ H Q, tG (RV X.K) X.K X.mg T W (mMeth op mo ms) σ H Q → tBM X.K "list" r (tG (RV X.K) X.K X.mg T W mo) (tG (RLs X.K) X.K X.mg T W ms) σ H Q :=
  fun σ H Q ⟨ι, ρ, μ, s, en, h⟩ => ⟨ι, ρ, μ, s, en, bindr h fun d x μ1 ι1 H1 _ E1 s1 r1 h1 => by
    have h1 : Post (RV X.K) X.K X.mg T W σ ι1 H1 Q (mB (fun ρ μ => isLst μ d ρ μ) (fun d => mB ms fun ds => fun ρ μ => oM (op μ d ds) ρ μ) ρ μ1) := h1
    unfold mB at h1
    dsimp only [isLst] at h1
    cases hl : lstOf μ1 d with
    | none => rw [hl] at h1; exact h1.elim
    | some xs =>
      rw [hl] at h1
      obtain ⟨a, vs, rfl, q, _⟩ := s1.lst r1 hl
      refine ⟨.inl ⟨rfl, vs, q⟩, ι1, ρ, μ1, s1, en.ext E1, bindr (m := ms) (f := fun ds => fun ρ μ => oM (op μ d ds) ρ μ) h1 fun ds us μ2 ι2 H2 _ E2 s2 r2 h2 => ?_⟩
      have h2 : Post (RV X.K) X.K X.mg T W σ ι2 H2 Q (oM (op μ2 d ds) ρ μ2) := h2
      cases ho : op μ2 d ds with
      | none => rw [ho] at h2; exact h2.elim
      | some p =>
        obtain ⟨y, μ'⟩ := p
        rw [ho] at h2
        exact hr _ _ _ _ ι2 μ2 d ds y μ' s2 (r1.ext E2) r2 ho h2⟩
theorem re_meth {r : V → List V → Hp → VK → Prop} (hr : MetM X T op r) (hm : MtR X id r) (slot : Slot "list" name id) (hty : typeOf (.builtin id) = pure (.type "method_descriptor")) (ho : RE X T W o mo) (ha : RA X T W (e :: es) ms)
    (hbase : attributeBase o name X.env (eval o X.env) = eval o X.env := by rfl)
    (hfew : ((backTo cpos (starEach (e :: es) X.env)).all (fun x => !x.1) && (backToKw cpos (keywordEach [] X.env)).all (fun x => x.1.isSome)
      && decide ((e :: es).length + ([] : List Keyword).length + (if ([] : List Keyword).isEmpty then 0 else 1) < 30)) = true := by rfl)
    (hline : (apos.endLine == cpos.line) = true := by rfl) (hs : starEach (e :: es) X.env = (false, eval e X.env) :: starEach es X.env := by rfl) (hplain : (backTo cpos (starEach es X.env)).any (·.1) = false := by rfl) :
    RE X T W (.Call (.Attribute o name apos) (e :: es) [] cpos) (mMeth op mo ms) :=
  PE.mono (pe_bm F.plainAttrs_list slot hty hm ho ha hbase hfew hline hs hplain) (methM hr)
theorem met_app : MetM X T appM rAppend := fun x vs H Q ι μ d ds y μ' s r1 r2 ho k => by
  unfold appM at ho
  split at ho
  · rename_i i z
    split at ho
    · rename_i xs hx
      split at ho
      · rename_i hz
        cases ho
        obtain ⟨a, us, rfl, hc, ha, l⟩ := s.cel r1 hx
        obtain ⟨v, rr, rfl, b1, b2⟩ := RepL.cons_iff.mp r2
        rw [RepL.nil_iff] at b2; subst b2
        exact ⟨a, us, v, rfl, rfl, ha, by rw [← l.len]; exact hz, k .non ι _ (Ext.written s hc) (s.written hc ha (l.app (RepL.one b1))) RepV.non⟩
      · cases ho
    · cases ho
  · cases ho
theorem met_pop : MetM X T popM rPop := fun x vs H Q ι μ d ds y μ' s r1 r2 ho k => by
  unfold popM at ho
  split at ho
  · rename_i i
    split at ho
    · rename_i xs hx
      split at ho
      · rename_i z hz
        cases ho
        obtain ⟨a, us, rfl, hc, ha, l⟩ := s.cel r1 hx
        rw [RepL.nil_iff] at r2; subst r2
        obtain ⟨v, hv, rv⟩ := l.get hz
        have ld : RepL X.K H ι xs.dropLast us.dropLast := by rw [List.dropLast_eq_take, List.dropLast_eq_take, l.len]; exact RepL.take _ l
        exact ⟨a, us, v, rfl, rfl, ha, by rw [← l.len]; exact hv, k v ι _ (Ext.written s hc) (s.written hc ha ld) (rv.ext (Ext.written s hc).w)⟩
      · cases ho
    · cases ho
  · cases ho
theorem met_idx : MetM X T idxM (rIndexD X.K) := fun x vs H Q ι μ d ds y μ' s r1 r2 ho k => by
  unfold idxM at ho
  split at ho
  · rename_i z
    split at ho
    · rename_i zs p h1 h2
      split at ho
      · rename_i hsh
        obtain ⟨j, hj, e⟩ := Option.map_eq_some_iff.mp ho
        cases e
        obtain ⟨xs, hx1, hx2⟩ := Option.bind_eq_some_iff.mp h1
        obtain ⟨a, us, rfl, q, l⟩ := s.lst r1 hx1
        obtain ⟨v, rr, rfl, b1, b2⟩ := RepL.cons_iff.mp r2
        rw [RepL.nil_iff] at b2; subst b2
        obtain ⟨k', z', e1, e2, e3, e4⟩ := firstD_spec hj
        have e1 : j = k' := by omega
        subst e1
        exact ⟨a, v, p, zs, j, z', rfl, rfl, .lst q (pdL_dp s xs us zs l hx2), pd_dp s z v p b1 h2, hsh.1, hsh.2, e2, e3, e4, k _ ι H Ext.refl s RepV.int⟩
      · cases ho
    · cases ho
  · cases ho
theorem re_append (ho : RE X T W o mo) (ha : RA X T W [e] ms) (hbase : attributeBase o "append" X.env (eval o X.env) = eval o X.env := by rfl)
    (hfew : ((backTo cpos (starEach [e] X.env)).all (fun x => !x.1) && (backToKw cpos (keywordEach [] X.env)).all (fun x => x.1.isSome)
      && decide ([e].length + ([] : List Keyword).length + (if ([] : List Keyword).isEmpty then 0 else 1) < 30)) = true := by rfl)
    (hline : (apos.endLine == cpos.line) = true := by rfl) (hs : starEach [e] X.env = (false, eval e X.env) :: starEach [] X.env := by rfl) (hplain : (backTo cpos (starEach [] X.env)).any (·.1) = false := by rfl) :
    RE X T W (.Call (.Attribute o "append" apos) [e] [] cpos) (mMeth appM mo ms) := re_meth met_app mt_append F.slot_list_append F.type_list_append ho ha hbase hfew hline hs hplain
theorem re_index (hu : X.A.units + 65 < cLine) (ho : RE X T W o mo) (ha : RA X T W [e] ms) (hbase : attributeBase o "index" X.env (eval o X.env) = eval o X.env := by rfl)
    (hfew : ((backTo cpos (starEach [e] X.env)).all (fun x => !x.1) && (backToKw cpos (keywordEach [] X.env)).all (fun x => x.1.isSome)
      && decide ([e].length + ([] : List Keyword).length + (if ([] : List Keyword).isEmpty then 0 else 1) < 30)) = true := by rfl)
    (hline : (apos.endLine == cpos.line) = true := by rfl) (hs : starEach [e] X.env = (false, eval e X.env) :: starEach [] X.env := by rfl) (hplain : (backTo cpos (starEach [] X.env)).any (·.1) = false := by rfl) :
    RE X T W (.Call (.Attribute o "index" apos) [e] [] cpos) (mMeth idxM mo ms) := re_meth met_idx (mt_indexD hu) F.slot_list_index F.type_list_index ho ha hbase hfew hline hs hplain
/-! ### items stored -/
def gIx (mo mi : Ev MV) : TgM := fun v ρ μ => match mo ρ μ with
  | .ok (.ref i) μ1 => match mi ρ μ1 with
    | .ok (.int k) μ2 => match μ2[i]? with
      | some (.lst xs) => match ixN xs.length k with
        | some j => some (ρ, μ2.set i (.lst (xs.set j v)))
        | none => none
      | _ => none
    | _ => none
  | _ => none
theorem g_ix {i : Expr} {mi : Ev MV} {pos : Pos} (ho : RE X T W0 o mo) (hi : RE X T W0 i mi)
    (ha : ∀ v, assign (.Subscript o i pos) X.env v = (do
      let ov ← holding [v] (eval o X.env)
      let iv ← holding [v, ov] (eval i X.env)
      standAt pos
      holding [v, ov, iv] (setItem ov iv v)
      release [v, ov, iv] []) := by intro _; rfl) : RG X T [] (.Subscript o i pos) (gIx mo mi) :=
  PG.mono (pg_sub ho hi set_list ha) fun v σ H Q ⟨ι, ρ, μ, d, s, en, r, ρ', μ', hg, h⟩ => by
    unfold gIx at hg
    split at hg
    · rename_i j μ1 h1
      split at hg
      · rename_i k μ2 h2
        split at hg
        · rename_i xs h3
          split at hg
          · rename_i m h4
            cases hg
            refine ⟨ι, ρ, μ, s, en, ?_⟩
            rw [h1]
            intro x ι1 H1 E1 s1 r1
            refine ⟨ι1, ρ, μ1, s1, en.ext E1, ?_⟩
            rw [h2]
            intro y ι2 H2 E2 s2 r2
            cases r2.int_inv
            obtain ⟨a, us, rfl, hc, hH, l⟩ := s2.cel (r1.ext E2) h3
            have E12 := E1.trans E2
            exact ⟨a, us, k, m, rfl, rfl, hH, by rw [← l.len]; exact h4, h σ ι2 _ (E12.trans (Ext.written s2 hc)) (s2.written hc hH (RepL.set m l (r.ext E12))) (en.ext (E12.trans (Ext.written s2 hc))) ⟨rfl, fun _ _ => rfl⟩⟩
          · cases hg
        · cases hg
      · cases hg
    · cases hg
end
end MM

set_option Elab.async false
set_option linter.all false
set_option maxRecDepth 100000
set_option maxHeartbeats 4000000
/-! ## MM: comprehensions over two -/
namespace MM
open PySem PySem.Spec PyProof.Rows L2
open Classical in
noncomputable def compL2 (t : Itm) (g : TgM) (c : Ev Bool) (mi1 : Ev Itm) (g1 : TgM) (c1 : Ev Bool) (e : Ev MV) (vs1 : List Nat) (ρ : Env) : List MV → Mem → Option (List MV × Mem)
  | [], μ => if t.ok μ then some ([], μ) else none
  | x :: xs, μ => if t.ok μ then (match g x ρ μ with
    | some (ρ1, μ1) => (match c ρ1 μ1 with
      | .ok true μ2 => (match mi1 ρ1 μ2 with
        | .ok t1 μ3 => (match compL t1 g1 c1 e (wipeE ρ1 vs1) t1.items μ3 with
          | some (ds1, μ4) => (match compL2 t g c mi1 g1 c1 e vs1 ρ xs μ4 with
            | some (ds, μ5) => some (ds1 ++ ds, μ5)
            | none => none)
          | none => none)
        | _ => none)
      | .ok false μ2 => compL2 t g c mi1 g1 c1 e vs1 ρ xs μ2
      | _ => none)
    | none => none) else none
open Classical in
noncomputable def compT2 (t : Itm) (g : TgM) (c : Ev Bool) (mi1 : Ev Itm) (g1 : TgM) (c1 : Ev Bool) (e : Ev MV) (vs1 : List Nat) (ρ : Env) (μ : Mem) : Option (List MV × Mem) :=
  match compL2 t g c mi1 g1 c1 e vs1 ρ t.items μ with
  | some (ds, μ') => if ds.length ≤ sizeLine then some (ds, μ') else none
  | none => none
noncomputable def mCompL2 (vs vs1 : List Nat) (m : Ev Itm) (g : TgM) (c : Ev Bool) (mi1 : Ev Itm) (g1 : TgM) (c1 : Ev Bool) (e : Ev MV) : Ev (List MV) := mB m fun t => fun ρ μ => oOm (compT2 t g c mi1 g1 c1 e vs1 (wipeE ρ vs) μ)
noncomputable def mComp2 (vs vs1 : List Nat) (m : Ev Itm) (g : TgM) (c : Ev Bool) (mi1 : Ev Itm) (g1 : TgM) (c1 : Ev Bool) (e : Ev MV) : Ev MV := mB (mCompL2 vs vs1 m g c mi1 g1 c1 e) fun ds => mRet (.lst ds)
noncomputable def mCompC2 (vs vs1 : List Nat) (m : Ev Itm) (g : TgM) (c : Ev Bool) (mi1 : Ev Itm) (g1 : TgM) (c1 : Ev Bool) (e : Ev MV) : Ev MV := mB (mCompL2 vs vs1 m g c mi1 g1 c1 e) fun ds => fun _ μ => .ok (.ref μ.length) (μ ++ [.lst ds])
section
variable {X : Cx} {T : Tbs} {W : WX} {g g1 : TgM} {c c1 : Ev Bool} {e : Ev MV} {vs ws vs1 ws1 : List Nat} {mi mi1 : Ev Itm}
theorem comp2_core {K : Frag} {mg : Gm} {Q : VK} {σ : L2.St} {ι : Io} {H : Hp} {ρ : Env} {μ : Mem} {t : Itm} {J : It} (hw : ∀ i ∈ ws, i ∈ vs) (hw1 : ∀ i ∈ ws1, i ∈ vs1) (s : SR K T ι μ H) (en : EnvR K H ι ρ σ) (r : ItR K T J t ι H) (ds : List MV) (μ' : Mem) (hl : ds.length ≤ sizeLine)
    (hc : compL2 t g c mi1 g1 c1 e vs1 (wipeE ρ vs) t.items μ = some (ds, μ'))
    (fin : ∀ (D : Addr) (vs : List V) (ι' : Io) (H' : Hp), Ext ι H ι' H' → SR K T (ι'.hide D) μ' H' → ¬ Own ι' D → H D = none → H' D = some (.lst vs) → RepL K H' (ι'.hide D) ds vs → Q (.ref D) H') :
    ∀ D, H D = none → ∃ Wv : Nat → Nat → Hp → Prop, (∃ m, Wv 0 m (upd H D (.lst []))) ∧ ∀ i m H, Wv i m H →
      (J.stop i H ∧ Q (.ref D) H) ∨ (J.go i H ∧ ∃ Nx : Hp → Prop, (∀ H', Nx H' → ∃ m', m' < m ∧ Wv (i + 1) m' H') ∧ ∀ x H', J.yld i H x H' → tGt K T ws g x (L2.wipe σ vs) H' fun σ2 H2 => L2.wipe σ2 vs = L2.wipe σ vs ∧ tG RB K mg T W0 c σ2 H2 fun b H3 =>
        if b = true then tG (RJ K T) K mg T W0 mi1 σ2 H3 fun J1 H4 => ∃ W1 : Nat → Nat → Hp → Prop, (∃ m, W1 0 m H4) ∧ ∀ j k H, W1 j k H →
          (J1.stop j H ∧ Nx H) ∨ (J1.go j H ∧ ∃ Nx1 : Hp → Prop, (∀ H', Nx1 H' → ∃ k', k' < k ∧ W1 (j + 1) k' H') ∧ ∀ x H', J1.yld j H x H' → tGt K T ws1 g1 x (L2.wipe σ2 vs1) H' fun σ3 H5 => L2.wipe σ3 vs1 = L2.wipe σ2 vs1 ∧ tG RB K mg T W0 c1 σ3 H5 fun b H6 =>
            if b = true then tG (RV K) K mg T W0 e σ3 H6 fun y H7 => ∃ acc, H7 D = some (.lst acc) ∧ acc.length < sizeLine ∧ Nx1 (upd H7 D (.lst (acc ++ [y]))) else Nx1 H6)
        else Nx H3) := by
  intro D hD
  let St : Nat → Hp → Prop := fun i H' => ∃ ι1 μ1 acc accM rest, Ext ι H ι1 H' ∧ SR K T (ι1.hide D) μ1 H' ∧ H' D = some (.lst acc) ∧ RepL K H' (ι1.hide D) accM acc ∧ EnvR K H' (ι1.hide D) ρ σ ∧ accM ++ rest = ds ∧ compL2 t g c mi1 g1 c1 e vs1 (wipeE ρ vs) (t.items.drop i) μ1 = some (rest, μ')
  refine ⟨fun i m H' => m = t.items.length - i ∧ i ≤ t.items.length ∧ St i H', ⟨t.items.length, by simp, Nat.zero_le _, ι, μ, [], [], ds, Ext.after Ext.refl hD, s.begin hD, upd_same, RepL.nil_iff.mpr rfl, en.begin hD, rfl, hc⟩, ?_⟩
  rintro i m H1 ⟨rfl, hi, ι1, μ1, acc, accM, rest, E1, s1, hd1, ra, en1, hap, hcl⟩
  have EW : ExtW ι H (ι1.hide D) H1 := ExtW.begin E1 hD
  cases hd : t.items.drop i with
  | nil =>
    rw [hd] at hcl
    unfold compL2 at hcl
    split at hcl
    · rename_i ok
      cases hcl
      have := drop_none hi hd
      subst this
      refine .inl ⟨(r _ _ H1 EW s1 ok).2, ?_⟩
      have nd : ¬ Own ι1 D := fun q => by
        rcases q with q | q
        · exact (s1.hid D List.mem_cons_self).1 q
        · rw [E1.hid] at q
          exact s.fresh hD (.inr q)
      rw [List.append_nil] at hap
      subst hap
      exact fin D acc ι1 H1 E1 s1 nd hD hd1 ra
    · cases hcl
  | cons x xs =>
    rw [hd] at hcl
    unfold compL2 at hcl
    split at hcl
    · rename_i ok
      obtain ⟨hx, hdr, hlt⟩ := drop_get hd
      obtain ⟨go, yl⟩ := (r _ μ1 H1 EW s1 ok).1 i x hx
      refine .inr ⟨go, St (i + 1), fun H' h' => ⟨t.items.length - (i + 1), by omega, rfl, hlt, h'⟩, fun v H2 y => ?_⟩
      obtain ⟨E2, s2, r2⟩ := yl v H2 y
      split at hcl
      · rename_i ρ1 μ2 hg
        refine ⟨ι1.hide D, wipeE ρ vs, μ1, x, s2, (en1.ext E2).wipe vs, r2, ρ1, μ2, hg, fun σ3 ι3 H3 E3 s3 e3 b3 => ⟨wipe_but b3 hw, ι3, ρ1, μ2, s3, e3, ?_⟩⟩
        have E23 := E2.trans E3
        split at hcl
        · rename_i μ3 hc3
          rw [hc3]
          intro k ι4 H4 E4 s4 r4
          cases r4
          rw [if_pos rfl]
          refine ⟨ι4, ρ1, μ3, s4, e3.ext E4, ?_⟩
          have E24 := E23.trans E4
          split at hcl
          · rename_i t1 μ4 hm1
            rw [hm1]
            intro J1 ι5 H5 E5 s5 r5
            have E25 := E24.trans E5
            obtain ⟨F1, F2, F3⟩ := Ext.unhide s5 E25 hd1
            have hm5 : D ∈ ι5.hid := by rw [F2]; exact List.mem_cons_self
            split at hcl
            · rename_i ds1 μ5 hin
              split at hcl
              · rename_i ds2 μ6 hrec
                cases hcl
                have e5 : EnvR K H5 ι5 ρ1 σ3 := e3.ext (E4.trans E5)
                -- the inner loop
                let In : Nat → Hp → Prop := fun j H' => ∃ ι6 μ6 acc accM rest1, Ext ι H ι6 H' ∧ SR K T (ι6.hide D) μ6 H' ∧ H' D = some (.lst acc) ∧ RepL K H' (ι6.hide D) accM acc ∧ EnvR K H' (ι6.hide D) ρ σ ∧ EnvR K H' (ι6.hide D) ρ1 σ3 ∧ ExtW ι5 H5 (ι6.hide D) H' ∧ accM ++ (rest1 ++ ds2) = ds ∧ compL t1 g1 c1 e (wipeE ρ1 vs1) (t1.items.drop j) μ6 = some (rest1, μ5)
                refine ⟨fun j k H' => k = t1.items.length - j ∧ j ≤ t1.items.length ∧ In j H', ⟨t1.items.length, by simp, Nat.zero_le _, ⟨ι5.cs, ι1.hid⟩, μ4, acc, accM, ds1, E1.trans F1, by rw [← F2]; exact s5, F3, by rw [← F2]; exact RepL.ext E25 _ _ ra, by rw [← F2]; exact en1.ext E25, by rw [← F2]; exact e5, by rw [← F2]; exact Ext.refl.w, hap, hin⟩, ?_⟩
                rintro j k H6 ⟨rfl, hj, ι6, μ6, acc6, accM6, rest6, E6, s6, hd6, ra6, en6, e6, X6, hap6, hcl6⟩
                cases hdj : t1.items.drop j with
                | nil =>
                  rw [hdj] at hcl6
                  unfold compL at hcl6
                  split at hcl6
                  · rename_i ok6
                    cases hcl6
                    have := drop_none hj hdj
                    subst this
                    exact .inl ⟨(r5 _ _ H6 X6 s6 ok6).2, ι6, _, acc6, accM6, ds2, E6, s6, hd6, ra6, en6, by simpa using hap6, by rw [hdr]; exact hrec⟩
                  · cases hcl6
                | cons x1 xs1 =>
                  rw [hdj] at hcl6
                  unfold compL at hcl6
                  split at hcl6
                  · rename_i ok6
                    obtain ⟨hx1, hdr1, hlt1⟩ := drop_get hdj
                    obtain ⟨go1, yl1⟩ := (r5 _ μ6 H6 X6 s6 ok6).1 j x1 hx1
                    refine .inr ⟨go1, In (j + 1), fun H' h' => ⟨t1.items.length - (j + 1), by omega, rfl, hlt1, h'⟩, fun v1 H7 y1 => ?_⟩
                    obtain ⟨E7, s7, r7⟩ := yl1 v1 H7 y1
                    split at hcl6
                    · rename_i ρ2 μ7 hg1
                      refine ⟨ι6.hide D, wipeE ρ1 vs1, μ6, x1, s7, (e6.ext E7).wipe vs1, r7, ρ2, μ7, hg1, fun σ8 ι8 H8 E8 s8 e8 b8 => ⟨wipe_but b8 hw1, ι8, ρ2, μ7, s8, e8, ?_⟩⟩
                      have E78 := E7.trans E8
                      split at hcl6
                      · rename_i μ8 hc8
                        rw [hc8]
                        intro k9 ι9 H9 E9 s9 r9
                        cases r9
                        rw [if_pos rfl]
                        refine ⟨ι9, ρ2, μ8, s9, e8.ext E9, ?_⟩
                        have E79 := E78.trans E9
                        split at hcl6
                        · rename_i d μ9 he
                          rw [he]
                          intro w ιa Ha Ea sa ra'
                          have E7a := E79.trans Ea
                          obtain ⟨G1, G2, G3⟩ := Ext.unhide sa E7a hd6
                          split at hcl6
                          · rename_i ds' μa hrec1
                            cases hcl6
                            have hm : D ∈ ιa.hid := by rw [G2]; exact List.mem_cons_self
                            have raA : RepL K Ha ιa accM6 acc6 := RepL.ext E7a _ _ ra6
                            have hla : acc6.length < sizeLine := by
                              have := congrArg List.length hap6
                              simp at this
                              rw [← ra6.len]; omega
                            refine ⟨acc6, G3, hla, ⟨ιa.cs, ι6.hid⟩, μ9, acc6 ++ [w], accM6 ++ [d], ds', Ext.after (E6.trans G1) hD, ?_, upd_same, ?_, ?_, ?_, ?_, by simpa using hap6, by rw [hdr1]; exact hrec1⟩
                            · rw [← G2]; exact SR.grow sa hm G3
                            · rw [← G2]; exact RepL.grow hm (raA.app (RepL.one ra'))
                            · rw [← G2]; exact EnvR.grow hm (en6.ext E7a)
                            · rw [← G2]; exact EnvR.grow hm (e6.ext E7a)
                            · rw [← G2]; exact (X6.trans E7a.w).grown (.inr hm5)
                          · cases hcl6
                        · cases hcl6
                      · rename_i μ8 hc8
                        rw [hc8]
                        intro k9 ι9 H9 E9 s9 r9
                        cases r9
                        rw [if_neg Bool.false_ne_true]
                        have E79 := E78.trans E9
                        obtain ⟨G1, G2, G3⟩ := Ext.unhide s9 E79 hd6
                        refine ⟨⟨ι9.cs, ι6.hid⟩, μ8, acc6, accM6, rest6, E6.trans G1, by rw [← G2]; exact s9, G3, ?_, ?_, ?_, ?_, hap6, by rw [hdr1]; exact hcl6⟩
                        · rw [← G2]; exact RepL.ext E79 _ _ ra6
                        · rw [← G2]; exact en6.ext E79
                        · rw [← G2]; exact e6.ext E79
                        · rw [← G2]; exact X6.trans E79.w
                      · cases hcl6
                    · cases hcl6
                  · cases hcl6
              · cases hcl
            · cases hcl
          · cases hcl
        · rename_i μ3 hc3
          rw [hc3]
          intro k ι4 H4 E4 s4 r4
          cases r4
          rw [if_neg Bool.false_ne_true]
          have E24 := E23.trans E4
          obtain ⟨F1, F2, F3⟩ := Ext.unhide s4 E24 hd1
          refine ⟨⟨ι4.cs, ι1.hid⟩, μ3, acc, accM, rest, E1.trans F1, by rw [← F2]; exact s4, F3, ?_, ?_, hap, by rw [hdr]; exact hcl⟩
          · rw [← F2]; exact RepL.ext E24 _ _ ra
          · rw [← F2]; exact en1.ext E24
        · cases hcl
      · cases hcl
    · cases hcl
theorem compM2 {K : Frag} {mg : Gm} (hw : ∀ i ∈ ws, i ∈ vs) (hw1 : ∀ i ∈ ws1, i ∈ vs1) (f : List MV → Ev MV)
    (hf : ∀ {σ ι H Q ρ μ' ds}, Post (RV K) K mg T W σ ι H Q (f ds ρ μ') → ∀ (D : Addr) (vs : List V) (ι' : Io) (H' : Hp), Ext ι H ι' H' → SR K T (ι'.hide D) μ' H' → ¬ Own ι' D → H D = none → H' D = some (.lst vs) → RepL K H' (ι'.hide D) ds vs → Q (.ref D) H') :
    ∀ σ H Q, tG (RV K) K mg T W (mB (mCompL2 vs vs1 mi g c mi1 g1 c1 e) f) σ H Q → tLc2 (tG (RJ K T) K mg T W mi) (tGt K T ws g) (tG RB K mg T W0 c) (tG (RJ K T) K mg T W0 mi1) (tGt K T ws1 g1) (tG RB K mg T W0 c1) (tG (RV K) K mg T W0 e) vs vs1 σ H Q :=
  fun σ H Q ⟨ι, ρ, μ, s, en, h⟩ => ⟨ι, ρ, μ, s, en, by
    unfold mCompL2 at h
    rw [mB_assoc] at h
    exact bindr h fun t J μ1 ι1 H1 _ E1 s1 r1 h1 => by
      unfold mB at h1
      dsimp only at h1
      cases hc : compT2 t g c mi1 g1 c1 e vs1 (wipeE ρ vs) μ1 with
      | none => rw [hc] at h1; exact h1.elim
      | some p =>
        obtain ⟨ds, μ'⟩ := p
        rw [hc] at h1
        unfold compT2 at hc
        split at hc
        · rename_i ds0 μ0 hc0
          split at hc
          · rename_i hl
            cases hc
            exact comp2_core hw hw1 s1 (en.ext E1) r1 ds μ' hl hc0 (hf h1)
          · cases hc
        · cases hc⟩
variable {tg iter tg1 iter1 elt : Expr} {ifs ifs1 : List Expr} {scope : Scope} {own : List (Str × Nat)} {pos spos py : Pos}
theorem re_comp2 (hc : X.calm = true) (hN : X.N.Nodup) (hi : RI X T W tg iter mi) (ok : BlkOk X.N X.env.scope scope own) (hv : ∀ i ∈ vs1, i ∈ own.map (·.2)) (hw : ∀ i ∈ ws, i ∈ own.map (·.2)) (hw1 : ∀ i ∈ ws1, i ∈ vs1)
    (hg : Blk X scope fun X => RG X T ws tg g) (ht : Blk X scope fun X => PTs X ifs (tG RB X.K X.mg T W0 c)) (hi1 : Blk X scope fun X => RI X T W0 tg1 iter1 mi1) (hg1 : Blk X scope fun X => RG X T ws1 tg1 g1) (ht1 : Blk X scope fun X => PTs X ifs1 (tG RB X.K X.mg T W0 c1)) (he : Blk X scope fun X => RE X T W0 elt e)
    (hs : ∀ x, foldedSetIterable iter X.env x = pure x := by intro _; rfl) (hs1 : ∀ env x, foldedSetIterable iter1 env x = pure x := by intro _ _; rfl) :
    RE X T W (.ListComp elt [⟨tg, iter, ifs, 0⟩, ⟨tg1, iter1, ifs1, 0⟩] scope pos) (mComp2 (own.map (·.2)) vs1 mi g c mi1 g1 c1 e) :=
  PE.mono (pe_lc2 hc hN hi ok hv hg ht hi1 hg1 ht1 he hs hs1) (compM2 hw hw1 (fun ds => mRet (.lst ds)) fun {σ ι H Q ρ μ' ds} h => compF (ρ := ρ) h)
theorem re_compC2 (hc : X.calm = true) (hN : X.N.Nodup) (hi : RI X T W tg iter mi) (ok : BlkOk X.N X.env.scope scope own) (hv : ∀ i ∈ vs1, i ∈ own.map (·.2)) (hw : ∀ i ∈ ws, i ∈ own.map (·.2)) (hw1 : ∀ i ∈ ws1, i ∈ vs1)
    (hg : Blk X scope fun X => RG X T ws tg g) (ht : Blk X scope fun X => PTs X ifs (tG RB X.K X.mg T W0 c)) (hi1 : Blk X scope fun X => RI X T W0 tg1 iter1 mi1) (hg1 : Blk X scope fun X => RG X T ws1 tg1 g1) (ht1 : Blk X scope fun X => PTs X ifs1 (tG RB X.K X.mg T W0 c1)) (he : Blk X scope fun X => RE X T W0 elt e)
    (hs : ∀ x, foldedSetIterable iter X.env x = pure x := by intro _; rfl) (hs1 : ∀ env x, foldedSetIterable iter1 env x = pure x := by intro _ _; rfl) :
    RE X T W (.ListComp elt [⟨tg, iter, ifs, 0⟩, ⟨tg1, iter1, ifs1, 0⟩] scope pos) (mCompC2 (own.map (·.2)) vs1 mi g c mi1 g1 c1 e) :=
  PE.mono (pe_lc2 hc hN hi ok hv hg ht hi1 hg1 ht1 he hs hs1) (compM2 hw hw1 (fun ds => fun _ μ => .ok (.ref μ.length) (μ ++ [.lst ds])) fun {σ ι H Q ρ μ' ds} h => compCF (ρ := ρ) h)
theorem s_setComp2 {i : Nat} {y : Str} {m : Ev MV} (hc : X.calm = true) (hN : X.N.Nodup) (hy : X.N[i]? = some y) (hyl : X.env.scope.names.lookup y = some .local)
    (hsw : swapsWith (.ListComp elt [⟨tg, iter, ifs, 0⟩, ⟨tg1, iter1, ifs1, 0⟩] scope pos) (some (.Name y py)) spos.line X.env = pure true) (hi : RI X T W tg iter mi) (ok : BlkOk X.N X.env.scope scope own) (hv : ∀ i ∈ vs1, i ∈ own.map (·.2)) (hw : ∀ i ∈ ws, i ∈ own.map (·.2)) (hw1 : ∀ i ∈ ws1, i ∈ vs1)
    (hg : Blk X scope fun X => RG X T ws tg g) (ht : Blk X scope fun X => PTs X ifs (tG RB X.K X.mg T W0 c)) (hi1 : Blk X scope fun X => RI X T W0 tg1 iter1 mi1) (hg1 : Blk X scope fun X => RG X T ws1 tg1 g1) (ht1 : Blk X scope fun X => PTs X ifs1 (tG RB X.K X.mg T W0 c1)) (he : Blk X scope fun X => RE X T W0 elt e)
    (hm : ∀ K mg σ H Q, tG (RV K) K mg T W m σ H Q → tLc2 (tG (RJ K T) K mg T W mi) (tGt K T ws g) (tG RB K mg T W0 c) (tG (RJ K T) K mg T W0 mi1) (tGt K T ws1 g1) (tG RB K mg T W0 c1) (tG (RV K) K mg T W0 e) (own.map (·.2)) vs1 σ H Q)
    (hs : ∀ x, foldedSetIterable iter X.env x = pure x := by intro _; rfl) (hs1 : ∀ env x, foldedSetIterable iter1 env x = pure x := by intro _ _; rfl) :
    RS X T W (.Assign [.Name y py] (.ListComp elt [⟨tg, iter, ifs, 0⟩, ⟨tg1, iter1, ifs1, 0⟩] scope pos) spos) (sAsg m (gN i)) :=
  PS.mono (ps_setLc2 hc hN hy hyl hsw hi ok hv hg ht hi1 hg1 ht1 he hs hs1) fun D σ H h => hm _ _ _ _ _ (nameM D σ H h)
end
end MM

set_option Elab.async false
set_option linter.all false
set_option maxRecDepth 100000
set_option maxHeartbeats 4000000
/-! ## MM: defs by name; the law's end -/
namespace MM
open PySem PySem.Spec PyProof.Rows L2
/-- the global x is a def that is F -/
def CalM (P : Program) (w : World) (K : Frag) (mg : Gm) (base : Heap) (T : Tbs) (k : Nat) (x : Str) (ps : List Str) (F : FM) : Prop :=
  ∃ (f : Addr) (fd : FuncData), FnG P w K mg base T k f fd ps F ∧ mg x = some (.ref f) ∧ PySem.W.keepIn K (.ref f) = true ∧ L2.Binds K fd ps []
theorem CalM.mono {P : Program} {w : World} {K : Frag} {mg : Gm} {base : Heap} {T : Tbs} {k j : Nat} {x : Str} {ps : List Str} {F : FM} (c : CalM P w K mg base T k x ps F) (h : k ≤ j) : CalM P w K mg base T j x ps F := by
  obtain ⟨f, fd, G, a, b, d⟩ := c
  exact ⟨f, fd, G.mono h, a, b, d⟩
section
variable {X : Cx} {T : Tbs} {W : WX} {k : Nat} {ps : List Str} {F : FM} {x : Str} {p pos : Pos} {e : Expr} {es : List Expr} {ms : Ev (List MV)}
theorem re_cal (c : CalM X.prog X.w X.K X.mg X.base T k x ps F) (hr : Room k X.A) (hgd : X.A.guards = some []) (hg : Gl X x) (tk : L2N.Takes X W)
    (ha : RA X T W (e :: es) ms) (hdb : (x == ("__debug__" : Str)) = false := by decide) (he : starEach (e :: es) X.env = (false, eval e X.env) :: starEach es X.env := by rfl) (hpl : (backTo pos (starEach es X.env)).any (·.1) = false := by rfl) :
    RE X T W (.Call (.Name x p) (e :: es) [] pos) (mCall ps.length F ms) := by
  obtain ⟨f, fd, G, hm, hk, hb⟩ := c
  exact re_call G hr hgd hg hm hk hb tk ha hdb he hpl
end
section
variable {P : Program} {w : World} {K : Frag} {mg : Gm} {base : Heap} {T : Tbs} {k : Nat} {f : Addr} {x : Str} {params : Arguments} {body : List Stmt} {scope : Scope} {N ps : List Str} {b : SM}
theorem CalM.of (F : ∃ fd, FunD K x x params body scope [] [] f fd) (g : mg x = some (.ref f))
    (hbind : ∀ (kV doc pm : Value) (an : Option Addr) (cdv ct : Value) (us : List Value), us.length = ps.length → bindArgs (PySem.W.fnOf x x params body scope .none kV doc pm an cdv ct) ⟨us, []⟩ = pure (ps.zip us)) (S : FnScope N ps scope)
    (hb : ∀ (cdv : Value) (A : Around) (outer : List PySem.Env) (s : Shared) (H : Hp) (E : XK), Room k (A.deeper (envOfC x scope s.heap.objs.size f cdv)) → A.guards = some [] → RSs (cxOf (L2N.CX P w) P w K mg base N x scope f cdv A outer s H E) T (wE E) body b) :
    CalM P w K mg base T (k + 1) x ps (runC N b) := by
  obtain ⟨fd, F⟩ := F
  have hB := F.bindsN hbind
  obtain ⟨oc, od, dV, kV, doc, pm, an, cdv, ct, osl, rfl, lk, hcd, _, _⟩ := F.ex
  exact ⟨f, _, FnG.chop (FnG.mk' lk hcd S fun A outer s H E hr hg => hb cdv A outer s H E hr hg), g, F.kp, hB⟩
end
end MM

set_option Elab.async false
set_option linter.all false
set_option maxRecDepth 100000
set_option maxHeartbeats 4000000
/-! ## MM: the law is called -/
namespace MM
open PySem PySem.Spec PyProof.Rows L2
/-- what is tracked at the law's call: the script (where it is no part of K), the empty tables -/
noncomputable def endH (K : Frag) (a : Addr) (vs : List Value) (ns : List Int) (ts : List Addr) : Hp := fun b =>
  if b = a then (match K.lookup a with
    | some _ => none
    | none => some (.frz { cls := .type "list", data := .seq vs.toArray } (.lst (ns.map V.int))))
  else if b ∈ ts then some (.tbl #[]) else none
section
variable {K : Frag} {a : Addr} {vs : List Value} {ns : List Int} {ts : List Addr}
theorem endH_tab {b : Addr} (h : b ∈ ts) (n : b ≠ a) : endH K a vs ns ts b = some (.tbl #[]) := by
  unfold endH
  rw [if_neg n, if_pos h]
theorem endH_off {b : Addr} (h : b ∉ ts) (n : b ≠ a) : endH K a vs ns ts b = none := by
  unfold endH
  rw [if_neg n, if_neg h]
theorem endH_at : endH K a vs ns ts a = (match K.lookup a with
    | some _ => none
    | none => some (.frz { cls := .type "list", data := .seq vs.toArray } (.lst (ns.map V.int)))) := by
  unfold endH
  rw [if_pos rfl]
/-- b's object is tracked as it stands, or a table, or not at all -/
theorem endH_cases (b : Addr) (aT : a ∉ ts) : endH K a vs ns ts b = none ∨ (b ∈ ts ∧ endH K a vs ns ts b = some (.tbl #[])) ∨ (b = a ∧ K.lookup a = none ∧ endH K a vs ns ts b = some (.frz { cls := .type "list", data := .seq vs.toArray } (.lst (ns.map V.int)))) := by
  by_cases h1 : b = a
  · subst h1
    rw [endH_at]
    cases K.lookup b with
    | some o => exact .inl rfl
    | none => exact .inr (.inr ⟨rfl, rfl, rfl⟩)
  · by_cases h2 : b ∈ ts
    · exact .inr (.inl ⟨h2, endH_tab h2 h1⟩)
    · exact .inl (endH_off h2 h1)
end
section
variable {P : Program} {w : World} {K : Frag} {mg mb : Str → Option Value} {k : Nat} {fa a : Addr} {cs : List (Addr × Addr)} {fd : FuncData} {x : Str} {F : FM} {T : Tbs} {s₁ : Shared} {vs : List Value} {ns : List Int}
theorem end_call (KX : K.In s₁.heap) (gns : s₁.heap.Ns mainGlobals mg) (bns : s₁.heap.Ns builtinsNs mb) (bbt : ∀ x : Str, x ≠ "__name__" → mb x = bootBuiltins x) (lim : s₁.heap.NoLimit) (gen : s₁.gens = #[])
    (tabs : ∀ p ∈ cs, s₁.heap.get? p.2 = some { cls := .none, data := .fields #[] }) (noK : ∀ p ∈ cs, K.lookup p.2 = none) (codes : ∀ p ∈ cs, PySem.W.CodeHd s₁.heap p.1 p.2)
    (bmod : ∃ (bm : Addr) (ob : Obj), mg "__builtins__" = some (.ref bm) ∧ bm ≠ builtinsNs ∧ s₁.heap.get? bm = some ob ∧ ob.cls = .type "module" ∧ ob.dict = some builtinsNs ∧ ob.data = .plain)
    (scr : s₁.heap.get? a = some { cls := .type "list", data := .seq vs.toArray }) (hin : IntsAre vs ns) (few : ns.length ≤ sizeLine) (hr : Room k callerA)
    (G : ∀ base : Heap, K.In base → base.Ns mainGlobals mg → (∀ p ∈ cs, LamX.TabB base mg p.1 p.2) → FnG P w K mg base T k fa fd [x] F) (hbind : ∀ (s : Shared) (u : Value), BindsTo s fd ⟨[u], []⟩ [(x, u)])
    (hT : ∀ p ∈ T, p.1 ∈ cs.map (·.2)) (holds : ∃ μ', F [.scr ns] [] = .ok (.bl true) μ') :
    codeAny (model P w) callerA (.call (.ref fa) ⟨[.ref a], []⟩) (fun r s' => r = .ok (.ret (.bool true)) ∧ OldK s₁.heap s'.heap ∧ s'.os = s₁.os ∧ AllBare s'.gens) s₁ := by
  have rv := vals_ints hin
  have lenV := hin.length
  generalize hts : cs.map (·.2) = ts at hT
  have isT : ∀ b : Addr, b ∈ ts → s₁.heap.get? b = some { cls := .none, data := .fields #[] } := fun b hb => by
    rw [← hts] at hb
    obtain ⟨p, hp, e⟩ := List.mem_map.mp hb
    rw [← e]
    exact tabs p hp
  have tsK : ∀ b : Addr, b ∈ ts → K.lookup b = none := fun b hb => by
    rw [← hts] at hb
    obtain ⟨p, hp, e⟩ := List.mem_map.mp hb
    rw [← e]
    exact noK p hp
  have aT : a ∉ ts := fun z => by
    have q := isT a z
    rw [scr] at q
    have z' : Data.seq vs.toArray _ = Data.fields #[] := congrArg Obj.data (Option.some.inj q)
    cases z'
  have inT : ∀ p ∈ cs, p.2 ∈ ts := fun p hp => by rw [← hts]; exact List.mem_map.mpr ⟨p, hp, rfl⟩
  have tab_at : ∀ b ∈ ts, endH K a vs ns ts b = some (.tbl #[]) := fun b hb => endH_tab hb fun z => aT (z ▸ hb)
  obtain ⟨H, hH⟩ : ∃ H : Hp, H = endH K a vs ns ts := ⟨_, rfl⟩
  have cas : ∀ b, H b = none ∨ (b ∈ ts ∧ H b = some (.tbl #[])) ∨ (b = a ∧ K.lookup a = none ∧ H b = some (.frz { cls := .type "list", data := .seq vs.toArray } (.lst (ns.map V.int)))) := fun b => by rw [hH]; exact endH_cases b aT
  -- an object that is neither a sequence nor an empty table is not tracked
  have free_of : ∀ {b : Addr} {o : Obj}, s₁.heap.get? b = some o → (∀ vs n, o.data ≠ .seq vs n) → o.data ≠ .fields #[] → H b = none := fun {b o} e h1 h2 => by
    rcases cas b with z | ⟨z, _⟩ | ⟨z, _⟩
    · exact z
    · rw [isT b z] at e; cases e
      exact (h2 rfl).elim
    · subst z
      rw [scr] at e; cases e
      exact (h1 _ _ rfl).elim
  have hok : HOk P w H s₁.heap := fun b u z => by
    rcases cas b with y | ⟨y, y2⟩ | ⟨y, _, y2⟩
    · rw [y] at z; cases z
    · rw [y2] at z; cases z
      exact isT b y
    · rw [y2] at z; cases z
      subst y
      exact ⟨scr, by rw [List.length_map]; exact few, vs, _, rv, scr⟩
  have in_base : ∀ {b : Addr} {o : Obj}, s₁.heap.get? b = some o → H b = none → (hidT s₁.heap H).get? b = some o := fun e n => hidT_get e n
  have dict_free : ∀ {b : Addr} {o : Obj} {es : Array DictEntry} {ep : Nat}, s₁.heap.get? b = some o → o.data = .dict es ep → H b = none := fun {b o es ep} e d =>
    free_of e (fun vs n z => by rw [d] at z; cases z) fun z => by rw [d] at z; cases z
  have ns_base : ∀ {b : Addr} {m : Str → Option Value}, s₁.heap.Ns b m → (hidT s₁.heap H).Ns b m := fun {b m} ⟨o, es, ep, e, d, r⟩ => ⟨o, es, ep, in_base e (dict_free e d), d, r⟩
  have K_base : K.In (hidT s₁.heap H) := fun b o e => in_base (KX b o e) (by
    rcases cas b with z | ⟨z, _⟩ | ⟨z, z2, _⟩
    · exact z
    · rw [tsK b z] at e; cases e
    · subst z; rw [z2] at e; cases e)
  have md : L2.Mod K mg (hidT s₁.heap H) := ⟨K_base, ns_base gns, ⟨mb, ns_base bns, bbt⟩, let ⟨mc, h1, h2⟩ := lim; ⟨mc, ns_base h1, h2⟩⟩
  have TB : ∀ p ∈ cs, LamX.TabB (hidT s₁.heap H) mg p.1 p.2 := fun p hp => by
    have hTp := tabs p hp
    refine ⟨?_, ?_, fun z => ?_⟩
    · obtain ⟨o, us, file, tf, flags, tg, inF, text, tt, e1, r1, r2, r3, r4, r5, r6, r7, r8, hne⟩ := codes p hp
      refine ⟨o, us, file, tf, flags, tg, inF, text, tt, in_base e1 (free_of e1 (fun vs n z => by rw [r2] at z; cases z) fun z => ?_), r1, r2, r3, r4, r5, r6, r7, r8, hne⟩
      rw [r2] at z
      cases z
      simp at r3
    · obtain ⟨bm, ob, b1, b2, b3, b4, b5, b6⟩ := bmod
      refine ⟨bm, ob, b1, b2, fun q => ?_, fun q => ?_, in_base b3 (free_of b3 (fun vs n z => by rw [b6] at z; cases z) fun z => by rw [b6] at z; cases z), b4, b5, b6⟩
      · obtain ⟨o, es, ep, e, hd, _⟩ := gns
        rw [q, e] at b3
        cases b3
        rw [hd] at b6
        cases b6
      · rw [q, hTp] at b3
        cases b3
        cases b6
    · obtain ⟨o, es, ep, e, hd, _⟩ := gns
      rw [z, hTp] at e
      cases e
      cases hd
  have e0 : Env0 P w K mg (hidT s₁.heap H) callerA [] s₁ H := ⟨rfl, md, fun b o e => of_hidT e, Nat.le_of_eq (hidT_size _ _), trivial, fun b hb => absurd (show b ∈ ([] : List Addr) from hb) (by simp), hok, .of_eq gen⟩
  obtain ⟨μ', hF⟩ := holds
  have sp : spM K mg T [x].length F [.ref a] H (fun v _ => v = .bl true) fun _ _ _ => False := by
    refine ⟨⟨[], []⟩, [], [.scr ns], ⟨rfl, fun i j b h => by simp at h, fun i c h => by simp at h, fun p hp => ?_, fun b h => by cases h⟩, RepL.one ?_, rfl, ?_⟩
    · exact LamX.TabS.nil (by rw [hH]; exact tab_at _ (hT p hp))
    · unfold RepV
      refine ⟨a, rfl, ?_⟩
      cases hk : K.lookup a with
      | none => exact .inl ⟨.inr ⟨_, by rw [hH, endH_at, hk]⟩, fun z => by rcases z with z | z <;> cases z⟩
      | some o =>
        have e := KX a o hk
        rw [scr] at e
        cases e
        exact .inr ⟨_, vs.toArray, _, hk, rfl, rfl, rfl, by rw [List.size_toArray, lenV]; exact few, by simpa using rv⟩
    · rw [hF]
      exact fun v ι' H' _ _ r => r.bl_inv
  refine codeAny_mono ((G _ K_base (ns_base gns) TB).run callerA [] s₁ H ⟨[.ref a], []⟩ [.ref a] [.ref a] _ _ hr rfl e0 (hbind s₁ (.ref a)) (.cons rfl .nil) sp) fun r s' h => ?_
  cases r with
  | error e =>
    obtain ⟨_, _, _, _, _, _, _, _, _, _, _, _, z⟩ := (show L2N.CX P w [] H s₁ (fun _ _ _ => False) e s' from h)
    exact z.elim
  | ok fl =>
    cases fl with
    | next => exact False.elim h
    | brk => exact False.elim h
    | cont => exact False.elim h
    | ret u =>
      obtain ⟨v, H', os, bare, un, hok', r', q⟩ := h
      have q' : v = .bl true := q
      subst q'
      obtain rfl : u = Value.bool true := r'
      have same : ∀ b o, b ∉ ts → s₁.heap.get? b = some o → s'.heap.get? b = some o := fun b o nb e => by
        rcases cas b with z | ⟨z, _⟩ | ⟨z, _, z2⟩
        · exact un.keep b o e z (by intro z; exact absurd (show b ∈ ([] : List Addr) from z) (by simp)) (by simp)
        · exact absurd z nb
        · have z3 := un.frzs b _ _ z2
          obtain ⟨e2, _⟩ := hok' b _ z3
          subst z
          rw [scr] at e; cases e
          exact e2
      have more : ∀ p ∈ cs, ∃ m : Array Value, s'.heap.get? p.2 = some { cls := .none, data := .fields m } := fun p hp => by
        obtain ⟨m, z⟩ := un.tbls p.2 #[] (by rw [hH]; exact tab_at _ (inT p hp))
        exact ⟨_, hok' p.2 _ z⟩
      refine ⟨rfl, ⟨fun b o e => ?_, fun b o e => ?_⟩, os, bare⟩
      · by_cases hb : b ∈ ts
        · rw [← hts] at hb
          obtain ⟨p, hp, ep⟩ := List.mem_map.mp hb
          obtain ⟨m, hm⟩ := more p hp
          rw [← ep] at e ⊢
          rw [tabs p hp] at e
          cases e
          exact .inr (.inl ⟨((codes p hp).tab (tabs p hp)).isCodeTable, rfl, #[], m, rfl, by rw [Array.empty_append]; exact hm⟩)
        · exact .inl (same b o hb e)
      · by_cases hb : b ∈ ts
        · rw [← hts] at hb
          obtain ⟨p, hp, ep⟩ := List.mem_map.mp hb
          obtain ⟨m, hm⟩ := more p hp
          rw [← ep]
          exact ⟨_, hm⟩
        · exact ⟨o, same b o hb e⟩
end
/-- the row's walk, from the law's def -/
theorem walk_end {l : PySem.W.OpenLaw} {n k : Nat} {q : Program} {loose : List Str} {XP : (Str → Option Value) → Heap → Prop} {YP : World → Heap → Prop} {d : DefRec} {x : Str}
    (hn : l.most = some n) (hn2 : n ≤ sizeLine) (hdf : d.params.defaults = []) (hr : Room k callerA)
    (look : ∀ (w : World) (mg : Str → Option Value) (fa : Addr) (h : Heap), YP w h → h.Ns mainGlobals mg → mg d.name = some (.ref fa) →
      ∃ (K : Frag) (fd : FuncData) (cs : List (Addr × Addr)) (T : Tbs) (F : FM), K.In h ∧ (∀ p ∈ cs, h.get? p.2 = some { cls := .none, data := .fields #[] }) ∧ (∀ p ∈ cs, K.lookup p.2 = none) ∧ (∀ p ∈ cs, PySem.W.CodeHd h p.1 p.2) ∧ (∀ (s : Shared) (u : Value), BindsTo s fd ⟨[u], []⟩ [(x, u)]) ∧ (∀ p ∈ T, p.1 ∈ cs.map (·.2)) ∧
        (∀ ns : List Int, ns.length ≤ n → (∀ z ∈ ns, Builtin.Int.intBits z ≤ 1048576) → ∃ μ', F [.scr ns] [] = .ok (.bl true) μ') ∧
        ∀ base : Heap, K.In base → base.Ns mainGlobals mg → (∀ p ∈ cs, LamX.TabB base mg p.1 p.2) → FnG l.prog w K mg base T k fa fd [x] F) :
    PySem.W.WalkO q loose XP YP l.row.toRowW d [] (fun f vs => PySem.call f vs) := by
  refine Att.attach_callB hn hdf fun w s₀ s₁ mg mb fa o pm cd doc a vs ns G Y ho hd hcd hmg hobj hints hlen hbits hg => ?_
  obtain ⟨K, fd, cs, T, F, KX, c1, c2, c3, c4, c5, c6, c7⟩ := look w mg fa _ Y G.T.g hmg
  exact end_call KX G.T.g G.T.b G.T.builtins G.T.nolimit hg c1 c2 c3 G.T.bmain hobj hints (Nat.le_trans hlen hn2) hr c7 c4 c5 (c6 ns hlen hbits)
end MM

set_option Elab.async false
set_option linter.all false
set_option maxRecDepth 100000
set_option maxHeartbeats 4000000
/-! ## MM: starred items; least and greatest; sorted; reversed; the bundle of a context -/
namespace MM
open PySem PySem.Spec PyProof.Rows L2
/-! ### starred items -/
def mStar (ma : Ev MV) (ms : Ev (List MV)) : Ev (List MV) := mB ma fun d => mB (fun _ μ => match seqOf μ d with
  | some xs => .ok xs μ
  | none => .bad) fun xs => mB ms fun ds => mRet (xs ++ ds)
section
variable {X : Cx} {T : Tbs} {W : WX} {pos p : Pos} {a : Expr} {es : List Expr} {ma : Ev MV} {ms : Ev (List MV)}
theorem ra_star (ha : RE X T W a ma) (hr : RA X T W es ms) (hs : starEach (.Starred a p :: es) X.env = (true, eval a X.env) :: starEach es X.env := by rfl) : RA X T W (.Starred a p :: es) (mStar ma ms) :=
  PA.mono (StX.pa_star ha hr hs) fun σ H Q ⟨ι, ρ, μ, s, e, h⟩ => ⟨ι, ρ, μ, s, e, bindr h fun d v μ1 ι1 H1 _ E1 s1 r1 h1 => by
    cases hq : seqOf μ1 d with
    | none =>
      unfold mB at h1
      simp only [hq] at h1
      exact h1.elim
    | some xs =>
      obtain ⟨b, vs, ev, t, l⟩ := seq_inv s1 r1 hq
      have h2 : Post (RLs X.K) X.K X.mg T W σ ι1 H1 (fun ys H2 => Q ys H2) (mB ms (fun ds => mRet (xs ++ ds)) ρ μ1) := by
        unfold mB at h1
        simp only [hq] at h1
        exact h1
      exact ⟨b, vs, ev, t.elim .inr .inl, ι1, ρ, μ1, s1, e.ext E1, bindr h2 fun ds us μ2 ι2 H2 _ E2 s2 r2 h3 => h3 (vs ++ us) ι2 H2 Ext.refl s2 ((RepL.ext E2 _ _ l).app r2)⟩⟩
end

/-! ### least, greatest -/
mutual
def unPd : PyData → Option MV
  | .none => some .non
  | .bool b => some (.bl b)
  | .int i => some (.int i)
  | .str x => some (.str x)
  | .tuple xs => (unPdL xs).map .tup
  | .list xs => (unPdL xs).map .lst
  | _ => none
def unPdL : List PyData → Option (List MV)
  | [] => some []
  | x :: xs => match unPd x, unPdL xs with
    | some d, some ds => some (d :: ds)
    | _, _ => none
end
mutual
theorem unPd_pd : ∀ (d : MV) (p : PyData), pd0 d = some p → unPd p = some d
  | .non, p, h => by cases h; rfl
  | .bl b, p, h => by cases h; rfl
  | .int i, p, h => by cases h; rfl
  | .str x, p, h => by cases h; rfl
  | .ref _, _, h => by cases h
  | .cst _, _, h => by cases h
  | .scr _, _, h => by cases h
  | .tup xs, p, h => by
    unfold pd0 at h
    obtain ⟨ps, h1, rfl⟩ := Option.map_eq_some_iff.mp h
    unfold unPd
    rw [unPdL_pd xs ps h1]
    rfl
  | .lst xs, p, h => by
    unfold pd0 at h
    obtain ⟨ps, h1, rfl⟩ := Option.map_eq_some_iff.mp h
    unfold unPd
    rw [unPdL_pd xs ps h1]
    rfl
theorem unPdL_pd : ∀ (xs : List MV) (ps : List PyData), pd0L xs = some ps → unPdL ps = some xs
  | [], ps, h => by cases h; rfl
  | x :: xs, ps, h => by
    unfold pd0L at h
    split at h
    · rename_i d ds h1 h2
      cases h
      unfold unPdL
      rw [unPd_pd x d h1, unPdL_pd xs ds h2]
    · cases h
end
theorem pd0L_at : ∀ {xs : List MV} {ps : List PyData} {i : Nat} {d : MV}, pd0L xs = some ps → xs[i]? = some d → ∃ p, ps[i]? = some p ∧ pd0 d = some p
  | [], _, _, _, _, h => by simp at h
  | x :: xs, ps, i, d, h, e => by
    unfold pd0L at h
    split at h
    · rename_i p1 ps1 h1 h2
      cases h
      cases i with
      | zero => cases e; exact ⟨p1, rfl, h1⟩
      | succ i => exact pd0L_at (xs := xs) (i := i) h2 (by simpa using e)
    · cases h
def alikeB (ps : List PyData) : Bool := ps.all (fun x => ps.all fun y => PySem.W.alike x y) && ps.all fun x => match x with
  | .none => false
  | _ => true
theorem alikeB_all {ps : List PyData} (h : alikeB ps = true) : PySem.W.AlikeAll ps := by
  unfold alikeB at h
  rw [Bool.and_eq_true, List.all_eq_true, List.all_eq_true] at h
  refine ⟨fun x hx y hy => (List.all_eq_true.mp (h.1 x hx)) y hy, fun x hx e => ?_⟩
  have := h.2 x hx
  rw [e] at this
  cases this
def bestM (f : PyData → List PyData → PyData) : OpC := fun μ ds => match ds with
  | [d] => (seqOf μ d).bind fun xs => (pd0L xs).bind fun ps => match ps with
    | [] => none
    | p :: r => if alikeB (p :: r) = true ∧ PyData.depthAll (p :: r) ≤ 100 then unPd (f p r) else none
  | _ => none
def minM : OpC := bestM PySem.W.minD
def maxM : OpC := bestM PySem.W.maxD
section
variable {X : Cx} {T : Tbs}
theorem best_inv {f : PyData → List PyData → PyData} {K : Frag} {H : Hp} {ι : Io} {μ : Mem} {ds : List MV} {xs : List V} {d : MV} (sr : SR K T ι μ H) (r1 : RepL K H ι ds xs) (e : bestM f μ ds = some d) :
    ∃ a vs zs p r, xs = [.ref a] ∧ (SqL K H a vs ∨ SqT K H a vs) ∧ RepL K H ι zs vs ∧ pd0L zs = some (p :: r) ∧ PySem.W.AlikeAll (p :: r) ∧ PyData.depthAll (p :: r) ≤ 100 ∧ unPd (f p r) = some d := by
  unfold bestM at e
  split at e
  · obtain ⟨zs, h1, e⟩ := Option.bind_eq_some_iff.mp e
    obtain ⟨ps, h2, e⟩ := Option.bind_eq_some_iff.mp e
    obtain ⟨v, rfl, r⟩ := r1.one_inv
    obtain ⟨a, vs, rfl, t, l⟩ := seq_inv sr r h1
    cases ps with
    | nil => cases e
    | cons p q =>
      have e : (if alikeB (p :: q) = true ∧ PyData.depthAll (p :: q) ≤ 100 then unPd (f p q) else none) = some d := e
      split at e
      · rename_i hh
        exact ⟨a, vs, zs, p, q, rfl, t, l, h2, alikeB_all hh.1, hh.2, e⟩
      · cases e
  · cases e
theorem best_end {f : PyData → List PyData → PyData} {pins : List (Addr × Obj)} {σ : L2.St} {H : Hp} {s : Shared} {Q : VK} {ι : Io} {μ : Mem} {zs : List MV} {vs : List V} {us : List Value} {p : PyData} {r : List PyData} {d : MV} (I : Inv X pins σ H s) (sr : SR X.K T ι μ H) (l : RepL X.K H ι zs vs) (rv : Vals vs us)
    (hp : pd0L zs = some (p :: r)) (hd : unPd (f p r) = some d) (q : ∀ v H', Ext ι H ι H' → SR X.K T ι μ H' → RepV X.K H' ι d v → Q v H')
    {i : Nat} {v : Value} {h' : Heap} {tk : Nat} {bs : List Addr} (hv : us.toArray[i]? = some v) (hr : Reads h' v (f p r) bs) (hk : ∀ b o, s.heap.get? b = some o → h'.get? b = some o) :
    EP X pins σ Q v { s with heap := h', toks := tk } := by
  have hi : i < us.length := by
    have := (Array.getElem?_eq_some_iff.mp hv).1
    simpa using this
  have hi2 : i < vs.length := by rw [rv.length]; exact hi
  obtain ⟨u, hu, ru⟩ := rv.get (i := i) (x := vs[i]) (by simp [hi2])
  have hv' : us[i]? = some v := by simpa using hv
  rw [hv'] at hu
  cases hu
  obtain ⟨d2, hd2, rd2⟩ := l.get' (i := i) (v := vs[i]) (by simp [hi2])
  obtain ⟨p2, hp2, hpd⟩ := pd0L_at hp hd2
  have hdp := pd0_dp sr d2 _ p2 rd2 hpd
  have I2 : Inv X pins σ H { s with heap := h', toks := tk } := I.kept hk
  obtain ⟨as, r2⟩ := Dp.reads I2 p2 _ v hdp ru
  obtain ⟨e, _⟩ := Reads.unique hr p2 as r2
  rw [e, unPd_pd d2 p2 hpd] at hd
  cases hd
  exact ⟨vs[i], H, I2, ru, q _ H Ext.refl sr rd2⟩
theorem c_min (hc : X.calm = true) (hu : X.A.units + 101 < cLine) : CallR X (.builtin "min") (rC X.K T minM) := by
  intro pins s σ H xs us Q I rx ⟨ι, μ, ds, sr, r1, d, e, q⟩
  obtain ⟨a, vs, zs, p, r, rfl, t, l, h2, h3, h4, h5⟩ := best_inv sr r1 e
  rw [Vals.ref1 rx]
  rcases t with t | t
  · obtain ⟨its, rv, hl, _⟩ := I.list t
    obtain ⟨as, hr⟩ := Dp.readsAll I (p :: r) vs its (pd0L_dp sr zs vs _ l h2) rv
    exact PySem.W.min_list_data (I.ok.hd hc) hl.isList (by simpa using hr) h3 (by omega) fun i v h' tk bs hv hrd hk => best_end I sr l rv h2 h5 q hv hrd hk
  · obtain ⟨its, rv, hl, _⟩ := I.tuple t
    obtain ⟨as, hr⟩ := Dp.readsAll I (p :: r) vs its (pd0L_dp sr zs vs _ l h2) rv
    exact PySem.W.min_tuple_data (I.ok.hd hc) hl (by simpa using hr) h3 (by omega) fun i v h' tk bs hv hrd hk => best_end I sr l rv h2 h5 q hv hrd hk
theorem c_max (hc : X.calm = true) (hu : X.A.units + 101 < cLine) : CallR X (.builtin "max") (rC X.K T maxM) := by
  intro pins s σ H xs us Q I rx ⟨ι, μ, ds, sr, r1, d, e, q⟩
  obtain ⟨a, vs, zs, p, r, rfl, t, l, h2, h3, h4, h5⟩ := best_inv sr r1 e
  rw [Vals.ref1 rx]
  rcases t with t | t
  · obtain ⟨its, rv, hl, _⟩ := I.list t
    obtain ⟨as, hr⟩ := Dp.readsAll I (p :: r) vs its (pd0L_dp sr zs vs _ l h2) rv
    exact PySem.W.max_list_data (I.ok.hd hc) hl.isList (by simpa using hr) h3 (by omega) fun i v h' tk bs hv hrd hk => best_end I sr l rv h2 h5 q hv hrd hk
  · obtain ⟨its, rv, hl, _⟩ := I.tuple t
    obtain ⟨as, hr⟩ := Dp.readsAll I (p :: r) vs its (pd0L_dp sr zs vs _ l h2) rv
    exact PySem.W.max_tuple_data (I.ok.hd hc) hl (by simpa using hr) h3 (by omega) fun i v h' tk bs hv hrd hk => best_end I sr l rv h2 h5 q hv hrd hk
def max2M : OpC := fun _ ds => match ds with
  | [.int i, .int j] => some (.int (if j > i then j else i))
  | _ => none
def min2M : OpC := fun _ ds => match ds with
  | [.int i, .int j] => some (.int (if j < i then j else i))
  | _ => none
theorem c_max2 (hc : X.calm = true) : CallR X (.builtin "max") (rC X.K T max2M) := by
  intro pins s σ H xs us Q I rx ⟨ι, μ, ds, sr, r1, d, e, q⟩
  unfold max2M at e
  split at e
  · cases e
    obtain ⟨v, u, rfl, h1, h2⟩ := r1.two_inv
    cases h1.int_inv
    cases h2.int_inv
    exact call_max2 hc pins s σ H _ us Q I rx ⟨_, _, rfl, q _ H Ext.refl sr RepV.int⟩
  · cases e
theorem c_min2 (hc : X.calm = true) : CallR X (.builtin "min") (rC X.K T min2M) := by
  intro pins s σ H xs us Q I rx ⟨ι, μ, ds, sr, r1, d, e, q⟩
  unfold min2M at e
  split at e
  · cases e
    obtain ⟨v, u, rfl, h1, h2⟩ := r1.two_inv
    cases h1.int_inv
    cases h2.int_inv
    exact call_min2 hc pins s σ H _ us Q I rx ⟨_, _, rfl, q _ H Ext.refl sr RepV.int⟩
  · cases e
/-! ### sorted, whole numbers -/
def sortI (ns : List Int) : List Int := ns.mergeSort (fun a b => decide (a ≤ b))
def sortedM : OpC := fun μ ds => match ds with
  | [d] => (lstOf μ d).bind fun xs => (intsOf xs).map fun ns => .lst ((sortI ns).map .int)
  | _ => none
theorem sortI_eq {ns ms : List Int} (p : ms.Perm ns) (s : ms.Pairwise (· ≤ ·)) : ms = sortI ns := by
  have h1 : (sortI ns).Perm ns := List.mergeSort_perm _ _
  have h2 : (sortI ns).Pairwise (· ≤ ·) := by
    have := List.pairwise_mergeSort (le := fun a b : Int => decide (a ≤ b)) (fun a b c h1 h2 => by simp at *; omega) (fun a b => by simp; omega) ns
    exact this.imp fun h => of_decide_eq_true h
  exact List.Perm.eq_of_pairwise (fun a b _ _ h1 h2 => Int.le_antisymm h1 h2) s h2 (p.trans h1.symm)
theorem c_sorted : CallR X (.builtin "sorted") (rC X.K T sortedM) := by
  intro pins s σ H xs us Q I rx ⟨ι, μ, ds, sr, r1, d, e, q⟩
  unfold sortedM at e
  split at e
  · obtain ⟨ys, h1, e⟩ := Option.bind_eq_some_iff.mp e
    obtain ⟨ns, h2, rfl⟩ := Option.map_eq_some_iff.mp e
    obtain ⟨v, rfl, r⟩ := r1.one_inv
    obtain ⟨a, vs, rfl, t, l⟩ := sr.lst r h1
    rw [intsOf_rep l h2] at t
    refine cr_sortedI pins s σ H _ us Q I rx ⟨a, ns, rfl, t, fun ms p hp hs hn => ?_⟩
    rw [sortI_eq hp hs]
    exact q _ _ (Ext.laid hn) (sr.laid hn) (RepV.lst sr hn (RepL.ints _))
  · cases e
end
/-! ### xs[::-1] -/
def revM : Mem → MV → Option MV := fun μ d => (lstOf μ d).map fun xs => .lst xs.reverse
section
variable {X : Cx} {T : Tbs} {W : WX} {pos p1 p2 p3 : Pos} {a : Expr} {ma : Ev MV} {k : Nat}
theorem re_rev (ha : RE X T W a ma) : RE X T W (.Subscript a (.Slice none none (some (.UnaryOp .USub (.Constant (.int 1) k p1) p2)) p3) pos) (mUn revM ma) :=
  PE.mono (pe_revL ha) fun σ H Q ⟨ι, ρ, μ, s, e, h⟩ => ⟨ι, ρ, μ, s, e, bindr h fun d v μ1 ι1 H1 _ E1 s1 r1 h1 => by
    obtain ⟨d', hd, q⟩ := h1.po
    obtain ⟨xs, h2, rfl⟩ := Option.map_eq_some_iff.mp hd
    obtain ⟨b, vs, rfl, t, l⟩ := s1.lst r1 h2
    exact ⟨b, vs, rfl, t, fun p hp => q _ _ (Ext.laid hp) (s1.laid hp) (RepV.lst s1 hp l.rev)⟩⟩
end
end MM

set_option Elab.async false
set_option linter.all false
set_option maxRecDepth 100000
set_option maxHeartbeats 4000000
/-! ## MM: the bundle of a context; short words -/
namespace MM
open PySem PySem.Spec PyProof.Rows L2
structure Cg (X : Cx) (k : Nat) : Prop where
  hc : X.calm = true
  hN : X.N.Nodup
  rm : Room k X.A
  gd : X.A.guards = some []
theorem Cg.u64 {X : Cx} {k : Nat} (g : Cg X k) : X.A.units + 64 < cLine := by have := g.rm.un; omega
theorem Cg.u65 {X : Cx} {k : Nat} (g : Cg X k) : X.A.units + 65 < cLine := by have := g.rm.un; omega
theorem Cg.u101 {X : Cx} {k : Nat} (g : Cg X k) : X.A.units + 101 < cLine := by have := g.rm.un; omega
theorem Cg.b {X : Cx} {k : Nat} (g : Cg X k) {s : Shared} {H : Hp} {scope : Scope} {ce : PySem.Env} {fp : List Addr} : Cg (X.blk s H scope ce fp) k := ⟨g.hc, g.hN, g.rm, g.gd⟩
theorem tk0 {X : Cx} : L2N.Takes X W0 := fun u s' ⟨a, B, sI, pins, σ, H, cls, d, e, I, nb, up, sky, na, os, ag, w⟩ => w.elim
/-- the built-ins that are not hidden -/
structure Blt (mg : Gm) : Prop where
  len : mg "len" = none
  abs : mg "abs" = none
  int : mg "int" = none
  str : mg "str" = none
  sum : mg "sum" = none
  any : mg "any" = none
  all : mg "all" = none
  tuple : mg "tuple" = none
  list : mg "list" = none
  repr : mg "repr" = none
  range : mg "range" = none
  enumerate : mg "enumerate" = none
  zip : mg "zip" = none
  min : mg "min" = none
  max : mg "max" = none
  sorted : mg "sorted" = none
  isinstance : mg "isinstance" = none
section
variable {X : Cx} {T : Tbs} {W : WX} {k : Nat} {pos p p2 : Pos} {a b e e2 tg : Expr} {es elts : List Expr} {ms : Ev (List MV)} {ma mb me : Ev MV} {n : Nat}
theorem xv (i : Nat) {x : Str} (hN : X.N[i]? = some x := by rfl) (hv : Vis X.env.scope x := by first | exact Or.inl rfl | exact Or.inr (Or.inl rfl) | exact Or.inr (Or.inr rfl)) (hd : (x == ("__debug__" : Str)) = false := by decide)
    (hcd : (x == ("__classdict__" : Str)) = false := by decide) : RE X T W (.Name x pos) (mVar i) := re_var i hN hv hd hcd
theorem xlen (bl : Blt X.mg) (ha : RA X T W [e] ms) (hg : Gl X "len" := by rfl) (hs : starEach [e] X.env = (false, eval e X.env) :: starEach [] X.env := by rfl) (hpl : (backTo pos (starEach [] X.env)).any (·.1) = false := by rfl) : RE X T W (.Call (.Name "len" p) [e] [] pos) (mCB lenM ms) := re_callB c_len hg bl.len boot_len ha (by decide) (by decide) hs hpl
theorem xabs (bl : Blt X.mg) (ha : RA X T W [e] ms) (hg : Gl X "abs" := by rfl) (hs : starEach [e] X.env = (false, eval e X.env) :: starEach [] X.env := by rfl) (hpl : (backTo pos (starEach [] X.env)).any (·.1) = false := by rfl) : RE X T W (.Call (.Name "abs" p) [e] [] pos) (mCB absM ms) := re_callB c_abs hg bl.abs (by rfl) ha (by decide) (by decide) hs hpl
theorem xint (bl : Blt X.mg) (ha : RA X T W [e] ms) (hg : Gl X "int" := by rfl) (hs : starEach [e] X.env = (false, eval e X.env) :: starEach [] X.env := by rfl) (hpl : (backTo pos (starEach [] X.env)).any (·.1) = false := by rfl) : RE X T W (.Call (.Name "int" p) [e] [] pos) (mCB intM ms) := re_callTy c_int hg bl.int (by rfl) ha (by decide) (by decide) hs hpl
theorem xstr (bl : Blt X.mg) (ha : RA X T W [e] ms) (hg : Gl X "str" := by rfl) (hs : starEach [e] X.env = (false, eval e X.env) :: starEach [] X.env := by rfl) (hpl : (backTo pos (starEach [] X.env)).any (·.1) = false := by rfl) : RE X T W (.Call (.Name "str" p) [e] [] pos) (mCB strM ms) := re_callTy c_str hg bl.str (by rfl) ha (by decide) (by decide) hs hpl
theorem xsum (g : Cg X k) (bl : Blt X.mg) (ha : RA X T W [e] ms) (hg : Gl X "sum" := by rfl) (hs : starEach [e] X.env = (false, eval e X.env) :: starEach [] X.env := by rfl) (hpl : (backTo pos (starEach [] X.env)).any (·.1) = false := by rfl) : RE X T W (.Call (.Name "sum" p) [e] [] pos) (mCB sumM ms) := re_callB (c_sum g.hc) hg bl.sum (by rfl) ha (by decide) (by decide) hs hpl
theorem xany (g : Cg X k) (bl : Blt X.mg) (ha : RA X T W [e] ms) (hg : Gl X "any" := by rfl) (hs : starEach [e] X.env = (false, eval e X.env) :: starEach [] X.env := by rfl) (hpl : (backTo pos (starEach [] X.env)).any (·.1) = false := by rfl) : RE X T W (.Call (.Name "any" p) [e] [] pos) (mCB anyM ms) := re_callB (c_any g.hc) hg bl.any (by rfl) ha (by decide) (by decide) hs hpl
theorem xall (g : Cg X k) (bl : Blt X.mg) (ha : RA X T W [e] ms) (hg : Gl X "all" := by rfl) (hs : starEach [e] X.env = (false, eval e X.env) :: starEach [] X.env := by rfl) (hpl : (backTo pos (starEach [] X.env)).any (·.1) = false := by rfl) : RE X T W (.Call (.Name "all" p) [e] [] pos) (mCB allM ms) := re_callB (c_all g.hc) hg bl.all (by rfl) ha (by decide) (by decide) hs hpl
theorem xtuple (bl : Blt X.mg) (ha : RA X T W [e] ms) (hg : Gl X "tuple" := by rfl) (hs : starEach [e] X.env = (false, eval e X.env) :: starEach [] X.env := by rfl) (hpl : (backTo pos (starEach [] X.env)).any (·.1) = false := by rfl) : RE X T W (.Call (.Name "tuple" p) [e] [] pos) (mCB tupleM ms) := re_callTy c_tuple hg bl.tuple (by rfl) ha (by decide) (by decide) hs hpl
theorem xlist (bl : Blt X.mg) (ha : RA X T W [e] ms) (hg : Gl X "list" := by rfl) (hs : starEach [e] X.env = (false, eval e X.env) :: starEach [] X.env := by rfl) (hpl : (backTo pos (starEach [] X.env)).any (·.1) = false := by rfl) : RE X T W (.Call (.Name "list" p) [e] [] pos) (mCB listM ms) := re_callTy c_list hg bl.list (by rfl) ha (by decide) (by decide) hs hpl
theorem xrepr (g : Cg X k) (bl : Blt X.mg) (ha : RA X T W [e] ms) (hg : Gl X "repr" := by rfl) (hs : starEach [e] X.env = (false, eval e X.env) :: starEach [] X.env := by rfl) (hpl : (backTo pos (starEach [] X.env)).any (·.1) = false := by rfl) : RE X T W (.Call (.Name "repr" p) [e] [] pos) (mCB reprM ms) := re_callB (c_repr g.u64 g.gd) hg bl.repr (by rfl) ha (by decide) (by decide) hs hpl
theorem xmin (g : Cg X k) (bl : Blt X.mg) (ha : RA X T W [e] ms) (hg : Gl X "min" := by rfl) (hs : starEach [e] X.env = (false, eval e X.env) :: starEach [] X.env := by rfl) (hpl : (backTo pos (starEach [] X.env)).any (·.1) = false := by rfl) : RE X T W (.Call (.Name "min" p) [e] [] pos) (mCB minM ms) := re_callB (c_min g.hc g.u101) hg bl.min (by rfl) ha (by decide) (by decide) hs hpl
theorem xmax (g : Cg X k) (bl : Blt X.mg) (ha : RA X T W [e] ms) (hg : Gl X "max" := by rfl) (hs : starEach [e] X.env = (false, eval e X.env) :: starEach [] X.env := by rfl) (hpl : (backTo pos (starEach [] X.env)).any (·.1) = false := by rfl) : RE X T W (.Call (.Name "max" p) [e] [] pos) (mCB maxM ms) := re_callB (c_max g.hc g.u101) hg bl.max (by rfl) ha (by decide) (by decide) hs hpl
theorem xsorted (bl : Blt X.mg) (ha : RA X T W [e] ms) (hg : Gl X "sorted" := by rfl) (hs : starEach [e] X.env = (false, eval e X.env) :: starEach [] X.env := by rfl) (hpl : (backTo pos (starEach [] X.env)).any (·.1) = false := by rfl) : RE X T W (.Call (.Name "sorted" p) [e] [] pos) (mCB sortedM ms) := re_callB c_sorted hg bl.sorted (by rfl) ha (by decide) (by decide) hs hpl
theorem xmax2 (g : Cg X k) (bl : Blt X.mg) (ha : RA X T W [e, e2] ms) (hg : Gl X "max" := by rfl) (hs : starEach [e, e2] X.env = (false, eval e X.env) :: starEach [e2] X.env := by rfl) (hpl : (backTo pos (starEach [e2] X.env)).any (·.1) = false := by rfl) : RE X T W (.Call (.Name "max" p) [e, e2] [] pos) (mCB max2M ms) := re_callB (c_max2 g.hc) hg bl.max (by rfl) ha (by decide) (by decide) hs hpl
theorem xmin2 (g : Cg X k) (bl : Blt X.mg) (ha : RA X T W [e, e2] ms) (hg : Gl X "min" := by rfl) (hs : starEach [e, e2] X.env = (false, eval e X.env) :: starEach [e2] X.env := by rfl) (hpl : (backTo pos (starEach [e2] X.env)).any (·.1) = false := by rfl) : RE X T W (.Call (.Name "min" p) [e, e2] [] pos) (mCB min2M ms) := re_callB (c_min2 g.hc) hg bl.min (by rfl) ha (by decide) (by decide) hs hpl
/-- what is walked -/
theorem irng1 (bl : Blt X.mg) (ha : RA X T W [a] ms) (hg : Gl X "range" := by rfl) (hs : starEach [a] X.env = [(false, eval a X.env)] := by rfl) : RI X T W tg (.Call (.Name "range" p) [a] [] pos) (mRng rng1 ms) := ri_rng1 hg bl.range ha hs
theorem irng2 (bl : Blt X.mg) (ha : RA X T W [a, b] ms) (hg : Gl X "range" := by rfl) (hs : starEach [a, b] X.env = [(false, eval a X.env), (false, eval b X.env)] := by rfl) (hs2 : starEach [b] X.env = [(false, eval b X.env)] := by rfl) : RI X T W tg (.Call (.Name "range" p) [a, b] [] pos) (mRng rng2 ms) := ri_rng2 hg bl.range ha hs hs2
theorem irng3 {c : Expr} (bl : Blt X.mg) (ha : RA X T W [a, b, c] ms) (hg : Gl X "range" := by rfl) (hs : starEach [a, b, c] X.env = (false, eval a X.env) :: starEach [b, c] X.env := by rfl) (hpl : (backTo pos (starEach [b, c] X.env)).any (·.1) = false := by rfl) : RI X T W tg (.Call (.Name "range" p) [a, b, c] [] pos) (mRng rng3 ms) := ri_rng3 hg bl.range ha hs hpl
theorem ienum (bl : Blt X.mg) (ha : RA X T W [e] ms) (hg : Gl X "enumerate" := by rfl) (hs : starEach [e] X.env = [(false, eval e X.env)] := by rfl) {kk : Nat} {tpos : Pos} : RI X T W (.Tuple elts kk tpos) (.Call (.Name "enumerate" p) [e] [] pos) (mEnum ms) := ri_enum hg bl.enumerate ha hs
theorem izip (bl : Blt X.mg) (ha : RA X T W [e, e2] ms) (hg : Gl X "zip" := by rfl) (hs : starEach [e, e2] X.env = (false, eval e X.env) :: starEach [e2] X.env := by rfl) (hpl : (backTo pos (starEach [e2] X.env)).any (·.1) = false := by rfl) {kk : Nat} {tpos : Pos} :
    RI X T W (.Tuple elts kk tpos) (.Call (.Name "zip" p) [e, e2] [] pos) (mZip ms) := ri_zip hg bl.zip ha hs hpl
/-- comparisons -/
theorem xcmp {o : CmpOp} {op : Op2} (ho : OpR X (compareOp o) (rM X.K T op)) (ha : RE X T W a ma) (hb : RE X T W b mb) (hm : behindInMarks o b = false := by first | exact nomark _ | with_unfolding_all rfl) : RE X T W (.Compare a [o] [b] pos) (mOp op ma mb) := re_cmp ho ha hb hm
theorem tcmp {o : CmpOp} {op : Op2} (ho : OpR X (compareOp o) (rM X.K T op)) (ha : RE X T W a ma) (hb : RE X T W b mb) (hm : behindInMarks o b = false := by first | exact nomark _ | with_unfolding_all rfl) : RT X T W (.Compare a [o] [b] pos) (mT (mOp op ma mb)) := PTt.cmp ho ha hb hm
theorem xix (ha : RE X T W a ma) (hb : RE X T W b mb) (hs : PlainIx b := by intro _ _; rfl) : RE X T W (.Subscript a b pos) (mOp ixM ma mb) := re_ix m_ix ha hb hs
/-- targets -/
theorem gn (g : Cg X k) (i : Nat) {x : Str} (hi : X.N[i]? = some x := by rfl) (hx : Loc X.env.scope x := by first | exact Or.inl rfl | exact Or.inr rfl) (hf : X.fn x = true ∨ X.env.scope.names.lookup x = some .local := by first | exact Or.inl rfl | exact Or.inr rfl) : RG X T [i] (.Name x pos) (gN i) := g_name g.hN hi hx hf
theorem gt (g : Cg X k) {ts : List Expr} {j n : Nat} {ws : List Nat} {gs : List TgM} (h : RGs X T ws ts gs) (hl : gs.length = n := by rfl) (hn : (assignEach ts X.env).length = n := by rfl) (hst : (assignEach ts X.env).findIdx? (·.1) = none := by rfl) : RG X T ws (.Tuple ts j pos) (gT gs) := g_tup g.hc h hl hn hst
/-- statements -/
theorem sset (g : Cg X k) (i : Nat) {x : Str} {pos' : Pos} (he : RE X T W e me) (hi : X.N[i]? = some x := by rfl) (hx : Loc X.env.scope x := by first | exact Or.inl rfl | exact Or.inr rfl) (hf : X.fn x = true ∨ X.env.scope.names.lookup x = some .local := by first | exact Or.inl rfl | exact Or.inr rfl)
    (hs : swapsWith e (some (.Name x pos')) pos.line X.env = pure false := by rfl) : RS X T W (.Assign [.Name x pos'] e pos) (sAsg me (gN i)) := s_set g.hN hi hx he hf hs
end
end MM

set_option Elab.async false
set_option linter.all false
set_option maxRecDepth 100000
set_option maxHeartbeats 4000000
/-! ## MM: short words, more -/
namespace MM
open PySem PySem.Spec PyProof.Rows L2
/-- an own class of exceptions -/
structure ExcG (K : Frag) (mg : Gm) (x : Str) (C : Addr) : Prop where
  gl : mg x = some (.ref C)
  ex : PySem.W.excIn K C He.veBase "ValueError.__new__" = true
  kp : PySem.W.keepIn K (.ref C) = true
  sb : PySem.W.subIn K (.ref C) (.type "BaseException") = some true
  ty : PySem.W.typeIn K (.ref C) = some (.type "type")
section
variable {X : Cx} {T : Tbs} {W : WX} {k : Nat} {pos p p2 py spos cp : Pos} {a b e e2 tg iter elt tg1 iter1 : Expr} {ifs ifs1 : List Expr} {es elts : List Expr} {ms : Ev (List MV)} {ma mb me : Ev MV} {n : Nat} {scope : Scope} {own : List (Str × Nat)} {gg gg1 : TgM} {c c1 : Ev Bool} {el : Ev MV} {mi mi1 : Ev Itm} {ws ws1 vs1 : List Nat}
theorem xraise (g : Cg X k) (tk : L2N.Takes X W) {x m : Str} {j : Nat} {C : Addr} (h : ExcG X.K X.mg x C) (hg : Gl X x := by rfl) (hdb : (x == ("__debug__" : Str)) = false := by decide) : RS X T W (.Raise (some (.Call (.Name x p) [.Constant (.str m) j p2] [] cp)) none pos) (sRaise x) :=
  s_raise g.hc tk PySem.F.excBase_ValueError h.ex h.gl h.kp (raises_own h.sb h.ty) hg hdb
theorem xgi {x : Str} {i : Int} (h : ∃ t, X.mg x = some (.int i t)) (hg : Gl X x := by rfl) (hdb : (x == ("__debug__" : Str)) = false := by decide) : RE X T W (.Name x p) (mRet (.int i)) := by
  obtain ⟨t, h⟩ := h
  exact re_glob hg h (v := .int i) ⟨t, rfl⟩ (fun _ _ _ => RepV.int) hdb
theorem xcall (g : Cg X k) (tk : L2N.Takes X W) {ps : List Str} {F : FM} {x : Str} (c : CalM X.prog X.w X.K X.mg X.base T k x ps F) (ha : RA X T W (e :: es) ms) (hg : Gl X x := by rfl) (hdb : (x == ("__debug__" : Str)) = false := by decide)
    (he : starEach (e :: es) X.env = (false, eval e X.env) :: starEach es X.env := by rfl) (hpl : (backTo pos (starEach es X.env)).any (·.1) = false := by rfl) : RE X T W (.Call (.Name x p) (e :: es) [] pos) (mCall ps.length F ms) := re_cal c g.rm g.gd hg tk ha hdb he hpl
abbrev BG (X : Cx) (T : Tbs) (scope : Scope) (ws : List Nat) (tg : Expr) (gg : TgM) : Prop := Blk X scope fun X => RG X T ws tg gg
abbrev BT (X : Cx) (T : Tbs) (scope : Scope) (ifs : List Expr) (c : Ev Bool) : Prop := Blk X scope fun X => PTs X ifs (tG RB X.K X.mg T W0 c)
abbrev BE (X : Cx) (T : Tbs) (scope : Scope) (elt : Expr) (e : Ev MV) : Prop := Blk X scope fun X => RE X T W0 elt e
theorem xcomp (g : Cg X k) (own : List (Str × Nat)) (hi : RI X T W tg iter mi) (hg : BG X T scope ws tg gg) (ht : BT X T scope ifs c) (he : BE X T scope elt el) (ok : blkC X.N X.env.scope scope own = true := by rfl) (hw : ∀ i ∈ ws, i ∈ own.map (·.2) := by decide)
    (hs : ∀ x, foldedSetIterable iter X.env x = pure x := by intro _; rfl) : RE X T W (.ListComp elt [⟨tg, iter, ifs, 0⟩] scope pos) (mComp (own.map (·.2)) mi gg c el) := re_comp g.hc g.hN hi (blkOk_by ok) hw hg ht he hs
theorem xcompC (g : Cg X k) (own : List (Str × Nat)) (hi : RI X T W tg iter mi) (hg : BG X T scope ws tg gg) (ht : BT X T scope ifs c) (he : BE X T scope elt el) (ok : blkC X.N X.env.scope scope own = true := by rfl) (hw : ∀ i ∈ ws, i ∈ own.map (·.2) := by decide)
    (hs : ∀ x, foldedSetIterable iter X.env x = pure x := by intro _; rfl) : RE X T W (.ListComp elt [⟨tg, iter, ifs, 0⟩] scope pos) (mCompC (own.map (·.2)) mi gg c el) := re_compC g.hc g.hN hi (blkOk_by ok) hw hg ht he hs
theorem scomp (g : Cg X k) (i : Nat) {y : Str} (own : List (Str × Nat)) (hi : RI X T W tg iter mi) (hg : BG X T scope ws tg gg) (ht : BT X T scope ifs c) (he : BE X T scope elt el) (ok : blkC X.N X.env.scope scope own = true := by rfl) (hw : ∀ i ∈ ws, i ∈ own.map (·.2) := by decide)
    (hy : X.N[i]? = some y := by rfl) (hyl : X.env.scope.names.lookup y = some .local := by rfl) (hsw : swapsWith (.ListComp elt [⟨tg, iter, ifs, 0⟩] scope pos) (some (.Name y py)) spos.line X.env = pure true := by rfl)
    (hs : ∀ x, foldedSetIterable iter X.env x = pure x := by intro _; rfl) : RS X T W (.Assign [.Name y py] (.ListComp elt [⟨tg, iter, ifs, 0⟩] scope pos) spos) (sAsg (mComp (own.map (·.2)) mi gg c el) (gN i)) :=
  s_setComp g.hc g.hN hy hyl hsw hi (blkOk_by ok) hw hg ht he (fun K mg => compM hw (fun ds => mRet (.lst ds)) fun {σ ι H Q ρ μ' ds} h => compF (ρ := ρ) h) hs
theorem scompC (g : Cg X k) (i : Nat) {y : Str} (own : List (Str × Nat)) (hi : RI X T W tg iter mi) (hg : BG X T scope ws tg gg) (ht : BT X T scope ifs c) (he : BE X T scope elt el) (ok : blkC X.N X.env.scope scope own = true := by rfl) (hw : ∀ i ∈ ws, i ∈ own.map (·.2) := by decide)
    (hy : X.N[i]? = some y := by rfl) (hyl : X.env.scope.names.lookup y = some .local := by rfl) (hsw : swapsWith (.ListComp elt [⟨tg, iter, ifs, 0⟩] scope pos) (some (.Name y py)) spos.line X.env = pure true := by rfl)
    (hs : ∀ x, foldedSetIterable iter X.env x = pure x := by intro _; rfl) : RS X T W (.Assign [.Name y py] (.ListComp elt [⟨tg, iter, ifs, 0⟩] scope pos) spos) (sAsg (mCompC (own.map (·.2)) mi gg c el) (gN i)) :=
  s_setComp g.hc g.hN hy hyl hsw hi (blkOk_by ok) hw hg ht he (fun K mg => compM hw (fun ds => fun _ μ => .ok (.ref μ.length) (μ ++ [.lst ds])) fun {σ ι H Q ρ μ' ds} h => compCF (ρ := ρ) h) hs
theorem xcomp2 (g : Cg X k) (own : List (Str × Nat)) (vs1 : List Nat) (hi : RI X T W tg iter mi) (hg : BG X T scope ws tg gg) (ht : BT X T scope ifs c) (hi1 : Blk X scope fun X => RI X T W0 tg1 iter1 mi1) (hg1 : BG X T scope ws1 tg1 gg1) (ht1 : BT X T scope ifs1 c1) (he : BE X T scope elt el)
    (ok : blkC X.N X.env.scope scope own = true := by rfl) (hv : ∀ i ∈ vs1, i ∈ own.map (·.2) := by decide) (hw : ∀ i ∈ ws, i ∈ own.map (·.2) := by decide) (hw1 : ∀ i ∈ ws1, i ∈ vs1 := by decide)
    (hs : ∀ x, foldedSetIterable iter X.env x = pure x := by intro _; rfl) (hs1 : ∀ env x, foldedSetIterable iter1 env x = pure x := by intro _ _; rfl) : RE X T W (.ListComp elt [⟨tg, iter, ifs, 0⟩, ⟨tg1, iter1, ifs1, 0⟩] scope pos) (mComp2 (own.map (·.2)) vs1 mi gg c mi1 gg1 c1 el) :=
  re_comp2 g.hc g.hN hi (blkOk_by ok) hv hw hw1 hg ht hi1 hg1 ht1 he hs hs1
theorem xcomp2C (g : Cg X k) (own : List (Str × Nat)) (vs1 : List Nat) (hi : RI X T W tg iter mi) (hg : BG X T scope ws tg gg) (ht : BT X T scope ifs c) (hi1 : Blk X scope fun X => RI X T W0 tg1 iter1 mi1) (hg1 : BG X T scope ws1 tg1 gg1) (ht1 : BT X T scope ifs1 c1) (he : BE X T scope elt el)
    (ok : blkC X.N X.env.scope scope own = true := by rfl) (hv : ∀ i ∈ vs1, i ∈ own.map (·.2) := by decide) (hw : ∀ i ∈ ws, i ∈ own.map (·.2) := by decide) (hw1 : ∀ i ∈ ws1, i ∈ vs1 := by decide)
    (hs : ∀ x, foldedSetIterable iter X.env x = pure x := by intro _; rfl) (hs1 : ∀ env x, foldedSetIterable iter1 env x = pure x := by intro _ _; rfl) : RE X T W (.ListComp elt [⟨tg, iter, ifs, 0⟩, ⟨tg1, iter1, ifs1, 0⟩] scope pos) (mCompC2 (own.map (·.2)) vs1 mi gg c mi1 gg1 c1 el) :=
  re_compC2 g.hc g.hN hi (blkOk_by ok) hv hw hw1 hg ht hi1 hg1 ht1 he hs hs1
theorem scomp2 (g : Cg X k) (i : Nat) {y : Str} (own : List (Str × Nat)) (vs1 : List Nat) (hi : RI X T W tg iter mi) (hg : BG X T scope ws tg gg) (ht : BT X T scope ifs c) (hi1 : Blk X scope fun X => RI X T W0 tg1 iter1 mi1) (hg1 : BG X T scope ws1 tg1 gg1) (ht1 : BT X T scope ifs1 c1) (he : BE X T scope elt el)
    (ok : blkC X.N X.env.scope scope own = true := by rfl) (hv : ∀ i ∈ vs1, i ∈ own.map (·.2) := by decide) (hw : ∀ i ∈ ws, i ∈ own.map (·.2) := by decide) (hw1 : ∀ i ∈ ws1, i ∈ vs1 := by decide)
    (hy : X.N[i]? = some y := by rfl) (hyl : X.env.scope.names.lookup y = some .local := by rfl) (hsw : swapsWith (.ListComp elt [⟨tg, iter, ifs, 0⟩, ⟨tg1, iter1, ifs1, 0⟩] scope pos) (some (.Name y py)) spos.line X.env = pure true := by rfl)
    (hs : ∀ x, foldedSetIterable iter X.env x = pure x := by intro _; rfl) (hs1 : ∀ env x, foldedSetIterable iter1 env x = pure x := by intro _ _; rfl) : RS X T W (.Assign [.Name y py] (.ListComp elt [⟨tg, iter, ifs, 0⟩, ⟨tg1, iter1, ifs1, 0⟩] scope pos) spos) (sAsg (mComp2 (own.map (·.2)) vs1 mi gg c mi1 gg1 c1 el) (gN i)) :=
  s_setComp2 g.hc g.hN hy hyl hsw hi (blkOk_by ok) hv hw hw1 hg ht hi1 hg1 ht1 he (fun K mg => compM2 hw hw1 (fun ds => mRet (.lst ds)) fun {σ ι H Q ρ μ' ds} h => compF (ρ := ρ) h) hs hs1
theorem spar (g : Cg X k) (i j : Nat) {x y : Str} {px py pt pt2 : Pos} {kt k2 : Nat} {q1 q2 : Expr} (ha : RA X T W [q1, q2] ms) (hi : X.N[i]? = some x := by rfl) (hj : X.N[j]? = some y := by rfl) (hij : i ≠ j := by decide) (hx : X.env.scope.names.lookup x = some .local := by rfl) (hy : X.env.scope.names.lookup y = some .local := by rfl)
    (hw : swappedStores [.Tuple [.Name x px, .Name y py] kt pt] (.Tuple [q1, q2] k2 pt2) X.env = pure (some [x, y]) := by rfl) (hs : swapsWithSole [.Tuple [.Name x px, .Name y py] kt pt] (.Tuple [q1, q2] k2 pt2) pos.line X.env = pure false := by rfl) :
    RS X T W (.Assign [.Tuple [.Name x px, .Name y py] kt pt] (.Tuple [q1, q2] k2 pt2) pos) (sPar i j ms) := s_par g.hc g.hN hi hj hij hx hy ha hw hs
end
end MM

set_option Elab.async false
set_option linter.all false
set_option maxRecDepth 100000
set_option maxHeartbeats 4000000
/-! ## MM: told(lambda: body), the rule by facts -/
namespace MM
open PySem PySem.Spec PyProof.Rows L2
/-- x(lambda: body) in X is told -/
def TellR (X : Cx) (T : Tbs) (W : WX) (x : Str) (ks : List Kind) (k : Nat) : Prop :=
  ∀ {params : Arguments} {body : Expr} {scope : Scope} {mb : Ev MV} {p lpos pos : Pos} (N' : List Str), lamPB X.env.scope scope X.N N' = true → (∀ y ∈ scope.names, y.2 ≠ .local) → defaultsOf params X.env = ([], []) →
    (∀ (q : Str) (cl : List (Str × Addr)) (pm cv ctv : Value), bindArgs (PySem.W.kla_fn "<lambda>" q params body scope cl pm cv ctv) ⟨[], []⟩ = pure []) →
    (∀ (A : Around) (outer : List PySem.Env) (s : Shared) (H : Hp) (E : XK) (f c' : Addr), Room k (A.deeper (LamX.lamEnv X scope s.heap.objs.size f c')) → A.guards = some [] → RE (lamC X N' A outer s H E scope f c') T (wE E) body mb) →
    RE X T W (.Call (.Name x p) [.Lambda params body scope lpos] [] pos) (mTold ks mb)
/-- the classes of errors that are told apart -/
structure Errs (K : Frag) (mg : Gm) (C : Fin 5 → Addr) : Prop where
  g0 : mg "NotAllowed" = some (.ref (C 0))
  g1 : mg "TooLarge" = some (.ref (C 1))
  g2 : mg "Missing" = some (.ref (C 2))
  g3 : mg "BadForm" = some (.ref (C 3))
  g4 : mg "Broken" = some (.ref (C 4))
  ex : ∀ i : Fin 5, i.val < 3 → ExcC K (C i)
  is : ∀ i j : Fin 5, i.val < 3 → PySem.W.kitOne K (.ref (C i)) (.ref (C j)) = some (decide (i = j))
def bsE (C : Fin 5 → Addr) (i : Fin 5) : List (Addr × Bool) := [(C 0, decide (i = 0)), (C 1, decide (i = 1)), (C 2, decide (i = 2)), (C 3, decide (i = 3)), (C 4, decide (i = 4))]
theorem bsE_ok {K : Frag} {mg : Gm} {C : Fin 5 → Addr} (h : Errs K mg C) (i : Fin 5) (hi : i.val < 3) : ∀ p ∈ bsE C i, PySem.W.kitOne K (.ref (C i)) (.ref p.1) = some p.2 := by
  intro p hp
  unfold bsE at hp
  simp only [List.mem_cons, List.not_mem_nil, or_false] at hp
  rcases hp with rfl | rfl | rfl | rfl | rfl <;> exact h.is i _ hi
def ksE (C : Fin 5 → Addr) : List Kind := [⟨"NotAllowed", C 0, "refused"⟩, ⟨"TooLarge", C 1, "large"⟩, ⟨"Missing", C 2, "missing"⟩]
theorem Errs.ne {K : Frag} {mg : Gm} {C : Fin 5 → Addr} (h : Errs K mg C) (i j : Fin 5) (hi : i.val < 3) (hn : i ≠ j) : C i ≠ C j := fun e => by
  have h1 := h.is i i hi
  have h2 := h.is i j hi
  rw [← e, h1] at h2
  simp [hn] at h2
def errIx (C : Fin 5 → Addr) (kd : Kind) : Fin 5 := if kd.name = "NotAllowed" then 0 else if kd.name = "TooLarge" then 1 else 2
/-- the suite that names the error -/
noncomputable def smE (C : Fin 5 → Addr) (e : Addr) (kd : Kind) : SM :=
  sSeq (sAsg (mLst (mCons (mCB (isEM (bsE C (errIx C kd)) e) (mCons (mVar 1) (mCons (mRet (.cst (.ref (C 0)))) mNil)))
      (mCons (mCB (isEM (bsE C (errIx C kd)) e) (mCons (mVar 1) (mCons (mRet (.cst (.ref (C 1)))) mNil)))
      (mCons (mCB (isEM (bsE C (errIx C kd)) e) (mCons (mVar 1) (mCons (mRet (.cst (.ref (C 2)))) mNil)))
      (mCons (mCB (isEM (bsE C (errIx C kd)) e) (mCons (mVar 1) (mCons (mRet (.cst (.ref (C 3)))) mNil)))
      (mCons (mCB (isEM (bsE C (errIx C kd)) e) (mCons (mVar 1) (mCons (mRet (.cst (.ref (C 4)))) mNil))) mNil)))))) (gN 2))
  (sSeq (sAsg (mComp (List.map (·.2) ([("k", 4)] : List (Str × Nat))) (mRng rng1 (mCons (mRet (.int 5)) mNil)) (gN 4) (mT (mOp ixM (mVar 2) (mVar 4)))
      (mOp ixM (mLst (mCons (mRet (.str "refused")) (mCons (mRet (.str "large")) (mCons (mRet (.str "missing")) (mCons (mRet (.str "form")) (mCons (mRet (.str "broken")) mNil)))))) (mVar 4))) (gN 3))
  (sRet (mTup (mCons (mOp ixM (mLst (mCons (mRet (.str "odd")) (mCons (mOp ixM (mOp addM (mVar 3) (mLst (mCons (mRet (.str "")) mNil))) (mRet (.int 0))) mNil)))
      (mCB intM (mCons (mOp eqM (mCB lenM (mCons (mVar 3) mNil)) (mRet (.int 1))) mNil))) mNil))))
theorem smE_ok {K : Frag} {mg : Gm} {C : Fin 5 → Addr} (h : Errs K mg C) : ∀ kd ∈ ksE C, ∀ (e : Addr) (d : MV) (μ : Mem), smE C e kd ((envS ["call", "e", "kinds", "names", "k"] [d]).set 1 (some (.cst (.ref e)))) μ = .rt (.tup [.str kd.told]) μ := by
  have n01 := h.ne 0 1 (by decide) (by decide)
  have n02 := h.ne 0 2 (by decide) (by decide)
  have n03 := h.ne 0 3 (by decide) (by decide)
  have n04 := h.ne 0 4 (by decide) (by decide)
  have n12 := h.ne 1 2 (by decide) (by decide)
  have n13 := h.ne 1 3 (by decide) (by decide)
  have n14 := h.ne 1 4 (by decide) (by decide)
  have n23 := h.ne 2 3 (by decide) (by decide)
  have n24 := h.ne 2 4 (by decide) (by decide)
  intro kd hk e d μ
  have key : ∀ i : Fin 5, i.val < 3 → (bsE C i).lookup (C 0) = some (decide (i = 0)) ∧ (bsE C i).lookup (C 1) = some (decide (i = 1)) ∧ (bsE C i).lookup (C 2) = some (decide (i = 2)) ∧ (bsE C i).lookup (C 3) = some (decide (i = 3)) ∧ (bsE C i).lookup (C 4) = some (decide (i = 4)) := by
    intro i hi
    have b : ∀ {x y : Addr}, x ≠ y → (x == y) = false := fun q => by simpa using q
    by_cases q34 : C 4 = C 3
    · have f3 : i ≠ 3 := fun z => by rw [z] at hi; exact absurd hi (by decide)
      have f4 : i ≠ 4 := fun z => by rw [z] at hi; exact absurd hi (by decide)
      simp [bsE, List.lookup, b n01, b n02, b n03, b n04, b n12, b n13, b n14, b n23, b n24, b n01.symm, b n02.symm, b n03.symm, b n04.symm, b n12.symm, b n13.symm, b n14.symm, b n23.symm, b n24.symm, q34, f3, f4]
    · simp [bsE, List.lookup, b n01, b n02, b n03, b n04, b n12, b n13, b n14, b n23, b n24, b n01.symm, b n02.symm, b n03.symm, b n04.symm, b n12.symm, b n13.symm, b n14.symm, b n23.symm, b n24.symm, b q34]
  unfold ksE at hk
  simp only [List.mem_cons, List.not_mem_nil, or_false] at hk
  have e0 : errIx C ⟨"NotAllowed", C 0, "refused"⟩ = 0 := by unfold errIx; exact if_pos rfl
  have m1 : ¬ ("TooLarge" : Str) = "NotAllowed" := by decide
  have m2 : ¬ ("Missing" : Str) = "NotAllowed" := by decide
  have m3 : ¬ ("Missing" : Str) = "TooLarge" := by decide
  have e1 : errIx C ⟨"TooLarge", C 1, "large"⟩ = 1 := by unfold errIx; exact (if_neg m1).trans (if_pos rfl)
  have e2 : errIx C ⟨"Missing", C 2, "missing"⟩ = 2 := by unfold errIx; exact (if_neg m2).trans (if_neg m3)
  have r5 : rng1 [MV.int 5] = some ⟨[.int 0, .int 1, .int 2, .int 3, .int 4], []⟩ := by
    have : Rg62 5 := by decide
    show (if Rg62 5 then some (⟨intsL 0 (5 : Int).toNat, []⟩ : Itm) else none) = _
    rw [if_pos this]
    rfl
  have s5 : (5 : Nat) ≤ sizeLine := by decide
  have s2 : (2 : Nat) ≤ sizeLine := by decide
  have s1 : (1 : Nat) ≤ sizeLine := by decide
  have ixl : ∀ (μ : Mem) (xs : List MV) (i : Int), ixM μ (.lst xs) (.int i) = atI xs i := fun _ _ _ => rfl
  have adl : ∀ (μ : Mem) (xs ys : List MV), addM μ (.lst xs) (.lst ys) = if xs.length + ys.length ≤ sizeLine then some (.lst (xs ++ ys)) else none := fun _ _ _ => rfl
  have len1 : ∀ (μ : Mem) (xs : List MV), lenM μ [.lst xs] = some (.int xs.length) := fun _ _ => rfl
  have eq1 : ∀ μ : Mem, eqM μ (.int 1) (.int 1) = some (.bl true) := fun _ => rfl
  have in1 : ∀ μ : Mem, intM μ [.bl true] = some (.int 1) := fun _ => rfl
  rcases hk with rfl | rfl | rfl
  · obtain ⟨k0, k1, k2, k3, k4⟩ := key 0 (by decide)
    simp [smE, sSeq, sAsg, sRet, sE, mTup, mLst, mCons, mNil, mB, mRet, mCB, mVar, envS, isEM, oO, e0, k0, k1, k2, k3, k4, gN, mComp, mCompL, mRng, r5, oOm, compT, compL, Itm.ok, wipeE, mT, mOp, asB, s5, s2, s1, ixl, atI, ixN, adl, len1, eq1, in1]
  · obtain ⟨k0, k1, k2, k3, k4⟩ := key 1 (by decide)
    simp [smE, sSeq, sAsg, sRet, sE, mTup, mLst, mCons, mNil, mB, mRet, mCB, mVar, envS, isEM, oO, e1, k0, k1, k2, k3, k4, gN, mComp, mCompL, mRng, r5, oOm, compT, compL, Itm.ok, wipeE, mT, mOp, asB, s5, s2, s1, ixl, atI, ixN, adl, len1, eq1, in1]
  · obtain ⟨k0, k1, k2, k3, k4⟩ := key 2 (by decide)
    simp [smE, sSeq, sAsg, sRet, sE, mTup, mLst, mCons, mNil, mB, mRet, mCB, mVar, envS, isEM, oO, e2, k0, k1, k2, k3, k4, gN, mComp, mCompL, mRng, r5, oOm, compT, compL, Itm.ok, wipeE, mT, mOp, asB, s5, s2, s1, ixl, atI, ixN, adl, len1, eq1, in1]

/-! ### the rule -/
section
variable {K : Frag} {mg : Gm} {C : Fin 5 → Addr} {base : Heap} {T : Tbs} {W : WX}
theorem xis {X : Cx} {a : Addr} {oe : Obj} {pn : List (Addr × Obj)} {i : Fin 5} {n cn : Str} {u : Addr} {p p1 p2 pos : Pos} (h : Errs X.K X.mg C) (hi : i.val < 3) (bl : Blt X.mg) (hz : L2N.Zn (.ref (C i)) none oe) (hf : ∃ vs, oe.data = .fields vs) (hm : X.mg cn = some (.ref u)) {j : Nat}
    (hN : X.N[j]? = some n := by rfl) (hv : Vis X.env.scope n := by first | exact Or.inl rfl | exact Or.inr (Or.inl rfl)) (hg : Gl X "isinstance" := by rfl) (hgc : Gl X cn := by rfl) (hd : (n == ("__debug__" : Str)) = false := by decide) (hcd : (n == ("__classdict__" : Str)) = false := by decide) (hdc : (cn == ("__debug__" : Str)) = false := by decide) :
    RE (X.suite a ((a, oe) :: pn)) T W (.Call (.Name "isinstance" p) [.Name n p1, .Name cn p2] [] pos) (mCB (isEM (bsE C i) a) (mCons (mVar j) (mCons (mRet (.cst (.ref u))) mNil))) :=
  re_callB (X := X.suite a ((a, oe) :: pn)) (c_isE (h.ex i hi) hz.zc hf (bsE_ok h i hi)) hg bl.isinstance (by rfl) (ra_cons (re_var j hN hv hd hcd) (ra_cons (re_glob (d := .cst (.ref u)) (v := .ref u) hgc hm rfl (fun _ _ _ => RepV.cst) hdc) ra_nil)) (by decide) (by decide) (by rfl) (by rfl)
theorem sset0 {X : Cx} (hN : X.N.Nodup) (i : Nat) {x : Str} {e : Expr} {me : Ev MV} {pos pos' : Pos} (he : RE X T W e me) (hi : X.N[i]? = some x := by rfl) (hx : Loc X.env.scope x := by first | exact Or.inl rfl | exact Or.inr rfl) (hf : X.fn x = true ∨ X.env.scope.names.lookup x = some .local := by first | exact Or.inl rfl | exact Or.inr rfl)
    (hs : swapsWith e (some (.Name x pos')) pos.line X.env = pure false := by rfl) : RS X T W (.Assign [.Name x pos'] e pos) (sAsg me (gN i)) := s_set hN hi hx he hf hs
theorem lamCg {X : Cx} {N' : List Str} {A : Around} {outer : List PySem.Env} {s : Shared} {H : Hp} {E : XK} {scope : Scope} {f c' : Addr} {k : Nat} (nd : N'.Nodup) (hr : Room k (A.deeper (LamX.lamEnv X scope s.heap.objs.size f c'))) (hg : A.guards = some []) : Cg (lamC X N' A outer s H E scope f c') k := ⟨rfl, nd, hr, hg⟩
theorem gn0 {X : Cx} (hN : X.N.Nodup) (i : Nat) {x : Str} {pos : Pos} (hi : X.N[i]? = some x := by rfl) (hx : Loc X.env.scope x := by first | exact Or.inl rfl | exact Or.inr rfl) (hf : X.fn x = true ∨ X.env.scope.names.lookup x = some .local := by first | exact Or.inl rfl | exact Or.inr rfl) : RG X T [i] (.Name x pos) (gN i) := g_name hN hi hx hf
/-- x tells: by its text -/
theorem tellR_of {X : Cx} {k : Nat} {x a ce en : Str} {g c P CS : Addr} {fd : FuncData} {j kt : Nat} {pg : Arguments} {b₀ : Stmt} {suite : List Stmt} {sg : Scope} {p1 p2 p3 p4 p5 p6 p7 p8 : Pos} {Ng : List Str}
    (F : FunD X.K x x pg [.Try [.Return (some (.Tuple [.Constant (.str "told") j p3, .Call (.Name a p1) [] [] p2] kt p4)) p5] [.ExceptHandler (some (.Name ce p6)) (some en) (b₀ :: suite) p7] [] [] p8] sg [] [] g fd) (hm : X.mg x = some (.ref g)) (hmc : X.mg ce = some (.ref CS))
    (hbind : ∀ (kV doc pm : Value) (an : Option Addr) (cdv ct : Value) (us : List Value), us.length = [a].length → bindArgs (PySem.W.fnOf x x pg [.Try [.Return (some (.Tuple [.Constant (.str "told") j p3, .Call (.Name a p1) [] [] p2] kt p4)) p5] [.ExceptHandler (some (.Name ce p6)) (some en) (b₀ :: suite) p7] [] [] p8] sg .none kV doc pm an cdv ct) ⟨us, []⟩ = pure ([a].zip us))
    (Sg : FnScope Ng [a] sg) (hNa : Ng[0]? = some a) (hva : Vis sg a) (hNe : Ng[1]? = some en) (hle : sg.names.lookup en = some .local) (hgc : sg.names.lookup ce = some .globalImplicit) (hdc : (ce == ("__debug__" : Str)) = false)
    (er : Errs X.K X.mg C) (hx : ∀ i : Fin 5, i.val < 3 → PySem.W.exmOne X.K (.ref (C i)) (.ref CS) = some true)
    (TB : LamX.TabB X.base X.mg c P) (hcode : X.env.code = .ref c) (hmT : (P, X.env.qual ++ "<lambda>") ∈ T) (hu : ∀ p ∈ T, p.1 = P → p.2 = X.env.qual ++ "<lambda>") (hr : Room (k + 2) X.A) (hgd : X.A.guards = some [])
    (hgx : Gl X x) (hdx : (x == ("__debug__" : Str)) = false) (hda : (a == ("__debug__" : Str)) = false) (hdl : (a == ("__classdict__" : Str)) = false)
    (hNg : Ng = (["call", "e", "kinds", "names", "k"] : List Str))
    (hsu : ∀ (i : Fin 5) (cdv : Value) (kd : Kind), i.val < 3 → ∀ (s : Shared) (H : Hp) (e : Addr) (oe : Obj) (pn : List (Addr × Obj)), errIx C kd = i → L2N.Zn (.ref (C i)) none oe → (∃ vs, oe.data = .fields vs) → HotP ((toldX X Ng x sg g cdv s H).suite e ((e, oe) :: pn)) (e, oe) → 
      RSs ((toldX X Ng x sg g cdv s H).suite e ((e, oe) :: pn)) T W0 (b₀ :: suite) (smE C e kd)) : TellR X T W x (ksE C) k := by
  intro params body scope mb p lpos pos N' hL hown hdef hb2 hbody
  have hB := F.bindsN hbind
  obtain ⟨oc, od, dV, kV, doc, pm, an, cdv, ct, osl, rfl, lk, hcd, _, _⟩ := F.ex
  have q0 : errIx C ⟨"NotAllowed", C 0, "refused"⟩ = 0 := by unfold errIx; exact if_pos rfl
  have q1 : errIx C ⟨"TooLarge", C 1, "large"⟩ = 1 := by unfold errIx; exact (if_neg (by decide : ¬ ("TooLarge" : Str) = "NotAllowed")).trans (if_pos rfl)
  have q2 : errIx C ⟨"Missing", C 2, "missing"⟩ = 2 := by unfold errIx; exact (if_neg (by decide : ¬ ("Missing" : Str) = "NotAllowed")).trans (if_neg (by decide : ¬ ("Missing" : Str) = "TooLarge"))
  refine re_told (ks := ksE C) (sm := smE C) hgx hm F.kp lk hcd hB Sg hNa hva hNe hle hgc hmc hdc ?_ ?_ ?_ TB hcode hmT hu hr hgd (lamP_by hL) hown hdef hb2 hbody hdx hda hdl
  · intro kd hk
    unfold ksE at hk
    simp only [List.mem_cons, List.not_mem_nil, or_false] at hk
    rcases hk with rfl | rfl | rfl
    · exact ⟨er.g0, hx 0 (by decide)⟩
    · exact ⟨er.g1, hx 1 (by decide)⟩
    · exact ⟨er.g2, hx 2 (by decide)⟩
  · intro kd hk s H e oe pn hz hf hot
    unfold ksE at hk
    simp only [List.mem_cons, List.not_mem_nil, or_false] at hk
    rcases hk with rfl | rfl | rfl
    · exact hsu 0 cdv _ (by decide) s H e oe pn q0 hz hf hot
    · exact hsu 1 cdv _ (by decide) s H e oe pn q1 hz hf hot
    · exact hsu 2 cdv _ (by decide) s H e oe pn q2 hz hf hot
  · intro kd hk e d μ
    subst hNg
    exact smE_ok er kd hk e d μ
end
end MM

set_option Elab.async false
set_option linter.all false
set_option maxRecDepth 100000
set_option maxHeartbeats 4000000
/-! ## MM: facts for the head -/
namespace MM
open PySem PySem.Spec PyProof.Rows L2
def errA (K : Frag) (i : Fin 5) : Addr := match i with
  | 0 => He.ga K "NotAllowed"
  | 1 => He.ga K "TooLarge"
  | 2 => He.ga K "Missing"
  | 3 => He.ga K "BadForm"
  | 4 => He.ga K "Broken"
def excCB (K : Frag) (D : Addr) : Bool :=
  decide (PySem.W.findIn K (.ref D) "__getattribute__" = some (some (.builtin "BaseException.__getattribute__"))) && decide (PySem.W.findIn K (.ref D) "__getattr__" = some none) && decide (PySem.W.subIn K (.ref D) (.type "BaseException") = some true) &&
  PySem.W.hasDictIn K D && decide (PySem.W.findIn K (.ref D) "__class__" = some (some (.builtin "object.__class__"))) && decide (PySem.W.specialIn K (.builtin "object.__class__") "__get__" = some (some (.builtin "getset_descriptor.__get__"))) &&
  decide (PySem.W.takesIn K (.builtin "object.__class__") = some true) && decide (PySem.W.mroIn K D (.type "object") = some true)
theorem excCB_ok {K : Frag} {D : Addr} (h : excCB K D = true) : ExcC K D := by
  unfold excCB at h
  simp only [Bool.and_eq_true, decide_eq_true_eq] at h
  obtain ⟨⟨⟨⟨⟨⟨⟨h1, h2⟩, h3⟩, h4⟩, h5⟩, h6⟩, h7⟩, h8⟩ := h
  exact ⟨h1, h2, h3, h4, h5, h6, h7, h8⟩
def errB (K : Frag) : Bool := ([0, 1, 2] : List (Fin 5)).all fun i => excCB K (errA K i) && ([0, 1, 2, 3, 4] : List (Fin 5)).all fun j => decide (PySem.W.kitOne K (.ref (errA K i)) (.ref (errA K j)) = some (decide (i = j)))
def faE : List He.Fa := [.glo "NotAllowed", .glo "TooLarge", .glo "Missing", .glo "BadForm", .glo "Broken", .glo "ChooseError", .exc "NotAllowed", .exc "TooLarge", .exc "Missing", .exm "NotAllowed" "ChooseError" true, .exm "TooLarge" "ChooseError" true, .exm "Missing" "ChooseError" true,
  .free "len", .free "abs", .free "int", .free "str", .free "sum", .free "any", .free "all", .free "tuple", .free "list", .free "repr", .free "range", .free "enumerate", .free "zip", .free "min", .free "max", .free "sorted", .free "isinstance"]
section
variable {K : Frag} {mg : Gm} {h : Heap} {fa : List He.Fa}
theorem errs_ok (b : errB K = true) (X : K.In h) (G : h.Ns mainGlobals mg) (f : ∀ x ∈ faE, x.ok K = true) : Errs K mg (errA K) := by
  unfold errB at b
  rw [List.all_eq_true] at b
  have key : ∀ i : Fin 5, i.val < 3 → ExcC K (errA K i) ∧ ∀ j : Fin 5, PySem.W.kitOne K (.ref (errA K i)) (.ref (errA K j)) = some (decide (i = j)) := by
    intro i hi
    have hm : i ∈ ([0, 1, 2] : List (Fin 5)) := by revert i; decide
    have q := b i hm
    rw [Bool.and_eq_true, List.all_eq_true] at q
    refine ⟨excCB_ok q.1, fun j => of_decide_eq_true (q.2 j ?_)⟩
    revert j; decide
  refine ⟨He.glo_ok X G (f _ (by simp [faE])), He.glo_ok X G (f _ (by simp [faE])), He.glo_ok X G (f _ (by simp [faE])), He.glo_ok X G (f _ (by simp [faE])), He.glo_ok X G (f _ (by simp [faE])), fun i hi => (key i hi).1, fun i j hi => (key i hi).2 j⟩
theorem errs_sup (f : ∀ x ∈ faE, x.ok K = true) : ∀ i : Fin 5, i.val < 3 → PySem.W.exmOne K (.ref (errA K i)) (.ref (He.ga K "ChooseError")) = some true := by
  intro i hi
  have h0 := He.exm_ok (f (.exm "NotAllowed" "ChooseError" true) (by simp [faE]))
  have h1 := He.exm_ok (f (.exm "TooLarge" "ChooseError" true) (by simp [faE]))
  have h2 := He.exm_ok (f (.exm "Missing" "ChooseError" true) (by simp [faE]))
  match i, hi with
  | 0, _ => exact h0
  | 1, _ => exact h1
  | 2, _ => exact h2
theorem errs_exc (X : K.In h) (G : h.Ns mainGlobals mg) (f : ∀ x ∈ faE, x.ok K = true) : ExcG K mg "NotAllowed" (errA K 0) ∧ ExcG K mg "TooLarge" (errA K 1) ∧ ExcG K mg "Missing" (errA K 2) := by
  have key : ∀ x : Str, He.Fa.exc x ∈ faE → He.Fa.glo x ∈ faE → ExcG K mg x (He.ga K x) := fun x h1 h2 => by
    obtain ⟨a, b, c, d⟩ := He.exc_ok (f _ h1)
    exact ⟨He.glo_ok X G (f _ h2), a, b, c, d⟩
  exact ⟨key "NotAllowed" (by simp [faE]) (by simp [faE]), key "TooLarge" (by simp [faE]) (by simp [faE]), key "Missing" (by simp [faE]) (by simp [faE])⟩
theorem blt_ok (X : K.In h) (G : h.Ns mainGlobals mg) (f : ∀ x ∈ faE, x.ok K = true) : Blt mg := by
  constructor <;> exact He.free_ok X G (f _ (by simp [faE]))
end
end MM

set_option Elab.async false
set_option linter.all false
set_option maxRecDepth 100000
set_option maxHeartbeats 4000000
/-! ## MM: a list or a tuple some times -/
namespace MM
open PySem PySem.Spec PyProof.Rows L2
/-- once, or of nothing: the tuple itself -/
theorem tupOnce (p : Addr) (us : Array Value) (m : Nat) (dd : Option Addr) (sl : Array (Option Value)) (k : Int) (u : Tok) (h1 : (decide (k < -(2 ^ 63)) || decide (k ≥ 2 ^ 63)) = false) (h2 : (us.isEmpty || k == 1) = true) :
    Meets (Builtin.«tuple.__mul__» ⟨[.ref p, .int k u], []⟩) (fun _ R s => s.heap.get? p = some { cls := .type "tuple", dict := dd, data := .seq us m, slots := sl } ∧ R (.ok (.ret (Value.ref p))) s) :=
  .of_wp fun prog w A R s h => by
    obtain ⟨hp, g, d, tk, os⟩ := s
    obtain ⟨hq, h⟩ := h
    have f1 := AutoSeq1.idx_int
    wp_walk using wpAny_loadPart' hq
    repeat (first
      | (refine wpAny_ite_false (decide_eq_false (by rw [h1]; exact Bool.false_ne_true)) ?_; wp_walk using wpAny_loadPart' hq)
      | (refine wpAny_ite_true (decide_eq_true h2) ?_; wp_walk using wpAny_loadPart' hq))
    exact ⟨_, rfl, h⟩
/-- no times: an empty tuple -/
theorem tupNone (p : Addr) (us : Array Value) (m : Nat) (dd : Option Addr) (sl : Array (Option Value)) (k : Int) (u : Tok) (h1 : (decide (k < -(2 ^ 63)) || decide (k ≥ 2 ^ 63)) = false) (h2 : (us.isEmpty || k == 1) = false) (h3 : (decide (k ≤ 0) || us.isEmpty) = true) :
    Meets (Builtin.«tuple.__mul__» ⟨[.ref p, .int k u], []⟩) (fun _ R s => s.heap.get? p = some { cls := .type "tuple", dict := dd, data := .seq us m, slots := sl } ∧ R (.ok (.ret (Value.ref s.heap.objs.size))) { s with heap := s.heap.push { cls := Value.type "tuple", data := Data.seq #[] }, toks := s.toks }) :=
  .of_wp fun prog w A R s h => by
    obtain ⟨hp, g, d, tk, os⟩ := s
    obtain ⟨hq, h⟩ := h
    have f1 := AutoSeq1.idx_int
    wp_walk using wpAny_loadPart' hq
    repeat (first
      | (refine wpAny_ite_false (decide_eq_false (by rw [h1]; exact Bool.false_ne_true)) ?_; wp_walk using wpAny_loadPart' hq)
      | (refine wpAny_ite_false (decide_eq_false (by rw [h2]; exact Bool.false_ne_true)) ?_; wp_walk using wpAny_loadPart' hq)
      | (refine wpAny_ite_true (decide_eq_true h3) ?_; wp_walk using wpAny_loadPart' hq))
    exact ⟨_, rfl, h⟩
section
variable {X : Cx}
def rMulT1 (K : Frag) : R2 := fun x y H Q => ∃ l k xs, x = .ref l ∧ y = .int k ∧ SqT K H l xs ∧ -(2 ^ 63) ≤ k ∧ k < 2 ^ 63 ∧ ((k = 1 ∧ Q (.ref l) H) ∨ (k ≤ 0 ∧ xs ≠ [] ∧ ∀ p, H p = none → Q (.ref p) (upd H p (.tup []))))
theorem op_mulT1 : OpR X (binaryOp .Mult) (rMulT1 X.K) := by
  intro pins s σ H x y v u Q I rx ry h
  obtain ⟨l, k, xs, rfl, rfl, hT, b1, b2, q⟩ := h
  cases rx
  obtain ⟨t, rfl⟩ := ry
  obtain ⟨its, r, ⟨⟨cls, dd, data, sl⟩, ho, hc, n, hd⟩, hs⟩ := I.tuple hT
  simp only at hc hd
  subst hc hd
  have h1 : (decide (k < -(2 ^ 63)) || decide (k ≥ 2 ^ 63)) = false := by
    rw [decide_eq_false (by omega), decide_eq_false (by omega)]
    rfl
  rcases q with ⟨e, q⟩ | ⟨e, hne, q⟩
  · have h2 : (its.toArray.isEmpty || k == 1) = true := by rw [e]; simp
    exact wpAny_binaryOp_repeat_ref (T := "tuple") (U := "int") (by decide) ⟨_, ho, rfl⟩ (fun s' => typeIs_int s' k t) noFill_tuple_mul F.fills_int_mul F.slot_int_rmul repeat_tuple F.slot_int_index.lookup
      (call_meets F.slot_int_rmul (typeIs_int s k t) F.entry_int_rmul (F.args_int_rmul_2 _ _) (int_rmul_tuple k t l its.toArray n dd sl)
        ⟨ho, rfl, ⟨_, ho, rfl⟩, call_meets F.slot_tuple_mul ⟨_, ho, rfl⟩ F.entry_tuple_mul (F.args_tuple_mul_2 _ _) (tupOnce l its.toArray n dd sl k t h1 h2) ⟨ho, .ref l, H, I, rfl, q⟩⟩)
  · have hn : its ≠ [] := fun z => hne (by
      have := r.length
      rw [z] at this
      exact List.eq_nil_of_length_eq_zero this)
    have h2 : (its.toArray.isEmpty || k == 1) = false := by
      cases its with
      | nil => exact absurd rfl hn
      | cons a b =>
        have : (k == 1) = false := beq_eq_false_iff_ne.mpr (by omega)
        rw [this]
        rfl
    have h3 : (decide (k ≤ 0) || its.toArray.isEmpty) = true := by rw [decide_eq_true e]; rfl
    refine wpAny_binaryOp_repeat_ref (T := "tuple") (U := "int") (by decide) ⟨_, ho, rfl⟩ (fun s' => typeIs_int s' k t) noFill_tuple_mul F.fills_int_mul F.slot_int_rmul repeat_tuple F.slot_int_index.lookup
      (call_meets F.slot_int_rmul (typeIs_int s k t) F.entry_int_rmul (F.args_int_rmul_2 _ _) (int_rmul_tuple k t l its.toArray n dd sl)
        ⟨ho, rfl, ⟨_, ho, rfl⟩, call_meets F.slot_tuple_mul ⟨_, ho, rfl⟩ F.entry_tuple_mul (F.args_tuple_mul_2 _ _) (tupNone l its.toArray n dd sl k t h1 h2 h3) ⟨ho, ?_⟩⟩)
    exact ⟨.ref s.heap.objs.size, _, I.laid (t' := s.toks) (o := .tup []) (fun b ob q => Heap.get?_push_of_some _ q) (Nat.le_refl _) ⟨Nat.zero_le _, _, .nil, IsTup.new _ _⟩, rfl, q _ (I.hok.fresh (Nat.le_refl _))⟩
/-- a list some times -/
def rMulL : R2 := fun x y H Q => ∃ l k xs, x = .ref l ∧ y = .int k ∧ Rd H l (.lst xs) ∧ -(2 ^ 63) ≤ k ∧ k < 2 ^ 63 ∧ xs.length * k.toNat ≤ sizeLine ∧ ∀ p, H p = none → Q (.ref p) (upd H p (.lst (List.replicate k.toNat xs).flatten))
theorem op_mulL : OpR X (binaryOp .Mult) rMulL := by
  intro pins s σ H x y v u Q I rx ry h
  obtain ⟨l, k, xs, rfl, rfl, hR, b1, b2, hz, q⟩ := h
  cases rx
  obtain ⟨t, rfl⟩ := ry
  obtain ⟨z, its, n, r, e⟩ := hR.ok I.hok
  have hl := r.length
  have size1 : its.toArray.size * k.toNat ≤ sizeLine := by rw [List.size_toArray, ← hl]; exact hz
  have room : ¬ its.toArray.size * k.toNat > (2 ^ 63 - 1) / 8 := by
    have : (sizeLine : Nat) ≤ (2 ^ 63 - 1) / 8 := by decide
    omega
  have fit : ¬ (!Builtin.List.listFitsIndex k) = true := by rw [fitsIndex_both b1 b2]; decide
  have short : ¬ Builtin.List.listTooLong (its.toArray.size * k.toNat) = true := by rw [notLongL size1]; decide
  have made : List.foldl (fun a b => a ++ b) #[] (List.replicate (if its.toArray.isEmpty = true then 0 else k.toNat) its.toArray) = (List.replicate k.toNat its).flatten.toArray := by
    cases its with
    | nil =>
      have : (#[] : Array Value).isEmpty = true := rfl
      simp
    | cons a its =>
      rw [if_neg (by simp)]
      exact size_rep (a :: its) k.toNat
  refine wpAny_binaryOp_repeat_ref (T := "list") (U := "int") (by decide) ⟨_, e, rfl⟩ (fun s' => typeIs_int s' k t) noFill_list_mul F.fills_int_mul F.slot_int_rmul repeat_list F.slot_int_index.lookup
    (call_meets F.slot_int_rmul (typeIs_int s k t) F.entry_int_rmul (F.args_int_rmul_2 _ _) (int___rmul___int_list k t l its.toArray n) ⟨e, rfl, ⟨_, e, rfl⟩, call_meets F.slot_list_mul ⟨_, e, rfl⟩ F.entry_list_mul (F.args_list_mul_2 _ _) (AutoListH.list___mul___list_int_3 l its.toArray n k t fit room short) ⟨e, ?_⟩⟩)
  rw [made]
  exact ⟨.ref _, _, I.lnew (t' := s.toks) (r.rep k.toNat) (by rw [PyProof.Rows.lm_len_rep_flat, Nat.mul_comm]; exact hz), rfl, q _ I.fresh⟩
end
/-! ### mulM with all of it -/
def mulM2 : Op2 := fun μ a b => match a, b with
  | .int i, .int j => if okMul i j then some (.int (i * j)) else none
  | .tup xs, .int k => if k = 1 then some (.tup xs) else if xs ≠ [] ∧ k ≤ 0 ∧ -(2 ^ 63) ≤ k then some (.tup []) else if xs ≠ [] ∧ 2 ≤ k ∧ k ≤ 1000 ∧ xs.length ≤ 1000 then some (.tup (List.replicate k.toNat xs).flatten) else none
  | a, .int k => (lstOf μ a).bind fun xs => if -(2 ^ 63) ≤ k ∧ k < 2 ^ 63 ∧ xs.length * k.toNat ≤ sizeLine then some (.lst (List.replicate k.toNat xs).flatten) else none
  | _, _ => none
section
variable {X : Cx} {T : Tbs}
theorem m_mul2 : OpR X (binaryOp .Mult) (rM X.K T mulM2) := by
  intro pins s σ H x y v u Q I rx ry ⟨ι, μ, d1, d2, sr, r1, r2, d, e, q⟩
  unfold mulM2 at e
  split at e
  · split at e
    · rename_i hc
      cases e
      exact op_mulW pins s σ H x y v u Q I rx ry ⟨_, _, r1.int_inv, r2.int_inv, hc, q _ H Ext.refl sr RepV.int⟩
    · cases e
  · split at e
    · rename_i hc
      cases e
      subst hc
      obtain ⟨a, vs, rfl, t1, l1⟩ := r1.tup_inv
      exact op_mulT1 pins s σ H _ y v u Q I rx ry ⟨a, 1, vs, rfl, r2.int_inv, t1, by decide, by decide, .inl ⟨rfl, q _ H Ext.refl sr r1⟩⟩
    · split at e
      · rename_i hc
        cases e
        obtain ⟨a, vs, rfl, t1, l1⟩ := r1.tup_inv
        refine op_mulT1 pins s σ H _ y v u Q I rx ry ⟨a, _, vs, rfl, r2.int_inv, t1, hc.2.2, by omega, .inr ⟨hc.2.1, fun z => hc.1 ((Vals.unlen l1).mpr z), fun p hp => ?_⟩⟩
        exact q _ _ (Ext.laid hp) (sr.laid hp) (RepV.tup sr hp (RepL.nil_iff.mpr rfl))
      · split at e
        · rename_i hc
          cases e
          obtain ⟨a, vs, rfl, t1, l1⟩ := r1.tup_inv
          have hl := l1.len
          refine op_repT pins s σ H _ y v u Q I rx ry ⟨a, _, vs, rfl, r2.int_inv, t1, fun z => hc.1 ((Vals.unlen l1).mpr z), hc.2.1, hc.2.2.1, by omega, fun p hp => ?_⟩
          exact q _ _ (Ext.laid hp) (sr.laid hp) (RepV.tup sr hp (l1.rep _))
        · cases e
  · obtain ⟨xs, h1, e⟩ := Option.bind_eq_some_iff.mp e
    split at e
    · rename_i hc
      cases e
      obtain ⟨a, vs, rfl, t1, l1⟩ := sr.lstR r1 h1
      have hl := l1.len
      refine op_mulL pins s σ H _ y v u Q I rx ry ⟨a, _, vs, rfl, r2.int_inv, t1, hc.1, hc.2.1, by rw [← hl]; exact hc.2.2, fun p hp => ?_⟩
      exact q _ _ (Ext.laid hp) (sr.laid hp) (RepV.lst sr hp (l1.rep _))
    · cases e
  · cases e
end
end MM

set_option Elab.async false
set_option linter.all false
set_option maxRecDepth 100000
set_option maxHeartbeats 4000000
/-! ## PL: M-terms evaluated -/
namespace PL
open PySem PySem.Spec PyProof.Rows L2 MM
mutual
/-- no cells in it -/
def nr : MV → Bool
  | .ref _ => false
  | .tup xs => nrs xs
  | .lst xs => nrs xs
  | _ => true
def nrs : List MV → Bool
  | [] => true
  | x :: xs => nr x && nrs xs
end
theorem nrs_all : ∀ xs, nrs xs = xs.all nr
  | [] => rfl
  | x :: xs => by unfold nrs; rw [nrs_all xs]; rfl
theorem nrs_map {α : Type} (f : α → MV) (h : ∀ x, nr (f x) = true) (xs : List α) : nrs (xs.map f) = true := by
  rw [nrs_all, List.all_map, List.all_eq_true]
  exact fun x _ => h x
mutual
theorem okN_nr {n : Nat} : ∀ d, nr d = true → okN n d = true
  | .ref _, h => by cases h
  | .tup xs, h => by unfold okN; exact okNs_nr xs (by unfold nr at h; exact h)
  | .lst xs, h => by unfold okN; exact okNs_nr xs (by unfold nr at h; exact h)
  | .non, _ => rfl
  | .bl _, _ => rfl
  | .int _, _ => rfl
  | .str _, _ => rfl
  | .cst _, _ => rfl
  | .scr _, _ => rfl
theorem okNs_nr {n : Nat} : ∀ xs, nrs xs = true → okN.okNs n xs = true
  | [], _ => rfl
  | x :: xs, h => by
    unfold nrs at h
    rw [Bool.and_eq_true] at h
    unfold okN.okNs
    rw [okN_nr x h.1, okNs_nr xs h.2]
    rfl
end
theorem frz_nr {n : Nat} {μ : Mem} : ∀ (k : Nat), (∀ d, nr d = true → frzN n μ k d = d) ∧ (∀ xs, nrs xs = true → frzN.frzNs n μ k xs = xs) := by
  intro k
  induction k with
  | zero =>
    refine ⟨fun d _ => by unfold frzN; rfl, fun xs => ?_⟩
    induction xs with
    | nil => intro _; unfold frzN.frzNs; rfl
    | cons x xs ih =>
      intro h
      unfold nrs at h
      rw [Bool.and_eq_true] at h
      unfold frzN.frzNs
      rw [ih h.2]
      unfold frzN
      rfl
  | succ k ih =>
    have h1 : ∀ d, nr d = true → frzN n μ (k + 1) d = d := fun d h => by
      cases d with
      | ref _ => cases h
      | tup xs => unfold frzN; unfold nr at h; rw [ih.2 xs h]
      | lst xs => unfold frzN; unfold nr at h; rw [ih.2 xs h]
      | _ => unfold frzN; rfl
    refine ⟨h1, fun xs => ?_⟩
    induction xs with
    | nil => intro _; unfold frzN.frzNs; rfl
    | cons x xs ih2 =>
      intro h
      unfold nrs at h
      rw [Bool.and_eq_true] at h
      unfold frzN.frzNs
      rw [ih2 h.2, h1 x h.1]
/-- the cells mean none beyond -/
def okMem (μ : Mem) : Prop := μ.all (okC μ.length) = true
theorem chop_ok {μ μ' : Mem} {d : MV} (hd : nr d = true) (hm : (μ'.take μ.length).all (okC μ.length) = true) : chopO μ.length (.ok d μ') = .ok d (μ'.take μ.length) := by
  unfold chopO
  dsimp only
  rw [(frz_nr 9).1 d hd, okN_nr d hd, hm]
  rfl
theorem chop_data {μ ν : Mem} {d : MV} (hd : nr d = true) (hm : okMem μ) : chopO μ.length (.ok d (μ ++ ν)) = .ok d μ := by
  have e : (μ ++ ν).take μ.length = μ := List.take_left
  rw [chop_ok hd (by rw [e]; exact hm), e]
theorem chop_same {μ : Mem} {d : MV} (hd : nr d = true) (hm : okMem μ) : chopO μ.length (.ok d μ) = .ok d μ := by
  have := chop_data (ν := []) hd hm
  rwa [List.append_nil] at this
theorem chop_cell {μ μ' : Mem} {i : Nat} {xs : List MV} (hi : μ.length ≤ i) (hx : μ'[i]? = some (.lst xs)) (hd : nrs xs = true) (hm : (μ'.take μ.length).all (okC μ.length) = true) : chopO μ.length (.ok (.ref i) μ') = .ok (.lst xs) (μ'.take μ.length) := by
  have e : frzN μ.length μ' 9 (.ref i) = .lst xs := by
    have : ¬ i < μ.length := Nat.not_lt.mpr hi
    unfold frzN
    rw [if_neg this, hx]
    show MV.lst (frzN.frzNs μ.length μ' 8 xs) = _
    rw [(frz_nr 8).2 xs hd]
  unfold chopO
  dsimp only
  rw [e, okN_nr (.lst xs) (by unfold nr; exact hd), hm]
  rfl
theorem chop_exc {μ ν : Mem} {x : Exc} (hm : okMem μ) : chopO μ.length (.exc x (μ ++ ν)) = .exc x μ := by
  have e : (μ ++ ν).take μ.length = μ := List.take_left
  unfold chopO
  dsimp only
  rw [e]
  have hm : μ.all (okC μ.length) = true := hm
  rw [hm]
  rfl
theorem chop_exc0 {μ : Mem} {x : Exc} (hm : okMem μ) : chopO μ.length (.exc x μ) = .exc x μ := by
  have := chop_exc (ν := []) (x := x) hm
  rwa [List.append_nil] at this
/-! ### whole numbers -/
theorem bits_le {i : Int} {n : Nat} (h : i.natAbs < 2 ^ n) (hn : 0 < n) : i.natAbs.log2 < n := by
  by_cases z : i.natAbs = 0
  · rw [z]
    simpa using hn
  · exact (Nat.log2_lt z).mpr h
/-! ### lists walked -/
/-- items of what is walked: nothing is to be checked -/
theorem ok_nil {xs : List MV} {μ : Mem} : (⟨xs, []⟩ : Itm).ok μ := fun p hp => absurd hp (by simp)
/-- a for over items by a fold -/
theorem for_fold {α S : Type} {xs0 : List MV} {g : TgM} {b : SM} (rep : α → MV) (env : S → MM.Env) (mem : S → Mem) (step : S → α → S) (I : S → Prop) : ∀ (xs : List α) (s : S), I s →
    (∀ x ∈ xs, ∀ s, I s → I (step s x) ∧ ∃ ρ1 μ1, g (rep x) (env s) (mem s) = some (ρ1, μ1) ∧ (b ρ1 μ1 = .nx (env (step s x)) (mem (step s x)) ∨ b ρ1 μ1 = .ct (env (step s x)) (mem (step s x)))) →
    forL ⟨xs0, []⟩ g b (xs.map rep) (env s) (mem s) = .nx (env (xs.foldl step s)) (mem (xs.foldl step s))
  | [], s, hs, h => by
    show forL ⟨xs0, []⟩ g b [] (env s) (mem s) = _
    unfold forL
    rw [if_pos ok_nil]
    rfl
  | x :: xs, s, hs, h => by
    obtain ⟨i2, ρ1, μ1, h1, h2⟩ := h x List.mem_cons_self s hs
    have ih := for_fold rep env mem step I xs (step s x) i2 (fun y hy => h y (List.mem_cons_of_mem _ hy)) (xs0 := xs0) (g := g) (b := b)
    show forL ⟨xs0, []⟩ g b (rep x :: xs.map rep) (env s) (mem s) = _
    unfold forL
    rw [if_pos ok_nil, h1]
    show (match b ρ1 μ1 with
      | .nx ρ2 μ2 => forL ⟨xs0, []⟩ g b (xs.map rep) ρ2 μ2
      | .ct ρ2 μ2 => forL ⟨xs0, []⟩ g b (xs.map rep) ρ2 μ2
      | .bk ρ2 μ2 => .nx ρ2 μ2
      | .rt d μ2 => .rt d μ2
      | .exc x μ2 => .exc x μ2
      | .bad => .bad) = _
    rcases h2 with h2 | h2 <;> rw [h2] <;> exact ih
/-- a for that keeps something, and may end ahead -/
theorem for_inv {xs0 : List MV} {g : TgM} {b : SM} (I : MM.Env → Mem → Prop) (R : SOut → Prop) : ∀ (xs : List MV) (ρ : MM.Env) (μ : Mem), I ρ μ → (∀ ρ μ, I ρ μ → R (.nx ρ μ)) →
    (∀ x ∈ xs, ∀ ρ μ, I ρ μ → ∃ ρ1 μ1, g x ρ μ = some (ρ1, μ1) ∧ ((∃ ρ2 μ2, (b ρ1 μ1 = .nx ρ2 μ2 ∨ b ρ1 μ1 = .ct ρ2 μ2) ∧ I ρ2 μ2) ∨ (∃ ρ2 μ2, b ρ1 μ1 = .bk ρ2 μ2 ∧ R (.nx ρ2 μ2)) ∨ (∃ d μ2, b ρ1 μ1 = .rt d μ2 ∧ R (.rt d μ2)) ∨ (∃ x μ2, b ρ1 μ1 = .exc x μ2 ∧ R (.exc x μ2)))) →
    R (forL ⟨xs0, []⟩ g b xs ρ μ)
  | [], ρ, μ, hi, hr, h => by
    unfold forL
    rw [if_pos ok_nil]
    exact hr ρ μ hi
  | x :: xs, ρ, μ, hi, hr, h => by
    obtain ⟨ρ1, μ1, h1, h2⟩ := h x List.mem_cons_self ρ μ hi
    unfold forL
    rw [if_pos ok_nil, h1]
    show R (match b ρ1 μ1 with
      | .nx ρ2 μ2 => forL ⟨xs0, []⟩ g b xs ρ2 μ2
      | .ct ρ2 μ2 => forL ⟨xs0, []⟩ g b xs ρ2 μ2
      | .bk ρ2 μ2 => .nx ρ2 μ2
      | .rt d μ2 => .rt d μ2
      | .exc x μ2 => .exc x μ2
      | .bad => .bad)
    rcases h2 with ⟨ρ2, μ2, h2 | h2, i2⟩ | ⟨ρ2, μ2, h2, r2⟩ | ⟨d, μ2, h2, r2⟩ | ⟨e, μ2, h2, r2⟩ <;> rw [h2]
    · exact for_inv I R xs ρ2 μ2 i2 hr fun y hy => h y (List.mem_cons_of_mem _ hy)
    · exact for_inv I R xs ρ2 μ2 i2 hr fun y hy => h y (List.mem_cons_of_mem _ hy)
    · exact r2
    · exact r2
    · exact r2
/-- a comprehension that is a map -/
theorem comp_map {α : Type} {xs0 : List MV} {g : TgM} {e : Ev MV} {ρ : MM.Env} {μ : Mem} (rep : α → MV) (f : α → MV) : ∀ (xs : List α),
    (∀ x ∈ xs, ∃ ρ1, g (rep x) ρ μ = some (ρ1, μ) ∧ e ρ1 μ = .ok (f x) μ) → compL ⟨xs0, []⟩ g mYes e ρ (xs.map rep) μ = some (xs.map f, μ)
  | [], h => by
    show compL ⟨xs0, []⟩ g mYes e ρ [] μ = _
    unfold compL
    rw [if_pos ok_nil]
    rfl
  | x :: xs, h => by
    obtain ⟨ρ1, h1, h2⟩ := h x List.mem_cons_self
    have ih := comp_map rep f xs (fun y hy => h y (List.mem_cons_of_mem _ hy)) (xs0 := xs0) (g := g) (e := e) (ρ := ρ) (μ := μ)
    show compL ⟨xs0, []⟩ g mYes e ρ (rep x :: xs.map rep) μ = _
    unfold compL
    rw [if_pos ok_nil, h1]
    simp only [mYes, mRet, h2, ih, List.map_cons]
/-- .. with a test -/
theorem comp_filter {α : Type} {xs0 : List MV} {g : TgM} {c : Ev Bool} {e : Ev MV} {ρ : MM.Env} {μ : Mem} (rep : α → MV) (p : α → Bool) (f : α → MV) : ∀ (xs : List α),
    (∀ x ∈ xs, ∃ ρ1, g (rep x) ρ μ = some (ρ1, μ) ∧ c ρ1 μ = .ok (p x) μ ∧ (p x = true → e ρ1 μ = .ok (f x) μ)) → compL ⟨xs0, []⟩ g c e ρ (xs.map rep) μ = some ((xs.filter p).map f, μ)
  | [], h => by
    show compL ⟨xs0, []⟩ g c e ρ [] μ = _
    unfold compL
    rw [if_pos ok_nil]
    rfl
  | x :: xs, h => by
    obtain ⟨ρ1, h1, h2, h3⟩ := h x List.mem_cons_self
    have ih := comp_filter rep p f xs (fun y hy => h y (List.mem_cons_of_mem _ hy)) (xs0 := xs0) (g := g) (c := c) (e := e) (ρ := ρ) (μ := μ)
    show compL ⟨xs0, []⟩ g c e ρ (rep x :: xs.map rep) μ = _
    unfold compL
    rw [if_pos ok_nil, h1]
    cases hp : p x with
    | true =>
      rw [hp] at h2
      simp only [h2, h3 hp, ih, List.filter_cons, hp, if_true, List.map_cons]
    | false =>
      rw [hp] at h2
      simp only [h2, ih, List.filter_cons, hp]
      rfl
/-- a comprehension whose items change the memory: something is kept -/
theorem comp_inv {xs0 : List MV} {g : TgM} {e : Ev MV} {ρ : MM.Env} (I : Mem → Prop) (P : MV → Prop) : ∀ (xs : List MV) (μ : Mem), I μ →
    (∀ x ∈ xs, ∀ μ, I μ → ∃ ρ1, g x ρ μ = some (ρ1, μ) ∧ ∃ d μ1, e ρ1 μ = .ok d μ1 ∧ P d ∧ I μ1) → ∃ ds μ', compL ⟨xs0, []⟩ g mYes e ρ xs μ = some (ds, μ') ∧ ds.length = xs.length ∧ (∀ d ∈ ds, P d) ∧ I μ'
  | [], μ, hi, h => by
    refine ⟨[], μ, ?_, rfl, fun d hd => absurd hd (by simp), hi⟩
    unfold compL
    rw [if_pos ok_nil]
  | x :: xs, μ, hi, h => by
    obtain ⟨ρ1, h1, d, μ1, h2, h3, h4⟩ := h x List.mem_cons_self μ hi
    obtain ⟨ds, μ', h5, h6, h7, h8⟩ := comp_inv I P xs μ1 h4 (fun y hy => h y (List.mem_cons_of_mem _ hy)) (xs0 := xs0) (g := g) (e := e) (ρ := ρ)
    refine ⟨d :: ds, μ', ?_, by simp [h6], fun z hz => ?_, h8⟩
    · unfold compL
      rw [if_pos ok_nil, h1]
      simp only [mYes, mRet, h2, h5]
    · rcases List.mem_cons.mp hz with rfl | hz
      · exact h3
      · exact h7 z hz
theorem while_go {c : Ev Bool} {b : SM} {n : Nat} {ρ ρ2 : MM.Env} {μ μ1 μ2 : Mem} (h1 : c ρ μ = .ok true μ1) (h2 : b ρ μ1 = .nx ρ2 μ2) : whileN c b (n + 1) ρ μ = whileN c b n ρ2 μ2 := by
  conv => lhs; unfold whileN
  rw [h1]
  dsimp only
  rw [h2]
theorem while_stop {c : Ev Bool} {b : SM} {n : Nat} {ρ : MM.Env} {μ μ1 : Mem} (h1 : c ρ μ = .ok false μ1) : whileN c b (n + 1) ρ μ = .nx ρ μ1 := by
  conv => lhs; unfold whileN
  rw [h1]
/-! ### one statement behind the other -/
theorem eqI (μ : Mem) (i j : Int) : eqM μ (.int i) (.int j) = some (.bl (decide (i = j))) := by
  show some (MV.bl (PyData.eqv (.int i) (.int j))) = _
  rfl
theorem two_le : (2 : Nat) ≤ sizeLine := by decide
theorem seq_step {a b : SM} {ρ ρ1 : MM.Env} {μ μ1 : Mem} {o : SOut} (h : a ρ μ = .nx ρ1 μ1) (k : b ρ1 μ1 = o) : sSeq a b ρ μ = o := by
  unfold sSeq
  rw [h]
  exact k
theorem seq_rt {a b : SM} {ρ : MM.Env} {μ μ1 : Mem} {d : MV} (h : a ρ μ = .rt d μ1) : sSeq a b ρ μ = .rt d μ1 := by
  unfold sSeq
  rw [h]
theorem seq_exc {a b : SM} {ρ : MM.Env} {μ μ1 : Mem} {x : Exc} (h : a ρ μ = .exc x μ1) : sSeq a b ρ μ = .exc x μ1 := by
  unfold sSeq
  rw [h]
theorem if_t {c : Ev Bool} {a b : SM} {ρ : MM.Env} {μ μ1 : Mem} {o : SOut} (h : c ρ μ = .ok true μ1) (k : a ρ μ1 = o) : sIf c a b ρ μ = o := by
  unfold sIf sE
  rw [h]
  exact k
theorem if_f {c : Ev Bool} {a b : SM} {ρ : MM.Env} {μ μ1 : Mem} {o : SOut} (h : c ρ μ = .ok false μ1) (k : b ρ μ1 = o) : sIf c a b ρ μ = o := by
  unfold sIf sE
  rw [h]
  exact k
/-- a def's end -/
theorem run_rt {N : List Str} {b : SM} {ds : List MV} {μ μ' : Mem} {d : MV} (h : b (envS N ds) μ = .rt d μ') (hd : nr d = true) (hm : (μ'.take μ.length).all (okC μ.length) = true) : runC N b ds μ = .ok d (μ'.take μ.length) := by
  unfold runC
  rw [h]
  exact chop_ok hd hm
theorem run_rt0 {N : List Str} {b : SM} {ds : List MV} {μ : Mem} {d : MV} (h : b (envS N ds) μ = .rt d μ) (hd : nr d = true) (hm : okMem μ) : runC N b ds μ = .ok d μ := by
  unfold runC
  rw [h]
  exact chop_same hd hm
theorem run_exc0 {N : List Str} {b : SM} {ds : List MV} {μ : Mem} {x : Exc} (h : b (envS N ds) μ = .exc x μ) (hm : okMem μ) : runC N b ds μ = .exc x μ := by
  unfold runC
  rw [h]
  exact chop_exc0 hm
theorem run_nx0 {N : List Str} {b : SM} {ds : List MV} {μ : Mem} {ρ : MM.Env} (h : b (envS N ds) μ = .nx ρ μ) (hm : okMem μ) : runC N b ds μ = .ok .non μ := by
  unfold runC
  rw [h]
  exact chop_same rfl hm
/-- a call -/
theorem call_ok {n : Nat} {F : FM} {ms : Ev (List MV)} {ρ : MM.Env} {μ μ1 : Mem} {ds : List MV} {o : Out MV} (h : ms ρ μ = .ok ds μ1) (hn : ds.length = n) (k : F ds μ1 = o) : mCall n F ms ρ μ = o := by
  unfold mCall mB
  rw [h]
  dsimp only
  rw [if_pos hn]
  exact k
theorem for_end {xs0 : List MV} {g : TgM} {b : SM} {ρ : MM.Env} {μ : Mem} : forL ⟨xs0, []⟩ g b [] ρ μ = .nx ρ μ := by
  unfold forL
  rw [if_pos ok_nil]
theorem for_nx {xs0 : List MV} {g : TgM} {b : SM} {x : MV} {xs : List MV} {ρ ρ1 ρ2 : MM.Env} {μ μ1 μ2 : Mem} (h1 : g x ρ μ = some (ρ1, μ1)) (h2 : b ρ1 μ1 = .nx ρ2 μ2) : forL ⟨xs0, []⟩ g b (x :: xs) ρ μ = forL ⟨xs0, []⟩ g b xs ρ2 μ2 := by
  conv => lhs; unfold forL
  rw [if_pos ok_nil, h1]
  dsimp only
  rw [h2]
theorem for_bk {xs0 : List MV} {g : TgM} {b : SM} {x : MV} {xs : List MV} {ρ ρ1 ρ2 : MM.Env} {μ μ1 μ2 : Mem} (h1 : g x ρ μ = some (ρ1, μ1)) (h2 : b ρ1 μ1 = .bk ρ2 μ2) : forL ⟨xs0, []⟩ g b (x :: xs) ρ μ = .nx ρ2 μ2 := by
  conv => lhs; unfold forL
  rw [if_pos ok_nil, h1]
  dsimp only
  rw [h2]
theorem for_rt {xs0 : List MV} {g : TgM} {b : SM} {x : MV} {xs : List MV} {ρ ρ1 : MM.Env} {μ μ1 μ2 : Mem} {d : MV} (h1 : g x ρ μ = some (ρ1, μ1)) (h2 : b ρ1 μ1 = .rt d μ2) : forL ⟨xs0, []⟩ g b (x :: xs) ρ μ = .rt d μ2 := by
  conv => lhs; unfold forL
  rw [if_pos ok_nil, h1]
  dsimp only
  rw [h2]
/-- a for over a range -/
theorem rng1_n {n : Nat} (hn : Rg62 (n : Int)) : rng1 [MV.int n] = some ⟨intsL 0 n, []⟩ := by
  unfold rng1
  dsimp only
  rw [if_pos hn, Int.toNat_natCast]
theorem mrng1 {ms : Ev (List MV)} {ρ : MM.Env} {μ μ1 : Mem} {n : Nat} (h : ms ρ μ = .ok [.int n] μ1) (hn : Rg62 (n : Int)) : mRng rng1 ms ρ μ = .ok ⟨intsL 0 n, []⟩ μ1 := by
  unfold mRng mB
  rw [h]
  dsimp only
  rw [rng1_n hn]
  rfl
theorem sfor_of {m : Ev Itm} {g : TgM} {b : SM} {ρ : MM.Env} {μ μ1 : Mem} {t : Itm} {o : SOut} (h : m ρ μ = .ok t μ1) (k : forL t g b t.items ρ μ1 = o) : sFor m g b ρ μ = o := by
  unfold sFor sE
  rw [h]
  exact k
/-! ### comprehensions -/
theorem mcomp_map {α : Type} {vs : List Nat} {mi : Ev Itm} {g : TgM} {e : Ev MV} {ρ : MM.Env} {μ μ1 : Mem} (rep : α → MV) (f : α → MV) (xs : List α) (h1 : mi ρ μ = .ok ⟨xs.map rep, []⟩ μ1) (hl : xs.length ≤ sizeLine)
    (h : ∀ x ∈ xs, ∃ ρ1, g (rep x) (wipeE ρ vs) μ1 = some (ρ1, μ1) ∧ e ρ1 μ1 = .ok (f x) μ1) : mComp vs mi g mYes e ρ μ = .ok (.lst (xs.map f)) μ1 := by
  unfold mComp mCompL
  unfold mB
  dsimp only
  rw [h1]
  dsimp only
  unfold compT
  rw [if_pos (by rw [List.length_map]; exact hl), comp_map rep f xs h]
  rfl
theorem mcomp_filter {α : Type} {vs : List Nat} {mi : Ev Itm} {g : TgM} {c : Ev Bool} {e : Ev MV} {ρ : MM.Env} {μ μ1 : Mem} (rep : α → MV) (p : α → Bool) (f : α → MV) (xs : List α) (h1 : mi ρ μ = .ok ⟨xs.map rep, []⟩ μ1) (hl : xs.length ≤ sizeLine)
    (h : ∀ x ∈ xs, ∃ ρ1, g (rep x) (wipeE ρ vs) μ1 = some (ρ1, μ1) ∧ c ρ1 μ1 = .ok (p x) μ1 ∧ (p x = true → e ρ1 μ1 = .ok (f x) μ1)) : mComp vs mi g c e ρ μ = .ok (.lst ((xs.filter p).map f)) μ1 := by
  unfold mComp mCompL
  unfold mB
  dsimp only
  rw [h1]
  dsimp only
  unfold compT
  rw [if_pos (by rw [List.length_map]; exact hl), comp_filter rep p f xs h]
  rfl
theorem mcomp_inv {vs : List Nat} {mi : Ev Itm} {g : TgM} {e : Ev MV} {ρ : MM.Env} {μ μ1 : Mem} (I : Mem → Prop) (P : MV → Prop) (xs : List MV) (h1 : mi ρ μ = .ok ⟨xs, []⟩ μ1) (hl : xs.length ≤ sizeLine) (hi : I μ1)
    (h : ∀ x ∈ xs, ∀ μ, I μ → ∃ ρ1, g x (wipeE ρ vs) μ = some (ρ1, μ) ∧ ∃ d μ2, e ρ1 μ = .ok d μ2 ∧ P d ∧ I μ2) : ∃ ds μ', mComp vs mi g mYes e ρ μ = .ok (.lst ds) μ' ∧ ds.length = xs.length ∧ (∀ d ∈ ds, P d) ∧ I μ' := by
  obtain ⟨ds, μ', a1, a2, a3, a4⟩ := comp_inv I P xs μ1 hi h (xs0 := xs)
  refine ⟨ds, μ', ?_, a2, a3, a4⟩
  unfold mComp mCompL
  unfold mB
  dsimp only
  rw [h1]
  dsimp only
  unfold compT
  rw [if_pos hl, a1]
  rfl
theorem bls_map {α : Type} (f : α → Bool) : ∀ xs : List α, blsOf (xs.map fun x => .bl (f x)) = some (xs.map f)
  | [] => rfl
  | x :: xs => by
    show (blsOf (xs.map fun x => .bl (f x))).map (f x :: ·) = _
    rw [bls_map f xs]
    rfl
theorem ints_map : ∀ xs : List Int, intsOf (xs.map .int) = some xs
  | [] => rfl
  | x :: xs => by
    show (intsOf (xs.map .int)).map (x :: ·) = _
    rw [ints_map xs]
    rfl
theorem all_map {α : Type} (μ : Mem) (f : α → Bool) (xs : List α) : allM μ [.lst (xs.map fun x => .bl (f x))] = some (.bl (xs.all f)) := by
  show ((some (xs.map fun x => MV.bl (f x))).bind fun xs => (blsOf xs).map fun ns => MV.bl (ns.all _root_.id)) = _
  dsimp only [Option.bind]
  rw [bls_map]
  simp
theorem any_map {α : Type} (μ : Mem) (f : α → Bool) (xs : List α) : anyM μ [.lst (xs.map fun x => .bl (f x))] = some (.bl (xs.any f)) := by
  show ((some (xs.map fun x => MV.bl (f x))).bind fun xs => (blsOf xs).map fun ns => MV.bl (ns.any _root_.id)) = _
  dsimp only [Option.bind]
  rw [bls_map]
  simp
theorem sum_map (μ : Mem) (xs : List Int) : sumM μ [.lst (xs.map .int)] = some (.int xs.sum) := by
  show ((some (xs.map MV.int)).bind fun xs => (intsOf xs).map fun ns => MV.int ns.sum) = _
  dsimp only [Option.bind]
  rw [ints_map]
  rfl
theorem mitm {m : Ev MV} {ρ : MM.Env} {μ μ1 : Mem} {d : MV} {t : Itm} (h : m ρ μ = .ok d μ1) (e : itmOf μ1 d = some t) : mItm m ρ μ = .ok t μ1 := by
  unfold mItm mB
  rw [h]
  dsimp only
  rw [e]
  rfl
theorem mcb1 {op : OpC} {m : Ev MV} {ρ : MM.Env} {μ μ1 : Mem} {d r : MV} (h : m ρ μ = .ok d μ1) (e : op μ1 [d] = some r) : mCB op (mCons m mNil) ρ μ = .ok r μ1 := by
  unfold mCB mCons mNil mRet mB
  dsimp only
  rw [h]
  dsimp only
  rw [e]
  rfl
end PL

set_option Elab.async false
set_option linter.all false
set_option maxRecDepth 100000
set_option maxHeartbeats 4000000
/-! ## MM: comparisons of four, as tests -/
namespace MM
open PySem PySem.Spec PyProof.Rows L2
def tCh3 (q1 q2 q3 : R2) (ta tb tc td : TE) : TE := fun σ H Q => ta σ H fun x1 Ha => tb σ Ha fun x2 Hb => q1 x1 x2 Hb fun z1 Hc => ∃ k, z1 = .bl k ∧
  (if k = true then tc σ Hc fun x3 Hd => q2 x2 x3 Hd fun z2 He => ∃ k2, z2 = .bl k2 ∧ (if k2 = true then td σ He fun x4 Hf => q3 x3 x4 Hf Q else Q (.bl false) He) else Q (.bl false) Hc)
section
variable {X : Cx} {a b c d : Expr} {ta tb tc td : TE} {pos : Pos}
theorem pt_ch3 {o1 o2 o3 : CmpOp} {q1 q2 q3 : R2} (h1 : OpR X (compareOp o1) q1) (h2 : OpR X (compareOp o2) q2) (h3 : OpR X (compareOp o3) q3) (ha : PE X a ta) (hb : PE X b tb) (hc : PE X c tc) (hd : PE X d td)
    (hm : lastMarks [o1, o2, o3] [b, c, d] = false := by with_unfolding_all rfl) : PT X (.Compare a [o1, o2, o3] [b, c, d] pos) (tTest (tCh3 q1 q2 q3 ta tb tc td)) := by
  refine ⟨fun pins s0 σ Ha Q I0 w0 => isTrue_chain (thn (ha.run pins s0 σ Ha _ I0 w0) fun v1 s1 ⟨x1, Hb, I1, r1, w1⟩ => test_link (thn (hb.run pins s1 σ Hb _ I1 w1) fun v2 s2 ⟨x2, Hc, I2, r2, w2⟩ => thn (h1 pins s2 σ Hc x1 x2 v1 v2 _ I2 r1 r2 w2) fun t1 s3 ⟨z1, Hd, I3, r3, k, e, w3⟩ => ?_)) hm⟩
  subst e
  cases r3
  refine wpAny_truthy_bool ?_
  cases k with
  | false =>
    obtain ⟨k', e', w'⟩ := w3
    cases e'
    exact ite_ff ⟨Hd, I3, w'⟩
  | true =>
    refine ite_tt (test_link (thn (hc.run pins s3 σ Hd _ I3 w3) fun v3 s4 ⟨x3, He, I4, r4, w4⟩ => thn (h2 pins s4 σ He x2 x3 v2 v3 _ I4 r2 r4 w4) fun t2 s5 ⟨z2, Hf, I5, r5, k2, e2, w5⟩ => ?_))
    subst e2
    cases r5
    refine wpAny_truthy_bool ?_
    cases k2 with
    | false =>
      obtain ⟨k', e', w'⟩ := w5
      cases e'
      exact ite_ff ⟨Hf, I5, w'⟩
    | true =>
      refine ite_tt (test_last (thn (hd.run pins s5 σ Hf _ I5 w5) fun v4 s6 ⟨x4, Hg, I6, r6, w6⟩ => thn (h3 pins s6 σ Hg x3 x4 v3 v4 _ I6 r4 r6 w6) fun t3 s7 ⟨z3, Hh, I7, r7, k3, e3, w7⟩ => ?_))
      subst e3
      cases r7
      exact wpAny_truthy_bool ⟨Hh, I7, w7⟩
end
/-- a o1 b o2 c o3 d -/
def mCh3 (o1 o2 o3 : Op2) (ma mb mc md : Ev MV) : Ev MV := mB ma fun x => mB mb fun y => fun ρ μ => match o1 μ x y with
  | some (.bl true) => mB mc (fun z => fun ρ μ => match o2 μ y z with
    | some (.bl true) => mB md (fun w => fun ρ μ => oO (o3 μ z w) ρ μ) ρ μ
    | some (.bl false) => .ok (.bl false) μ
    | _ => .bad) ρ μ
  | some (.bl false) => .ok (.bl false) μ
  | _ => .bad
section
variable {X : Cx} {T : Tbs} {W : WX} {a b c d : Expr} {ma mb mc md : Ev MV} {pos : Pos}
theorem ch3T {o1 o2 o3 : Op2} : ∀ σ H Q, tG (RV X.K) X.K X.mg T W (mCh3 o1 o2 o3 ma mb mc md) σ H Q → tCh3 (rM X.K T o1) (rM X.K T o2) (rM X.K T o3) (tG (RV X.K) X.K X.mg T W ma) (tG (RV X.K) X.K X.mg T W mb) (tG (RV X.K) X.K X.mg T W mc) (tG (RV X.K) X.K X.mg T W md) σ H Q :=
  fun σ H Q ⟨ι, ρ, μ, s, e, h⟩ => ⟨ι, ρ, μ, s, e, bindr h fun d1 x μ1 ι1 H1 _ E1 s1 r1 h1 => ⟨ι1, ρ, μ1, s1, e.ext E1, bindr h1 fun d2 y μ2 ι2 H2 _ E2 s2 r2 h2 => by
    refine ⟨ι2, μ2, d1, d2, s2, r1.ext E2, r2, ?_⟩
    have h2 : Post (RV X.K) X.K X.mg T W σ ι2 H2 Q (match o1 μ2 d1 d2 with
      | some (.bl true) => mB mc (fun z => fun ρ μ => match o2 μ d2 z with
        | some (.bl true) => mB md (fun w => fun ρ μ => oO (o3 μ z w) ρ μ) ρ μ
        | some (.bl false) => .ok (.bl false) μ
        | _ => .bad) ρ μ2
      | some (.bl false) => .ok (.bl false) μ2
      | _ => .bad) := h2
    split at h2
    · rename_i ho
      refine ⟨_, ho, fun v H3 E3 s3 r3 => ⟨true, r3.bl_inv, ?_⟩⟩
      refine ⟨ι2, ρ, μ2, s3, (e.ext (E1.trans E2)).ext E3, bindr (f := fun z => fun ρ μ => match o2 μ d2 z with
        | some (.bl true) => mB md (fun w => fun ρ μ => oO (o3 μ z w) ρ μ) ρ μ
        | some (.bl false) => .ok (.bl false) μ
        | _ => .bad) (h2.mono E3) fun d3 z μ3 ι4 H4 _ E4 s4 r4 h4 => ?_⟩
      refine ⟨ι4, μ3, d2, d3, s4, (r2.ext E3).ext E4.w, r4, ?_⟩
      have h4 : Post (RV X.K) X.K X.mg T W σ ι4 H4 Q (match o2 μ3 d2 d3 with
        | some (.bl true) => mB md (fun w => fun ρ μ => oO (o3 μ d3 w) ρ μ) ρ μ3
        | some (.bl false) => .ok (.bl false) μ3
        | _ => .bad) := h4
      split at h4
      · rename_i ho2
        refine ⟨_, ho2, fun v2 H5 E5 s5 r5 => ⟨true, r5.bl_inv, ?_⟩⟩
        exact ⟨ι4, ρ, μ3, s5, ((((e.ext (E1.trans E2)).ext E3).ext E4).ext E5), bindr (h4.mono E5) fun d4 w μ5 ι6 H6 _ E6 s6 r6 h6 => ⟨ι6, μ5, d3, d4, s6, (r4.ext E5).ext E6.w, r6, h6.po⟩⟩
      · rename_i ho2
        exact ⟨_, ho2, fun v2 H5 E5 s5 r5 => ⟨false, r5.bl_inv, h4 _ ι4 H5 E5 s5 RepV.bl⟩⟩
      · exact h4.elim
    · rename_i ho
      exact ⟨_, ho, fun v H3 E3 s3 r3 => ⟨false, r3.bl_inv, h2 _ ι2 H3 E3 s3 RepV.bl⟩⟩
    · exact h2.elim⟩⟩
theorem rt_ch3 {o1 o2 o3 : Op2} {p1 p2 p3 : CmpOp} (h1 : OpR X (compareOp p1) (rM X.K T o1)) (h2 : OpR X (compareOp p2) (rM X.K T o2)) (h3 : OpR X (compareOp p3) (rM X.K T o3)) (ha : RE X T W a ma) (hb : RE X T W b mb) (hc : RE X T W c mc) (hd : RE X T W d md)
    (hm : lastMarks [p1, p2, p3] [b, c, d] = false := by with_unfolding_all rfl) : RT X T W (.Compare a [p1, p2, p3] [b, c, d] pos) (mT (mCh3 o1 o2 o3 ma mb mc md)) :=
  PT.mono (pt_ch3 h1 h2 h3 ha hb hc hd hm) fun σ H Q h => by
    obtain ⟨ι, ρ, μ, s, e, h⟩ := toB σ H Q h
    exact ch3T (W := W) _ _ _ ⟨ι, ρ, μ, s, e, h⟩
end
/-! ### xs + ys, list(xs): as a cell -/
def rCatL : R2 := fun x y H Q => ∃ a b vs ws, x = .ref a ∧ y = .ref b ∧ Rd H a (.lst vs) ∧ Rd H b (.lst ws) ∧ vs.length + ws.length ≤ sizeLine ∧ ∀ p, H p = none → Q (.ref p) (upd H p (.lst (vs ++ ws)))
section
variable {X : Cx} {T : Tbs} {W : WX} {a b : Expr} {ma mb : Ev MV} {pos : Pos}
theorem op_catL : OpR X (binaryOp .Add) rCatL := by
  intro pins s σ H x y v u Q I rx ry h
  obtain ⟨a, b, vs, ws, ex, ey, t1, t2, hz, q⟩ := h
  subst ex ey
  cases rx
  cases ry
  obtain ⟨z1, as, n1, v1, g1⟩ := Rd.at I t1
  obtain ⟨z2, bs, n2, v2, g2⟩ := Rd.at I t2
  refine PySem.P.add_list g1 g2 ?_ (by simp only [List.size_toArray]; rw [← v1.length, ← v2.length]; exact hz)
  have hp := I.hok.fresh (Nat.le_refl s.heap.objs.size)
  rw [show as.toArray ++ bs.toArray = (as ++ bs).toArray from List.append_toArray as bs]
  exact ⟨.ref s.heap.objs.size, _, I.lnew (t' := s.toks) (v1.append v2) (by rw [List.length_append]; exact hz), rfl, q _ hp⟩
def mAddC (ma mb : Ev MV) : Ev MV := mB ma fun x => mB mb fun y => fun _ μ => match lstOf μ x, lstOf μ y with
  | some xs, some ys => if xs.length + ys.length ≤ sizeLine then .ok (.ref μ.length) (μ ++ [.lst (xs ++ ys)]) else .bad
  | _, _ => .bad
theorem re_addC (ha : RE X T W a ma) (hb : RE X T W b mb) : RE X T W (.BinOp a .Add b pos) (mAddC ma mb) :=
  PE.mono (pe_op op_catL ha hb) fun σ H Q ⟨ι, ρ, μ, s, e, h⟩ => ⟨ι, ρ, μ, s, e, bindr h fun d1 x μ1 ι1 H1 _ E1 s1 r1 h1 => ⟨ι1, ρ, μ1, s1, e.ext E1, bindr h1 fun d2 y μ2 ι2 H2 _ E2 s2 r2 h2 => by
    have h2 : Post (RV X.K) X.K X.mg T W σ ι2 H2 Q (match lstOf μ2 d1, lstOf μ2 d2 with
      | some xs, some ys => if xs.length + ys.length ≤ sizeLine then .ok (.ref μ2.length) (μ2 ++ [.lst (xs ++ ys)]) else .bad
      | _, _ => .bad) := h2
    split at h2
    · rename_i xs ys e1 e2
      split at h2
      · rename_i hz
        obtain ⟨p, vs, ev, t1, l1⟩ := s2.lstR (r1.ext E2) e1
        obtain ⟨q, ws, ew, t2, l2⟩ := s2.lstR r2 e2
        exact ⟨p, q, vs, ws, ev, ew, t1, t2, by rw [← l1.len, ← l2.len]; exact hz, fun n hn => h2 _ _ _ (Ext.laidC hn) (s2.laidC hn (l1.app l2)) (by rw [← s2.len]; exact RepV.cell)⟩
      · exact h2.elim
    · exact h2.elim⟩⟩
end
end MM

set_option Elab.async false
set_option linter.all false
set_option maxRecDepth 100000
set_option maxHeartbeats 4000000
namespace K21
open PySem PySem.Spec PyProof.Rows L2 MM
def top (i : Nat) : Stmt := PySem.Challenge.pw_bothchoose_k21_whole_best_answers_for_ev.main.body.getD i (.Pass ⟨0, 0, 0, 0⟩)
noncomputable section
variable {P : Program} {w : World} {K : PySem.W.Frag} {mg : Str → Option Value} {base : Heap} {T : Tbs} {k : Nat}

abbrev N_p_divisor : List Str := ["first", "second"]
abbrev st_p_divisor : Stmt := top 8
def M_p_divisor : SM := (sSeq (sPar 0 1 (mCons (mCB absM (mCons (mVar 0) mNil)) (mCons (mCB absM (mCons (mVar 1) mNil)) mNil)))
  (sSeq (sWhile (mT (mOp gtM (mVar 1) (mRet (.int 0)))) (sPar 0 1 (mCons (mVar 1) (mCons (mOp modM (mVar 0) (mVar 1)) mNil))))
  (sRet (mVar 0))))
def F_p_divisor : FM := runC N_p_divisor M_p_divisor
theorem sc_p_divisor : FnScope N_p_divisor ["first", "second"] (defScope st_p_divisor) := C8.fnScope_by (by decide +kernel)
theorem d_p_divisor (bl : Blt mg) {f : Addr} {cdv : Value} {A : Around} {outer : List PySem.Env} {s : Shared} {H : Hp} {E : XK} (hr : Room k (A.deeper (envOfC "divisor" (defScope st_p_divisor) s.heap.objs.size f cdv))) (hgd : A.guards = some []) :
    RSs (cxOf (L2N.CX P w) P w K mg base N_p_divisor "divisor" (defScope st_p_divisor) f cdv A outer s H E) T (wE E) (defBody st_p_divisor) M_p_divisor := by
  have g : Cg (cxOf (L2N.CX P w) P w K mg base N_p_divisor "divisor" (defScope st_p_divisor) f cdv A outer s H E) k := ⟨rfl, sc_p_divisor.nd, hr, hgd⟩
  have tk : L2N.Takes (cxOf (L2N.CX P w) P w K mg base N_p_divisor "divisor" (defScope st_p_divisor) f cdv A outer s H E) (wE E) := L2N.takes_of rfl rfl rfl rfl
  have hp := passes_of (X := cxOf (L2N.CX P w) P w K mg base N_p_divisor "divisor" (defScope st_p_divisor) f cdv A outer s H E) rfl
  exact (ss_cons (spar g 0 1 (ra_cons (xabs bl (ra_cons (xv 0) ra_nil)) (ra_cons (xabs bl (ra_cons (xv 1) ra_nil)) ra_nil)))
  (ss_cons (s_while hp (tcmp m_gt (xv 1) re_int) (ss_one (spar g 0 1 (ra_cons (xv 1) (ra_cons (re_op m_mod (xv 0) (xv 1)) ra_nil)))))
  (ss_one (s_ret (xv 0)))))
theorem c_p_divisor (bl : Blt mg) {f : Addr} (F : ∃ fd, FunD K "divisor" "divisor" (defArgs st_p_divisor) (defBody st_p_divisor) (defScope st_p_divisor) [] [] f fd) (hm : mg "divisor" = some (.ref f)) : CalM P w K mg base T (k + 1) "divisor" ["first", "second"] F_p_divisor :=
  CalM.of F hm (fun _ _ _ _ _ _ us hl => match us, hl with | [_, _], _ => rfl) sc_p_divisor fun cdv A outer s H E hr hg => d_p_divisor  bl hr hg

abbrev N_p_ratio : List Str := ["top", "below", "common"]
abbrev st_p_ratio : Stmt := top 9
def M_p_ratio : SM := (sSeq (sIf (mT (mOp eqM (mVar 1) (mRet (.int 0)))) (sRaise "NotAllowed") sPass)
  (sSeq (sAsg (mCall 2 F_p_divisor (mCons (mVar 0) (mCons (mVar 1) mNil))) (gN 2))
  (sSeq (sIf (mT (mOp ltM (mVar 1) (mRet (.int 0)))) (sAsg (mUn negM (mVar 2)) (gN 2)) sPass)
  (sRet (mTup (mCons (mOp fdivM (mVar 0) (mVar 2)) (mCons (mOp fdivM (mVar 1) (mVar 2)) mNil)))))))
def F_p_ratio : FM := runC N_p_ratio M_p_ratio
theorem sc_p_ratio : FnScope N_p_ratio ["top", "below"] (defScope st_p_ratio) := C8.fnScope_by (by decide +kernel)
theorem d_p_ratio {C_NotAllowed : Addr} (x_NotAllowed : ExcG K mg "NotAllowed" C_NotAllowed) (h_p_divisor : CalM P w K mg base T k "divisor" ["first", "second"] F_p_divisor) (bl : Blt mg) {f : Addr} {cdv : Value} {A : Around} {outer : List PySem.Env} {s : Shared} {H : Hp} {E : XK} (hr : Room k (A.deeper (envOfC "ratio" (defScope st_p_ratio) s.heap.objs.size f cdv))) (hgd : A.guards = some []) :
    RSs (cxOf (L2N.CX P w) P w K mg base N_p_ratio "ratio" (defScope st_p_ratio) f cdv A outer s H E) T (wE E) (defBody st_p_ratio) M_p_ratio := by
  have g : Cg (cxOf (L2N.CX P w) P w K mg base N_p_ratio "ratio" (defScope st_p_ratio) f cdv A outer s H E) k := ⟨rfl, sc_p_ratio.nd, hr, hgd⟩
  have tk : L2N.Takes (cxOf (L2N.CX P w) P w K mg base N_p_ratio "ratio" (defScope st_p_ratio) f cdv A outer s H E) (wE E) := L2N.takes_of rfl rfl rfl rfl
  have hp := passes_of (X := cxOf (L2N.CX P w) P w K mg base N_p_ratio "ratio" (defScope st_p_ratio) f cdv A outer s H E) rfl
  exact (ss_cons (s_if (tcmp (m_eq g.u64) (xv 1) re_int) (ss_one (xraise g tk x_NotAllowed)) ss_nil)
  (ss_cons (sset g 2 (xcall g tk h_p_divisor (ra_cons (xv 0) (ra_cons (xv 1) ra_nil))))
  (ss_cons (s_if (tcmp m_lt (xv 1) re_int) (ss_one (sset g 2 (re_un m_neg (xv 2)))) ss_nil)
  (ss_one (s_ret (re_tup (ra_cons (re_op m_fdiv (xv 0) (xv 2)) (ra_cons (re_op m_fdiv (xv 1) (xv 2)) ra_nil))))))))
theorem c_p_ratio {C_NotAllowed : Addr} (x_NotAllowed : ExcG K mg "NotAllowed" C_NotAllowed) (h_p_divisor : CalM P w K mg base T k "divisor" ["first", "second"] F_p_divisor) (bl : Blt mg) {f : Addr} (F : ∃ fd, FunD K "ratio" "ratio" (defArgs st_p_ratio) (defBody st_p_ratio) (defScope st_p_ratio) [] [] f fd) (hm : mg "ratio" = some (.ref f)) : CalM P w K mg base T (k + 1) "ratio" ["top", "below"] F_p_ratio :=
  CalM.of F hm (fun _ _ _ _ _ _ us hl => match us, hl with | [_, _], _ => rfl) sc_p_ratio fun cdv A outer s H E hr hg => d_p_ratio x_NotAllowed h_p_divisor bl hr hg

abbrev N_p_is_ratio : List Str := ["value"]
abbrev st_p_is_ratio : Stmt := top 10
def M_p_is_ratio : SM := (sRet (mAnd (mOp eqM (mCB lenM (mCons (mVar 0) mNil)) (mRet (.int 2))) (mAnd (mOp geM (mOp ixM (mVar 0) (mRet (.int 1))) (mRet (.int 1))) (mOp eqM (mCall 2 F_p_divisor (mCons (mOp ixM (mVar 0) (mRet (.int 0))) (mCons (mOp ixM (mVar 0) (mRet (.int 1))) mNil))) (mRet (.int 1))))))
def F_p_is_ratio : FM := runC N_p_is_ratio M_p_is_ratio
theorem sc_p_is_ratio : FnScope N_p_is_ratio ["value"] (defScope st_p_is_ratio) := C8.fnScope_by (by decide +kernel)
theorem d_p_is_ratio (h_p_divisor : CalM P w K mg base T k "divisor" ["first", "second"] F_p_divisor) (bl : Blt mg) {f : Addr} {cdv : Value} {A : Around} {outer : List PySem.Env} {s : Shared} {H : Hp} {E : XK} (hr : Room k (A.deeper (envOfC "is_ratio" (defScope st_p_is_ratio) s.heap.objs.size f cdv))) (hgd : A.guards = some []) :
    RSs (cxOf (L2N.CX P w) P w K mg base N_p_is_ratio "is_ratio" (defScope st_p_is_ratio) f cdv A outer s H E) T (wE E) (defBody st_p_is_ratio) M_p_is_ratio := by
  have g : Cg (cxOf (L2N.CX P w) P w K mg base N_p_is_ratio "is_ratio" (defScope st_p_is_ratio) f cdv A outer s H E) k := ⟨rfl, sc_p_is_ratio.nd, hr, hgd⟩
  have tk : L2N.Takes (cxOf (L2N.CX P w) P w K mg base N_p_is_ratio "is_ratio" (defScope st_p_is_ratio) f cdv A outer s H E) (wE E) := L2N.takes_of rfl rfl rfl rfl
  have hp := passes_of (X := cxOf (L2N.CX P w) P w K mg base N_p_is_ratio "is_ratio" (defScope st_p_is_ratio) f cdv A outer s H E) rfl
  exact (ss_one (s_ret (re_and (xcmp (m_eq g.u64) (xlen bl (ra_cons (xv 0) ra_nil)) re_int) (re_and (xcmp m_ge (xix (xv 0) re_int) re_int) (re_one (xcmp (m_eq g.u64) (xcall g tk h_p_divisor (ra_cons (xix (xv 0) re_int) (ra_cons (xix (xv 0) re_int) ra_nil))) re_int))))))
theorem c_p_is_ratio (h_p_divisor : CalM P w K mg base T k "divisor" ["first", "second"] F_p_divisor) (bl : Blt mg) {f : Addr} (F : ∃ fd, FunD K "is_ratio" "is_ratio" (defArgs st_p_is_ratio) (defBody st_p_is_ratio) (defScope st_p_is_ratio) [] [] f fd) (hm : mg "is_ratio" = some (.ref f)) : CalM P w K mg base T (k + 1) "is_ratio" ["value"] F_p_is_ratio :=
  CalM.of F hm (fun _ _ _ _ _ _ us hl => match us, hl with | [_], _ => rfl) sc_p_is_ratio fun cdv A outer s H E hr hg => d_p_is_ratio h_p_divisor bl hr hg

abbrev N_p_added : List Str := ["first", "second"]
abbrev st_p_added : Stmt := top 11
def M_p_added : SM := (sRet (mCall 2 F_p_ratio (mCons (mOp addM (mOp mulM2 (mOp ixM (mVar 0) (mRet (.int 0))) (mOp ixM (mVar 1) (mRet (.int 1)))) (mOp mulM2 (mOp ixM (mVar 1) (mRet (.int 0))) (mOp ixM (mVar 0) (mRet (.int 1))))) (mCons (mOp mulM2 (mOp ixM (mVar 0) (mRet (.int 1))) (mOp ixM (mVar 1) (mRet (.int 1)))) mNil))))
def F_p_added : FM := runC N_p_added M_p_added
theorem sc_p_added : FnScope N_p_added ["first", "second"] (defScope st_p_added) := C8.fnScope_by (by decide +kernel)
theorem d_p_added (h_p_ratio : CalM P w K mg base T k "ratio" ["top", "below"] F_p_ratio) (bl : Blt mg) {f : Addr} {cdv : Value} {A : Around} {outer : List PySem.Env} {s : Shared} {H : Hp} {E : XK} (hr : Room k (A.deeper (envOfC "added" (defScope st_p_added) s.heap.objs.size f cdv))) (hgd : A.guards = some []) :
    RSs (cxOf (L2N.CX P w) P w K mg base N_p_added "added" (defScope st_p_added) f cdv A outer s H E) T (wE E) (defBody st_p_added) M_p_added := by
  have g : Cg (cxOf (L2N.CX P w) P w K mg base N_p_added "added" (defScope st_p_added) f cdv A outer s H E) k := ⟨rfl, sc_p_added.nd, hr, hgd⟩
  have tk : L2N.Takes (cxOf (L2N.CX P w) P w K mg base N_p_added "added" (defScope st_p_added) f cdv A outer s H E) (wE E) := L2N.takes_of rfl rfl rfl rfl
  have hp := passes_of (X := cxOf (L2N.CX P w) P w K mg base N_p_added "added" (defScope st_p_added) f cdv A outer s H E) rfl
  exact (ss_one (s_ret (xcall g tk h_p_ratio (ra_cons (re_op m_add (re_op m_mul2 (xix (xv 0) re_int) (xix (xv 1) re_int)) (re_op m_mul2 (xix (xv 1) re_int) (xix (xv 0) re_int))) (ra_cons (re_op m_mul2 (xix (xv 0) re_int) (xix (xv 1) re_int)) ra_nil)))))
theorem c_p_added (h_p_ratio : CalM P w K mg base T k "ratio" ["top", "below"] F_p_ratio) (bl : Blt mg) {f : Addr} (F : ∃ fd, FunD K "added" "added" (defArgs st_p_added) (defBody st_p_added) (defScope st_p_added) [] [] f fd) (hm : mg "added" = some (.ref f)) : CalM P w K mg base T (k + 1) "added" ["first", "second"] F_p_added :=
  CalM.of F hm (fun _ _ _ _ _ _ us hl => match us, hl with | [_, _], _ => rfl) sc_p_added fun cdv A outer s H E hr hg => d_p_added h_p_ratio bl hr hg

abbrev N_p_negative : List Str := ["value"]
abbrev st_p_negative : Stmt := top 12
def M_p_negative : SM := (sRet (mTup (mCons (mUn negM (mOp ixM (mVar 0) (mRet (.int 0)))) (mCons (mOp ixM (mVar 0) (mRet (.int 1))) mNil))))
def F_p_negative : FM := runC N_p_negative M_p_negative
theorem sc_p_negative : FnScope N_p_negative ["value"] (defScope st_p_negative) := C8.fnScope_by (by decide +kernel)
theorem d_p_negative (bl : Blt mg) {f : Addr} {cdv : Value} {A : Around} {outer : List PySem.Env} {s : Shared} {H : Hp} {E : XK} (hr : Room k (A.deeper (envOfC "negative" (defScope st_p_negative) s.heap.objs.size f cdv))) (hgd : A.guards = some []) :
    RSs (cxOf (L2N.CX P w) P w K mg base N_p_negative "negative" (defScope st_p_negative) f cdv A outer s H E) T (wE E) (defBody st_p_negative) M_p_negative := by
  have g : Cg (cxOf (L2N.CX P w) P w K mg base N_p_negative "negative" (defScope st_p_negative) f cdv A outer s H E) k := ⟨rfl, sc_p_negative.nd, hr, hgd⟩
  have tk : L2N.Takes (cxOf (L2N.CX P w) P w K mg base N_p_negative "negative" (defScope st_p_negative) f cdv A outer s H E) (wE E) := L2N.takes_of rfl rfl rfl rfl
  have hp := passes_of (X := cxOf (L2N.CX P w) P w K mg base N_p_negative "negative" (defScope st_p_negative) f cdv A outer s H E) rfl
  exact (ss_one (s_ret (re_tup (ra_cons (re_un m_neg (xix (xv 0) re_int)) (ra_cons (xix (xv 0) re_int) ra_nil)))))
theorem c_p_negative (bl : Blt mg) {f : Addr} (F : ∃ fd, FunD K "negative" "negative" (defArgs st_p_negative) (defBody st_p_negative) (defScope st_p_negative) [] [] f fd) (hm : mg "negative" = some (.ref f)) : CalM P w K mg base T (k + 1) "negative" ["value"] F_p_negative :=
  CalM.of F hm (fun _ _ _ _ _ _ us hl => match us, hl with | [_], _ => rfl) sc_p_negative fun cdv A outer s H E hr hg => d_p_negative  bl hr hg

abbrev N_p_times : List Str := ["first", "second"]
abbrev st_p_times : Stmt := top 13
def M_p_times : SM := (sRet (mCall 2 F_p_ratio (mCons (mOp mulM2 (mOp ixM (mVar 0) (mRet (.int 0))) (mOp ixM (mVar 1) (mRet (.int 0)))) (mCons (mOp mulM2 (mOp ixM (mVar 0) (mRet (.int 1))) (mOp ixM (mVar 1) (mRet (.int 1)))) mNil))))
def F_p_times : FM := runC N_p_times M_p_times
theorem sc_p_times : FnScope N_p_times ["first", "second"] (defScope st_p_times) := C8.fnScope_by (by decide +kernel)
theorem d_p_times (h_p_ratio : CalM P w K mg base T k "ratio" ["top", "below"] F_p_ratio) (bl : Blt mg) {f : Addr} {cdv : Value} {A : Around} {outer : List PySem.Env} {s : Shared} {H : Hp} {E : XK} (hr : Room k (A.deeper (envOfC "times" (defScope st_p_times) s.heap.objs.size f cdv))) (hgd : A.guards = some []) :
    RSs (cxOf (L2N.CX P w) P w K mg base N_p_times "times" (defScope st_p_times) f cdv A outer s H E) T (wE E) (defBody st_p_times) M_p_times := by
  have g : Cg (cxOf (L2N.CX P w) P w K mg base N_p_times "times" (defScope st_p_times) f cdv A outer s H E) k := ⟨rfl, sc_p_times.nd, hr, hgd⟩
  have tk : L2N.Takes (cxOf (L2N.CX P w) P w K mg base N_p_times "times" (defScope st_p_times) f cdv A outer s H E) (wE E) := L2N.takes_of rfl rfl rfl rfl
  have hp := passes_of (X := cxOf (L2N.CX P w) P w K mg base N_p_times "times" (defScope st_p_times) f cdv A outer s H E) rfl
  exact (ss_one (s_ret (xcall g tk h_p_ratio (ra_cons (re_op m_mul2 (xix (xv 0) re_int) (xix (xv 1) re_int)) (ra_cons (re_op m_mul2 (xix (xv 0) re_int) (xix (xv 1) re_int)) ra_nil)))))
theorem c_p_times (h_p_ratio : CalM P w K mg base T k "ratio" ["top", "below"] F_p_ratio) (bl : Blt mg) {f : Addr} (F : ∃ fd, FunD K "times" "times" (defArgs st_p_times) (defBody st_p_times) (defScope st_p_times) [] [] f fd) (hm : mg "times" = some (.ref f)) : CalM P w K mg base T (k + 1) "times" ["first", "second"] F_p_times :=
  CalM.of F hm (fun _ _ _ _ _ _ us hl => match us, hl with | [_, _], _ => rfl) sc_p_times fun cdv A outer s H E hr hg => d_p_times h_p_ratio bl hr hg

abbrev N_p_over : List Str := ["first", "second"]
abbrev st_p_over : Stmt := top 14
def M_p_over : SM := (sRet (mCall 2 F_p_ratio (mCons (mOp mulM2 (mOp ixM (mVar 0) (mRet (.int 0))) (mOp ixM (mVar 1) (mRet (.int 1)))) (mCons (mOp mulM2 (mOp ixM (mVar 0) (mRet (.int 1))) (mOp ixM (mVar 1) (mRet (.int 0)))) mNil))))
def F_p_over : FM := runC N_p_over M_p_over
theorem sc_p_over : FnScope N_p_over ["first", "second"] (defScope st_p_over) := C8.fnScope_by (by decide +kernel)
theorem d_p_over (h_p_ratio : CalM P w K mg base T k "ratio" ["top", "below"] F_p_ratio) (bl : Blt mg) {f : Addr} {cdv : Value} {A : Around} {outer : List PySem.Env} {s : Shared} {H : Hp} {E : XK} (hr : Room k (A.deeper (envOfC "over" (defScope st_p_over) s.heap.objs.size f cdv))) (hgd : A.guards = some []) :
    RSs (cxOf (L2N.CX P w) P w K mg base N_p_over "over" (defScope st_p_over) f cdv A outer s H E) T (wE E) (defBody st_p_over) M_p_over := by
  have g : Cg (cxOf (L2N.CX P w) P w K mg base N_p_over "over" (defScope st_p_over) f cdv A outer s H E) k := ⟨rfl, sc_p_over.nd, hr, hgd⟩
  have tk : L2N.Takes (cxOf (L2N.CX P w) P w K mg base N_p_over "over" (defScope st_p_over) f cdv A outer s H E) (wE E) := L2N.takes_of rfl rfl rfl rfl
  have hp := passes_of (X := cxOf (L2N.CX P w) P w K mg base N_p_over "over" (defScope st_p_over) f cdv A outer s H E) rfl
  exact (ss_one (s_ret (xcall g tk h_p_ratio (ra_cons (re_op m_mul2 (xix (xv 0) re_int) (xix (xv 1) re_int)) (ra_cons (re_op m_mul2 (xix (xv 0) re_int) (xix (xv 1) re_int)) ra_nil)))))
theorem c_p_over (h_p_ratio : CalM P w K mg base T k "ratio" ["top", "below"] F_p_ratio) (bl : Blt mg) {f : Addr} (F : ∃ fd, FunD K "over" "over" (defArgs st_p_over) (defBody st_p_over) (defScope st_p_over) [] [] f fd) (hm : mg "over" = some (.ref f)) : CalM P w K mg base T (k + 1) "over" ["first", "second"] F_p_over :=
  CalM.of F hm (fun _ _ _ _ _ _ us hl => match us, hl with | [_, _], _ => rfl) sc_p_over fun cdv A outer s H E hr hg => d_p_over h_p_ratio bl hr hg

abbrev N_p_less : List Str := ["first", "second"]
abbrev st_p_less : Stmt := top 15
def M_p_less : SM := (sRet (mOp ltM (mOp mulM2 (mOp ixM (mVar 0) (mRet (.int 0))) (mOp ixM (mVar 1) (mRet (.int 1)))) (mOp mulM2 (mOp ixM (mVar 1) (mRet (.int 0))) (mOp ixM (mVar 0) (mRet (.int 1))))))
def F_p_less : FM := runC N_p_less M_p_less
theorem sc_p_less : FnScope N_p_less ["first", "second"] (defScope st_p_less) := C8.fnScope_by (by decide +kernel)
theorem d_p_less (bl : Blt mg) {f : Addr} {cdv : Value} {A : Around} {outer : List PySem.Env} {s : Shared} {H : Hp} {E : XK} (hr : Room k (A.deeper (envOfC "less" (defScope st_p_less) s.heap.objs.size f cdv))) (hgd : A.guards = some []) :
    RSs (cxOf (L2N.CX P w) P w K mg base N_p_less "less" (defScope st_p_less) f cdv A outer s H E) T (wE E) (defBody st_p_less) M_p_less := by
  have g : Cg (cxOf (L2N.CX P w) P w K mg base N_p_less "less" (defScope st_p_less) f cdv A outer s H E) k := ⟨rfl, sc_p_less.nd, hr, hgd⟩
  have tk : L2N.Takes (cxOf (L2N.CX P w) P w K mg base N_p_less "less" (defScope st_p_less) f cdv A outer s H E) (wE E) := L2N.takes_of rfl rfl rfl rfl
  have hp := passes_of (X := cxOf (L2N.CX P w) P w K mg base N_p_less "less" (defScope st_p_less) f cdv A outer s H E) rfl
  exact (ss_one (s_ret (xcmp m_lt (re_op m_mul2 (xix (xv 0) re_int) (xix (xv 1) re_int)) (re_op m_mul2 (xix (xv 1) re_int) (xix (xv 0) re_int)))))
theorem c_p_less (bl : Blt mg) {f : Addr} (F : ∃ fd, FunD K "less" "less" (defArgs st_p_less) (defBody st_p_less) (defScope st_p_less) [] [] f fd) (hm : mg "less" = some (.ref f)) : CalM P w K mg base T (k + 1) "less" ["first", "second"] F_p_less :=
  CalM.of F hm (fun _ _ _ _ _ _ us hl => match us, hl with | [_, _], _ => rfl) sc_p_less fun cdv A outer s H E hr hg => d_p_less  bl hr hg

abbrev N_p_check_table : List Str := ["table", "row", "gain"]
abbrev st_p_check_table : Stmt := top 19
def M_p_check_table : SM := (sSeq (sIf (mT (mOr (mNot (mChain leM leM (mRet (.int 1)) (mCB lenM (mCons (mVar 0) mNil)) (mRet (.int 5)))) (mNot (mChain leM leM (mRet (.int 1)) (mCB lenM (mCons (mOp ixM (mVar 0) (mRet (.int 0))) mNil)) (mRet (.int 5)))))) (sRaise "NotAllowed") sPass)
  (sFor (mItm (mVar 0)) (gN 1) (sIf (mT (mOr (mOp neM (mCB lenM (mCons (mVar 1) mNil)) (mCB lenM (mCons (mOp ixM (mVar 0) (mRet (.int 0))) mNil))) (mNot (mCB allM (mCons (mComp (List.map (·.2) ([("gain", 2)] : List (Str × Nat))) (mItm (mVar 1)) (gN 2) mYes (mChain leM leM (mUn negM (mRet (.int 99))) (mVar 2) (mRet (.int 99)))) mNil))))) (sRaise "NotAllowed") sPass)))
def F_p_check_table : FM := runC N_p_check_table M_p_check_table
theorem sc_p_check_table : FnScope N_p_check_table ["table"] (defScope st_p_check_table) := C8.fnScope_by (by decide +kernel)
theorem d_p_check_table (h_MAX_CHOICES : ∃ t, mg "MAX_CHOICES" = some (.int 5 t)) (h_MAX_GAIN : ∃ t, mg "MAX_GAIN" = some (.int 99 t)) {C_NotAllowed : Addr} (x_NotAllowed : ExcG K mg "NotAllowed" C_NotAllowed) (bl : Blt mg) {f : Addr} {cdv : Value} {A : Around} {outer : List PySem.Env} {s : Shared} {H : Hp} {E : XK} (hr : Room k (A.deeper (envOfC "check_table" (defScope st_p_check_table) s.heap.objs.size f cdv))) (hgd : A.guards = some []) :
    RSs (cxOf (L2N.CX P w) P w K mg base N_p_check_table "check_table" (defScope st_p_check_table) f cdv A outer s H E) T (wE E) (defBody st_p_check_table) M_p_check_table := by
  have g : Cg (cxOf (L2N.CX P w) P w K mg base N_p_check_table "check_table" (defScope st_p_check_table) f cdv A outer s H E) k := ⟨rfl, sc_p_check_table.nd, hr, hgd⟩
  have tk : L2N.Takes (cxOf (L2N.CX P w) P w K mg base N_p_check_table "check_table" (defScope st_p_check_table) f cdv A outer s H E) (wE E) := L2N.takes_of rfl rfl rfl rfl
  have hp := passes_of (X := cxOf (L2N.CX P w) P w K mg base N_p_check_table "check_table" (defScope st_p_check_table) f cdv A outer s H E) rfl
  exact (ss_cons (s_if (rt_bop (rw_or (rt_not (rt_chain m_le m_le re_int (xlen bl (ra_cons (xv 0) ra_nil)) (xgi h_MAX_CHOICES))) (rw_or1 (rt_not (rt_chain m_le m_le re_int (xlen bl (ra_cons (xix (xv 0) re_int) ra_nil)) (xgi h_MAX_CHOICES)))))) (ss_one (xraise g tk x_NotAllowed)) ss_nil)
  (ss_one (s_for hp g.hc (ri_seq (xv 0)) (gn g 1) (ss_one (s_if (rt_bop (rw_or (tcmp (m_ne g.u64) (xlen bl (ra_cons (xv 1) ra_nil)) (xlen bl (ra_cons (xix (xv 0) re_int) ra_nil))) (rw_or1 (rt_not (rt_val (xall g bl (ra_cons (xcomp g ([("gain", 2)] : List (Str × Nat)) (ri_seq (xv 1)) (fun _ _ _ _ _ => (gn g.b 2)) (fun _ _ _ _ _ => rts_nil) (fun _ _ _ _ _ => (re_chain m_le m_le (re_un m_neg (xgi h_MAX_GAIN)) (xv 2) (xgi h_MAX_GAIN)))) ra_nil))))))) (ss_one (xraise g tk x_NotAllowed)) ss_nil)))))
theorem c_p_check_table (h_MAX_CHOICES : ∃ t, mg "MAX_CHOICES" = some (.int 5 t)) (h_MAX_GAIN : ∃ t, mg "MAX_GAIN" = some (.int 99 t)) {C_NotAllowed : Addr} (x_NotAllowed : ExcG K mg "NotAllowed" C_NotAllowed) (bl : Blt mg) {f : Addr} (F : ∃ fd, FunD K "check_table" "check_table" (defArgs st_p_check_table) (defBody st_p_check_table) (defScope st_p_check_table) [] [] f fd) (hm : mg "check_table" = some (.ref f)) : CalM P w K mg base T (k + 1) "check_table" ["table"] F_p_check_table :=
  CalM.of F hm (fun _ _ _ _ _ _ us hl => match us, hl with | [_], _ => rfl) sc_p_check_table fun cdv A outer s H E hr hg => d_p_check_table h_MAX_CHOICES h_MAX_GAIN x_NotAllowed bl hr hg

abbrev N_p_check_game : List Str := ["game"]
abbrev st_p_check_game : Stmt := top 20
def M_p_check_game : SM := (sSeq (sDrop (mCall 1 F_p_check_table (mCons (mOp ixM (mVar 0) (mRet (.int 0))) mNil)))
  (sSeq (sDrop (mCall 1 F_p_check_table (mCons (mOp ixM (mVar 0) (mRet (.int 1))) mNil)))
  (sIf (mT (mOr (mOp neM (mCB lenM (mCons (mOp ixM (mVar 0) (mRet (.int 0))) mNil)) (mCB lenM (mCons (mOp ixM (mVar 0) (mRet (.int 1))) mNil))) (mOp neM (mCB lenM (mCons (mOp ixM (mOp ixM (mVar 0) (mRet (.int 0))) (mRet (.int 0))) mNil)) (mCB lenM (mCons (mOp ixM (mOp ixM (mVar 0) (mRet (.int 1))) (mRet (.int 0))) mNil))))) (sRaise "NotAllowed") sPass)))
def F_p_check_game : FM := runC N_p_check_game M_p_check_game
theorem sc_p_check_game : FnScope N_p_check_game ["game"] (defScope st_p_check_game) := C8.fnScope_by (by decide +kernel)
theorem d_p_check_game {C_NotAllowed : Addr} (x_NotAllowed : ExcG K mg "NotAllowed" C_NotAllowed) (h_p_check_table : CalM P w K mg base T k "check_table" ["table"] F_p_check_table) (bl : Blt mg) {f : Addr} {cdv : Value} {A : Around} {outer : List PySem.Env} {s : Shared} {H : Hp} {E : XK} (hr : Room k (A.deeper (envOfC "check_game" (defScope st_p_check_game) s.heap.objs.size f cdv))) (hgd : A.guards = some []) :
    RSs (cxOf (L2N.CX P w) P w K mg base N_p_check_game "check_game" (defScope st_p_check_game) f cdv A outer s H E) T (wE E) (defBody st_p_check_game) M_p_check_game := by
  have g : Cg (cxOf (L2N.CX P w) P w K mg base N_p_check_game "check_game" (defScope st_p_check_game) f cdv A outer s H E) k := ⟨rfl, sc_p_check_game.nd, hr, hgd⟩
  have tk : L2N.Takes (cxOf (L2N.CX P w) P w K mg base N_p_check_game "check_game" (defScope st_p_check_game) f cdv A outer s H E) (wE E) := L2N.takes_of rfl rfl rfl rfl
  have hp := passes_of (X := cxOf (L2N.CX P w) P w K mg base N_p_check_game "check_game" (defScope st_p_check_game) f cdv A outer s H E) rfl
  exact (ss_cons (s_expr (xcall g tk h_p_check_table (ra_cons (xix (xv 0) re_int) ra_nil)))
  (ss_cons (s_expr (xcall g tk h_p_check_table (ra_cons (xix (xv 0) re_int) ra_nil)))
  (ss_one (s_if (rt_bop (rw_or (tcmp (m_ne g.u64) (xlen bl (ra_cons (xix (xv 0) re_int) ra_nil)) (xlen bl (ra_cons (xix (xv 0) re_int) ra_nil))) (rw_or1 (tcmp (m_ne g.u64) (xlen bl (ra_cons (xix (xix (xv 0) re_int) re_int) ra_nil)) (xlen bl (ra_cons (xix (xix (xv 0) re_int) re_int) ra_nil)))))) (ss_one (xraise g tk x_NotAllowed)) ss_nil))))
theorem c_p_check_game {C_NotAllowed : Addr} (x_NotAllowed : ExcG K mg "NotAllowed" C_NotAllowed) (h_p_check_table : CalM P w K mg base T k "check_table" ["table"] F_p_check_table) (bl : Blt mg) {f : Addr} (F : ∃ fd, FunD K "check_game" "check_game" (defArgs st_p_check_game) (defBody st_p_check_game) (defScope st_p_check_game) [] [] f fd) (hm : mg "check_game" = some (.ref f)) : CalM P w K mg base T (k + 1) "check_game" ["game"] F_p_check_game :=
  CalM.of F hm (fun _ _ _ _ _ _ us hl => match us, hl with | [_], _ => rfl) sc_p_check_game fun cdv A outer s H E hr hg => d_p_check_game x_NotAllowed h_p_check_table bl hr hg

abbrev N_p_check_who : List Str := ["who"]
abbrev st_p_check_who : Stmt := top 21
def M_p_check_who : SM := (sIf (mT (mOp notInM (mVar 0) (mTup (mCons (mRet (.int 0)) (mCons (mRet (.int 1)) mNil))))) (sRaise "NotAllowed") sPass)
def F_p_check_who : FM := runC N_p_check_who M_p_check_who
theorem sc_p_check_who : FnScope N_p_check_who ["who"] (defScope st_p_check_who) := C8.fnScope_by (by decide +kernel)
theorem d_p_check_who {C_NotAllowed : Addr} (x_NotAllowed : ExcG K mg "NotAllowed" C_NotAllowed) (bl : Blt mg) {f : Addr} {cdv : Value} {A : Around} {outer : List PySem.Env} {s : Shared} {H : Hp} {E : XK} (hr : Room k (A.deeper (envOfC "check_who" (defScope st_p_check_who) s.heap.objs.size f cdv))) (hgd : A.guards = some []) :
    RSs (cxOf (L2N.CX P w) P w K mg base N_p_check_who "check_who" (defScope st_p_check_who) f cdv A outer s H E) T (wE E) (defBody st_p_check_who) M_p_check_who := by
  have g : Cg (cxOf (L2N.CX P w) P w K mg base N_p_check_who "check_who" (defScope st_p_check_who) f cdv A outer s H E) k := ⟨rfl, sc_p_check_who.nd, hr, hgd⟩
  have tk : L2N.Takes (cxOf (L2N.CX P w) P w K mg base N_p_check_who "check_who" (defScope st_p_check_who) f cdv A outer s H E) (wE E) := L2N.takes_of rfl rfl rfl rfl
  have hp := passes_of (X := cxOf (L2N.CX P w) P w K mg base N_p_check_who "check_who" (defScope st_p_check_who) f cdv A outer s H E) rfl
  exact (ss_one (s_if (tcmp (m_notIn g.u65) (xv 0) (re_tup (ra_cons re_int (ra_cons re_int ra_nil)))) (ss_one (xraise g tk x_NotAllowed)) ss_nil))
theorem c_p_check_who {C_NotAllowed : Addr} (x_NotAllowed : ExcG K mg "NotAllowed" C_NotAllowed) (bl : Blt mg) {f : Addr} (F : ∃ fd, FunD K "check_who" "check_who" (defArgs st_p_check_who) (defBody st_p_check_who) (defScope st_p_check_who) [] [] f fd) (hm : mg "check_who" = some (.ref f)) : CalM P w K mg base T (k + 1) "check_who" ["who"] F_p_check_who :=
  CalM.of F hm (fun _ _ _ _ _ _ us hl => match us, hl with | [_], _ => rfl) sc_p_check_who fun cdv A outer s H E hr hg => d_p_check_who x_NotAllowed bl hr hg

abbrev N_p_flipped : List Str := ["table", "at", "row"]
abbrev st_p_flipped : Stmt := top 22
def M_p_flipped : SM := (sRet (mCB tupleM (mCons (mComp (List.map (·.2) ([("at", 1)] : List (Str × Nat))) (mRng rng1 (mCons (mCB lenM (mCons (mOp ixM (mVar 0) (mRet (.int 0))) mNil)) mNil)) (gN 1) mYes (mCB tupleM (mCons (mComp (List.map (·.2) ([("row", 2)] : List (Str × Nat))) (mItm (mVar 0)) (gN 2) mYes (mOp ixM (mVar 2) (mVar 1))) mNil))) mNil)))
def F_p_flipped : FM := runC N_p_flipped M_p_flipped
theorem sc_p_flipped : FnScope N_p_flipped ["table"] (defScope st_p_flipped) := C8.fnScope_by (by decide +kernel)
theorem d_p_flipped (bl : Blt mg) {f : Addr} {cdv : Value} {A : Around} {outer : List PySem.Env} {s : Shared} {H : Hp} {E : XK} (hr : Room k (A.deeper (envOfC "flipped" (defScope st_p_flipped) s.heap.objs.size f cdv))) (hgd : A.guards = some []) :
    RSs (cxOf (L2N.CX P w) P w K mg base N_p_flipped "flipped" (defScope st_p_flipped) f cdv A outer s H E) T (wE E) (defBody st_p_flipped) M_p_flipped := by
  have g : Cg (cxOf (L2N.CX P w) P w K mg base N_p_flipped "flipped" (defScope st_p_flipped) f cdv A outer s H E) k := ⟨rfl, sc_p_flipped.nd, hr, hgd⟩
  have tk : L2N.Takes (cxOf (L2N.CX P w) P w K mg base N_p_flipped "flipped" (defScope st_p_flipped) f cdv A outer s H E) (wE E) := L2N.takes_of rfl rfl rfl rfl
  have hp := passes_of (X := cxOf (L2N.CX P w) P w K mg base N_p_flipped "flipped" (defScope st_p_flipped) f cdv A outer s H E) rfl
  exact (ss_one (s_ret (xtuple bl (ra_cons (xcomp g ([("at", 1)] : List (Str × Nat)) (irng1 bl (ra_cons (xlen bl (ra_cons (xix (xv 0) re_int) ra_nil)) ra_nil)) (fun _ _ _ _ _ => (gn g.b 1)) (fun _ _ _ _ _ => rts_nil) (fun _ _ _ _ _ => (xtuple bl (ra_cons (xcomp g.b ([("row", 2)] : List (Str × Nat)) (ri_seq (xv 0)) (fun _ _ _ _ _ => (gn g.b.b 2)) (fun _ _ _ _ _ => rts_nil) (fun _ _ _ _ _ => (xix (xv 2) (xv 1)))) ra_nil)))) ra_nil))))
theorem c_p_flipped (bl : Blt mg) {f : Addr} (F : ∃ fd, FunD K "flipped" "flipped" (defArgs st_p_flipped) (defBody st_p_flipped) (defScope st_p_flipped) [] [] f fd) (hm : mg "flipped" = some (.ref f)) : CalM P w K mg base T (k + 1) "flipped" ["table"] F_p_flipped :=
  CalM.of F hm (fun _ _ _ _ _ _ us hl => match us, hl with | [_], _ => rfl) sc_p_flipped fun cdv A outer s H E hr hg => d_p_flipped  bl hr hg

abbrev N_p_seen_by : List Str := ["game", "who"]
abbrev st_p_seen_by : Stmt := top 23
def M_p_seen_by : SM := (sRet (mIf (mT (mOp eqM (mVar 1) (mRet (.int 0)))) (mOp ixM (mVar 0) (mRet (.int 0))) (mCall 1 F_p_flipped (mCons (mOp ixM (mVar 0) (mRet (.int 1))) mNil))))
def F_p_seen_by : FM := runC N_p_seen_by M_p_seen_by
theorem sc_p_seen_by : FnScope N_p_seen_by ["game", "who"] (defScope st_p_seen_by) := C8.fnScope_by (by decide +kernel)
theorem d_p_seen_by (h_p_flipped : CalM P w K mg base T k "flipped" ["table"] F_p_flipped) (bl : Blt mg) {f : Addr} {cdv : Value} {A : Around} {outer : List PySem.Env} {s : Shared} {H : Hp} {E : XK} (hr : Room k (A.deeper (envOfC "seen_by" (defScope st_p_seen_by) s.heap.objs.size f cdv))) (hgd : A.guards = some []) :
    RSs (cxOf (L2N.CX P w) P w K mg base N_p_seen_by "seen_by" (defScope st_p_seen_by) f cdv A outer s H E) T (wE E) (defBody st_p_seen_by) M_p_seen_by := by
  have g : Cg (cxOf (L2N.CX P w) P w K mg base N_p_seen_by "seen_by" (defScope st_p_seen_by) f cdv A outer s H E) k := ⟨rfl, sc_p_seen_by.nd, hr, hgd⟩
  have tk : L2N.Takes (cxOf (L2N.CX P w) P w K mg base N_p_seen_by "seen_by" (defScope st_p_seen_by) f cdv A outer s H E) (wE E) := L2N.takes_of rfl rfl rfl rfl
  have hp := passes_of (X := cxOf (L2N.CX P w) P w K mg base N_p_seen_by "seen_by" (defScope st_p_seen_by) f cdv A outer s H E) rfl
  exact (ss_one (s_ret (re_ifExp (tcmp (m_eq g.u64) (xv 1) re_int) (xix (xv 0) re_int) (xcall g tk h_p_flipped (ra_cons (xix (xv 0) re_int) ra_nil)))))
theorem c_p_seen_by (h_p_flipped : CalM P w K mg base T k "flipped" ["table"] F_p_flipped) (bl : Blt mg) {f : Addr} (F : ∃ fd, FunD K "seen_by" "seen_by" (defArgs st_p_seen_by) (defBody st_p_seen_by) (defScope st_p_seen_by) [] [] f fd) (hm : mg "seen_by" = some (.ref f)) : CalM P w K mg base T (k + 1) "seen_by" ["game", "who"] F_p_seen_by :=
  CalM.of F hm (fun _ _ _ _ _ _ us hl => match us, hl with | [_, _], _ => rfl) sc_p_seen_by fun cdv A outer s H E hr hg => d_p_seen_by h_p_flipped bl hr hg

abbrev N_p_check_machine : List Str := ["own", "others", "machine", "choice", "moves", "after"]
abbrev st_p_check_machine : Stmt := top 26
def M_p_check_machine : SM := (sSeq (sIf (mT (mNot (mChain leM leM (mRet (.int 1)) (mCB lenM (mCons (mVar 2) mNil)) (mRet (.int 6))))) (sRaise "NotAllowed") sPass)
  (sFor (mItm (mVar 2)) (gT ((gN 3) :: ((gN 4) :: []))) (sSeq (sIf (mT (mOr (mNot (mChain leM ltM (mRet (.int 0)) (mVar 3) (mVar 0))) (mOp neM (mCB lenM (mCons (mVar 4) mNil)) (mVar 1)))) (sRaise "NotAllowed") sPass)
  (sIf (mT (mNot (mCB allM (mCons (mComp (List.map (·.2) ([("after", 5)] : List (Str × Nat))) (mItm (mVar 4)) (gN 5) mYes (mChain leM ltM (mRet (.int 0)) (mVar 5) (mCB lenM (mCons (mVar 2) mNil)))) mNil)))) (sRaise "NotAllowed") sPass))))
def F_p_check_machine : FM := runC N_p_check_machine M_p_check_machine
theorem sc_p_check_machine : FnScope N_p_check_machine ["own", "others", "machine"] (defScope st_p_check_machine) := C8.fnScope_by (by decide +kernel)
theorem d_p_check_machine (h_MAX_STATES : ∃ t, mg "MAX_STATES" = some (.int 6 t)) {C_NotAllowed : Addr} (x_NotAllowed : ExcG K mg "NotAllowed" C_NotAllowed) (bl : Blt mg) {f : Addr} {cdv : Value} {A : Around} {outer : List PySem.Env} {s : Shared} {H : Hp} {E : XK} (hr : Room k (A.deeper (envOfC "check_machine" (defScope st_p_check_machine) s.heap.objs.size f cdv))) (hgd : A.guards = some []) :
    RSs (cxOf (L2N.CX P w) P w K mg base N_p_check_machine "check_machine" (defScope st_p_check_machine) f cdv A outer s H E) T (wE E) (defBody st_p_check_machine) M_p_check_machine := by
  have g : Cg (cxOf (L2N.CX P w) P w K mg base N_p_check_machine "check_machine" (defScope st_p_check_machine) f cdv A outer s H E) k := ⟨rfl, sc_p_check_machine.nd, hr, hgd⟩
  have tk : L2N.Takes (cxOf (L2N.CX P w) P w K mg base N_p_check_machine "check_machine" (defScope st_p_check_machine) f cdv A outer s H E) (wE E) := L2N.takes_of rfl rfl rfl rfl
  have hp := passes_of (X := cxOf (L2N.CX P w) P w K mg base N_p_check_machine "check_machine" (defScope st_p_check_machine) f cdv A outer s H E) rfl
  exact (ss_cons (s_if (rt_not (rt_chain m_le m_le re_int (xlen bl (ra_cons (xv 2) ra_nil)) (xgi h_MAX_STATES))) (ss_one (xraise g tk x_NotAllowed)) ss_nil)
  (ss_one (s_for hp g.hc (ri_seq (xv 2)) (gt g (gs_cons (gn g 3) (gs_cons (gn g 4) gs_nil))) (ss_cons (s_if (rt_bop (rw_or (rt_not (rt_chain m_le m_lt re_int (xv 3) (xv 0))) (rw_or1 (tcmp (m_ne g.u64) (xlen bl (ra_cons (xv 4) ra_nil)) (xv 1))))) (ss_one (xraise g tk x_NotAllowed)) ss_nil)
  (ss_one (s_if (rt_not (rt_val (xall g bl (ra_cons (xcomp g ([("after", 5)] : List (Str × Nat)) (ri_seq (xv 4)) (fun _ _ _ _ _ => (gn g.b 5)) (fun _ _ _ _ _ => rts_nil) (fun _ _ _ _ _ => (re_chain m_le m_lt re_int (xv 5) (xlen bl (ra_cons (xv 2) ra_nil))))) ra_nil)))) (ss_one (xraise g tk x_NotAllowed)) ss_nil))))))
theorem c_p_check_machine (h_MAX_STATES : ∃ t, mg "MAX_STATES" = some (.int 6 t)) {C_NotAllowed : Addr} (x_NotAllowed : ExcG K mg "NotAllowed" C_NotAllowed) (bl : Blt mg) {f : Addr} (F : ∃ fd, FunD K "check_machine" "check_machine" (defArgs st_p_check_machine) (defBody st_p_check_machine) (defScope st_p_check_machine) [] [] f fd) (hm : mg "check_machine" = some (.ref f)) : CalM P w K mg base T (k + 1) "check_machine" ["own", "others", "machine"] F_p_check_machine :=
  CalM.of F hm (fun _ _ _ _ _ _ us hl => match us, hl with | [_, _, _], _ => rfl) sc_p_check_machine fun cdv A outer s H E hr hg => d_p_check_machine h_MAX_STATES x_NotAllowed bl hr hg

abbrev N_p_check_discount : List Str := ["discount"]
abbrev st_p_check_discount : Stmt := top 27
def M_p_check_discount : SM := (sIf (mT (mOr (mNot (mCall 1 F_p_is_ratio (mCons (mVar 0) mNil))) (mOr (mOp ltM (mOp ixM (mVar 0) (mRet (.int 0))) (mRet (.int 0))) (mNot (mCall 2 F_p_less (mCons (mVar 0) (mCons (mTup (mCons (mRet (.int 1)) (mCons (mRet (.int 1)) mNil))) mNil))))))) (sRaise "NotAllowed") sPass)
def F_p_check_discount : FM := runC N_p_check_discount M_p_check_discount
theorem sc_p_check_discount : FnScope N_p_check_discount ["discount"] (defScope st_p_check_discount) := C8.fnScope_by (by decide +kernel)
theorem d_p_check_discount {C_NotAllowed : Addr} (x_NotAllowed : ExcG K mg "NotAllowed" C_NotAllowed) (h_p_is_ratio : CalM P w K mg base T k "is_ratio" ["value"] F_p_is_ratio) (h_p_less : CalM P w K mg base T k "less" ["first", "second"] F_p_less) (bl : Blt mg) {f : Addr} {cdv : Value} {A : Around} {outer : List PySem.Env} {s : Shared} {H : Hp} {E : XK} (hr : Room k (A.deeper (envOfC "check_discount" (defScope st_p_check_discount) s.heap.objs.size f cdv))) (hgd : A.guards = some []) :
    RSs (cxOf (L2N.CX P w) P w K mg base N_p_check_discount "check_discount" (defScope st_p_check_discount) f cdv A outer s H E) T (wE E) (defBody st_p_check_discount) M_p_check_discount := by
  have g : Cg (cxOf (L2N.CX P w) P w K mg base N_p_check_discount "check_discount" (defScope st_p_check_discount) f cdv A outer s H E) k := ⟨rfl, sc_p_check_discount.nd, hr, hgd⟩
  have tk : L2N.Takes (cxOf (L2N.CX P w) P w K mg base N_p_check_discount "check_discount" (defScope st_p_check_discount) f cdv A outer s H E) (wE E) := L2N.takes_of rfl rfl rfl rfl
  have hp := passes_of (X := cxOf (L2N.CX P w) P w K mg base N_p_check_discount "check_discount" (defScope st_p_check_discount) f cdv A outer s H E) rfl
  exact (ss_one (s_if (rt_bop (rw_or (rt_not (rt_val (xcall g tk h_p_is_ratio (ra_cons (xv 0) ra_nil)))) (rw_or (tcmp m_lt (xix (xv 0) re_int) re_int) (rw_or1 (rt_not (rt_val (xcall g tk h_p_less (ra_cons (xv 0) (ra_cons (re_tup (ra_cons re_int (ra_cons re_int ra_nil))) ra_nil))))))))) (ss_one (xraise g tk x_NotAllowed)) ss_nil))
theorem c_p_check_discount {C_NotAllowed : Addr} (x_NotAllowed : ExcG K mg "NotAllowed" C_NotAllowed) (h_p_is_ratio : CalM P w K mg base T k "is_ratio" ["value"] F_p_is_ratio) (h_p_less : CalM P w K mg base T k "less" ["first", "second"] F_p_less) (bl : Blt mg) {f : Addr} (F : ∃ fd, FunD K "check_discount" "check_discount" (defArgs st_p_check_discount) (defBody st_p_check_discount) (defScope st_p_check_discount) [] [] f fd) (hm : mg "check_discount" = some (.ref f)) : CalM P w K mg base T (k + 1) "check_discount" ["discount"] F_p_check_discount :=
  CalM.of F hm (fun _ _ _ _ _ _ us hl => match us, hl with | [_], _ => rfl) sc_p_check_discount fun cdv A outer s H E hr hg => d_p_check_discount x_NotAllowed h_p_is_ratio h_p_less bl hr hg

abbrev N_p_power : List Str := ["discount", "many", "found", "_"]
abbrev st_p_power : Stmt := top 28
def M_p_power : SM := (sSeq (sAsg (mTup (mCons (mRet (.int 1)) (mCons (mRet (.int 1)) mNil))) (gN 2))
  (sSeq (sFor (mRng rng1 (mCons (mVar 1) mNil)) (gN 3) (sAsg (mCall 2 F_p_times (mCons (mVar 2) (mCons (mVar 0) mNil))) (gN 2)))
  (sRet (mVar 2))))
def F_p_power : FM := runC N_p_power M_p_power
theorem sc_p_power : FnScope N_p_power ["discount", "many"] (defScope st_p_power) := C8.fnScope_by (by decide +kernel)
theorem d_p_power (h_p_times : CalM P w K mg base T k "times" ["first", "second"] F_p_times) (bl : Blt mg) {f : Addr} {cdv : Value} {A : Around} {outer : List PySem.Env} {s : Shared} {H : Hp} {E : XK} (hr : Room k (A.deeper (envOfC "power" (defScope st_p_power) s.heap.objs.size f cdv))) (hgd : A.guards = some []) :
    RSs (cxOf (L2N.CX P w) P w K mg base N_p_power "power" (defScope st_p_power) f cdv A outer s H E) T (wE E) (defBody st_p_power) M_p_power := by
  have g : Cg (cxOf (L2N.CX P w) P w K mg base N_p_power "power" (defScope st_p_power) f cdv A outer s H E) k := ⟨rfl, sc_p_power.nd, hr, hgd⟩
  have tk : L2N.Takes (cxOf (L2N.CX P w) P w K mg base N_p_power "power" (defScope st_p_power) f cdv A outer s H E) (wE E) := L2N.takes_of rfl rfl rfl rfl
  have hp := passes_of (X := cxOf (L2N.CX P w) P w K mg base N_p_power "power" (defScope st_p_power) f cdv A outer s H E) rfl
  exact (ss_cons (sset g 2 (re_tup (ra_cons re_int (ra_cons re_int ra_nil))))
  (ss_cons (s_for hp g.hc (irng1 bl (ra_cons (xv 1) ra_nil)) (gn g 3) (ss_one (sset g 2 (xcall g tk h_p_times (ra_cons (xv 2) (ra_cons (xv 0) ra_nil))))))
  (ss_one (s_ret (xv 2)))))
theorem c_p_power (h_p_times : CalM P w K mg base T k "times" ["first", "second"] F_p_times) (bl : Blt mg) {f : Addr} (F : ∃ fd, FunD K "power" "power" (defArgs st_p_power) (defBody st_p_power) (defScope st_p_power) [] [] f fd) (hm : mg "power" = some (.ref f)) : CalM P w K mg base T (k + 1) "power" ["discount", "many"] F_p_power :=
  CalM.of F hm (fun _ _ _ _ _ _ us hl => match us, hl with | [_, _], _ => rfl) sc_p_power fun cdv A outer s H E hr hg => d_p_power h_p_times bl hr hg

abbrev N_p_discounted : List Str := ["table", "cells", "discount", "total", "weight", "row", "column"]
abbrev st_p_discounted : Stmt := top 29
def M_p_discounted : SM := (sSeq (sAsg (mTup (mCons (mTup (mCons (mRet (.int 0)) (mCons (mRet (.int 1)) mNil))) (mCons (mTup (mCons (mRet (.int 1)) (mCons (mRet (.int 1)) mNil))) mNil))) (gT ((gN 3) :: ((gN 4) :: []))))
  (sSeq (sFor (mItm (mVar 1)) (gT ((gN 5) :: ((gN 6) :: []))) (sSeq (sAsg (mCall 2 F_p_added (mCons (mVar 3) (mCons (mCall 2 F_p_times (mCons (mVar 4) (mCons (mTup (mCons (mOp ixM (mOp ixM (mVar 0) (mVar 5)) (mVar 6)) (mCons (mRet (.int 1)) mNil))) mNil))) mNil))) (gN 3))
  (sAsg (mCall 2 F_p_times (mCons (mVar 4) (mCons (mVar 2) mNil))) (gN 4))))
  (sRet (mVar 3))))
def F_p_discounted : FM := runC N_p_discounted M_p_discounted
theorem sc_p_discounted : FnScope N_p_discounted ["table", "cells", "discount"] (defScope st_p_discounted) := C8.fnScope_by (by decide +kernel)
theorem d_p_discounted (h_p_added : CalM P w K mg base T k "added" ["first", "second"] F_p_added) (h_p_times : CalM P w K mg base T k "times" ["first", "second"] F_p_times) (bl : Blt mg) {f : Addr} {cdv : Value} {A : Around} {outer : List PySem.Env} {s : Shared} {H : Hp} {E : XK} (hr : Room k (A.deeper (envOfC "discounted" (defScope st_p_discounted) s.heap.objs.size f cdv))) (hgd : A.guards = some []) :
    RSs (cxOf (L2N.CX P w) P w K mg base N_p_discounted "discounted" (defScope st_p_discounted) f cdv A outer s H E) T (wE E) (defBody st_p_discounted) M_p_discounted := by
  have g : Cg (cxOf (L2N.CX P w) P w K mg base N_p_discounted "discounted" (defScope st_p_discounted) f cdv A outer s H E) k := ⟨rfl, sc_p_discounted.nd, hr, hgd⟩
  have tk : L2N.Takes (cxOf (L2N.CX P w) P w K mg base N_p_discounted "discounted" (defScope st_p_discounted) f cdv A outer s H E) (wE E) := L2N.takes_of rfl rfl rfl rfl
  have hp := passes_of (X := cxOf (L2N.CX P w) P w K mg base N_p_discounted "discounted" (defScope st_p_discounted) f cdv A outer s H E) rfl
  exact (ss_cons (s_asg (re_tup (ra_cons (re_tup (ra_cons re_int (ra_cons re_int ra_nil))) (ra_cons (re_tup (ra_cons re_int (ra_cons re_int ra_nil))) ra_nil))) (gt g (gs_cons (gn g 3) (gs_cons (gn g 4) gs_nil))))
  (ss_cons (s_for hp g.hc (ri_seq (xv 1)) (gt g (gs_cons (gn g 5) (gs_cons (gn g 6) gs_nil))) (ss_cons (sset g 3 (xcall g tk h_p_added (ra_cons (xv 3) (ra_cons (xcall g tk h_p_times (ra_cons (xv 4) (ra_cons (re_tup (ra_cons (xix (xix (xv 0) (xv 5)) (xv 6)) (ra_cons re_int ra_nil))) ra_nil))) ra_nil))))
  (ss_one (sset g 4 (xcall g tk h_p_times (ra_cons (xv 4) (ra_cons (xv 2) ra_nil)))))))
  (ss_one (s_ret (xv 3)))))
theorem c_p_discounted (h_p_added : CalM P w K mg base T k "added" ["first", "second"] F_p_added) (h_p_times : CalM P w K mg base T k "times" ["first", "second"] F_p_times) (bl : Blt mg) {f : Addr} (F : ∃ fd, FunD K "discounted" "discounted" (defArgs st_p_discounted) (defBody st_p_discounted) (defScope st_p_discounted) [] [] f fd) (hm : mg "discounted" = some (.ref f)) : CalM P w K mg base T (k + 1) "discounted" ["table", "cells", "discount"] F_p_discounted :=
  CalM.of F hm (fun _ _ _ _ _ _ us hl => match us, hl with | [_, _, _], _ => rfl) sc_p_discounted fun cdv A outer s H E hr hg => d_p_discounted h_p_added h_p_times bl hr hg

abbrev N_p_answered_values : List Str := ["table", "machine", "discount", "plan", "found", "start", "line", "here", "at", "cells", "ring", "rest", "ahead", "state"]
abbrev st_p_answered_values : Stmt := top 30
def M_p_answered_values : SM := (sSeq (sAsg (mLstC mNil) (gN 4))
  (sSeq (sFor (mRng rng1 (mCons (mCB lenM (mCons (mVar 1) mNil)) mNil)) (gN 5) (sSeq (sPar 6 7 (mCons (mLstC mNil) (mCons (mVar 5) mNil)))
  (sSeq (sWhile (mT (mOp notInM (mVar 7) (mVar 6))) (sSeq (sDrop (mMeth appM (mVar 6) (mCons (mVar 7) mNil)))
  (sAsg (mOp ixM (mOp ixM (mOp ixM (mVar 1) (mVar 7)) (mRet (.int 1))) (mOp ixM (mVar 3) (mVar 7))) (gN 7))))
  (sSeq (sAsg (mMeth idxM (mVar 6) (mCons (mVar 7) mNil)) (gN 8))
  (sSeq (sAsg (mComp (List.map (·.2) ([("state", 13)] : List (Str × Nat))) (mItm (mVar 6)) (gN 13) mYes (mTup (mCons (mOp ixM (mVar 3) (mVar 13)) (mCons (mOp ixM (mOp ixM (mVar 1) (mVar 13)) (mRet (.int 0))) mNil)))) (gN 9))
  (sSeq (sAsg (mCall 3 F_p_discounted (mCons (mVar 0) (mCons (mSlice (mVar 9) (mPart (mVar 8)) mNoPart) (mCons (mVar 2) mNil)))) (gN 10))
  (sSeq (sAsg (mCall 2 F_p_added (mCons (mTup (mCons (mRet (.int 1)) (mCons (mRet (.int 1)) mNil))) (mCons (mCall 1 F_p_negative (mCons (mCall 2 F_p_power (mCons (mVar 2) (mCons (mOp subM (mCB lenM (mCons (mVar 9) mNil)) (mVar 8)) mNil))) mNil)) mNil))) (gN 11))
  (sSeq (sAsg (mCall 3 F_p_discounted (mCons (mVar 0) (mCons (mSlice (mVar 9) mNoPart (mPart (mVar 8))) (mCons (mVar 2) mNil)))) (gN 12))
  (sDrop (mMeth appM (mVar 4) (mCons (mCall 2 F_p_added (mCons (mVar 12) (mCons (mCall 2 F_p_times (mCons (mCall 2 F_p_power (mCons (mVar 2) (mCons (mVar 8) mNil))) (mCons (mCall 2 F_p_over (mCons (mVar 10) (mCons (mVar 11) mNil))) mNil))) mNil))) mNil)))))))))))
  (sRet (mVar 4))))
def F_p_answered_values : FM := runC N_p_answered_values M_p_answered_values
theorem sc_p_answered_values : FnScope N_p_answered_values ["table", "machine", "discount", "plan"] (defScope st_p_answered_values) := C8.fnScope_by (by decide +kernel)
theorem d_p_answered_values (h_p_added : CalM P w K mg base T k "added" ["first", "second"] F_p_added) (h_p_discounted : CalM P w K mg base T k "discounted" ["table", "cells", "discount"] F_p_discounted) (h_p_negative : CalM P w K mg base T k "negative" ["value"] F_p_negative) (h_p_over : CalM P w K mg base T k "over" ["first", "second"] F_p_over) (h_p_power : CalM P w K mg base T k "power" ["discount", "many"] F_p_power) (h_p_times : CalM P w K mg base T k "times" ["first", "second"] F_p_times) (bl : Blt mg) {f : Addr} {cdv : Value} {A : Around} {outer : List PySem.Env} {s : Shared} {H : Hp} {E : XK} (hr : Room k (A.deeper (envOfC "answered_values" (defScope st_p_answered_values) s.heap.objs.size f cdv))) (hgd : A.guards = some []) :
    RSs (cxOf (L2N.CX P w) P w K mg base N_p_answered_values "answered_values" (defScope st_p_answered_values) f cdv A outer s H E) T (wE E) (defBody st_p_answered_values) M_p_answered_values := by
  have g : Cg (cxOf (L2N.CX P w) P w K mg base N_p_answered_values "answered_values" (defScope st_p_answered_values) f cdv A outer s H E) k := ⟨rfl, sc_p_answered_values.nd, hr, hgd⟩
  have tk : L2N.Takes (cxOf (L2N.CX P w) P w K mg base N_p_answered_values "answered_values" (defScope st_p_answered_values) f cdv A outer s H E) (wE E) := L2N.takes_of rfl rfl rfl rfl
  have hp := passes_of (X := cxOf (L2N.CX P w) P w K mg base N_p_answered_values "answered_values" (defScope st_p_answered_values) f cdv A outer s H E) rfl
  exact (ss_cons (sset g 4 (re_lstC ra_nil))
  (ss_cons (s_for hp g.hc (irng1 bl (ra_cons (xlen bl (ra_cons (xv 1) ra_nil)) ra_nil)) (gn g 5) (ss_cons (spar g 6 7 (ra_cons (re_lstC ra_nil) (ra_cons (xv 5) ra_nil)))
  (ss_cons (s_while hp (tcmp (m_notIn g.u65) (xv 7) (xv 6)) (ss_cons (s_expr (re_append (xv 6) (ra_cons (xv 7) ra_nil)))
  (ss_one (sset g 7 (xix (xix (xix (xv 1) (xv 7)) re_int) (xix (xv 3) (xv 7)))))))
  (ss_cons (sset g 8 (re_index g.u65 (xv 6) (ra_cons (xv 7) ra_nil)))
  (ss_cons (scomp g 9 ([("state", 13)] : List (Str × Nat)) (ri_seq (xv 6)) (fun _ _ _ _ _ => (gn g.b 13)) (fun _ _ _ _ _ => rts_nil) (fun _ _ _ _ _ => (re_tup (ra_cons (xix (xv 3) (xv 13)) (ra_cons (xix (xix (xv 1) (xv 13)) re_int) ra_nil)))))
  (ss_cons (sset g 10 (xcall g tk h_p_discounted (ra_cons (xv 0) (ra_cons (re_slice (xv 9) (rp_some (xv 8)) rp_none) (ra_cons (xv 2) ra_nil)))))
  (ss_cons (sset g 11 (xcall g tk h_p_added (ra_cons (re_tup (ra_cons re_int (ra_cons re_int ra_nil))) (ra_cons (xcall g tk h_p_negative (ra_cons (xcall g tk h_p_power (ra_cons (xv 2) (ra_cons (re_op m_sub (xlen bl (ra_cons (xv 9) ra_nil)) (xv 8)) ra_nil))) ra_nil)) ra_nil))))
  (ss_cons (sset g 12 (xcall g tk h_p_discounted (ra_cons (xv 0) (ra_cons (re_slice (xv 9) rp_none (rp_some (xv 8))) (ra_cons (xv 2) ra_nil)))))
  (ss_one (s_expr (re_append (xv 4) (ra_cons (xcall g tk h_p_added (ra_cons (xv 12) (ra_cons (xcall g tk h_p_times (ra_cons (xcall g tk h_p_power (ra_cons (xv 2) (ra_cons (xv 8) ra_nil))) (ra_cons (xcall g tk h_p_over (ra_cons (xv 10) (ra_cons (xv 11) ra_nil))) ra_nil))) ra_nil))) ra_nil))))))))))))
  (ss_one (s_ret (xv 4)))))
theorem c_p_answered_values (h_p_added : CalM P w K mg base T k "added" ["first", "second"] F_p_added) (h_p_discounted : CalM P w K mg base T k "discounted" ["table", "cells", "discount"] F_p_discounted) (h_p_negative : CalM P w K mg base T k "negative" ["value"] F_p_negative) (h_p_over : CalM P w K mg base T k "over" ["first", "second"] F_p_over) (h_p_power : CalM P w K mg base T k "power" ["discount", "many"] F_p_power) (h_p_times : CalM P w K mg base T k "times" ["first", "second"] F_p_times) (bl : Blt mg) {f : Addr} (F : ∃ fd, FunD K "answered_values" "answered_values" (defArgs st_p_answered_values) (defBody st_p_answered_values) (defScope st_p_answered_values) [] [] f fd) (hm : mg "answered_values" = some (.ref f)) : CalM P w K mg base T (k + 1) "answered_values" ["table", "machine", "discount", "plan"] F_p_answered_values :=
  CalM.of F hm (fun _ _ _ _ _ _ us hl => match us, hl with | [_, _, _, _], _ => rfl) sc_p_answered_values fun cdv A outer s H E hr hg => d_p_answered_values h_p_added h_p_discounted h_p_negative h_p_over h_p_power h_p_times bl hr hg

abbrev N_p_best_plan_for : List Str := ["table", "machine", "discount", "plan", "values", "fresh", "state", "choice", "moves", "best", "worthy", "own", "more"]
abbrev st_p_best_plan_for : Stmt := top 31
def M_p_best_plan_for : SM := (sSeq (sAsg (mOp mulM2 (mLst (mCons (mRet (.int 0)) mNil)) (mCB lenM (mCons (mVar 1) mNil))) (gN 3))
  (sWhile (mT (mRet (.bl true))) (sSeq (sAsg (mCall 4 F_p_answered_values (mCons (mVar 0) (mCons (mVar 1) (mCons (mVar 2) (mCons (mVar 3) mNil))))) (gN 4))
  (sSeq (sAsg (mLstC mNil) (gN 5))
  (sSeq (sFor (mEnum (mCons (mVar 1) mNil)) (gT ((gN 6) :: ((gT ((gN 7) :: ((gN 8) :: []))) :: []))) (sSeq (sPar 9 10 (mCons (mOp ixM (mVar 3) (mVar 6)) (mCons (mOp ixM (mVar 4) (mVar 6)) mNil)))
  (sSeq (sFor (mRng rng1 (mCons (mCB lenM (mCons (mVar 0) mNil)) mNil)) (gN 11) (sSeq (sAsg (mCall 2 F_p_added (mCons (mTup (mCons (mOp ixM (mOp ixM (mVar 0) (mVar 11)) (mVar 7)) (mCons (mRet (.int 1)) mNil))) (mCons (mCall 2 F_p_times (mCons (mVar 2) (mCons (mOp ixM (mVar 4) (mOp ixM (mVar 8) (mVar 11))) mNil))) mNil))) (gN 12))
  (sIf (mT (mCall 2 F_p_less (mCons (mVar 10) (mCons (mVar 12) mNil)))) (sPar 9 10 (mCons (mVar 11) (mCons (mVar 12) mNil))) sPass)))
  (sDrop (mMeth appM (mVar 5) (mCons (mVar 9) mNil))))))
  (sSeq (sIf (mT (mOp eqM (mVar 5) (mVar 3))) (sRet (mTup (mCons (mCB tupleM (mCons (mVar 3) mNil)) (mCons (mCB tupleM (mCons (mVar 4) mNil)) mNil)))) sPass)
  (sAsg (mVar 5) (gN 3))))))))
def F_p_best_plan_for : FM := runC N_p_best_plan_for M_p_best_plan_for
theorem sc_p_best_plan_for : FnScope N_p_best_plan_for ["table", "machine", "discount"] (defScope st_p_best_plan_for) := C8.fnScope_by (by decide +kernel)
theorem d_p_best_plan_for (h_p_added : CalM P w K mg base T k "added" ["first", "second"] F_p_added) (h_p_answered_values : CalM P w K mg base T k "answered_values" ["table", "machine", "discount", "plan"] F_p_answered_values) (h_p_less : CalM P w K mg base T k "less" ["first", "second"] F_p_less) (h_p_times : CalM P w K mg base T k "times" ["first", "second"] F_p_times) (bl : Blt mg) {f : Addr} {cdv : Value} {A : Around} {outer : List PySem.Env} {s : Shared} {H : Hp} {E : XK} (hr : Room k (A.deeper (envOfC "best_plan_for" (defScope st_p_best_plan_for) s.heap.objs.size f cdv))) (hgd : A.guards = some []) :
    RSs (cxOf (L2N.CX P w) P w K mg base N_p_best_plan_for "best_plan_for" (defScope st_p_best_plan_for) f cdv A outer s H E) T (wE E) (defBody st_p_best_plan_for) M_p_best_plan_for := by
  have g : Cg (cxOf (L2N.CX P w) P w K mg base N_p_best_plan_for "best_plan_for" (defScope st_p_best_plan_for) f cdv A outer s H E) k := ⟨rfl, sc_p_best_plan_for.nd, hr, hgd⟩
  have tk : L2N.Takes (cxOf (L2N.CX P w) P w K mg base N_p_best_plan_for "best_plan_for" (defScope st_p_best_plan_for) f cdv A outer s H E) (wE E) := L2N.takes_of rfl rfl rfl rfl
  have hp := passes_of (X := cxOf (L2N.CX P w) P w K mg base N_p_best_plan_for "best_plan_for" (defScope st_p_best_plan_for) f cdv A outer s H E) rfl
  exact (ss_cons (sset g 3 (re_op m_mul2 (re_lst (ra_cons re_int ra_nil)) (xlen bl (ra_cons (xv 1) ra_nil))))
  (ss_one (s_while hp (rt_val re_bl) (ss_cons (sset g 4 (xcall g tk h_p_answered_values (ra_cons (xv 0) (ra_cons (xv 1) (ra_cons (xv 2) (ra_cons (xv 3) ra_nil))))))
  (ss_cons (sset g 5 (re_lstC ra_nil))
  (ss_cons (s_for hp g.hc (ienum bl (ra_cons (xv 1) ra_nil)) (gt g (gs_cons (gn g 6) (gs_cons (gt g (gs_cons (gn g 7) (gs_cons (gn g 8) gs_nil))) gs_nil))) (ss_cons (spar g 9 10 (ra_cons (xix (xv 3) (xv 6)) (ra_cons (xix (xv 4) (xv 6)) ra_nil)))
  (ss_cons (s_for hp g.hc (irng1 bl (ra_cons (xlen bl (ra_cons (xv 0) ra_nil)) ra_nil)) (gn g 11) (ss_cons (sset g 12 (xcall g tk h_p_added (ra_cons (re_tup (ra_cons (xix (xix (xv 0) (xv 11)) (xv 7)) (ra_cons re_int ra_nil))) (ra_cons (xcall g tk h_p_times (ra_cons (xv 2) (ra_cons (xix (xv 4) (xix (xv 8) (xv 11))) ra_nil))) ra_nil))))
  (ss_one (s_if (rt_val (xcall g tk h_p_less (ra_cons (xv 10) (ra_cons (xv 12) ra_nil)))) (ss_one (spar g 9 10 (ra_cons (xv 11) (ra_cons (xv 12) ra_nil)))) ss_nil))))
  (ss_one (s_expr (re_append (xv 5) (ra_cons (xv 9) ra_nil)))))))
  (ss_cons (s_if (tcmp (m_eq g.u64) (xv 5) (xv 3)) (ss_one (s_ret (re_tup (ra_cons (xtuple bl (ra_cons (xv 3) ra_nil)) (ra_cons (xtuple bl (ra_cons (xv 4) ra_nil)) ra_nil))))) ss_nil)
  (ss_one (sset g 3 (xv 5))))))))))
theorem c_p_best_plan_for (h_p_added : CalM P w K mg base T k "added" ["first", "second"] F_p_added) (h_p_answered_values : CalM P w K mg base T k "answered_values" ["table", "machine", "discount", "plan"] F_p_answered_values) (h_p_less : CalM P w K mg base T k "less" ["first", "second"] F_p_less) (h_p_times : CalM P w K mg base T k "times" ["first", "second"] F_p_times) (bl : Blt mg) {f : Addr} (F : ∃ fd, FunD K "best_plan_for" "best_plan_for" (defArgs st_p_best_plan_for) (defBody st_p_best_plan_for) (defScope st_p_best_plan_for) [] [] f fd) (hm : mg "best_plan_for" = some (.ref f)) : CalM P w K mg base T (k + 1) "best_plan_for" ["table", "machine", "discount"] F_p_best_plan_for :=
  CalM.of F hm (fun _ _ _ _ _ _ us hl => match us, hl with | [_, _, _], _ => rfl) sc_p_best_plan_for fun cdv A outer s H E hr hg => d_p_best_plan_for h_p_added h_p_answered_values h_p_less h_p_times bl hr hg

abbrev N_p_check_against : List Str := ["game", "who", "machine", "table"]
abbrev st_p_check_against : Stmt := top 33
def M_p_check_against : SM := (sSeq (sDrop (mCall 1 F_p_check_game (mCons (mVar 0) mNil)))
  (sSeq (sDrop (mCall 1 F_p_check_who (mCons (mVar 1) mNil)))
  (sSeq (sAsg (mCall 2 F_p_seen_by (mCons (mVar 0) (mCons (mVar 1) mNil))) (gN 3))
  (sDrop (mCall 3 F_p_check_machine (mCons (mCB lenM (mCons (mOp ixM (mVar 3) (mRet (.int 0))) mNil)) (mCons (mCB lenM (mCons (mVar 3) mNil)) (mCons (mVar 2) mNil))))))))
def F_p_check_against : FM := runC N_p_check_against M_p_check_against
theorem sc_p_check_against : FnScope N_p_check_against ["game", "who", "machine"] (defScope st_p_check_against) := C8.fnScope_by (by decide +kernel)
theorem d_p_check_against (h_p_check_game : CalM P w K mg base T k "check_game" ["game"] F_p_check_game) (h_p_check_machine : CalM P w K mg base T k "check_machine" ["own", "others", "machine"] F_p_check_machine) (h_p_check_who : CalM P w K mg base T k "check_who" ["who"] F_p_check_who) (h_p_seen_by : CalM P w K mg base T k "seen_by" ["game", "who"] F_p_seen_by) (bl : Blt mg) {f : Addr} {cdv : Value} {A : Around} {outer : List PySem.Env} {s : Shared} {H : Hp} {E : XK} (hr : Room k (A.deeper (envOfC "check_against" (defScope st_p_check_against) s.heap.objs.size f cdv))) (hgd : A.guards = some []) :
    RSs (cxOf (L2N.CX P w) P w K mg base N_p_check_against "check_against" (defScope st_p_check_against) f cdv A outer s H E) T (wE E) (defBody st_p_check_against) M_p_check_against := by
  have g : Cg (cxOf (L2N.CX P w) P w K mg base N_p_check_against "check_against" (defScope st_p_check_against) f cdv A outer s H E) k := ⟨rfl, sc_p_check_against.nd, hr, hgd⟩
  have tk : L2N.Takes (cxOf (L2N.CX P w) P w K mg base N_p_check_against "check_against" (defScope st_p_check_against) f cdv A outer s H E) (wE E) := L2N.takes_of rfl rfl rfl rfl
  have hp := passes_of (X := cxOf (L2N.CX P w) P w K mg base N_p_check_against "check_against" (defScope st_p_check_against) f cdv A outer s H E) rfl
  exact (ss_cons (s_expr (xcall g tk h_p_check_game (ra_cons (xv 0) ra_nil)))
  (ss_cons (s_expr (xcall g tk h_p_check_who (ra_cons (xv 1) ra_nil)))
  (ss_cons (sset g 3 (xcall g tk h_p_seen_by (ra_cons (xv 0) (ra_cons (xv 1) ra_nil))))
  (ss_one (s_expr (xcall g tk h_p_check_machine (ra_cons (xlen bl (ra_cons (xix (xv 3) re_int) ra_nil)) (ra_cons (xlen bl (ra_cons (xv 3) ra_nil)) (ra_cons (xv 2) ra_nil)))))))))
theorem c_p_check_against (h_p_check_game : CalM P w K mg base T k "check_game" ["game"] F_p_check_game) (h_p_check_machine : CalM P w K mg base T k "check_machine" ["own", "others", "machine"] F_p_check_machine) (h_p_check_who : CalM P w K mg base T k "check_who" ["who"] F_p_check_who) (h_p_seen_by : CalM P w K mg base T k "seen_by" ["game", "who"] F_p_seen_by) (bl : Blt mg) {f : Addr} (F : ∃ fd, FunD K "check_against" "check_against" (defArgs st_p_check_against) (defBody st_p_check_against) (defScope st_p_check_against) [] [] f fd) (hm : mg "check_against" = some (.ref f)) : CalM P w K mg base T (k + 1) "check_against" ["game", "who", "machine"] F_p_check_against :=
  CalM.of F hm (fun _ _ _ _ _ _ us hl => match us, hl with | [_, _, _], _ => rfl) sc_p_check_against fun cdv A outer s H E hr hg => d_p_check_against h_p_check_game h_p_check_machine h_p_check_who h_p_seen_by bl hr hg

abbrev N_p_best_worth : List Str := ["game", "who", "machine", "discount"]
abbrev st_p_best_worth : Stmt := top 32
def M_p_best_worth : SM := (sSeq (sDrop (mCall 3 F_p_check_against (mCons (mVar 0) (mCons (mVar 1) (mCons (mVar 2) mNil)))))
  (sSeq (sDrop (mCall 1 F_p_check_discount (mCons (mVar 3) mNil)))
  (sRet (mOp ixM (mOp ixM (mCall 3 F_p_best_plan_for (mCons (mCall 2 F_p_seen_by (mCons (mVar 0) (mCons (mVar 1) mNil))) (mCons (mVar 2) (mCons (mVar 3) mNil)))) (mRet (.int 1))) (mRet (.int 0))))))
def F_p_best_worth : FM := runC N_p_best_worth M_p_best_worth
theorem sc_p_best_worth : FnScope N_p_best_worth ["game", "who", "machine", "discount"] (defScope st_p_best_worth) := C8.fnScope_by (by decide +kernel)
theorem d_p_best_worth (h_p_best_plan_for : CalM P w K mg base T k "best_plan_for" ["table", "machine", "discount"] F_p_best_plan_for) (h_p_check_against : CalM P w K mg base T k "check_against" ["game", "who", "machine"] F_p_check_against) (h_p_check_discount : CalM P w K mg base T k "check_discount" ["discount"] F_p_check_discount) (h_p_seen_by : CalM P w K mg base T k "seen_by" ["game", "who"] F_p_seen_by) (bl : Blt mg) {f : Addr} {cdv : Value} {A : Around} {outer : List PySem.Env} {s : Shared} {H : Hp} {E : XK} (hr : Room k (A.deeper (envOfC "best_worth" (defScope st_p_best_worth) s.heap.objs.size f cdv))) (hgd : A.guards = some []) :
    RSs (cxOf (L2N.CX P w) P w K mg base N_p_best_worth "best_worth" (defScope st_p_best_worth) f cdv A outer s H E) T (wE E) (defBody st_p_best_worth) M_p_best_worth := by
  have g : Cg (cxOf (L2N.CX P w) P w K mg base N_p_best_worth "best_worth" (defScope st_p_best_worth) f cdv A outer s H E) k := ⟨rfl, sc_p_best_worth.nd, hr, hgd⟩
  have tk : L2N.Takes (cxOf (L2N.CX P w) P w K mg base N_p_best_worth "best_worth" (defScope st_p_best_worth) f cdv A outer s H E) (wE E) := L2N.takes_of rfl rfl rfl rfl
  have hp := passes_of (X := cxOf (L2N.CX P w) P w K mg base N_p_best_worth "best_worth" (defScope st_p_best_worth) f cdv A outer s H E) rfl
  exact (ss_cons (s_expr (xcall g tk h_p_check_against (ra_cons (xv 0) (ra_cons (xv 1) (ra_cons (xv 2) ra_nil)))))
  (ss_cons (s_expr (xcall g tk h_p_check_discount (ra_cons (xv 3) ra_nil)))
  (ss_one (s_ret (xix (xix (xcall g tk h_p_best_plan_for (ra_cons (xcall g tk h_p_seen_by (ra_cons (xv 0) (ra_cons (xv 1) ra_nil))) (ra_cons (xv 2) (ra_cons (xv 3) ra_nil)))) re_int) re_int)))))
theorem c_p_best_worth (h_p_best_plan_for : CalM P w K mg base T k "best_plan_for" ["table", "machine", "discount"] F_p_best_plan_for) (h_p_check_against : CalM P w K mg base T k "check_against" ["game", "who", "machine"] F_p_check_against) (h_p_check_discount : CalM P w K mg base T k "check_discount" ["discount"] F_p_check_discount) (h_p_seen_by : CalM P w K mg base T k "seen_by" ["game", "who"] F_p_seen_by) (bl : Blt mg) {f : Addr} (F : ∃ fd, FunD K "best_worth" "best_worth" (defArgs st_p_best_worth) (defBody st_p_best_worth) (defScope st_p_best_worth) [] [] f fd) (hm : mg "best_worth" = some (.ref f)) : CalM P w K mg base T (k + 1) "best_worth" ["game", "who", "machine", "discount"] F_p_best_worth :=
  CalM.of F hm (fun _ _ _ _ _ _ us hl => match us, hl with | [_, _, _, _], _ => rfl) sc_p_best_worth fun cdv A outer s H E hr hg => d_p_best_worth h_p_best_plan_for h_p_check_against h_p_check_discount h_p_seen_by bl hr hg

abbrev N_p_best_machine : List Str := ["game", "who", "machine", "discount", "plan", "others", "state"]
abbrev st_p_best_machine : Stmt := top 34
def M_p_best_machine : SM := (sSeq (sDrop (mCall 3 F_p_check_against (mCons (mVar 0) (mCons (mVar 1) (mCons (mVar 2) mNil)))))
  (sSeq (sDrop (mCall 1 F_p_check_discount (mCons (mVar 3) mNil)))
  (sSeq (sAsg (mOp ixM (mCall 3 F_p_best_plan_for (mCons (mCall 2 F_p_seen_by (mCons (mVar 0) (mCons (mVar 1) mNil))) (mCons (mVar 2) (mCons (mVar 3) mNil)))) (mRet (.int 0))) (gN 4))
  (sSeq (sAsg (mCB lenM (mCons (mOp ixM (mCall 2 F_p_seen_by (mCons (mVar 0) (mCons (mVar 1) mNil))) (mRet (.int 0))) mNil)) (gN 5))
  (sRet (mCB tupleM (mCons (mComp (List.map (·.2) ([("state", 6)] : List (Str × Nat))) (mRng rng1 (mCons (mCB lenM (mCons (mVar 2) mNil)) mNil)) (gN 6) mYes (mTup (mCons (mOp ixM (mVar 4) (mVar 6)) (mCons (mOp mulM2 (mTup (mCons (mOp ixM (mOp ixM (mOp ixM (mVar 2) (mVar 6)) (mRet (.int 1))) (mOp ixM (mVar 4) (mVar 6))) mNil)) (mVar 5)) mNil)))) mNil)))))))
def F_p_best_machine : FM := runC N_p_best_machine M_p_best_machine
theorem sc_p_best_machine : FnScope N_p_best_machine ["game", "who", "machine", "discount"] (defScope st_p_best_machine) := C8.fnScope_by (by decide +kernel)
theorem d_p_best_machine (h_p_best_plan_for : CalM P w K mg base T k "best_plan_for" ["table", "machine", "discount"] F_p_best_plan_for) (h_p_check_against : CalM P w K mg base T k "check_against" ["game", "who", "machine"] F_p_check_against) (h_p_check_discount : CalM P w K mg base T k "check_discount" ["discount"] F_p_check_discount) (h_p_seen_by : CalM P w K mg base T k "seen_by" ["game", "who"] F_p_seen_by) (bl : Blt mg) {f : Addr} {cdv : Value} {A : Around} {outer : List PySem.Env} {s : Shared} {H : Hp} {E : XK} (hr : Room k (A.deeper (envOfC "best_machine" (defScope st_p_best_machine) s.heap.objs.size f cdv))) (hgd : A.guards = some []) :
    RSs (cxOf (L2N.CX P w) P w K mg base N_p_best_machine "best_machine" (defScope st_p_best_machine) f cdv A outer s H E) T (wE E) (defBody st_p_best_machine) M_p_best_machine := by
  have g : Cg (cxOf (L2N.CX P w) P w K mg base N_p_best_machine "best_machine" (defScope st_p_best_machine) f cdv A outer s H E) k := ⟨rfl, sc_p_best_machine.nd, hr, hgd⟩
  have tk : L2N.Takes (cxOf (L2N.CX P w) P w K mg base N_p_best_machine "best_machine" (defScope st_p_best_machine) f cdv A outer s H E) (wE E) := L2N.takes_of rfl rfl rfl rfl
  have hp := passes_of (X := cxOf (L2N.CX P w) P w K mg base N_p_best_machine "best_machine" (defScope st_p_best_machine) f cdv A outer s H E) rfl
  exact (ss_cons (s_expr (xcall g tk h_p_check_against (ra_cons (xv 0) (ra_cons (xv 1) (ra_cons (xv 2) ra_nil)))))
  (ss_cons (s_expr (xcall g tk h_p_check_discount (ra_cons (xv 3) ra_nil)))
  (ss_cons (sset g 4 (xix (xcall g tk h_p_best_plan_for (ra_cons (xcall g tk h_p_seen_by (ra_cons (xv 0) (ra_cons (xv 1) ra_nil))) (ra_cons (xv 2) (ra_cons (xv 3) ra_nil)))) re_int))
  (ss_cons (sset g 5 (xlen bl (ra_cons (xix (xcall g tk h_p_seen_by (ra_cons (xv 0) (ra_cons (xv 1) ra_nil))) re_int) ra_nil)))
  (ss_one (s_ret (xtuple bl (ra_cons (xcomp g ([("state", 6)] : List (Str × Nat)) (irng1 bl (ra_cons (xlen bl (ra_cons (xv 2) ra_nil)) ra_nil)) (fun _ _ _ _ _ => (gn g.b 6)) (fun _ _ _ _ _ => rts_nil) (fun _ _ _ _ _ => (re_tup (ra_cons (xix (xv 4) (xv 6)) (ra_cons (re_op m_mul2 (re_tup (ra_cons (xix (xix (xix (xv 2) (xv 6)) re_int) (xix (xv 4) (xv 6))) ra_nil)) (xv 5)) ra_nil))))) ra_nil))))))))
theorem c_p_best_machine (h_p_best_plan_for : CalM P w K mg base T k "best_plan_for" ["table", "machine", "discount"] F_p_best_plan_for) (h_p_check_against : CalM P w K mg base T k "check_against" ["game", "who", "machine"] F_p_check_against) (h_p_check_discount : CalM P w K mg base T k "check_discount" ["discount"] F_p_check_discount) (h_p_seen_by : CalM P w K mg base T k "seen_by" ["game", "who"] F_p_seen_by) (bl : Blt mg) {f : Addr} (F : ∃ fd, FunD K "best_machine" "best_machine" (defArgs st_p_best_machine) (defBody st_p_best_machine) (defScope st_p_best_machine) [] [] f fd) (hm : mg "best_machine" = some (.ref f)) : CalM P w K mg base T (k + 1) "best_machine" ["game", "who", "machine", "discount"] F_p_best_machine :=
  CalM.of F hm (fun _ _ _ _ _ _ us hl => match us, hl with | [_, _, _, _], _ => rfl) sc_p_best_machine fun cdv A outer s H E hr hg => d_p_best_machine h_p_best_plan_for h_p_check_against h_p_check_discount h_p_seen_by bl hr hg

abbrev N_p_judge_levels : List Str := ["game", "who", "machine", "discount", "levels", "table", "level", "choice", "moves", "own"]
abbrev st_p_judge_levels : Stmt := top 35
def M_p_judge_levels : SM := (sSeq (sDrop (mCall 3 F_p_check_against (mCons (mVar 0) (mCons (mVar 1) (mCons (mVar 2) mNil)))))
  (sSeq (sDrop (mCall 1 F_p_check_discount (mCons (mVar 3) mNil)))
  (sSeq (sAsg (mCall 2 F_p_seen_by (mCons (mVar 0) (mCons (mVar 1) mNil))) (gN 5))
  (sSeq (sIf (mT (mOr (mOp neM (mCB lenM (mCons (mVar 4) mNil)) (mCB lenM (mCons (mVar 2) mNil))) (mNot (mCB allM (mCons (mComp (List.map (·.2) ([("level", 6)] : List (Str × Nat))) (mItm (mVar 4)) (gN 6) mYes (mCall 1 F_p_is_ratio (mCons (mVar 6) mNil))) mNil))))) (sRet (mRet (.bl false))) sPass)
  (sSeq (sFor (mZip (mCons (mVar 4) (mCons (mVar 2) mNil))) (gT ((gN 6) :: ((gT ((gN 7) :: ((gN 8) :: []))) :: []))) (sFor (mRng rng1 (mCons (mCB lenM (mCons (mVar 5) mNil)) mNil)) (gN 9) (sIf (mT (mCall 2 F_p_less (mCons (mVar 6) (mCons (mCall 2 F_p_added (mCons (mTup (mCons (mOp ixM (mOp ixM (mVar 5) (mVar 9)) (mVar 7)) (mCons (mRet (.int 1)) mNil))) (mCons (mCall 2 F_p_times (mCons (mVar 3) (mCons (mOp ixM (mVar 4) (mOp ixM (mVar 8) (mVar 9))) mNil))) mNil))) mNil)))) (sRet (mRet (.bl false))) sPass)))
  (sRet (mRet (.bl true))))))))
def F_p_judge_levels : FM := runC N_p_judge_levels M_p_judge_levels
theorem sc_p_judge_levels : FnScope N_p_judge_levels ["game", "who", "machine", "discount", "levels"] (defScope st_p_judge_levels) := C8.fnScope_by (by decide +kernel)
theorem d_p_judge_levels (h_p_added : CalM P w K mg base T k "added" ["first", "second"] F_p_added) (h_p_check_against : CalM P w K mg base T k "check_against" ["game", "who", "machine"] F_p_check_against) (h_p_check_discount : CalM P w K mg base T k "check_discount" ["discount"] F_p_check_discount) (h_p_is_ratio : CalM P w K mg base T k "is_ratio" ["value"] F_p_is_ratio) (h_p_less : CalM P w K mg base T k "less" ["first", "second"] F_p_less) (h_p_seen_by : CalM P w K mg base T k "seen_by" ["game", "who"] F_p_seen_by) (h_p_times : CalM P w K mg base T k "times" ["first", "second"] F_p_times) (bl : Blt mg) {f : Addr} {cdv : Value} {A : Around} {outer : List PySem.Env} {s : Shared} {H : Hp} {E : XK} (hr : Room k (A.deeper (envOfC "judge_levels" (defScope st_p_judge_levels) s.heap.objs.size f cdv))) (hgd : A.guards = some []) :
    RSs (cxOf (L2N.CX P w) P w K mg base N_p_judge_levels "judge_levels" (defScope st_p_judge_levels) f cdv A outer s H E) T (wE E) (defBody st_p_judge_levels) M_p_judge_levels := by
  have g : Cg (cxOf (L2N.CX P w) P w K mg base N_p_judge_levels "judge_levels" (defScope st_p_judge_levels) f cdv A outer s H E) k := ⟨rfl, sc_p_judge_levels.nd, hr, hgd⟩
  have tk : L2N.Takes (cxOf (L2N.CX P w) P w K mg base N_p_judge_levels "judge_levels" (defScope st_p_judge_levels) f cdv A outer s H E) (wE E) := L2N.takes_of rfl rfl rfl rfl
  have hp := passes_of (X := cxOf (L2N.CX P w) P w K mg base N_p_judge_levels "judge_levels" (defScope st_p_judge_levels) f cdv A outer s H E) rfl
  exact (ss_cons (s_expr (xcall g tk h_p_check_against (ra_cons (xv 0) (ra_cons (xv 1) (ra_cons (xv 2) ra_nil)))))
  (ss_cons (s_expr (xcall g tk h_p_check_discount (ra_cons (xv 3) ra_nil)))
  (ss_cons (sset g 5 (xcall g tk h_p_seen_by (ra_cons (xv 0) (ra_cons (xv 1) ra_nil))))
  (ss_cons (s_if (rt_bop (rw_or (tcmp (m_ne g.u64) (xlen bl (ra_cons (xv 4) ra_nil)) (xlen bl (ra_cons (xv 2) ra_nil))) (rw_or1 (rt_not (rt_val (xall g bl (ra_cons (xcomp g ([("level", 6)] : List (Str × Nat)) (ri_seq (xv 4)) (fun _ _ _ _ _ => (gn g.b 6)) (fun _ _ _ _ _ => rts_nil) (fun _ _ _ _ _ => (xcall g.b tk0 h_p_is_ratio (ra_cons (xv 6) ra_nil)))) ra_nil))))))) (ss_one (s_ret re_bl)) ss_nil)
  (ss_cons (s_for hp g.hc (izip bl (ra_cons (xv 4) (ra_cons (xv 2) ra_nil))) (gt g (gs_cons (gn g 6) (gs_cons (gt g (gs_cons (gn g 7) (gs_cons (gn g 8) gs_nil))) gs_nil))) (ss_one (s_for hp g.hc (irng1 bl (ra_cons (xlen bl (ra_cons (xv 5) ra_nil)) ra_nil)) (gn g 9) (ss_one (s_if (rt_val (xcall g tk h_p_less (ra_cons (xv 6) (ra_cons (xcall g tk h_p_added (ra_cons (re_tup (ra_cons (xix (xix (xv 5) (xv 9)) (xv 7)) (ra_cons re_int ra_nil))) (ra_cons (xcall g tk h_p_times (ra_cons (xv 3) (ra_cons (xix (xv 4) (xix (xv 8) (xv 9))) ra_nil))) ra_nil))) ra_nil)))) (ss_one (s_ret re_bl)) ss_nil)))))
  (ss_one (s_ret re_bl)))))))
theorem c_p_judge_levels (h_p_added : CalM P w K mg base T k "added" ["first", "second"] F_p_added) (h_p_check_against : CalM P w K mg base T k "check_against" ["game", "who", "machine"] F_p_check_against) (h_p_check_discount : CalM P w K mg base T k "check_discount" ["discount"] F_p_check_discount) (h_p_is_ratio : CalM P w K mg base T k "is_ratio" ["value"] F_p_is_ratio) (h_p_less : CalM P w K mg base T k "less" ["first", "second"] F_p_less) (h_p_seen_by : CalM P w K mg base T k "seen_by" ["game", "who"] F_p_seen_by) (h_p_times : CalM P w K mg base T k "times" ["first", "second"] F_p_times) (bl : Blt mg) {f : Addr} (F : ∃ fd, FunD K "judge_levels" "judge_levels" (defArgs st_p_judge_levels) (defBody st_p_judge_levels) (defScope st_p_judge_levels) [] [] f fd) (hm : mg "judge_levels" = some (.ref f)) : CalM P w K mg base T (k + 1) "judge_levels" ["game", "who", "machine", "discount", "levels"] F_p_judge_levels :=
  CalM.of F hm (fun _ _ _ _ _ _ us hl => match us, hl with | [_, _, _, _, _], _ => rfl) sc_p_judge_levels fun cdv A outer s H E hr hg => d_p_judge_levels h_p_added h_p_check_against h_p_check_discount h_p_is_ratio h_p_less h_p_seen_by h_p_times bl hr hg

abbrev N_p_levels_paper : List Str := ["game", "who", "machine", "discount"]
abbrev st_p_levels_paper : Stmt := top 36
def M_p_levels_paper : SM := (sSeq (sDrop (mCall 3 F_p_check_against (mCons (mVar 0) (mCons (mVar 1) (mCons (mVar 2) mNil)))))
  (sSeq (sDrop (mCall 1 F_p_check_discount (mCons (mVar 3) mNil)))
  (sRet (mOp ixM (mCall 3 F_p_best_plan_for (mCons (mCall 2 F_p_seen_by (mCons (mVar 0) (mCons (mVar 1) mNil))) (mCons (mVar 2) (mCons (mVar 3) mNil)))) (mRet (.int 1))))))
def F_p_levels_paper : FM := runC N_p_levels_paper M_p_levels_paper
theorem sc_p_levels_paper : FnScope N_p_levels_paper ["game", "who", "machine", "discount"] (defScope st_p_levels_paper) := C8.fnScope_by (by decide +kernel)
theorem d_p_levels_paper (h_p_best_plan_for : CalM P w K mg base T k "best_plan_for" ["table", "machine", "discount"] F_p_best_plan_for) (h_p_check_against : CalM P w K mg base T k "check_against" ["game", "who", "machine"] F_p_check_against) (h_p_check_discount : CalM P w K mg base T k "check_discount" ["discount"] F_p_check_discount) (h_p_seen_by : CalM P w K mg base T k "seen_by" ["game", "who"] F_p_seen_by) (bl : Blt mg) {f : Addr} {cdv : Value} {A : Around} {outer : List PySem.Env} {s : Shared} {H : Hp} {E : XK} (hr : Room k (A.deeper (envOfC "levels_paper" (defScope st_p_levels_paper) s.heap.objs.size f cdv))) (hgd : A.guards = some []) :
    RSs (cxOf (L2N.CX P w) P w K mg base N_p_levels_paper "levels_paper" (defScope st_p_levels_paper) f cdv A outer s H E) T (wE E) (defBody st_p_levels_paper) M_p_levels_paper := by
  have g : Cg (cxOf (L2N.CX P w) P w K mg base N_p_levels_paper "levels_paper" (defScope st_p_levels_paper) f cdv A outer s H E) k := ⟨rfl, sc_p_levels_paper.nd, hr, hgd⟩
  have tk : L2N.Takes (cxOf (L2N.CX P w) P w K mg base N_p_levels_paper "levels_paper" (defScope st_p_levels_paper) f cdv A outer s H E) (wE E) := L2N.takes_of rfl rfl rfl rfl
  have hp := passes_of (X := cxOf (L2N.CX P w) P w K mg base N_p_levels_paper "levels_paper" (defScope st_p_levels_paper) f cdv A outer s H E) rfl
  exact (ss_cons (s_expr (xcall g tk h_p_check_against (ra_cons (xv 0) (ra_cons (xv 1) (ra_cons (xv 2) ra_nil)))))
  (ss_cons (s_expr (xcall g tk h_p_check_discount (ra_cons (xv 3) ra_nil)))
  (ss_one (s_ret (xix (xcall g tk h_p_best_plan_for (ra_cons (xcall g tk h_p_seen_by (ra_cons (xv 0) (ra_cons (xv 1) ra_nil))) (ra_cons (xv 2) (ra_cons (xv 3) ra_nil)))) re_int)))))
theorem c_p_levels_paper (h_p_best_plan_for : CalM P w K mg base T k "best_plan_for" ["table", "machine", "discount"] F_p_best_plan_for) (h_p_check_against : CalM P w K mg base T k "check_against" ["game", "who", "machine"] F_p_check_against) (h_p_check_discount : CalM P w K mg base T k "check_discount" ["discount"] F_p_check_discount) (h_p_seen_by : CalM P w K mg base T k "seen_by" ["game", "who"] F_p_seen_by) (bl : Blt mg) {f : Addr} (F : ∃ fd, FunD K "levels_paper" "levels_paper" (defArgs st_p_levels_paper) (defBody st_p_levels_paper) (defScope st_p_levels_paper) [] [] f fd) (hm : mg "levels_paper" = some (.ref f)) : CalM P w K mg base T (k + 1) "levels_paper" ["game", "who", "machine", "discount"] F_p_levels_paper :=
  CalM.of F hm (fun _ _ _ _ _ _ us hl => match us, hl with | [_, _, _, _], _ => rfl) sc_p_levels_paper fun cdv A outer s H E hr hg => d_p_levels_paper h_p_best_plan_for h_p_check_against h_p_check_discount h_p_seen_by bl hr hg

abbrev N_law_same : List Str := ["told", "due"]
abbrev st_law_same : Stmt := top 38
def M_law_same : SM := (sRet (mOp eqM (mCB reprM (mCons (mLst (mCons (mVar 0) mNil)) mNil)) (mCB reprM (mCons (mLst (mCons (mVar 1) mNil)) mNil))))
def F_law_same : FM := runC N_law_same M_law_same
theorem sc_law_same : FnScope N_law_same ["told", "due"] (defScope st_law_same) := C8.fnScope_by (by decide +kernel)
theorem d_law_same (bl : Blt mg) {f : Addr} {cdv : Value} {A : Around} {outer : List PySem.Env} {s : Shared} {H : Hp} {E : XK} (hr : Room k (A.deeper (envOfC "_law_same" (defScope st_law_same) s.heap.objs.size f cdv))) (hgd : A.guards = some []) :
    RSs (cxOf (L2N.CX P w) P w K mg base N_law_same "_law_same" (defScope st_law_same) f cdv A outer s H E) T (wE E) (defBody st_law_same) M_law_same := by
  have g : Cg (cxOf (L2N.CX P w) P w K mg base N_law_same "_law_same" (defScope st_law_same) f cdv A outer s H E) k := ⟨rfl, sc_law_same.nd, hr, hgd⟩
  have tk : L2N.Takes (cxOf (L2N.CX P w) P w K mg base N_law_same "_law_same" (defScope st_law_same) f cdv A outer s H E) (wE E) := L2N.takes_of rfl rfl rfl rfl
  have hp := passes_of (X := cxOf (L2N.CX P w) P w K mg base N_law_same "_law_same" (defScope st_law_same) f cdv A outer s H E) rfl
  exact (ss_one (s_ret (xcmp (m_eq g.u64) (xrepr g bl (ra_cons (re_lst (ra_cons (xv 0) ra_nil)) ra_nil)) (xrepr g bl (ra_cons (re_lst (ra_cons (xv 1) ra_nil)) ra_nil)))))
theorem c_law_same (bl : Blt mg) {f : Addr} (F : ∃ fd, FunD K "_law_same" "_law_same" (defArgs st_law_same) (defBody st_law_same) (defScope st_law_same) [] [] f fd) (hm : mg "_law_same" = some (.ref f)) : CalM P w K mg base T (k + 1) "_law_same" ["told", "due"] F_law_same :=
  CalM.of F hm (fun _ _ _ _ _ _ us hl => match us, hl with | [_, _], _ => rfl) sc_law_same fun cdv A outer s H E hr hg => d_law_same  bl hr hg

abbrev N_law_stream : List Str := ["script", "numbers", "cell", "rest", "k", "stirred"]
abbrev st_law_stream : Stmt := top 39
def M_law_stream : SM := (sSeq (sAsg (mLstC mNil) (gN 1))
  (sSeq (sFor (mItm (mSlice (mVar 0) mNoPart (mPart (mRet (.int 63))))) (gN 2) (sSeq (sAsg (mCB absM (mCons (mCB intM (mCons (mVar 2) mNil)) mNil)) (gN 3))
  (sIf (mT (mOp geM (mVar 3) (mOp powM (mRet (.int 10)) (mRet (.int 18))))) (sFor (mRng rng1 (mCons (mRet (.int 60)) mNil)) (gN 4) (sSeq (sDrop (mMeth appM (mVar 1) (mCons (mOp modM (mCB intM (mCons (mVar 3) mNil)) (mRet (.int 1009))) mNil)))
  (sSeq (sAsg (mOp fdivM (mVar 3) (mRet (.int 1009))) (gN 3))
  (sIf (mT (mOp eqM (mVar 3) (mRet (.int 0)))) (fun ρ μ => .bk ρ μ) sPass)))) (sSeq (sAsg (mOp modM (mCB intM (mCons (mVar 3) mNil)) (mRet (.int 2147483647))) (gN 5))
  (sFor (mRng rng1 (mCons (mRet (.int 10)) mNil)) (gN 4) (sSeq (sAsg (mOp modM (mCB intM (mCons (mOp addM (mOp addM (mOp mulM2 (mVar 5) (mRet (.int 48271))) (mOp mulM2 (mRet (.int 7)) (mVar 4))) (mRet (.int 11))) mNil)) (mRet (.int 2147483647))) (gN 5))
  (sDrop (mMeth appM (mVar 1) (mCons (mOp modM (mOp modM (mCB intM (mCons (mOp addM (mOp mulM2 (mVar 5) (mRet (.int 69621))) (mVar 4)) mNil)) (mRet (.int 2147483629))) (mRet (.int 1009))) mNil)))))))))
  (sSeq (sIf (mT (mOp eqM (mCB lenM (mCons (mVar 1) mNil)) (mRet (.int 0)))) (sDrop (mMeth appM (mVar 1) (mCons (mRet (.int 0)) mNil))) sPass)
  (sRet (mVar 1)))))
def F_law_stream : FM := runC N_law_stream M_law_stream
theorem sc_law_stream : FnScope N_law_stream ["script"] (defScope st_law_stream) := C8.fnScope_by (by decide +kernel)
theorem d_law_stream (bl : Blt mg) {f : Addr} {cdv : Value} {A : Around} {outer : List PySem.Env} {s : Shared} {H : Hp} {E : XK} (hr : Room k (A.deeper (envOfC "_law_stream" (defScope st_law_stream) s.heap.objs.size f cdv))) (hgd : A.guards = some []) :
    RSs (cxOf (L2N.CX P w) P w K mg base N_law_stream "_law_stream" (defScope st_law_stream) f cdv A outer s H E) T (wE E) (defBody st_law_stream) M_law_stream := by
  have g : Cg (cxOf (L2N.CX P w) P w K mg base N_law_stream "_law_stream" (defScope st_law_stream) f cdv A outer s H E) k := ⟨rfl, sc_law_stream.nd, hr, hgd⟩
  have tk : L2N.Takes (cxOf (L2N.CX P w) P w K mg base N_law_stream "_law_stream" (defScope st_law_stream) f cdv A outer s H E) (wE E) := L2N.takes_of rfl rfl rfl rfl
  have hp := passes_of (X := cxOf (L2N.CX P w) P w K mg base N_law_stream "_law_stream" (defScope st_law_stream) f cdv A outer s H E) rfl
  exact (ss_cons (sset g 1 (re_lstC ra_nil))
  (ss_cons (s_for hp g.hc (ri_seq (re_slice (xv 0) rp_none (rp_some re_int))) (gn g 2) (ss_cons (sset g 3 (xabs bl (ra_cons (xint bl (ra_cons (xv 2) ra_nil)) ra_nil)))
  (ss_one (s_if (tcmp m_ge (xv 3) (re_op m_pow re_int re_int)) (ss_one (s_for hp g.hc (irng1 bl (ra_cons re_int ra_nil)) (gn g 4) (ss_cons (s_expr (re_append (xv 1) (ra_cons (re_op m_mod (xint bl (ra_cons (xv 3) ra_nil)) re_int) ra_nil)))
  (ss_cons (sset g 3 (re_op m_fdiv (xv 3) re_int))
  (ss_one (s_if (tcmp (m_eq g.u64) (xv 3) re_int) (ss_one s_break) ss_nil)))))) (ss_cons (sset g 5 (re_op m_mod (xint bl (ra_cons (xv 3) ra_nil)) re_int))
  (ss_one (s_for hp g.hc (irng1 bl (ra_cons re_int ra_nil)) (gn g 4) (ss_cons (sset g 5 (re_op m_mod (xint bl (ra_cons (re_op m_add (re_op m_add (re_op m_mul2 (xv 5) re_int) (re_op m_mul2 re_int (xv 4))) re_int) ra_nil)) re_int))
  (ss_one (s_expr (re_append (xv 1) (ra_cons (re_op m_mod (re_op m_mod (xint bl (ra_cons (re_op m_add (re_op m_mul2 (xv 5) re_int) (xv 4)) ra_nil)) re_int) re_int) ra_nil))))))))))))
  (ss_cons (s_if (tcmp (m_eq g.u64) (xlen bl (ra_cons (xv 1) ra_nil)) re_int) (ss_one (s_expr (re_append (xv 1) (ra_cons re_int ra_nil)))) ss_nil)
  (ss_one (s_ret (xv 1))))))
theorem c_law_stream (bl : Blt mg) {f : Addr} (F : ∃ fd, FunD K "_law_stream" "_law_stream" (defArgs st_law_stream) (defBody st_law_stream) (defScope st_law_stream) [] [] f fd) (hm : mg "_law_stream" = some (.ref f)) : CalM P w K mg base T (k + 1) "_law_stream" ["script"] F_law_stream :=
  CalM.of F hm (fun _ _ _ _ _ _ us hl => match us, hl with | [_], _ => rfl) sc_law_stream fun cdv A outer s H E hr hg => d_law_stream  bl hr hg

abbrev N_law_next : List Str := ["state", "many", "turn"]
abbrev st_law_next : Stmt := top 40
def M_law_next : SM := (sSeq (sAsg (mOp addM (mOp ixM (mVar 0) (mRet (.int 1))) (mRet (.int 1))) (gIx (mVar 0) (mRet (.int 1))))
  (sSeq (sAsg (mOp fdivM (mOp ixM (mVar 0) (mRet (.int 1))) (mCB lenM (mCons (mOp ixM (mVar 0) (mRet (.int 0))) mNil))) (gN 2))
  (sRet (mOp modM (mCB intM (mCons (mOp addM (mOp addM (mOp ixM (mOp ixM (mVar 0) (mRet (.int 0))) (mOp modM (mOp ixM (mVar 0) (mRet (.int 1))) (mCB lenM (mCons (mOp ixM (mVar 0) (mRet (.int 0))) mNil)))) (mOp mulM2 (mVar 2) (mRet (.int 389)))) (mOp mulM2 (mOp mulM2 (mOp ixM (mVar 0) (mRet (.int 1))) (mVar 2)) (mRet (.int 17)))) mNil)) (mVar 1)))))
def F_law_next : FM := runC N_law_next M_law_next
theorem sc_law_next : FnScope N_law_next ["state", "many"] (defScope st_law_next) := C8.fnScope_by (by decide +kernel)
theorem d_law_next (bl : Blt mg) {f : Addr} {cdv : Value} {A : Around} {outer : List PySem.Env} {s : Shared} {H : Hp} {E : XK} (hr : Room k (A.deeper (envOfC "_law_next" (defScope st_law_next) s.heap.objs.size f cdv))) (hgd : A.guards = some []) :
    RSs (cxOf (L2N.CX P w) P w K mg base N_law_next "_law_next" (defScope st_law_next) f cdv A outer s H E) T (wE E) (defBody st_law_next) M_law_next := by
  have g : Cg (cxOf (L2N.CX P w) P w K mg base N_law_next "_law_next" (defScope st_law_next) f cdv A outer s H E) k := ⟨rfl, sc_law_next.nd, hr, hgd⟩
  have tk : L2N.Takes (cxOf (L2N.CX P w) P w K mg base N_law_next "_law_next" (defScope st_law_next) f cdv A outer s H E) (wE E) := L2N.takes_of rfl rfl rfl rfl
  have hp := passes_of (X := cxOf (L2N.CX P w) P w K mg base N_law_next "_law_next" (defScope st_law_next) f cdv A outer s H E) rfl
  exact (ss_cons (s_asg (re_op m_add (xix (xv 0) re_int) re_int) (g_ix (xv 0) re_int))
  (ss_cons (sset g 2 (re_op m_fdiv (xix (xv 0) re_int) (xlen bl (ra_cons (xix (xv 0) re_int) ra_nil))))
  (ss_one (s_ret (re_op m_mod (xint bl (ra_cons (re_op m_add (re_op m_add (xix (xix (xv 0) re_int) (re_op m_mod (xix (xv 0) re_int) (xlen bl (ra_cons (xix (xv 0) re_int) ra_nil)))) (re_op m_mul2 (xv 2) re_int)) (re_op m_mul2 (re_op m_mul2 (xix (xv 0) re_int) (xv 2)) re_int)) ra_nil)) (xv 1))))))
theorem c_law_next (bl : Blt mg) {f : Addr} (F : ∃ fd, FunD K "_law_next" "_law_next" (defArgs st_law_next) (defBody st_law_next) (defScope st_law_next) [] [] f fd) (hm : mg "_law_next" = some (.ref f)) : CalM P w K mg base T (k + 1) "_law_next" ["state", "many"] F_law_next :=
  CalM.of F hm (fun _ _ _ _ _ _ us hl => match us, hl with | [_, _], _ => rfl) sc_law_next fun cdv A outer s H E hr hg => d_law_next  bl hr hg

abbrev N_law_told : List Str := ["call", "e", "kinds", "names", "k"]
abbrev st_law_told : Stmt := top 41
theorem sc_law_told : FnScope N_law_told ["call"] (defScope st_law_told) := C8.fnScope_by (by decide +kernel)
theorem tellR {X : Cx} {W : WX} {C : Fin 5 → Addr} {gt c Pt CS : Addr} {k : Nat} (F : ∃ fd, FunD X.K "_law_told" "_law_told" (defArgs st_law_told) (defBody st_law_told) (defScope st_law_told) [] [] gt fd) (hm : X.mg "_law_told" = some (.ref gt)) (hmc : X.mg "ChooseError" = some (.ref CS))
    (er : Errs X.K X.mg C) (hx : ∀ i : Fin 5, i.val < 3 → PySem.W.exmOne X.K (.ref (C i)) (.ref CS) = some true) (bl : Blt X.mg) (TB : LamX.TabB X.base X.mg c Pt) (hcode : X.env.code = .ref c) (hmT : (Pt, X.env.qual ++ "<lambda>") ∈ T) (hu : ∀ p ∈ T, p.1 = Pt → p.2 = X.env.qual ++ "<lambda>") (hr : Room (k + 2) X.A) (hgd : X.A.guards = some [])
    (hgx : Gl X "_law_told") : TellR X T W "_law_told" (ksE C) k := by
  obtain ⟨fd, F⟩ := F
  refine tellR_of (Ng := N_law_told) (a := "call") (ce := "ChooseError") (en := "e") F hm hmc (fun _ _ _ _ _ _ us hl => match us, hl with | [_], _ => rfl) sc_law_told rfl (Or.inl rfl) rfl rfl rfl (by decide) er hx TB hcode hmT hu hr hgd hgx (by decide) (by decide) (by decide) rfl ?_
  intro i cdv kd hi s H e oe pn hk hz hf hot
  have u64 : ((toldX X N_law_told "_law_told" (defScope st_law_told) gt cdv s H).suite e ((e, oe) :: pn)).A.units + 64 < cLine := by
    have := hr.un
    show X.A.units + 3 + 64 < cLine
    omega
  subst hk
  exact ss_cons (sset0 sc_law_told.nd 2 (re_lst (ra_cons (xis (X := toldX X N_law_told "_law_told" (defScope st_law_told) gt cdv s H) er hi bl hz hf er.g0 (j := 1)) (ra_cons (xis (X := toldX X N_law_told "_law_told" (defScope st_law_told) gt cdv s H) er hi bl hz hf er.g1 (j := 1)) (ra_cons (xis (X := toldX X N_law_told "_law_told" (defScope st_law_told) gt cdv s H) er hi bl hz hf er.g2 (j := 1)) (ra_cons (xis (X := toldX X N_law_told "_law_told" (defScope st_law_told) gt cdv s H) er hi bl hz hf er.g3 (j := 1)) (ra_cons (xis (X := toldX X N_law_told "_law_told" (defScope st_law_told) gt cdv s H) er hi bl hz hf er.g4 (j := 1)) ra_nil)))))))
    (ss_cons (s_setHot hot sc_law_told.nd rfl rfl rfl rfl bl.range (ra_cons re_int ra_nil) (blkOk_by rfl) (by decide) (fun _ _ _ _ _ => gn0 sc_law_told.nd 4) (fun _ _ _ _ _ => rts_one (rt_val (xix (xv 2) (xv 4)))) (fun _ _ _ _ _ => xix (re_lst (ra_cons re_str (ra_cons re_str (ra_cons re_str (ra_cons re_str (ra_cons re_str ra_nil)))))) (xv 4)))
    (ss_one (s_ret (re_tup (ra_cons (xix (re_lst (ra_cons re_str (ra_cons (xix (re_op m_add (xv 3) (re_lst (ra_cons re_str ra_nil))) re_int) ra_nil))) (xint bl (ra_cons (xcmp (m_eq u64) (xlen bl (ra_cons (xv 3) ra_nil)) re_int) ra_nil))) ra_nil)))))

abbrev N_law_gcd : List Str := ["one", "other", "turn"]
abbrev st_law_gcd : Stmt := top 42
def M_law_gcd : SM := (sSeq (sFor (mRng rng1 (mCons (mRet (.int 400)) mNil)) (gN 2) (sSeq (sIf (mT (mOp eqM (mVar 1) (mRet (.int 0)))) (fun ρ μ => .bk ρ μ) sPass)
  (sPar 0 1 (mCons (mVar 1) (mCons (mOp modM (mVar 0) (mVar 1)) mNil)))))
  (sRet (mCB absM (mCons (mVar 0) mNil))))
def F_law_gcd : FM := runC N_law_gcd M_law_gcd
theorem sc_law_gcd : FnScope N_law_gcd ["one", "other"] (defScope st_law_gcd) := C8.fnScope_by (by decide +kernel)
theorem d_law_gcd (bl : Blt mg) {f : Addr} {cdv : Value} {A : Around} {outer : List PySem.Env} {s : Shared} {H : Hp} {E : XK} (hr : Room k (A.deeper (envOfC "_law_gcd" (defScope st_law_gcd) s.heap.objs.size f cdv))) (hgd : A.guards = some []) :
    RSs (cxOf (L2N.CX P w) P w K mg base N_law_gcd "_law_gcd" (defScope st_law_gcd) f cdv A outer s H E) T (wE E) (defBody st_law_gcd) M_law_gcd := by
  have g : Cg (cxOf (L2N.CX P w) P w K mg base N_law_gcd "_law_gcd" (defScope st_law_gcd) f cdv A outer s H E) k := ⟨rfl, sc_law_gcd.nd, hr, hgd⟩
  have tk : L2N.Takes (cxOf (L2N.CX P w) P w K mg base N_law_gcd "_law_gcd" (defScope st_law_gcd) f cdv A outer s H E) (wE E) := L2N.takes_of rfl rfl rfl rfl
  have hp := passes_of (X := cxOf (L2N.CX P w) P w K mg base N_law_gcd "_law_gcd" (defScope st_law_gcd) f cdv A outer s H E) rfl
  exact (ss_cons (s_for hp g.hc (irng1 bl (ra_cons re_int ra_nil)) (gn g 2) (ss_cons (s_if (tcmp (m_eq g.u64) (xv 1) re_int) (ss_one s_break) ss_nil)
  (ss_one (spar g 0 1 (ra_cons (xv 1) (ra_cons (re_op m_mod (xv 0) (xv 1)) ra_nil))))))
  (ss_one (s_ret (xabs bl (ra_cons (xv 0) ra_nil)))))
theorem c_law_gcd (bl : Blt mg) {f : Addr} (F : ∃ fd, FunD K "_law_gcd" "_law_gcd" (defArgs st_law_gcd) (defBody st_law_gcd) (defScope st_law_gcd) [] [] f fd) (hm : mg "_law_gcd" = some (.ref f)) : CalM P w K mg base T (k + 1) "_law_gcd" ["one", "other"] F_law_gcd :=
  CalM.of F hm (fun _ _ _ _ _ _ us hl => match us, hl with | [_, _], _ => rfl) sc_law_gcd fun cdv A outer s H E hr hg => d_law_gcd  bl hr hg

abbrev N_law_fraction : List Str := ["top", "below", "part"]
abbrev st_law_fraction : Stmt := top 43
def M_law_fraction : SM := (sSeq (sAsg (mCall 2 F_law_gcd (mCons (mVar 0) (mCons (mVar 1) mNil))) (gN 2))
  (sRet (mTup (mCons (mOp fdivM (mVar 0) (mVar 2)) (mCons (mOp fdivM (mVar 1) (mVar 2)) mNil)))))
def F_law_fraction : FM := runC N_law_fraction M_law_fraction
theorem sc_law_fraction : FnScope N_law_fraction ["top", "below"] (defScope st_law_fraction) := C8.fnScope_by (by decide +kernel)
theorem d_law_fraction (h_law_gcd : CalM P w K mg base T k "_law_gcd" ["one", "other"] F_law_gcd) (bl : Blt mg) {f : Addr} {cdv : Value} {A : Around} {outer : List PySem.Env} {s : Shared} {H : Hp} {E : XK} (hr : Room k (A.deeper (envOfC "_law_fraction" (defScope st_law_fraction) s.heap.objs.size f cdv))) (hgd : A.guards = some []) :
    RSs (cxOf (L2N.CX P w) P w K mg base N_law_fraction "_law_fraction" (defScope st_law_fraction) f cdv A outer s H E) T (wE E) (defBody st_law_fraction) M_law_fraction := by
  have g : Cg (cxOf (L2N.CX P w) P w K mg base N_law_fraction "_law_fraction" (defScope st_law_fraction) f cdv A outer s H E) k := ⟨rfl, sc_law_fraction.nd, hr, hgd⟩
  have tk : L2N.Takes (cxOf (L2N.CX P w) P w K mg base N_law_fraction "_law_fraction" (defScope st_law_fraction) f cdv A outer s H E) (wE E) := L2N.takes_of rfl rfl rfl rfl
  have hp := passes_of (X := cxOf (L2N.CX P w) P w K mg base N_law_fraction "_law_fraction" (defScope st_law_fraction) f cdv A outer s H E) rfl
  exact (ss_cons (sset g 2 (xcall g tk h_law_gcd (ra_cons (xv 0) (ra_cons (xv 1) ra_nil))))
  (ss_one (s_ret (re_tup (ra_cons (re_op m_fdiv (xv 0) (xv 2)) (ra_cons (re_op m_fdiv (xv 1) (xv 2)) ra_nil))))))
theorem c_law_fraction (h_law_gcd : CalM P w K mg base T k "_law_gcd" ["one", "other"] F_law_gcd) (bl : Blt mg) {f : Addr} (F : ∃ fd, FunD K "_law_fraction" "_law_fraction" (defArgs st_law_fraction) (defBody st_law_fraction) (defScope st_law_fraction) [] [] f fd) (hm : mg "_law_fraction" = some (.ref f)) : CalM P w K mg base T (k + 1) "_law_fraction" ["top", "below"] F_law_fraction :=
  CalM.of F hm (fun _ _ _ _ _ _ us hl => match us, hl with | [_, _], _ => rfl) sc_law_fraction fun cdv A outer s H E hr hg => d_law_fraction h_law_gcd bl hr hg

abbrev N_law_plus : List Str := ["one", "other"]
abbrev st_law_plus : Stmt := top 44
def M_law_plus : SM := (sRet (mCall 2 F_law_fraction (mCons (mOp addM (mOp mulM2 (mOp ixM (mVar 0) (mRet (.int 0))) (mOp ixM (mVar 1) (mRet (.int 1)))) (mOp mulM2 (mOp ixM (mVar 1) (mRet (.int 0))) (mOp ixM (mVar 0) (mRet (.int 1))))) (mCons (mOp mulM2 (mOp ixM (mVar 0) (mRet (.int 1))) (mOp ixM (mVar 1) (mRet (.int 1)))) mNil))))
def F_law_plus : FM := runC N_law_plus M_law_plus
theorem sc_law_plus : FnScope N_law_plus ["one", "other"] (defScope st_law_plus) := C8.fnScope_by (by decide +kernel)
theorem d_law_plus (h_law_fraction : CalM P w K mg base T k "_law_fraction" ["top", "below"] F_law_fraction) (bl : Blt mg) {f : Addr} {cdv : Value} {A : Around} {outer : List PySem.Env} {s : Shared} {H : Hp} {E : XK} (hr : Room k (A.deeper (envOfC "_law_plus" (defScope st_law_plus) s.heap.objs.size f cdv))) (hgd : A.guards = some []) :
    RSs (cxOf (L2N.CX P w) P w K mg base N_law_plus "_law_plus" (defScope st_law_plus) f cdv A outer s H E) T (wE E) (defBody st_law_plus) M_law_plus := by
  have g : Cg (cxOf (L2N.CX P w) P w K mg base N_law_plus "_law_plus" (defScope st_law_plus) f cdv A outer s H E) k := ⟨rfl, sc_law_plus.nd, hr, hgd⟩
  have tk : L2N.Takes (cxOf (L2N.CX P w) P w K mg base N_law_plus "_law_plus" (defScope st_law_plus) f cdv A outer s H E) (wE E) := L2N.takes_of rfl rfl rfl rfl
  have hp := passes_of (X := cxOf (L2N.CX P w) P w K mg base N_law_plus "_law_plus" (defScope st_law_plus) f cdv A outer s H E) rfl
  exact (ss_one (s_ret (xcall g tk h_law_fraction (ra_cons (re_op m_add (re_op m_mul2 (xix (xv 0) re_int) (xix (xv 1) re_int)) (re_op m_mul2 (xix (xv 1) re_int) (xix (xv 0) re_int))) (ra_cons (re_op m_mul2 (xix (xv 0) re_int) (xix (xv 1) re_int)) ra_nil)))))
theorem c_law_plus (h_law_fraction : CalM P w K mg base T k "_law_fraction" ["top", "below"] F_law_fraction) (bl : Blt mg) {f : Addr} (F : ∃ fd, FunD K "_law_plus" "_law_plus" (defArgs st_law_plus) (defBody st_law_plus) (defScope st_law_plus) [] [] f fd) (hm : mg "_law_plus" = some (.ref f)) : CalM P w K mg base T (k + 1) "_law_plus" ["one", "other"] F_law_plus :=
  CalM.of F hm (fun _ _ _ _ _ _ us hl => match us, hl with | [_, _], _ => rfl) sc_law_plus fun cdv A outer s H E hr hg => d_law_plus h_law_fraction bl hr hg

abbrev N_law_times : List Str := ["one", "other"]
abbrev st_law_times : Stmt := top 45
def M_law_times : SM := (sRet (mCall 2 F_law_fraction (mCons (mOp mulM2 (mOp ixM (mVar 0) (mRet (.int 0))) (mOp ixM (mVar 1) (mRet (.int 0)))) (mCons (mOp mulM2 (mOp ixM (mVar 0) (mRet (.int 1))) (mOp ixM (mVar 1) (mRet (.int 1)))) mNil))))
def F_law_times : FM := runC N_law_times M_law_times
theorem sc_law_times : FnScope N_law_times ["one", "other"] (defScope st_law_times) := C8.fnScope_by (by decide +kernel)
theorem d_law_times (h_law_fraction : CalM P w K mg base T k "_law_fraction" ["top", "below"] F_law_fraction) (bl : Blt mg) {f : Addr} {cdv : Value} {A : Around} {outer : List PySem.Env} {s : Shared} {H : Hp} {E : XK} (hr : Room k (A.deeper (envOfC "_law_times" (defScope st_law_times) s.heap.objs.size f cdv))) (hgd : A.guards = some []) :
    RSs (cxOf (L2N.CX P w) P w K mg base N_law_times "_law_times" (defScope st_law_times) f cdv A outer s H E) T (wE E) (defBody st_law_times) M_law_times := by
  have g : Cg (cxOf (L2N.CX P w) P w K mg base N_law_times "_law_times" (defScope st_law_times) f cdv A outer s H E) k := ⟨rfl, sc_law_times.nd, hr, hgd⟩
  have tk : L2N.Takes (cxOf (L2N.CX P w) P w K mg base N_law_times "_law_times" (defScope st_law_times) f cdv A outer s H E) (wE E) := L2N.takes_of rfl rfl rfl rfl
  have hp := passes_of (X := cxOf (L2N.CX P w) P w K mg base N_law_times "_law_times" (defScope st_law_times) f cdv A outer s H E) rfl
  exact (ss_one (s_ret (xcall g tk h_law_fraction (ra_cons (re_op m_mul2 (xix (xv 0) re_int) (xix (xv 1) re_int)) (ra_cons (re_op m_mul2 (xix (xv 0) re_int) (xix (xv 1) re_int)) ra_nil)))))
theorem c_law_times (h_law_fraction : CalM P w K mg base T k "_law_fraction" ["top", "below"] F_law_fraction) (bl : Blt mg) {f : Addr} (F : ∃ fd, FunD K "_law_times" "_law_times" (defArgs st_law_times) (defBody st_law_times) (defScope st_law_times) [] [] f fd) (hm : mg "_law_times" = some (.ref f)) : CalM P w K mg base T (k + 1) "_law_times" ["one", "other"] F_law_times :=
  CalM.of F hm (fun _ _ _ _ _ _ us hl => match us, hl with | [_, _], _ => rfl) sc_law_times fun cdv A outer s H E hr hg => d_law_times h_law_fraction bl hr hg

abbrev N_law_above : List Str := ["one", "other"]
abbrev st_law_above : Stmt := top 46
def M_law_above : SM := (sRet (mOp gtM (mOp mulM2 (mOp ixM (mVar 0) (mRet (.int 0))) (mOp ixM (mVar 1) (mRet (.int 1)))) (mOp mulM2 (mOp ixM (mVar 1) (mRet (.int 0))) (mOp ixM (mVar 0) (mRet (.int 1))))))
def F_law_above : FM := runC N_law_above M_law_above
theorem sc_law_above : FnScope N_law_above ["one", "other"] (defScope st_law_above) := C8.fnScope_by (by decide +kernel)
theorem d_law_above (bl : Blt mg) {f : Addr} {cdv : Value} {A : Around} {outer : List PySem.Env} {s : Shared} {H : Hp} {E : XK} (hr : Room k (A.deeper (envOfC "_law_above" (defScope st_law_above) s.heap.objs.size f cdv))) (hgd : A.guards = some []) :
    RSs (cxOf (L2N.CX P w) P w K mg base N_law_above "_law_above" (defScope st_law_above) f cdv A outer s H E) T (wE E) (defBody st_law_above) M_law_above := by
  have g : Cg (cxOf (L2N.CX P w) P w K mg base N_law_above "_law_above" (defScope st_law_above) f cdv A outer s H E) k := ⟨rfl, sc_law_above.nd, hr, hgd⟩
  have tk : L2N.Takes (cxOf (L2N.CX P w) P w K mg base N_law_above "_law_above" (defScope st_law_above) f cdv A outer s H E) (wE E) := L2N.takes_of rfl rfl rfl rfl
  have hp := passes_of (X := cxOf (L2N.CX P w) P w K mg base N_law_above "_law_above" (defScope st_law_above) f cdv A outer s H E) rfl
  exact (ss_one (s_ret (xcmp m_gt (re_op m_mul2 (xix (xv 0) re_int) (xix (xv 1) re_int)) (re_op m_mul2 (xix (xv 1) re_int) (xix (xv 0) re_int)))))
theorem c_law_above (bl : Blt mg) {f : Addr} (F : ∃ fd, FunD K "_law_above" "_law_above" (defArgs st_law_above) (defBody st_law_above) (defScope st_law_above) [] [] f fd) (hm : mg "_law_above" = some (.ref f)) : CalM P w K mg base T (k + 1) "_law_above" ["one", "other"] F_law_above :=
  CalM.of F hm (fun _ _ _ _ _ _ us hl => match us, hl with | [_, _], _ => rfl) sc_law_above fun cdv A outer s H E hr hg => d_law_above  bl hr hg

abbrev N_law_is_ratio : List Str := ["part"]
abbrev st_law_is_ratio : Stmt := top 47
def M_law_is_ratio : SM := (sRet (mAnd (mOp geM (mOp ixM (mVar 0) (mRet (.int 1))) (mRet (.int 1))) (mOp eqM (mCall 2 F_law_fraction (mCons (mOp ixM (mVar 0) (mRet (.int 0))) (mCons (mOp ixM (mVar 0) (mRet (.int 1))) mNil))) (mVar 0))))
def F_law_is_ratio : FM := runC N_law_is_ratio M_law_is_ratio
theorem sc_law_is_ratio : FnScope N_law_is_ratio ["part"] (defScope st_law_is_ratio) := C8.fnScope_by (by decide +kernel)
theorem d_law_is_ratio (h_law_fraction : CalM P w K mg base T k "_law_fraction" ["top", "below"] F_law_fraction) (bl : Blt mg) {f : Addr} {cdv : Value} {A : Around} {outer : List PySem.Env} {s : Shared} {H : Hp} {E : XK} (hr : Room k (A.deeper (envOfC "_law_is_ratio" (defScope st_law_is_ratio) s.heap.objs.size f cdv))) (hgd : A.guards = some []) :
    RSs (cxOf (L2N.CX P w) P w K mg base N_law_is_ratio "_law_is_ratio" (defScope st_law_is_ratio) f cdv A outer s H E) T (wE E) (defBody st_law_is_ratio) M_law_is_ratio := by
  have g : Cg (cxOf (L2N.CX P w) P w K mg base N_law_is_ratio "_law_is_ratio" (defScope st_law_is_ratio) f cdv A outer s H E) k := ⟨rfl, sc_law_is_ratio.nd, hr, hgd⟩
  have tk : L2N.Takes (cxOf (L2N.CX P w) P w K mg base N_law_is_ratio "_law_is_ratio" (defScope st_law_is_ratio) f cdv A outer s H E) (wE E) := L2N.takes_of rfl rfl rfl rfl
  have hp := passes_of (X := cxOf (L2N.CX P w) P w K mg base N_law_is_ratio "_law_is_ratio" (defScope st_law_is_ratio) f cdv A outer s H E) rfl
  exact (ss_one (s_ret (re_and (xcmp m_ge (xix (xv 0) re_int) re_int) (re_one (xcmp (m_eq g.u64) (xcall g tk h_law_fraction (ra_cons (xix (xv 0) re_int) (ra_cons (xix (xv 0) re_int) ra_nil))) (xv 0))))))
theorem c_law_is_ratio (h_law_fraction : CalM P w K mg base T k "_law_fraction" ["top", "below"] F_law_fraction) (bl : Blt mg) {f : Addr} (F : ∃ fd, FunD K "_law_is_ratio" "_law_is_ratio" (defArgs st_law_is_ratio) (defBody st_law_is_ratio) (defScope st_law_is_ratio) [] [] f fd) (hm : mg "_law_is_ratio" = some (.ref f)) : CalM P w K mg base T (k + 1) "_law_is_ratio" ["part"] F_law_is_ratio :=
  CalM.of F hm (fun _ _ _ _ _ _ us hl => match us, hl with | [_], _ => rfl) sc_law_is_ratio fun cdv A outer s H E hr hg => d_law_is_ratio h_law_fraction bl hr hg

abbrev N_law_mean : List Str := ["numbers", "mix", "total", "k"]
abbrev st_law_mean : Stmt := top 48
def M_law_mean : SM := (sSeq (sAsg (mTup (mCons (mRet (.int 0)) (mCons (mRet (.int 1)) mNil))) (gN 2))
  (sSeq (sFor (mRng rng1 (mCons (mCB lenM (mCons (mVar 1) mNil)) mNil)) (gN 3) (sAsg (mCall 2 F_law_plus (mCons (mVar 2) (mCons (mCall 2 F_law_times (mCons (mTup (mCons (mOp ixM (mVar 0) (mVar 3)) (mCons (mRet (.int 1)) mNil))) (mCons (mOp ixM (mVar 1) (mVar 3)) mNil))) mNil))) (gN 2)))
  (sRet (mVar 2))))
def F_law_mean : FM := runC N_law_mean M_law_mean
theorem sc_law_mean : FnScope N_law_mean ["numbers", "mix"] (defScope st_law_mean) := C8.fnScope_by (by decide +kernel)
theorem d_law_mean (h_law_plus : CalM P w K mg base T k "_law_plus" ["one", "other"] F_law_plus) (h_law_times : CalM P w K mg base T k "_law_times" ["one", "other"] F_law_times) (bl : Blt mg) {f : Addr} {cdv : Value} {A : Around} {outer : List PySem.Env} {s : Shared} {H : Hp} {E : XK} (hr : Room k (A.deeper (envOfC "_law_mean" (defScope st_law_mean) s.heap.objs.size f cdv))) (hgd : A.guards = some []) :
    RSs (cxOf (L2N.CX P w) P w K mg base N_law_mean "_law_mean" (defScope st_law_mean) f cdv A outer s H E) T (wE E) (defBody st_law_mean) M_law_mean := by
  have g : Cg (cxOf (L2N.CX P w) P w K mg base N_law_mean "_law_mean" (defScope st_law_mean) f cdv A outer s H E) k := ⟨rfl, sc_law_mean.nd, hr, hgd⟩
  have tk : L2N.Takes (cxOf (L2N.CX P w) P w K mg base N_law_mean "_law_mean" (defScope st_law_mean) f cdv A outer s H E) (wE E) := L2N.takes_of rfl rfl rfl rfl
  have hp := passes_of (X := cxOf (L2N.CX P w) P w K mg base N_law_mean "_law_mean" (defScope st_law_mean) f cdv A outer s H E) rfl
  exact (ss_cons (sset g 2 (re_tup (ra_cons re_int (ra_cons re_int ra_nil))))
  (ss_cons (s_for hp g.hc (irng1 bl (ra_cons (xlen bl (ra_cons (xv 1) ra_nil)) ra_nil)) (gn g 3) (ss_one (sset g 2 (xcall g tk h_law_plus (ra_cons (xv 2) (ra_cons (xcall g tk h_law_times (ra_cons (re_tup (ra_cons (xix (xv 0) (xv 3)) (ra_cons re_int ra_nil))) (ra_cons (xix (xv 1) (xv 3)) ra_nil))) ra_nil))))))
  (ss_one (s_ret (xv 2)))))
theorem c_law_mean (h_law_plus : CalM P w K mg base T k "_law_plus" ["one", "other"] F_law_plus) (h_law_times : CalM P w K mg base T k "_law_times" ["one", "other"] F_law_times) (bl : Blt mg) {f : Addr} (F : ∃ fd, FunD K "_law_mean" "_law_mean" (defArgs st_law_mean) (defBody st_law_mean) (defScope st_law_mean) [] [] f fd) (hm : mg "_law_mean" = some (.ref f)) : CalM P w K mg base T (k + 1) "_law_mean" ["numbers", "mix"] F_law_mean :=
  CalM.of F hm (fun _ _ _ _ _ _ us hl => match us, hl with | [_, _], _ => rfl) sc_law_mean fun cdv A outer s H E hr hg => d_law_mean h_law_plus h_law_times bl hr hg

abbrev N_law_most : List Str := ["values", "best", "part"]
abbrev st_law_most : Stmt := top 49
def M_law_most : SM := (sSeq (sAsg (mOp ixM (mVar 0) (mRet (.int 0))) (gN 1))
  (sSeq (sFor (mItm (mVar 0)) (gN 2) (sIf (mT (mCall 2 F_law_above (mCons (mVar 2) (mCons (mVar 1) mNil)))) (sAsg (mVar 2) (gN 1)) sPass))
  (sRet (mVar 1))))
def F_law_most : FM := runC N_law_most M_law_most
theorem sc_law_most : FnScope N_law_most ["values"] (defScope st_law_most) := C8.fnScope_by (by decide +kernel)
theorem d_law_most (h_law_above : CalM P w K mg base T k "_law_above" ["one", "other"] F_law_above) (bl : Blt mg) {f : Addr} {cdv : Value} {A : Around} {outer : List PySem.Env} {s : Shared} {H : Hp} {E : XK} (hr : Room k (A.deeper (envOfC "_law_most" (defScope st_law_most) s.heap.objs.size f cdv))) (hgd : A.guards = some []) :
    RSs (cxOf (L2N.CX P w) P w K mg base N_law_most "_law_most" (defScope st_law_most) f cdv A outer s H E) T (wE E) (defBody st_law_most) M_law_most := by
  have g : Cg (cxOf (L2N.CX P w) P w K mg base N_law_most "_law_most" (defScope st_law_most) f cdv A outer s H E) k := ⟨rfl, sc_law_most.nd, hr, hgd⟩
  have tk : L2N.Takes (cxOf (L2N.CX P w) P w K mg base N_law_most "_law_most" (defScope st_law_most) f cdv A outer s H E) (wE E) := L2N.takes_of rfl rfl rfl rfl
  have hp := passes_of (X := cxOf (L2N.CX P w) P w K mg base N_law_most "_law_most" (defScope st_law_most) f cdv A outer s H E) rfl
  exact (ss_cons (sset g 1 (xix (xv 0) re_int))
  (ss_cons (s_for hp g.hc (ri_seq (xv 0)) (gn g 2) (ss_one (s_if (rt_val (xcall g tk h_law_above (ra_cons (xv 2) (ra_cons (xv 1) ra_nil)))) (ss_one (sset g 1 (xv 2))) ss_nil)))
  (ss_one (s_ret (xv 1)))))
theorem c_law_most (h_law_above : CalM P w K mg base T k "_law_above" ["one", "other"] F_law_above) (bl : Blt mg) {f : Addr} (F : ∃ fd, FunD K "_law_most" "_law_most" (defArgs st_law_most) (defBody st_law_most) (defScope st_law_most) [] [] f fd) (hm : mg "_law_most" = some (.ref f)) : CalM P w K mg base T (k + 1) "_law_most" ["values"] F_law_most :=
  CalM.of F hm (fun _ _ _ _ _ _ us hl => match us, hl with | [_], _ => rfl) sc_law_most fun cdv A outer s H E hr hg => d_law_most h_law_above bl hr hg

abbrev N_law_mix : List Str := ["state", "many", "pick", "parts", "at", "k", "part"]
abbrev st_law_mix : Stmt := top 50
def M_law_mix : SM := (sSeq (sAsg (mCall 2 F_law_next (mCons (mVar 0) (mCons (mRet (.int 4)) mNil))) (gN 2))
  (sSeq (sIf (mT (mOp eqM (mVar 2) (mRet (.int 0)))) (sSeq (sAsg (mCall 2 F_law_next (mCons (mVar 0) (mCons (mVar 1) mNil))) (gN 4))
  (sRet (mCB tupleM (mCons (mComp (List.map (·.2) ([("k", 5)] : List (Str × Nat))) (mRng rng1 (mCons (mVar 1) mNil)) (gN 5) mYes (mTup (mCons (mCB intM (mCons (mOp eqM (mVar 5) (mVar 4)) mNil)) (mCons (mRet (.int 1)) mNil)))) mNil)))) sPass)
  (sSeq (sAsg (mCompC (List.map (·.2) ([("k", 5)] : List (Str × Nat))) (mRng rng1 (mCons (mVar 1) mNil)) (gN 5) mYes (mOp addM (mCall 2 F_law_next (mCons (mVar 0) (mCons (mRet (.int 4)) mNil))) (mCB intM (mCons (mOp eqM (mVar 2) (mRet (.int 1))) mNil)))) (gN 3))
  (sSeq (sIf (mT (mOp eqM (mCB sumM (mCons (mVar 3) mNil)) (mRet (.int 0)))) (sAsg (mRet (.int 1)) (gIx (mVar 3) (mRet (.int 0)))) sPass)
  (sRet (mCB tupleM (mCons (mComp (List.map (·.2) ([("part", 6)] : List (Str × Nat))) (mItm (mVar 3)) (gN 6) mYes (mCall 2 F_law_fraction (mCons (mVar 6) (mCons (mCB sumM (mCons (mVar 3) mNil)) mNil)))) mNil)))))))
def F_law_mix : FM := runC N_law_mix M_law_mix
theorem sc_law_mix : FnScope N_law_mix ["state", "many"] (defScope st_law_mix) := C8.fnScope_by (by decide +kernel)
theorem d_law_mix (h_law_fraction : CalM P w K mg base T k "_law_fraction" ["top", "below"] F_law_fraction) (h_law_next : CalM P w K mg base T k "_law_next" ["state", "many"] F_law_next) (bl : Blt mg) {f : Addr} {cdv : Value} {A : Around} {outer : List PySem.Env} {s : Shared} {H : Hp} {E : XK} (hr : Room k (A.deeper (envOfC "_law_mix" (defScope st_law_mix) s.heap.objs.size f cdv))) (hgd : A.guards = some []) :
    RSs (cxOf (L2N.CX P w) P w K mg base N_law_mix "_law_mix" (defScope st_law_mix) f cdv A outer s H E) T (wE E) (defBody st_law_mix) M_law_mix := by
  have g : Cg (cxOf (L2N.CX P w) P w K mg base N_law_mix "_law_mix" (defScope st_law_mix) f cdv A outer s H E) k := ⟨rfl, sc_law_mix.nd, hr, hgd⟩
  have tk : L2N.Takes (cxOf (L2N.CX P w) P w K mg base N_law_mix "_law_mix" (defScope st_law_mix) f cdv A outer s H E) (wE E) := L2N.takes_of rfl rfl rfl rfl
  have hp := passes_of (X := cxOf (L2N.CX P w) P w K mg base N_law_mix "_law_mix" (defScope st_law_mix) f cdv A outer s H E) rfl
  exact (ss_cons (sset g 2 (xcall g tk h_law_next (ra_cons (xv 0) (ra_cons re_int ra_nil))))
  (ss_cons (s_if (tcmp (m_eq g.u64) (xv 2) re_int) (ss_cons (sset g 4 (xcall g tk h_law_next (ra_cons (xv 0) (ra_cons (xv 1) ra_nil))))
  (ss_one (s_ret (xtuple bl (ra_cons (xcomp g ([("k", 5)] : List (Str × Nat)) (irng1 bl (ra_cons (xv 1) ra_nil)) (fun _ _ _ _ _ => (gn g.b 5)) (fun _ _ _ _ _ => rts_nil) (fun _ _ _ _ _ => (re_tup (ra_cons (xint bl (ra_cons (xcmp (m_eq g.b.u64) (xv 5) (xv 4)) ra_nil)) (ra_cons re_int ra_nil))))) ra_nil))))) ss_nil)
  (ss_cons (sset g 3 (xcompC g ([("k", 5)] : List (Str × Nat)) (irng1 bl (ra_cons (xv 1) ra_nil)) (fun _ _ _ _ _ => (gn g.b 5)) (fun _ _ _ _ _ => rts_nil) (fun _ _ _ _ _ => (re_op m_add (xcall g.b tk0 h_law_next (ra_cons (xv 0) (ra_cons re_int ra_nil))) (xint bl (ra_cons (xcmp (m_eq g.b.u64) (xv 2) re_int) ra_nil))))))
  (ss_cons (s_if (tcmp (m_eq g.u64) (xsum g bl (ra_cons (xv 3) ra_nil)) re_int) (ss_one (s_asg re_int (g_ix (xv 3) re_int))) ss_nil)
  (ss_one (s_ret (xtuple bl (ra_cons (xcomp g ([("part", 6)] : List (Str × Nat)) (ri_seq (xv 3)) (fun _ _ _ _ _ => (gn g.b 6)) (fun _ _ _ _ _ => rts_nil) (fun _ _ _ _ _ => (xcall g.b tk0 h_law_fraction (ra_cons (xv 6) (ra_cons (xsum g.b bl (ra_cons (xv 3) ra_nil)) ra_nil))))) ra_nil))))))))
theorem c_law_mix (h_law_fraction : CalM P w K mg base T k "_law_fraction" ["top", "below"] F_law_fraction) (h_law_next : CalM P w K mg base T k "_law_next" ["state", "many"] F_law_next) (bl : Blt mg) {f : Addr} (F : ∃ fd, FunD K "_law_mix" "_law_mix" (defArgs st_law_mix) (defBody st_law_mix) (defScope st_law_mix) [] [] f fd) (hm : mg "_law_mix" = some (.ref f)) : CalM P w K mg base T (k + 1) "_law_mix" ["state", "many"] F_law_mix :=
  CalM.of F hm (fun _ _ _ _ _ _ us hl => match us, hl with | [_, _], _ => rfl) sc_law_mix fun cdv A outer s H E hr hg => d_law_mix h_law_fraction h_law_next bl hr hg

abbrev N_law_game : List Str := ["state", "most", "wide", "high", "top", "tables", "k", "row", "gain", "column"]
abbrev st_law_game : Stmt := top 51
def M_law_game : SM := (sSeq (sAsg (mOp addM (mRet (.int 1)) (mCall 2 F_law_next (mCons (mVar 0) (mCons (mVar 1) mNil)))) (gN 2))
  (sSeq (sAsg (mOp addM (mRet (.int 1)) (mCall 2 F_law_next (mCons (mVar 0) (mCons (mVar 1) mNil)))) (gN 3))
  (sSeq (sAsg (mOp ixM (mLst (mCons (mRet (.int 2)) (mCons (mRet (.int 4)) (mCons (mRet (.int 99)) mNil)))) (mCall 2 F_law_next (mCons (mVar 0) (mCons (mRet (.int 3)) mNil)))) (gN 4))
  (sSeq (sAsg (mLstC mNil) (gN 5))
  (sSeq (sFor (mRng rng1 (mCons (mRet (.int 2)) mNil)) (gN 6) (sDrop (mMeth appM (mVar 5) (mCons (mCB tupleM (mCons (mComp (List.map (·.2) ([("row", 7)] : List (Str × Nat))) (mRng rng1 (mCons (mVar 3) mNil)) (gN 7) mYes (mCB tupleM (mCons (mComp (List.map (·.2) ([("column", 9)] : List (Str × Nat))) (mRng rng1 (mCons (mVar 2) mNil)) (gN 9) mYes (mOp subM (mCall 2 F_law_next (mCons (mVar 0) (mCons (mOp addM (mOp mulM2 (mRet (.int 2)) (mVar 4)) (mRet (.int 1))) mNil))) (mVar 4))) mNil))) mNil)) mNil))))
  (sSeq (sIf (mT (mOp eqM (mCall 2 F_law_next (mCons (mVar 0) (mCons (mRet (.int 5)) mNil))) (mRet (.int 0)))) (sAsg (mCB tupleM (mCons (mComp (List.map (·.2) ([("row", 7)] : List (Str × Nat))) (mItm (mOp ixM (mVar 5) (mRet (.int 0)))) (gN 7) mYes (mCB tupleM (mCons (mComp (List.map (·.2) ([("gain", 8)] : List (Str × Nat))) (mItm (mVar 7)) (gN 8) mYes (mOp subM (mRet (.int 0)) (mVar 8))) mNil))) mNil)) (gIx (mVar 5) (mRet (.int 1)))) sPass)
  (sRet (mTup (mCons (mOp ixM (mVar 5) (mRet (.int 0))) (mCons (mOp ixM (mVar 5) (mRet (.int 1))) mNil))))))))))
def F_law_game : FM := runC N_law_game M_law_game
theorem sc_law_game : FnScope N_law_game ["state", "most"] (defScope st_law_game) := C8.fnScope_by (by decide +kernel)
theorem d_law_game (h_law_next : CalM P w K mg base T k "_law_next" ["state", "many"] F_law_next) (bl : Blt mg) {f : Addr} {cdv : Value} {A : Around} {outer : List PySem.Env} {s : Shared} {H : Hp} {E : XK} (hr : Room k (A.deeper (envOfC "_law_game" (defScope st_law_game) s.heap.objs.size f cdv))) (hgd : A.guards = some []) :
    RSs (cxOf (L2N.CX P w) P w K mg base N_law_game "_law_game" (defScope st_law_game) f cdv A outer s H E) T (wE E) (defBody st_law_game) M_law_game := by
  have g : Cg (cxOf (L2N.CX P w) P w K mg base N_law_game "_law_game" (defScope st_law_game) f cdv A outer s H E) k := ⟨rfl, sc_law_game.nd, hr, hgd⟩
  have tk : L2N.Takes (cxOf (L2N.CX P w) P w K mg base N_law_game "_law_game" (defScope st_law_game) f cdv A outer s H E) (wE E) := L2N.takes_of rfl rfl rfl rfl
  have hp := passes_of (X := cxOf (L2N.CX P w) P w K mg base N_law_game "_law_game" (defScope st_law_game) f cdv A outer s H E) rfl
  exact (ss_cons (sset g 2 (re_op m_add re_int (xcall g tk h_law_next (ra_cons (xv 0) (ra_cons (xv 1) ra_nil)))))
  (ss_cons (sset g 3 (re_op m_add re_int (xcall g tk h_law_next (ra_cons (xv 0) (ra_cons (xv 1) ra_nil)))))
  (ss_cons (sset g 4 (xix (re_lst (ra_cons re_int (ra_cons re_int (ra_cons re_int ra_nil)))) (xcall g tk h_law_next (ra_cons (xv 0) (ra_cons re_int ra_nil)))))
  (ss_cons (sset g 5 (re_lstC ra_nil))
  (ss_cons (s_for hp g.hc (irng1 bl (ra_cons re_int ra_nil)) (gn g 6) (ss_one (s_expr (re_append (xv 5) (ra_cons (xtuple bl (ra_cons (xcomp g ([("row", 7)] : List (Str × Nat)) (irng1 bl (ra_cons (xv 3) ra_nil)) (fun _ _ _ _ _ => (gn g.b 7)) (fun _ _ _ _ _ => rts_nil) (fun _ _ _ _ _ => (xtuple bl (ra_cons (xcomp g.b ([("column", 9)] : List (Str × Nat)) (irng1 bl (ra_cons (xv 2) ra_nil)) (fun _ _ _ _ _ => (gn g.b.b 9)) (fun _ _ _ _ _ => rts_nil) (fun _ _ _ _ _ => (re_op m_sub (xcall g.b.b tk0 h_law_next (ra_cons (xv 0) (ra_cons (re_op m_add (re_op m_mul2 re_int (xv 4)) re_int) ra_nil))) (xv 4)))) ra_nil)))) ra_nil)) ra_nil)))))
  (ss_cons (s_if (tcmp (m_eq g.u64) (xcall g tk h_law_next (ra_cons (xv 0) (ra_cons re_int ra_nil))) re_int) (ss_one (s_asg (xtuple bl (ra_cons (xcomp g ([("row", 7)] : List (Str × Nat)) (ri_seq (xix (xv 5) re_int)) (fun _ _ _ _ _ => (gn g.b 7)) (fun _ _ _ _ _ => rts_nil) (fun _ _ _ _ _ => (xtuple bl (ra_cons (xcomp g.b ([("gain", 8)] : List (Str × Nat)) (ri_seq (xv 7)) (fun _ _ _ _ _ => (gn g.b.b 8)) (fun _ _ _ _ _ => rts_nil) (fun _ _ _ _ _ => (re_op m_sub re_int (xv 8)))) ra_nil)))) ra_nil)) (g_ix (xv 5) re_int))) ss_nil)
  (ss_one (s_ret (re_tup (ra_cons (xix (xv 5) re_int) (ra_cons (xix (xv 5) re_int) ra_nil)))))))))))
theorem c_law_game (h_law_next : CalM P w K mg base T k "_law_next" ["state", "many"] F_law_next) (bl : Blt mg) {f : Addr} (F : ∃ fd, FunD K "_law_game" "_law_game" (defArgs st_law_game) (defBody st_law_game) (defScope st_law_game) [] [] f fd) (hm : mg "_law_game" = some (.ref f)) : CalM P w K mg base T (k + 1) "_law_game" ["state", "most"] F_law_game :=
  CalM.of F hm (fun _ _ _ _ _ _ us hl => match us, hl with | [_, _], _ => rfl) sc_law_game fun cdv A outer s H E hr hg => d_law_game h_law_next bl hr hg

abbrev N_law_seen : List Str := ["game", "who", "column", "row"]
abbrev st_law_seen : Stmt := top 52
def M_law_seen : SM := (sSeq (sIf (mT (mOp eqM (mVar 1) (mRet (.int 0)))) (sRet (mOp ixM (mVar 0) (mRet (.int 0)))) sPass)
  (sRet (mCB tupleM (mCons (mComp (List.map (·.2) ([("column", 2)] : List (Str × Nat))) (mRng rng1 (mCons (mCB lenM (mCons (mOp ixM (mOp ixM (mVar 0) (mRet (.int 1))) (mRet (.int 0))) mNil)) mNil)) (gN 2) mYes (mCB tupleM (mCons (mComp (List.map (·.2) ([("row", 3)] : List (Str × Nat))) (mItm (mOp ixM (mVar 0) (mRet (.int 1)))) (gN 3) mYes (mOp ixM (mVar 3) (mVar 2))) mNil))) mNil))))
def F_law_seen : FM := runC N_law_seen M_law_seen
theorem sc_law_seen : FnScope N_law_seen ["game", "who"] (defScope st_law_seen) := C8.fnScope_by (by decide +kernel)
theorem d_law_seen (bl : Blt mg) {f : Addr} {cdv : Value} {A : Around} {outer : List PySem.Env} {s : Shared} {H : Hp} {E : XK} (hr : Room k (A.deeper (envOfC "_law_seen" (defScope st_law_seen) s.heap.objs.size f cdv))) (hgd : A.guards = some []) :
    RSs (cxOf (L2N.CX P w) P w K mg base N_law_seen "_law_seen" (defScope st_law_seen) f cdv A outer s H E) T (wE E) (defBody st_law_seen) M_law_seen := by
  have g : Cg (cxOf (L2N.CX P w) P w K mg base N_law_seen "_law_seen" (defScope st_law_seen) f cdv A outer s H E) k := ⟨rfl, sc_law_seen.nd, hr, hgd⟩
  have tk : L2N.Takes (cxOf (L2N.CX P w) P w K mg base N_law_seen "_law_seen" (defScope st_law_seen) f cdv A outer s H E) (wE E) := L2N.takes_of rfl rfl rfl rfl
  have hp := passes_of (X := cxOf (L2N.CX P w) P w K mg base N_law_seen "_law_seen" (defScope st_law_seen) f cdv A outer s H E) rfl
  exact (ss_cons (s_if (tcmp (m_eq g.u64) (xv 1) re_int) (ss_one (s_ret (xix (xv 0) re_int))) ss_nil)
  (ss_one (s_ret (xtuple bl (ra_cons (xcomp g ([("column", 2)] : List (Str × Nat)) (irng1 bl (ra_cons (xlen bl (ra_cons (xix (xix (xv 0) re_int) re_int) ra_nil)) ra_nil)) (fun _ _ _ _ _ => (gn g.b 2)) (fun _ _ _ _ _ => rts_nil) (fun _ _ _ _ _ => (xtuple bl (ra_cons (xcomp g.b ([("row", 3)] : List (Str × Nat)) (ri_seq (xix (xv 0) re_int)) (fun _ _ _ _ _ => (gn g.b.b 3)) (fun _ _ _ _ _ => rts_nil) (fun _ _ _ _ _ => (xix (xv 3) (xv 2)))) ra_nil)))) ra_nil)))))
theorem c_law_seen (bl : Blt mg) {f : Addr} (F : ∃ fd, FunD K "_law_seen" "_law_seen" (defArgs st_law_seen) (defBody st_law_seen) (defScope st_law_seen) [] [] f fd) (hm : mg "_law_seen" = some (.ref f)) : CalM P w K mg base T (k + 1) "_law_seen" ["game", "who"] F_law_seen :=
  CalM.of F hm (fun _ _ _ _ _ _ us hl => match us, hl with | [_, _], _ => rfl) sc_law_seen fun cdv A outer s H E hr hg => d_law_seen  bl hr hg

abbrev N_law_is_mix : List Str := ["mix", "many", "total", "part"]
abbrev st_law_is_mix : Stmt := top 53
def M_law_is_mix : SM := (sSeq (sIf (mT (mOr (mOp neM (mCB lenM (mCons (mVar 0) mNil)) (mVar 1)) (mOp gtM (mCB lenM (mCons (mComp (List.map (·.2) ([("part", 3)] : List (Str × Nat))) (mItm (mVar 0)) (gN 3) (mT (mOr (mNot (mCall 1 F_law_is_ratio (mCons (mVar 3) mNil))) (mOp ltM (mOp ixM (mVar 3) (mRet (.int 0))) (mRet (.int 0))))) (mVar 3)) mNil)) (mRet (.int 0))))) (sRet (mRet (.bl false))) sPass)
  (sSeq (sAsg (mTup (mCons (mRet (.int 0)) (mCons (mRet (.int 1)) mNil))) (gN 2))
  (sSeq (sFor (mItm (mVar 0)) (gN 3) (sAsg (mCall 2 F_law_plus (mCons (mVar 2) (mCons (mVar 3) mNil))) (gN 2)))
  (sRet (mOp eqM (mVar 2) (mTup (mCons (mRet (.int 1)) (mCons (mRet (.int 1)) mNil))))))))
def F_law_is_mix : FM := runC N_law_is_mix M_law_is_mix
theorem sc_law_is_mix : FnScope N_law_is_mix ["mix", "many"] (defScope st_law_is_mix) := C8.fnScope_by (by decide +kernel)
theorem d_law_is_mix (h_law_is_ratio : CalM P w K mg base T k "_law_is_ratio" ["part"] F_law_is_ratio) (h_law_plus : CalM P w K mg base T k "_law_plus" ["one", "other"] F_law_plus) (bl : Blt mg) {f : Addr} {cdv : Value} {A : Around} {outer : List PySem.Env} {s : Shared} {H : Hp} {E : XK} (hr : Room k (A.deeper (envOfC "_law_is_mix" (defScope st_law_is_mix) s.heap.objs.size f cdv))) (hgd : A.guards = some []) :
    RSs (cxOf (L2N.CX P w) P w K mg base N_law_is_mix "_law_is_mix" (defScope st_law_is_mix) f cdv A outer s H E) T (wE E) (defBody st_law_is_mix) M_law_is_mix := by
  have g : Cg (cxOf (L2N.CX P w) P w K mg base N_law_is_mix "_law_is_mix" (defScope st_law_is_mix) f cdv A outer s H E) k := ⟨rfl, sc_law_is_mix.nd, hr, hgd⟩
  have tk : L2N.Takes (cxOf (L2N.CX P w) P w K mg base N_law_is_mix "_law_is_mix" (defScope st_law_is_mix) f cdv A outer s H E) (wE E) := L2N.takes_of rfl rfl rfl rfl
  have hp := passes_of (X := cxOf (L2N.CX P w) P w K mg base N_law_is_mix "_law_is_mix" (defScope st_law_is_mix) f cdv A outer s H E) rfl
  exact (ss_cons (s_if (rt_bop (rw_or (tcmp (m_ne g.u64) (xlen bl (ra_cons (xv 0) ra_nil)) (xv 1)) (rw_or1 (tcmp m_gt (xlen bl (ra_cons (xcomp g ([("part", 3)] : List (Str × Nat)) (ri_seq (xv 0)) (fun _ _ _ _ _ => (gn g.b 3)) (fun _ _ _ _ _ => (rts_one (rt_bop (rw_or (rt_not (rt_val (xcall g.b tk0 h_law_is_ratio (ra_cons (xv 3) ra_nil)))) (rw_or1 (tcmp m_lt (xix (xv 3) re_int) re_int)))))) (fun _ _ _ _ _ => (xv 3))) ra_nil)) re_int)))) (ss_one (s_ret re_bl)) ss_nil)
  (ss_cons (sset g 2 (re_tup (ra_cons re_int (ra_cons re_int ra_nil))))
  (ss_cons (s_for hp g.hc (ri_seq (xv 0)) (gn g 3) (ss_one (sset g 2 (xcall g tk h_law_plus (ra_cons (xv 2) (ra_cons (xv 3) ra_nil))))))
  (ss_one (s_ret (xcmp (m_eq g.u64) (xv 2) (re_tup (ra_cons re_int (ra_cons re_int ra_nil)))))))))
theorem c_law_is_mix (h_law_is_ratio : CalM P w K mg base T k "_law_is_ratio" ["part"] F_law_is_ratio) (h_law_plus : CalM P w K mg base T k "_law_plus" ["one", "other"] F_law_plus) (bl : Blt mg) {f : Addr} (F : ∃ fd, FunD K "_law_is_mix" "_law_is_mix" (defArgs st_law_is_mix) (defBody st_law_is_mix) (defScope st_law_is_mix) [] [] f fd) (hm : mg "_law_is_mix" = some (.ref f)) : CalM P w K mg base T (k + 1) "_law_is_mix" ["mix", "many"] F_law_is_mix :=
  CalM.of F hm (fun _ _ _ _ _ _ us hl => match us, hl with | [_, _], _ => rfl) sc_law_is_mix fun cdv A outer s H E hr hg => d_law_is_mix h_law_is_ratio h_law_plus bl hr hg

abbrev N_law_machine : List Str := ["state", "own", "others", "many", "k", "answer"]
abbrev st_law_machine : Stmt := top 54
def M_law_machine : SM := (sSeq (sAsg (mOp addM (mRet (.int 1)) (mCall 2 F_law_next (mCons (mVar 0) (mCons (mRet (.int 4)) mNil)))) (gN 3))
  (sRet (mCB tupleM (mCons (mComp (List.map (·.2) ([("k", 4)] : List (Str × Nat))) (mRng rng1 (mCons (mVar 3) mNil)) (gN 4) mYes (mTup (mCons (mCall 2 F_law_next (mCons (mVar 0) (mCons (mVar 1) mNil))) (mCons (mCB tupleM (mCons (mComp (List.map (·.2) ([("answer", 5)] : List (Str × Nat))) (mRng rng1 (mCons (mVar 2) mNil)) (gN 5) mYes (mCall 2 F_law_next (mCons (mVar 0) (mCons (mVar 3) mNil)))) mNil)) mNil)))) mNil))))
def F_law_machine : FM := runC N_law_machine M_law_machine
theorem sc_law_machine : FnScope N_law_machine ["state", "own", "others"] (defScope st_law_machine) := C8.fnScope_by (by decide +kernel)
theorem d_law_machine (h_law_next : CalM P w K mg base T k "_law_next" ["state", "many"] F_law_next) (bl : Blt mg) {f : Addr} {cdv : Value} {A : Around} {outer : List PySem.Env} {s : Shared} {H : Hp} {E : XK} (hr : Room k (A.deeper (envOfC "_law_machine" (defScope st_law_machine) s.heap.objs.size f cdv))) (hgd : A.guards = some []) :
    RSs (cxOf (L2N.CX P w) P w K mg base N_law_machine "_law_machine" (defScope st_law_machine) f cdv A outer s H E) T (wE E) (defBody st_law_machine) M_law_machine := by
  have g : Cg (cxOf (L2N.CX P w) P w K mg base N_law_machine "_law_machine" (defScope st_law_machine) f cdv A outer s H E) k := ⟨rfl, sc_law_machine.nd, hr, hgd⟩
  have tk : L2N.Takes (cxOf (L2N.CX P w) P w K mg base N_law_machine "_law_machine" (defScope st_law_machine) f cdv A outer s H E) (wE E) := L2N.takes_of rfl rfl rfl rfl
  have hp := passes_of (X := cxOf (L2N.CX P w) P w K mg base N_law_machine "_law_machine" (defScope st_law_machine) f cdv A outer s H E) rfl
  exact (ss_cons (sset g 3 (re_op m_add re_int (xcall g tk h_law_next (ra_cons (xv 0) (ra_cons re_int ra_nil)))))
  (ss_one (s_ret (xtuple bl (ra_cons (xcomp g ([("k", 4)] : List (Str × Nat)) (irng1 bl (ra_cons (xv 3) ra_nil)) (fun _ _ _ _ _ => (gn g.b 4)) (fun _ _ _ _ _ => rts_nil) (fun _ _ _ _ _ => (re_tup (ra_cons (xcall g.b tk0 h_law_next (ra_cons (xv 0) (ra_cons (xv 1) ra_nil))) (ra_cons (xtuple bl (ra_cons (xcomp g.b ([("answer", 5)] : List (Str × Nat)) (irng1 bl (ra_cons (xv 2) ra_nil)) (fun _ _ _ _ _ => (gn g.b.b 5)) (fun _ _ _ _ _ => rts_nil) (fun _ _ _ _ _ => (xcall g.b.b tk0 h_law_next (ra_cons (xv 0) (ra_cons (xv 3) ra_nil))))) ra_nil)) ra_nil))))) ra_nil)))))
theorem c_law_machine (h_law_next : CalM P w K mg base T k "_law_next" ["state", "many"] F_law_next) (bl : Blt mg) {f : Addr} (F : ∃ fd, FunD K "_law_machine" "_law_machine" (defArgs st_law_machine) (defBody st_law_machine) (defScope st_law_machine) [] [] f fd) (hm : mg "_law_machine" = some (.ref f)) : CalM P w K mg base T (k + 1) "_law_machine" ["state", "own", "others"] F_law_machine :=
  CalM.of F hm (fun _ _ _ _ _ _ us hl => match us, hl with | [_, _, _], _ => rfl) sc_law_machine fun cdv A outer s H E hr hg => d_law_machine h_law_next bl hr hg

abbrev N_law_small : List Str := ["state", "high", "wide", "top", "who", "row", "column"]
abbrev st_law_small : Stmt := top 55
def M_law_small : SM := (sSeq (sAsg (mOp addM (mRet (.int 1)) (mCall 2 F_law_next (mCons (mVar 0) (mCons (mRet (.int 3)) mNil)))) (gN 1))
  (sSeq (sAsg (mOp addM (mRet (.int 1)) (mCall 2 F_law_next (mCons (mVar 0) (mCons (mRet (.int 3)) mNil)))) (gN 2))
  (sSeq (sAsg (mOp ixM (mLst (mCons (mRet (.int 2)) (mCons (mRet (.int 5)) mNil))) (mCall 2 F_law_next (mCons (mVar 0) (mCons (mRet (.int 2)) mNil)))) (gN 3))
  (sSeq (sIf (mT (mOp eqM (mCall 2 F_law_next (mCons (mVar 0) (mCons (mRet (.int 3)) mNil))) (mRet (.int 0)))) (sRet (mTup (mCons (mTup (mCons (mTup (mCons (mRet (.int 3)) (mCons (mRet (.int 0)) mNil))) (mCons (mTup (mCons (mRet (.int 5)) (mCons (mRet (.int 1)) mNil))) mNil))) (mCons (mTup (mCons (mTup (mCons (mRet (.int 3)) (mCons (mRet (.int 5)) mNil))) (mCons (mTup (mCons (mRet (.int 0)) (mCons (mRet (.int 1)) mNil))) mNil))) mNil)))) sPass)
  (sRet (mCB tupleM (mCons (mComp (List.map (·.2) ([("who", 4)] : List (Str × Nat))) (mItm (mLst (mCons (mRet (.int 0)) (mCons (mRet (.int 1)) mNil)))) (gN 4) mYes (mCB tupleM (mCons (mComp (List.map (·.2) ([("row", 5)] : List (Str × Nat))) (mRng rng1 (mCons (mVar 1) mNil)) (gN 5) mYes (mCB tupleM (mCons (mComp (List.map (·.2) ([("column", 6)] : List (Str × Nat))) (mRng rng1 (mCons (mVar 2) mNil)) (gN 6) mYes (mOp subM (mCall 2 F_law_next (mCons (mVar 0) (mCons (mOp addM (mOp mulM2 (mRet (.int 2)) (mVar 3)) (mRet (.int 1))) mNil))) (mVar 3))) mNil))) mNil))) mNil)))))))
def F_law_small : FM := runC N_law_small M_law_small
theorem sc_law_small : FnScope N_law_small ["state"] (defScope st_law_small) := C8.fnScope_by (by decide +kernel)
theorem d_law_small (h_law_next : CalM P w K mg base T k "_law_next" ["state", "many"] F_law_next) (bl : Blt mg) {f : Addr} {cdv : Value} {A : Around} {outer : List PySem.Env} {s : Shared} {H : Hp} {E : XK} (hr : Room k (A.deeper (envOfC "_law_small" (defScope st_law_small) s.heap.objs.size f cdv))) (hgd : A.guards = some []) :
    RSs (cxOf (L2N.CX P w) P w K mg base N_law_small "_law_small" (defScope st_law_small) f cdv A outer s H E) T (wE E) (defBody st_law_small) M_law_small := by
  have g : Cg (cxOf (L2N.CX P w) P w K mg base N_law_small "_law_small" (defScope st_law_small) f cdv A outer s H E) k := ⟨rfl, sc_law_small.nd, hr, hgd⟩
  have tk : L2N.Takes (cxOf (L2N.CX P w) P w K mg base N_law_small "_law_small" (defScope st_law_small) f cdv A outer s H E) (wE E) := L2N.takes_of rfl rfl rfl rfl
  have hp := passes_of (X := cxOf (L2N.CX P w) P w K mg base N_law_small "_law_small" (defScope st_law_small) f cdv A outer s H E) rfl
  exact (ss_cons (sset g 1 (re_op m_add re_int (xcall g tk h_law_next (ra_cons (xv 0) (ra_cons re_int ra_nil)))))
  (ss_cons (sset g 2 (re_op m_add re_int (xcall g tk h_law_next (ra_cons (xv 0) (ra_cons re_int ra_nil)))))
  (ss_cons (sset g 3 (xix (re_lst (ra_cons re_int (ra_cons re_int ra_nil))) (xcall g tk h_law_next (ra_cons (xv 0) (ra_cons re_int ra_nil)))))
  (ss_cons (s_if (tcmp (m_eq g.u64) (xcall g tk h_law_next (ra_cons (xv 0) (ra_cons re_int ra_nil))) re_int) (ss_one (s_ret (re_tup (ra_cons (re_tup (ra_cons (re_tup (ra_cons re_int (ra_cons re_int ra_nil))) (ra_cons (re_tup (ra_cons re_int (ra_cons re_int ra_nil))) ra_nil))) (ra_cons (re_tup (ra_cons (re_tup (ra_cons re_int (ra_cons re_int ra_nil))) (ra_cons (re_tup (ra_cons re_int (ra_cons re_int ra_nil))) ra_nil))) ra_nil))))) ss_nil)
  (ss_one (s_ret (xtuple bl (ra_cons (xcomp g ([("who", 4)] : List (Str × Nat)) (ri_seq (re_lst (ra_cons re_int (ra_cons re_int ra_nil)))) (fun _ _ _ _ _ => (gn g.b 4)) (fun _ _ _ _ _ => rts_nil) (fun _ _ _ _ _ => (xtuple bl (ra_cons (xcomp g.b ([("row", 5)] : List (Str × Nat)) (irng1 bl (ra_cons (xv 1) ra_nil)) (fun _ _ _ _ _ => (gn g.b.b 5)) (fun _ _ _ _ _ => rts_nil) (fun _ _ _ _ _ => (xtuple bl (ra_cons (xcomp g.b.b ([("column", 6)] : List (Str × Nat)) (irng1 bl (ra_cons (xv 2) ra_nil)) (fun _ _ _ _ _ => (gn g.b.b.b 6)) (fun _ _ _ _ _ => rts_nil) (fun _ _ _ _ _ => (re_op m_sub (xcall g.b.b.b tk0 h_law_next (ra_cons (xv 0) (ra_cons (re_op m_add (re_op m_mul2 re_int (xv 3)) re_int) ra_nil))) (xv 3)))) ra_nil)))) ra_nil)))) ra_nil))))))))
theorem c_law_small (h_law_next : CalM P w K mg base T k "_law_next" ["state", "many"] F_law_next) (bl : Blt mg) {f : Addr} (F : ∃ fd, FunD K "_law_small" "_law_small" (defArgs st_law_small) (defBody st_law_small) (defScope st_law_small) [] [] f fd) (hm : mg "_law_small" = some (.ref f)) : CalM P w K mg base T (k + 1) "_law_small" ["state"] F_law_small :=
  CalM.of F hm (fun _ _ _ _ _ _ us hl => match us, hl with | [_], _ => rfl) sc_law_small fun cdv A outer s H E hr hg => d_law_small h_law_next bl hr hg

abbrev N_law_discount : List Str := ["state", "below"]
abbrev st_law_discount : Stmt := top 56
def M_law_discount : SM := (sSeq (sAsg (mOp addM (mRet (.int 1)) (mCall 2 F_law_next (mCons (mVar 0) (mCons (mRet (.int 7)) mNil)))) (gN 1))
  (sRet (mCall 2 F_law_fraction (mCons (mCall 2 F_law_next (mCons (mVar 0) (mCons (mVar 1) mNil))) (mCons (mVar 1) mNil)))))
def F_law_discount : FM := runC N_law_discount M_law_discount
theorem sc_law_discount : FnScope N_law_discount ["state"] (defScope st_law_discount) := C8.fnScope_by (by decide +kernel)
theorem d_law_discount (h_law_fraction : CalM P w K mg base T k "_law_fraction" ["top", "below"] F_law_fraction) (h_law_next : CalM P w K mg base T k "_law_next" ["state", "many"] F_law_next) (bl : Blt mg) {f : Addr} {cdv : Value} {A : Around} {outer : List PySem.Env} {s : Shared} {H : Hp} {E : XK} (hr : Room k (A.deeper (envOfC "_law_discount" (defScope st_law_discount) s.heap.objs.size f cdv))) (hgd : A.guards = some []) :
    RSs (cxOf (L2N.CX P w) P w K mg base N_law_discount "_law_discount" (defScope st_law_discount) f cdv A outer s H E) T (wE E) (defBody st_law_discount) M_law_discount := by
  have g : Cg (cxOf (L2N.CX P w) P w K mg base N_law_discount "_law_discount" (defScope st_law_discount) f cdv A outer s H E) k := ⟨rfl, sc_law_discount.nd, hr, hgd⟩
  have tk : L2N.Takes (cxOf (L2N.CX P w) P w K mg base N_law_discount "_law_discount" (defScope st_law_discount) f cdv A outer s H E) (wE E) := L2N.takes_of rfl rfl rfl rfl
  have hp := passes_of (X := cxOf (L2N.CX P w) P w K mg base N_law_discount "_law_discount" (defScope st_law_discount) f cdv A outer s H E) rfl
  exact (ss_cons (sset g 1 (re_op m_add re_int (xcall g tk h_law_next (ra_cons (xv 0) (ra_cons re_int ra_nil)))))
  (ss_one (s_ret (xcall g tk h_law_fraction (ra_cons (xcall g tk h_law_next (ra_cons (xv 0) (ra_cons (xv 1) ra_nil))) (ra_cons (xv 1) ra_nil))))))
theorem c_law_discount (h_law_fraction : CalM P w K mg base T k "_law_fraction" ["top", "below"] F_law_fraction) (h_law_next : CalM P w K mg base T k "_law_next" ["state", "many"] F_law_next) (bl : Blt mg) {f : Addr} (F : ∃ fd, FunD K "_law_discount" "_law_discount" (defArgs st_law_discount) (defBody st_law_discount) (defScope st_law_discount) [] [] f fd) (hm : mg "_law_discount" = some (.ref f)) : CalM P w K mg base T (k + 1) "_law_discount" ["state"] F_law_discount :=
  CalM.of F hm (fun _ _ _ _ _ _ us hl => match us, hl with | [_], _ => rfl) sc_law_discount fun cdv A outer s H E hr hg => d_law_discount h_law_fraction h_law_next bl hr hg

abbrev N_law_go : List Str := ["first", "second", "pair"]
abbrev st_law_go : Stmt := top 57
def M_law_go : SM := (sRet (mTup (mCons (mOp ixM (mOp ixM (mOp ixM (mVar 0) (mOp ixM (mVar 2) (mRet (.int 0)))) (mRet (.int 1))) (mOp ixM (mOp ixM (mVar 1) (mOp ixM (mVar 2) (mRet (.int 1)))) (mRet (.int 0)))) (mCons (mOp ixM (mOp ixM (mOp ixM (mVar 1) (mOp ixM (mVar 2) (mRet (.int 1)))) (mRet (.int 1))) (mOp ixM (mOp ixM (mVar 0) (mOp ixM (mVar 2) (mRet (.int 0)))) (mRet (.int 0)))) mNil))))
def F_law_go : FM := runC N_law_go M_law_go
theorem sc_law_go : FnScope N_law_go ["first", "second", "pair"] (defScope st_law_go) := C8.fnScope_by (by decide +kernel)
theorem d_law_go (bl : Blt mg) {f : Addr} {cdv : Value} {A : Around} {outer : List PySem.Env} {s : Shared} {H : Hp} {E : XK} (hr : Room k (A.deeper (envOfC "_law_go" (defScope st_law_go) s.heap.objs.size f cdv))) (hgd : A.guards = some []) :
    RSs (cxOf (L2N.CX P w) P w K mg base N_law_go "_law_go" (defScope st_law_go) f cdv A outer s H E) T (wE E) (defBody st_law_go) M_law_go := by
  have g : Cg (cxOf (L2N.CX P w) P w K mg base N_law_go "_law_go" (defScope st_law_go) f cdv A outer s H E) k := ⟨rfl, sc_law_go.nd, hr, hgd⟩
  have tk : L2N.Takes (cxOf (L2N.CX P w) P w K mg base N_law_go "_law_go" (defScope st_law_go) f cdv A outer s H E) (wE E) := L2N.takes_of rfl rfl rfl rfl
  have hp := passes_of (X := cxOf (L2N.CX P w) P w K mg base N_law_go "_law_go" (defScope st_law_go) f cdv A outer s H E) rfl
  exact (ss_one (s_ret (re_tup (ra_cons (xix (xix (xix (xv 0) (xix (xv 2) re_int)) re_int) (xix (xix (xv 1) (xix (xv 2) re_int)) re_int)) (ra_cons (xix (xix (xix (xv 1) (xix (xv 2) re_int)) re_int) (xix (xix (xv 0) (xix (xv 2) re_int)) re_int)) ra_nil)))))
theorem c_law_go (bl : Blt mg) {f : Addr} (F : ∃ fd, FunD K "_law_go" "_law_go" (defArgs st_law_go) (defBody st_law_go) (defScope st_law_go) [] [] f fd) (hm : mg "_law_go" = some (.ref f)) : CalM P w K mg base T (k + 1) "_law_go" ["first", "second", "pair"] F_law_go :=
  CalM.of F hm (fun _ _ _ _ _ _ us hl => match us, hl with | [_, _, _], _ => rfl) sc_law_go fun cdv A outer s H E hr hg => d_law_go  bl hr hg

abbrev N_law_worths : List Str := ["table", "first", "second", "discount", "line", "turn", "ring", "weight", "total", "one", "two", "rest", "here", "after"]
abbrev st_law_worths : Stmt := top 58
def M_law_worths : SM := (sSeq (sAsg (mLstC (mCons (mTup (mCons (mRet (.int 0)) (mCons (mRet (.int 0)) mNil))) mNil)) (gN 4))
  (sSeq (sFor (mRng rng1 (mCons (mRet (.int 40)) mNil)) (gN 5) (sSeq (sAsg (mCall 3 F_law_go (mCons (mVar 1) (mCons (mVar 2) (mCons (mOp ixM (mVar 4) (mUn negM (mRet (.int 1)))) mNil)))) (gN 13))
  (sSeq (sIf (mT (mOp inM (mVar 13) (mVar 4))) (fun ρ μ => .bk ρ μ) sPass)
  (sDrop (mMeth appM (mVar 4) (mCons (mVar 13) mNil))))))
  (sSeq (sAsg (mSlice (mVar 4) (mPart (mMeth idxM (mVar 4) (mCons (mVar 13) mNil))) mNoPart) (gN 6))
  (sSeq (sAsg (mTup (mCons (mRet (.int 1)) (mCons (mRet (.int 1)) mNil))) (gN 7))
  (sSeq (sAsg (mTup (mCons (mRet (.int 0)) (mCons (mRet (.int 1)) mNil))) (gN 8))
  (sSeq (sFor (mItm (mVar 6)) (gT ((gN 9) :: ((gN 10) :: []))) (sSeq (sAsg (mCall 2 F_law_plus (mCons (mVar 8) (mCons (mCall 2 F_law_times (mCons (mVar 7) (mCons (mTup (mCons (mOp ixM (mOp ixM (mVar 0) (mOp ixM (mOp ixM (mVar 1) (mVar 9)) (mRet (.int 0)))) (mOp ixM (mOp ixM (mVar 2) (mVar 10)) (mRet (.int 0)))) (mCons (mRet (.int 1)) mNil))) mNil))) mNil))) (gN 8))
  (sAsg (mCall 2 F_law_times (mCons (mVar 7) (mCons (mVar 3) mNil))) (gN 7))))
  (sSeq (sAsg (mCall 2 F_law_plus (mCons (mTup (mCons (mRet (.int 1)) (mCons (mRet (.int 1)) mNil))) (mCons (mTup (mCons (mOp subM (mRet (.int 0)) (mOp ixM (mVar 7) (mRet (.int 0)))) (mCons (mOp ixM (mVar 7) (mRet (.int 1))) mNil))) mNil))) (gN 11))
  (sSeq (sAsg (mCall 2 F_law_fraction (mCons (mOp mulM2 (mOp ixM (mVar 8) (mRet (.int 0))) (mOp ixM (mVar 11) (mRet (.int 1)))) (mCons (mOp mulM2 (mOp ixM (mVar 8) (mRet (.int 1))) (mOp ixM (mVar 11) (mRet (.int 0)))) mNil))) (gN 12))
  (sSeq (sFor (mItm (mUn revM (mSlice (mVar 4) mNoPart (mPart (mMeth idxM (mVar 4) (mCons (mVar 13) mNil)))))) (gT ((gN 9) :: ((gN 10) :: []))) (sAsg (mCall 2 F_law_plus (mCons (mTup (mCons (mOp ixM (mOp ixM (mVar 0) (mOp ixM (mOp ixM (mVar 1) (mVar 9)) (mRet (.int 0)))) (mOp ixM (mOp ixM (mVar 2) (mVar 10)) (mRet (.int 0)))) (mCons (mRet (.int 1)) mNil))) (mCons (mCall 2 F_law_times (mCons (mVar 3) (mCons (mVar 12) mNil))) mNil))) (gN 12)))
  (sRet (mVar 12)))))))))))
def F_law_worths : FM := runC N_law_worths M_law_worths
theorem sc_law_worths : FnScope N_law_worths ["table", "first", "second", "discount"] (defScope st_law_worths) := C8.fnScope_by (by decide +kernel)
theorem d_law_worths (h_law_fraction : CalM P w K mg base T k "_law_fraction" ["top", "below"] F_law_fraction) (h_law_go : CalM P w K mg base T k "_law_go" ["first", "second", "pair"] F_law_go) (h_law_plus : CalM P w K mg base T k "_law_plus" ["one", "other"] F_law_plus) (h_law_times : CalM P w K mg base T k "_law_times" ["one", "other"] F_law_times) (bl : Blt mg) {f : Addr} {cdv : Value} {A : Around} {outer : List PySem.Env} {s : Shared} {H : Hp} {E : XK} (hr : Room k (A.deeper (envOfC "_law_worths" (defScope st_law_worths) s.heap.objs.size f cdv))) (hgd : A.guards = some []) :
    RSs (cxOf (L2N.CX P w) P w K mg base N_law_worths "_law_worths" (defScope st_law_worths) f cdv A outer s H E) T (wE E) (defBody st_law_worths) M_law_worths := by
  have g : Cg (cxOf (L2N.CX P w) P w K mg base N_law_worths "_law_worths" (defScope st_law_worths) f cdv A outer s H E) k := ⟨rfl, sc_law_worths.nd, hr, hgd⟩
  have tk : L2N.Takes (cxOf (L2N.CX P w) P w K mg base N_law_worths "_law_worths" (defScope st_law_worths) f cdv A outer s H E) (wE E) := L2N.takes_of rfl rfl rfl rfl
  have hp := passes_of (X := cxOf (L2N.CX P w) P w K mg base N_law_worths "_law_worths" (defScope st_law_worths) f cdv A outer s H E) rfl
  exact (ss_cons (sset g 4 (re_lstC (ra_cons (re_tup (ra_cons re_int (ra_cons re_int ra_nil))) ra_nil)))
  (ss_cons (s_for hp g.hc (irng1 bl (ra_cons re_int ra_nil)) (gn g 5) (ss_cons (sset g 13 (xcall g tk h_law_go (ra_cons (xv 1) (ra_cons (xv 2) (ra_cons (xix (xv 4) (re_un m_neg re_int)) ra_nil)))))
  (ss_cons (s_if (tcmp (m_in g.u65) (xv 13) (xv 4)) (ss_one s_break) ss_nil)
  (ss_one (s_expr (re_append (xv 4) (ra_cons (xv 13) ra_nil)))))))
  (ss_cons (sset g 6 (re_slice (xv 4) (rp_some (re_index g.u65 (xv 4) (ra_cons (xv 13) ra_nil))) rp_none))
  (ss_cons (sset g 7 (re_tup (ra_cons re_int (ra_cons re_int ra_nil))))
  (ss_cons (sset g 8 (re_tup (ra_cons re_int (ra_cons re_int ra_nil))))
  (ss_cons (s_for hp g.hc (ri_seq (xv 6)) (gt g (gs_cons (gn g 9) (gs_cons (gn g 10) gs_nil))) (ss_cons (sset g 8 (xcall g tk h_law_plus (ra_cons (xv 8) (ra_cons (xcall g tk h_law_times (ra_cons (xv 7) (ra_cons (re_tup (ra_cons (xix (xix (xv 0) (xix (xix (xv 1) (xv 9)) re_int)) (xix (xix (xv 2) (xv 10)) re_int)) (ra_cons re_int ra_nil))) ra_nil))) ra_nil))))
  (ss_one (sset g 7 (xcall g tk h_law_times (ra_cons (xv 7) (ra_cons (xv 3) ra_nil)))))))
  (ss_cons (sset g 11 (xcall g tk h_law_plus (ra_cons (re_tup (ra_cons re_int (ra_cons re_int ra_nil))) (ra_cons (re_tup (ra_cons (re_op m_sub re_int (xix (xv 7) re_int)) (ra_cons (xix (xv 7) re_int) ra_nil))) ra_nil))))
  (ss_cons (sset g 12 (xcall g tk h_law_fraction (ra_cons (re_op m_mul2 (xix (xv 8) re_int) (xix (xv 11) re_int)) (ra_cons (re_op m_mul2 (xix (xv 8) re_int) (xix (xv 11) re_int)) ra_nil))))
  (ss_cons (s_for hp g.hc (ri_seq (re_rev (re_slice (xv 4) rp_none (rp_some (re_index g.u65 (xv 4) (ra_cons (xv 13) ra_nil)))))) (gt g (gs_cons (gn g 9) (gs_cons (gn g 10) gs_nil))) (ss_one (sset g 12 (xcall g tk h_law_plus (ra_cons (re_tup (ra_cons (xix (xix (xv 0) (xix (xix (xv 1) (xv 9)) re_int)) (xix (xix (xv 2) (xv 10)) re_int)) (ra_cons re_int ra_nil))) (ra_cons (xcall g tk h_law_times (ra_cons (xv 3) (ra_cons (xv 12) ra_nil))) ra_nil))))))
  (ss_one (s_ret (xv 12))))))))))))
theorem c_law_worths (h_law_fraction : CalM P w K mg base T k "_law_fraction" ["top", "below"] F_law_fraction) (h_law_go : CalM P w K mg base T k "_law_go" ["first", "second", "pair"] F_law_go) (h_law_plus : CalM P w K mg base T k "_law_plus" ["one", "other"] F_law_plus) (h_law_times : CalM P w K mg base T k "_law_times" ["one", "other"] F_law_times) (bl : Blt mg) {f : Addr} (F : ∃ fd, FunD K "_law_worths" "_law_worths" (defArgs st_law_worths) (defBody st_law_worths) (defScope st_law_worths) [] [] f fd) (hm : mg "_law_worths" = some (.ref f)) : CalM P w K mg base T (k + 1) "_law_worths" ["table", "first", "second", "discount"] F_law_worths :=
  CalM.of F hm (fun _ _ _ _ _ _ us hl => match us, hl with | [_, _, _, _], _ => rfl) sc_law_worths fun cdv A outer s H E hr hg => d_law_worths h_law_fraction h_law_go h_law_plus h_law_times bl hr hg

abbrev N_law_right : List Str := ["table", "machine", "discount", "levels", "k", "choice", "moves", "own", "level"]
abbrev st_law_right : Stmt := top 59
def M_law_right : SM := (sSeq (sIf (mT (mOr (mOp neM (mCB lenM (mCons (mVar 3) mNil)) (mCB lenM (mCons (mVar 1) mNil))) (mOp gtM (mCB lenM (mCons (mComp (List.map (·.2) ([("level", 8)] : List (Str × Nat))) (mItm (mVar 3)) (gN 8) (mT (mNot (mCall 1 F_law_is_ratio (mCons (mVar 8) mNil)))) (mVar 8)) mNil)) (mRet (.int 0))))) (sRet (mRet (.bl false))) sPass)
  (sSeq (sFor (mRng rng1 (mCons (mCB lenM (mCons (mVar 1) mNil)) mNil)) (gN 4) (sSeq (sAsg (mOp ixM (mVar 1) (mVar 4)) (gT ((gN 5) :: ((gN 6) :: []))))
  (sFor (mRng rng1 (mCons (mCB lenM (mCons (mVar 0) mNil)) mNil)) (gN 7) (sIf (mT (mCall 2 F_law_above (mCons (mCall 2 F_law_plus (mCons (mTup (mCons (mOp ixM (mOp ixM (mVar 0) (mVar 7)) (mVar 5)) (mCons (mRet (.int 1)) mNil))) (mCons (mCall 2 F_law_times (mCons (mVar 2) (mCons (mOp ixM (mVar 3) (mOp ixM (mVar 6) (mVar 7))) mNil))) mNil))) (mCons (mOp ixM (mVar 3) (mVar 4)) mNil)))) (sRet (mRet (.bl false))) sPass))))
  (sRet (mRet (.bl true)))))
def F_law_right : FM := runC N_law_right M_law_right
theorem sc_law_right : FnScope N_law_right ["table", "machine", "discount", "levels"] (defScope st_law_right) := C8.fnScope_by (by decide +kernel)
theorem d_law_right (h_law_above : CalM P w K mg base T k "_law_above" ["one", "other"] F_law_above) (h_law_is_ratio : CalM P w K mg base T k "_law_is_ratio" ["part"] F_law_is_ratio) (h_law_plus : CalM P w K mg base T k "_law_plus" ["one", "other"] F_law_plus) (h_law_times : CalM P w K mg base T k "_law_times" ["one", "other"] F_law_times) (bl : Blt mg) {f : Addr} {cdv : Value} {A : Around} {outer : List PySem.Env} {s : Shared} {H : Hp} {E : XK} (hr : Room k (A.deeper (envOfC "_law_right" (defScope st_law_right) s.heap.objs.size f cdv))) (hgd : A.guards = some []) :
    RSs (cxOf (L2N.CX P w) P w K mg base N_law_right "_law_right" (defScope st_law_right) f cdv A outer s H E) T (wE E) (defBody st_law_right) M_law_right := by
  have g : Cg (cxOf (L2N.CX P w) P w K mg base N_law_right "_law_right" (defScope st_law_right) f cdv A outer s H E) k := ⟨rfl, sc_law_right.nd, hr, hgd⟩
  have tk : L2N.Takes (cxOf (L2N.CX P w) P w K mg base N_law_right "_law_right" (defScope st_law_right) f cdv A outer s H E) (wE E) := L2N.takes_of rfl rfl rfl rfl
  have hp := passes_of (X := cxOf (L2N.CX P w) P w K mg base N_law_right "_law_right" (defScope st_law_right) f cdv A outer s H E) rfl
  exact (ss_cons (s_if (rt_bop (rw_or (tcmp (m_ne g.u64) (xlen bl (ra_cons (xv 3) ra_nil)) (xlen bl (ra_cons (xv 1) ra_nil))) (rw_or1 (tcmp m_gt (xlen bl (ra_cons (xcomp g ([("level", 8)] : List (Str × Nat)) (ri_seq (xv 3)) (fun _ _ _ _ _ => (gn g.b 8)) (fun _ _ _ _ _ => (rts_one (rt_not (rt_val (xcall g.b tk0 h_law_is_ratio (ra_cons (xv 8) ra_nil)))))) (fun _ _ _ _ _ => (xv 8))) ra_nil)) re_int)))) (ss_one (s_ret re_bl)) ss_nil)
  (ss_cons (s_for hp g.hc (irng1 bl (ra_cons (xlen bl (ra_cons (xv 1) ra_nil)) ra_nil)) (gn g 4) (ss_cons (s_asg (xix (xv 1) (xv 4)) (gt g (gs_cons (gn g 5) (gs_cons (gn g 6) gs_nil))))
  (ss_one (s_for hp g.hc (irng1 bl (ra_cons (xlen bl (ra_cons (xv 0) ra_nil)) ra_nil)) (gn g 7) (ss_one (s_if (rt_val (xcall g tk h_law_above (ra_cons (xcall g tk h_law_plus (ra_cons (re_tup (ra_cons (xix (xix (xv 0) (xv 7)) (xv 5)) (ra_cons re_int ra_nil))) (ra_cons (xcall g tk h_law_times (ra_cons (xv 2) (ra_cons (xix (xv 3) (xix (xv 6) (xv 7))) ra_nil))) ra_nil))) (ra_cons (xix (xv 3) (xv 4)) ra_nil)))) (ss_one (s_ret re_bl)) ss_nil))))))
  (ss_one (s_ret re_bl))))
theorem c_law_right (h_law_above : CalM P w K mg base T k "_law_above" ["one", "other"] F_law_above) (h_law_is_ratio : CalM P w K mg base T k "_law_is_ratio" ["part"] F_law_is_ratio) (h_law_plus : CalM P w K mg base T k "_law_plus" ["one", "other"] F_law_plus) (h_law_times : CalM P w K mg base T k "_law_times" ["one", "other"] F_law_times) (bl : Blt mg) {f : Addr} (F : ∃ fd, FunD K "_law_right" "_law_right" (defArgs st_law_right) (defBody st_law_right) (defScope st_law_right) [] [] f fd) (hm : mg "_law_right" = some (.ref f)) : CalM P w K mg base T (k + 1) "_law_right" ["table", "machine", "discount", "levels"] F_law_right :=
  CalM.of F hm (fun _ _ _ _ _ _ us hl => match us, hl with | [_, _, _, _], _ => rfl) sc_law_right fun cdv A outer s H E hr hg => d_law_right h_law_above h_law_is_ratio h_law_plus h_law_times bl hr hg

abbrev N_law : List Str := ["script", "state", "turn", "game", "who", "table", "machine", "discount", "levels", "most", "own", "k", "at", "papers", "good", "odd", "drawn", "paper", "choice", "moves", "level", "top", "below"]
abbrev st_law : Stmt := top 60
def M_law (C : Fin 5 → Addr) : SM := (sSeq (sAsg (mLstC (mCons (mCall 1 F_law_stream (mCons (mVar 0) mNil)) (mCons (mRet (.int 0)) mNil))) (gN 1))
  (sSeq (sFor (mRng rng1 (mCons (mRet (.int 3)) mNil)) (gN 2) (sSeq (sAsg (mCall 1 F_law_small (mCons (mVar 1) mNil)) (gN 3))
  (sSeq (sAsg (mCall 2 F_law_next (mCons (mVar 1) (mCons (mRet (.int 2)) mNil))) (gN 4))
  (sSeq (sAsg (mCall 2 F_law_seen (mCons (mVar 3) (mCons (mVar 4) mNil))) (gN 5))
  (sSeq (sAsg (mCall 3 F_law_machine (mCons (mVar 1) (mCons (mCB lenM (mCons (mOp ixM (mVar 5) (mRet (.int 0))) mNil)) (mCons (mCB lenM (mCons (mVar 5) mNil)) mNil)))) (gN 6))
  (sSeq (sAsg (mCall 1 F_law_discount (mCons (mVar 1) mNil)) (gN 7))
  (sSeq (sAsg (mCall 4 F_p_levels_paper (mCons (mVar 3) (mCons (mVar 4) (mCons (mVar 6) (mCons (mVar 7) mNil))))) (gN 8))
  (sSeq (sAsg (mCall 4 F_p_best_worth (mCons (mVar 3) (mCons (mVar 4) (mCons (mVar 6) (mCons (mVar 7) mNil))))) (gN 9))
  (sSeq (sAsg (mCall 4 F_p_best_machine (mCons (mVar 3) (mCons (mVar 4) (mCons (mVar 6) (mCons (mVar 7) mNil))))) (gN 10))
  (sSeq (sIf (mT (mOr (mNot (mCall 4 F_law_right (mCons (mVar 5) (mCons (mVar 6) (mCons (mVar 7) (mCons (mVar 8) mNil)))))) (mOr (mOp neM (mOp ixM (mVar 8) (mRet (.int 0))) (mVar 9)) (mNot (mChain leM leM (mRet (.int 1)) (mCB lenM (mCons (mVar 10) mNil)) (mRet (.int 6))))))) (sRet (mRet (.bl false))) sPass)
  (sSeq (sIf (mT (mOp gtM (mCB lenM (mCons (mComp (List.map (·.2) ([("choice", 18), ("moves", 19)] : List (Str × Nat))) (mItm (mVar 10)) (gT ((gN 18) :: ((gN 19) :: []))) (mT (mOr (mNot (mChain leM ltM (mRet (.int 0)) (mVar 18) (mCB lenM (mCons (mVar 5) mNil)))) (mOr (mOp neM (mCB lenM (mCons (mVar 19) mNil)) (mCB lenM (mCons (mOp ixM (mVar 5) (mRet (.int 0))) mNil))) (mNot (mCh3 leM leM ltM (mRet (.int 0)) (mCB minM (mCons (mVar 19) mNil)) (mCB maxM (mCons (mVar 19) mNil)) (mCB lenM (mCons (mVar 10) mNil))))))) (mVar 18)) mNil)) (mRet (.int 0)))) (sRet (mRet (.bl false))) sPass)
  (sSeq (sIf (mT (mOp neM (mCall 4 F_law_worths (mCons (mVar 5) (mCons (mVar 10) (mCons (mVar 6) (mCons (mVar 7) mNil))))) (mVar 9))) (sRet (mRet (.bl false))) sPass)
  (sSeq (sFor (mRng rng1 (mCons (mRet (.int 4)) mNil)) (gN 11) (sSeq (sAsg (mCall 3 F_law_machine (mCons (mVar 1) (mCons (mCB lenM (mCons (mVar 5) mNil)) (mCons (mCB lenM (mCons (mOp ixM (mVar 5) (mRet (.int 0))) mNil)) mNil)))) (gN 16))
  (sIf (mT (mCall 2 F_law_above (mCons (mCall 4 F_law_worths (mCons (mVar 5) (mCons (mVar 16) (mCons (mVar 6) (mCons (mVar 7) mNil))))) (mCons (mVar 9) mNil)))) (sRet (mRet (.bl false))) sPass)))
  (sSeq (sAsg (mCall 2 F_law_next (mCons (mVar 1) (mCons (mCB lenM (mCons (mVar 8) mNil)) mNil))) (gN 12))
  (sSeq (sAsg (mLstC (mCons (mVar 8) (mCons (mSlice (mVar 8) (mPart (mRet (.int 1))) mNoPart) (mCons (mOp addM (mVar 8) (mTup (mCons (mTup (mCons (mRet (.int 0)) (mCons (mRet (.int 1)) mNil))) mNil))) (mCons (mCB tupleM (mCons (mComp (List.map (·.2) ([("level", 20)] : List (Str × Nat))) (mItm (mVar 8)) (gN 20) mYes (mCall 2 F_law_plus (mCons (mVar 20) (mCons (mTup (mCons (mRet (.int 1)) (mCons (mRet (.int 3)) mNil))) mNil)))) mNil)) (mCons (mOp mulM2 (mTup (mCons (mTup (mCons (mRet (.int 0)) (mCons (mRet (.int 1)) mNil))) mNil)) (mCB lenM (mCons (mVar 8) mNil))) mNil)))))) (gN 13))
  (sSeq (sAsg (mAddC (mVar 13) (mComp (List.map (·.2) ([("k", 11)] : List (Str × Nat))) (mRng rng1 (mCons (mRet (.int 3)) mNil)) (gN 11) mYes (mOp addM (mOp addM (mSlice (mVar 8) mNoPart (mPart (mVar 12))) (mTup (mCons (mCall 2 F_law_plus (mCons (mOp ixM (mVar 8) (mVar 12)) (mCons (mOp ixM (mLst (mCons (mTup (mCons (mRet (.int 1)) (mCons (mRet (.int 7)) mNil))) (mCons (mTup (mCons (mUn negM (mRet (.int 1))) (mCons (mRet (.int 7)) mNil))) (mCons (mTup (mCons (mRet (.int 99)) (mCons (mRet (.int 1)) mNil))) mNil)))) (mCall 2 F_law_next (mCons (mVar 1) (mCons (mRet (.int 3)) mNil)))) mNil))) mNil))) (mSlice (mVar 8) (mPart (mOp addM (mVar 12) (mRet (.int 1)))) mNoPart)))) (gN 13))
  (sSeq (sDrop (mMeth appM (mVar 13) (mCons (mCB tupleM (mCons (mComp (List.map (·.2) ([("top", 21), ("below", 22)] : List (Str × Nat))) (mItm (mVar 8)) (gT ((gN 21) :: ((gN 22) :: []))) mYes (mTup (mCons (mOp mulM2 (mRet (.int 2)) (mVar 21)) (mCons (mOp mulM2 (mRet (.int 2)) (mVar 22)) mNil)))) mNil)) mNil)))
  (sSeq (sAsg (mComp (List.map (·.2) ([("paper", 17)] : List (Str × Nat))) (mItm (mVar 13)) (gN 17) mYes (mCall 4 F_law_right (mCons (mVar 5) (mCons (mVar 6) (mCons (mVar 7) (mCons (mVar 17) mNil)))))) (gN 14))
  (sSeq (sIf (mT (mNot (mCall 2 F_law_same (mCons (mComp (List.map (·.2) ([("paper", 17)] : List (Str × Nat))) (mItm (mVar 13)) (gN 17) mYes (mCall 5 F_p_judge_levels (mCons (mVar 3) (mCons (mVar 4) (mCons (mVar 6) (mCons (mVar 7) (mCons (mVar 17) mNil))))))) (mCons (mVar 14) mNil))))) (sRet (mRet (.bl false))) sPass)
  (sSeq (sIf (mT (mOp gtM (mCB lenM (mCons (mComp (List.map (·.2) ([("k", 11)] : List (Str × Nat))) (mRng rng1 (mCons (mCB lenM (mCons (mVar 13) mNil)) mNil)) (gN 11) (mT (mAnd (mOp ixM (mVar 14) (mVar 11)) (mCall 2 F_law_above (mCons (mVar 9) (mCons (mOp ixM (mOp ixM (mVar 13) (mVar 11)) (mRet (.int 0))) mNil))))) (mVar 11)) mNil)) (mRet (.int 0)))) (sRet (mRet (.bl false))) sPass)
  (sSeq (sAsg (mLst (mCons (mTold (ksE C) (mCall 4 F_p_best_worth (mCons (mVar 3) (mCons (mRet (.int 2)) (mCons (mVar 6) (mCons (mVar 7) mNil)))))) (mCons (mTold (ksE C) (mCall 4 F_p_best_machine (mCons (mVar 3) (mCons (mVar 4) (mCons (mTup mNil) (mCons (mVar 7) mNil)))))) (mCons (mTold (ksE C) (mCall 4 F_p_levels_paper (mCons (mVar 3) (mCons (mVar 4) (mCons (mVar 6) (mCons (mTup (mCons (mRet (.int 1)) (mCons (mRet (.int 1)) mNil))) mNil)))))) (mCons (mTold (ksE C) (mCall 5 F_p_judge_levels (mCons (mVar 3) (mCons (mVar 4) (mCons (mTup (mCons (mTup (mCons (mRet (.int 9)) (mCons (mOp mulM2 (mTup (mCons (mRet (.int 0)) mNil)) (mCB lenM (mCons (mVar 5) mNil))) mNil))) mNil)) (mCons (mVar 7) (mCons (mTup mNil) mNil))))))) (mCons (mTold (ksE C) (mCall 5 F_p_judge_levels (mCons (mVar 3) (mCons (mVar 4) (mCons (mVar 6) (mCons (mTup (mCons (mRet (.int 2)) (mCons (mRet (.int 4)) mNil))) (mCons (mVar 8) mNil))))))) mNil)))))) (gN 15))
  (sIf (mT (mOp neM (mVar 15) (mOp mulM2 (mLst (mCons (mTup (mCons (mRet (.str "refused")) mNil)) mNil)) (mRet (.int 5))))) (sRet (mRet (.bl false))) sPass))))))))))))))))))))))
  (sRet (mRet (.bl true)))))
def F_law (C : Fin 5 → Addr) : FM := runC N_law (M_law C)
theorem sc_law : FnScope N_law ["script"] (defScope st_law) := C8.fnScope_by (by decide +kernel)
theorem d_law (h_law_above : CalM P w K mg base T k "_law_above" ["one", "other"] F_law_above) (h_law_discount : CalM P w K mg base T k "_law_discount" ["state"] F_law_discount) (h_law_machine : CalM P w K mg base T k "_law_machine" ["state", "own", "others"] F_law_machine) (h_law_next : CalM P w K mg base T k "_law_next" ["state", "many"] F_law_next) (h_law_plus : CalM P w K mg base T k "_law_plus" ["one", "other"] F_law_plus) (h_law_right : CalM P w K mg base T k "_law_right" ["table", "machine", "discount", "levels"] F_law_right) (h_law_same : CalM P w K mg base T k "_law_same" ["told", "due"] F_law_same) (h_law_seen : CalM P w K mg base T k "_law_seen" ["game", "who"] F_law_seen) (h_law_small : CalM P w K mg base T k "_law_small" ["state"] F_law_small) (h_law_stream : CalM P w K mg base T k "_law_stream" ["script"] F_law_stream) (h_law_worths : CalM P w K mg base T k "_law_worths" ["table", "first", "second", "discount"] F_law_worths) (h_p_best_machine : CalM P w K mg base T k "best_machine" ["game", "who", "machine", "discount"] F_p_best_machine) (h_p_best_worth : CalM P w K mg base T k "best_worth" ["game", "who", "machine", "discount"] F_p_best_worth) (h_p_judge_levels : CalM P w K mg base T k "judge_levels" ["game", "who", "machine", "discount", "levels"] F_p_judge_levels) (h_p_levels_paper : CalM P w K mg base T k "levels_paper" ["game", "who", "machine", "discount"] F_p_levels_paper) (bl : Blt mg) {C : Fin 5 → Addr} {f : Addr} {cdv : Value} {A : Around} {outer : List PySem.Env} {s : Shared} {H : Hp} {E : XK} (tl : TellR (cxOf (L2N.CX P w) P w K mg base N_law "law" (defScope st_law) f cdv A outer s H E) T (wE E) "_law_told" (ksE C) k) (hr : Room k (A.deeper (envOfC "law" (defScope st_law) s.heap.objs.size f cdv))) (hgd : A.guards = some []) :
    RSs (cxOf (L2N.CX P w) P w K mg base N_law "law" (defScope st_law) f cdv A outer s H E) T (wE E) (defBody st_law) (M_law C) := by
  have g : Cg (cxOf (L2N.CX P w) P w K mg base N_law "law" (defScope st_law) f cdv A outer s H E) k := ⟨rfl, sc_law.nd, hr, hgd⟩
  have tk : L2N.Takes (cxOf (L2N.CX P w) P w K mg base N_law "law" (defScope st_law) f cdv A outer s H E) (wE E) := L2N.takes_of rfl rfl rfl rfl
  have hp := passes_of (X := cxOf (L2N.CX P w) P w K mg base N_law "law" (defScope st_law) f cdv A outer s H E) rfl
  exact (ss_cons (sset g 1 (re_lstC (ra_cons (xcall g tk h_law_stream (ra_cons (xv 0) ra_nil)) (ra_cons re_int ra_nil))))
  (ss_cons (s_for hp g.hc (irng1 bl (ra_cons re_int ra_nil)) (gn g 2) (ss_cons (sset g 3 (xcall g tk h_law_small (ra_cons (xv 1) ra_nil)))
  (ss_cons (sset g 4 (xcall g tk h_law_next (ra_cons (xv 1) (ra_cons re_int ra_nil))))
  (ss_cons (sset g 5 (xcall g tk h_law_seen (ra_cons (xv 3) (ra_cons (xv 4) ra_nil))))
  (ss_cons (sset g 6 (xcall g tk h_law_machine (ra_cons (xv 1) (ra_cons (xlen bl (ra_cons (xix (xv 5) re_int) ra_nil)) (ra_cons (xlen bl (ra_cons (xv 5) ra_nil)) ra_nil)))))
  (ss_cons (sset g 7 (xcall g tk h_law_discount (ra_cons (xv 1) ra_nil)))
  (ss_cons (sset g 8 (xcall g tk h_p_levels_paper (ra_cons (xv 3) (ra_cons (xv 4) (ra_cons (xv 6) (ra_cons (xv 7) ra_nil))))))
  (ss_cons (sset g 9 (xcall g tk h_p_best_worth (ra_cons (xv 3) (ra_cons (xv 4) (ra_cons (xv 6) (ra_cons (xv 7) ra_nil))))))
  (ss_cons (sset g 10 (xcall g tk h_p_best_machine (ra_cons (xv 3) (ra_cons (xv 4) (ra_cons (xv 6) (ra_cons (xv 7) ra_nil))))))
  (ss_cons (s_if (rt_bop (rw_or (rt_not (rt_val (xcall g tk h_law_right (ra_cons (xv 5) (ra_cons (xv 6) (ra_cons (xv 7) (ra_cons (xv 8) ra_nil))))))) (rw_or (tcmp (m_ne g.u64) (xix (xv 8) re_int) (xv 9)) (rw_or1 (rt_not (rt_chain m_le m_le re_int (xlen bl (ra_cons (xv 10) ra_nil)) re_int)))))) (ss_one (s_ret re_bl)) ss_nil)
  (ss_cons (s_if (tcmp m_gt (xlen bl (ra_cons (xcomp g ([("choice", 18), ("moves", 19)] : List (Str × Nat)) (ri_seq (xv 10)) (fun _ _ _ _ _ => (gt g.b (gs_cons (gn g.b 18) (gs_cons (gn g.b 19) gs_nil)))) (fun _ _ _ _ _ => (rts_one (rt_bop (rw_or (rt_not (rt_chain m_le m_lt re_int (xv 18) (xlen bl (ra_cons (xv 5) ra_nil)))) (rw_or (tcmp (m_ne g.b.u64) (xlen bl (ra_cons (xv 19) ra_nil)) (xlen bl (ra_cons (xix (xv 5) re_int) ra_nil))) (rw_or1 (rt_not (rt_ch3 m_le m_le m_lt re_int (xmin g.b bl (ra_cons (xv 19) ra_nil)) (xmax g.b bl (ra_cons (xv 19) ra_nil)) (xlen bl (ra_cons (xv 10) ra_nil)))))))))) (fun _ _ _ _ _ => (xv 18))) ra_nil)) re_int) (ss_one (s_ret re_bl)) ss_nil)
  (ss_cons (s_if (tcmp (m_ne g.u64) (xcall g tk h_law_worths (ra_cons (xv 5) (ra_cons (xv 10) (ra_cons (xv 6) (ra_cons (xv 7) ra_nil))))) (xv 9)) (ss_one (s_ret re_bl)) ss_nil)
  (ss_cons (s_for hp g.hc (irng1 bl (ra_cons re_int ra_nil)) (gn g 11) (ss_cons (sset g 16 (xcall g tk h_law_machine (ra_cons (xv 1) (ra_cons (xlen bl (ra_cons (xv 5) ra_nil)) (ra_cons (xlen bl (ra_cons (xix (xv 5) re_int) ra_nil)) ra_nil)))))
  (ss_one (s_if (rt_val (xcall g tk h_law_above (ra_cons (xcall g tk h_law_worths (ra_cons (xv 5) (ra_cons (xv 16) (ra_cons (xv 6) (ra_cons (xv 7) ra_nil))))) (ra_cons (xv 9) ra_nil)))) (ss_one (s_ret re_bl)) ss_nil))))
  (ss_cons (sset g 12 (xcall g tk h_law_next (ra_cons (xv 1) (ra_cons (xlen bl (ra_cons (xv 8) ra_nil)) ra_nil))))
  (ss_cons (sset g 13 (re_lstC (ra_cons (xv 8) (ra_cons (re_slice (xv 8) (rp_some re_int) rp_none) (ra_cons (re_op m_add (xv 8) (re_tup (ra_cons (re_tup (ra_cons re_int (ra_cons re_int ra_nil))) ra_nil))) (ra_cons (xtuple bl (ra_cons (xcomp g ([("level", 20)] : List (Str × Nat)) (ri_seq (xv 8)) (fun _ _ _ _ _ => (gn g.b 20)) (fun _ _ _ _ _ => rts_nil) (fun _ _ _ _ _ => (xcall g.b tk0 h_law_plus (ra_cons (xv 20) (ra_cons (re_tup (ra_cons re_int (ra_cons re_int ra_nil))) ra_nil))))) ra_nil)) (ra_cons (re_op m_mul2 (re_tup (ra_cons (re_tup (ra_cons re_int (ra_cons re_int ra_nil))) ra_nil)) (xlen bl (ra_cons (xv 8) ra_nil))) ra_nil)))))))
  (ss_cons (sset g 13 (re_addC (xv 13) (xcomp g ([("k", 11)] : List (Str × Nat)) (irng1 bl (ra_cons re_int ra_nil)) (fun _ _ _ _ _ => (gn g.b 11)) (fun _ _ _ _ _ => rts_nil) (fun _ _ _ _ _ => (re_op m_add (re_op m_add (re_slice (xv 8) rp_none (rp_some (xv 12))) (re_tup (ra_cons (xcall g.b tk0 h_law_plus (ra_cons (xix (xv 8) (xv 12)) (ra_cons (xix (re_lst (ra_cons (re_tup (ra_cons re_int (ra_cons re_int ra_nil))) (ra_cons (re_tup (ra_cons (re_un m_neg re_int) (ra_cons re_int ra_nil))) (ra_cons (re_tup (ra_cons re_int (ra_cons re_int ra_nil))) ra_nil)))) (xcall g.b tk0 h_law_next (ra_cons (xv 1) (ra_cons re_int ra_nil)))) ra_nil))) ra_nil))) (re_slice (xv 8) (rp_some (re_op m_add (xv 12) re_int)) rp_none))))))
  (ss_cons (s_expr (re_append (xv 13) (ra_cons (xtuple bl (ra_cons (xcomp g ([("top", 21), ("below", 22)] : List (Str × Nat)) (ri_seq (xv 8)) (fun _ _ _ _ _ => (gt g.b (gs_cons (gn g.b 21) (gs_cons (gn g.b 22) gs_nil)))) (fun _ _ _ _ _ => rts_nil) (fun _ _ _ _ _ => (re_tup (ra_cons (re_op m_mul2 re_int (xv 21)) (ra_cons (re_op m_mul2 re_int (xv 22)) ra_nil))))) ra_nil)) ra_nil)))
  (ss_cons (sset g 14 (xcomp g ([("paper", 17)] : List (Str × Nat)) (ri_seq (xv 13)) (fun _ _ _ _ _ => (gn g.b 17)) (fun _ _ _ _ _ => rts_nil) (fun _ _ _ _ _ => (xcall g.b tk0 h_law_right (ra_cons (xv 5) (ra_cons (xv 6) (ra_cons (xv 7) (ra_cons (xv 17) ra_nil))))))))
  (ss_cons (s_if (rt_not (rt_val (xcall g tk h_law_same (ra_cons (xcomp g ([("paper", 17)] : List (Str × Nat)) (ri_seq (xv 13)) (fun _ _ _ _ _ => (gn g.b 17)) (fun _ _ _ _ _ => rts_nil) (fun _ _ _ _ _ => (xcall g.b tk0 h_p_judge_levels (ra_cons (xv 3) (ra_cons (xv 4) (ra_cons (xv 6) (ra_cons (xv 7) (ra_cons (xv 17) ra_nil)))))))) (ra_cons (xv 14) ra_nil))))) (ss_one (s_ret re_bl)) ss_nil)
  (ss_cons (s_if (tcmp m_gt (xlen bl (ra_cons (xcomp g ([("k", 11)] : List (Str × Nat)) (irng1 bl (ra_cons (xlen bl (ra_cons (xv 13) ra_nil)) ra_nil)) (fun _ _ _ _ _ => (gn g.b 11)) (fun _ _ _ _ _ => (rts_one (rt_bop (rw_and (rt_val (xix (xv 14) (xv 11))) (rw_and1 (rt_val (xcall g.b tk0 h_law_above (ra_cons (xv 9) (ra_cons (xix (xix (xv 13) (xv 11)) re_int) ra_nil))))))))) (fun _ _ _ _ _ => (xv 11))) ra_nil)) re_int) (ss_one (s_ret re_bl)) ss_nil)
  (ss_cons (sset g 15 (re_lst (ra_cons (tl N_law (by rfl) (by decide) rfl (fun _ _ _ _ _ => rfl) (fun A1 o1 s1 H1 E1 f1 c1 hr1 hg1 => (xcall (lamCg sc_law.nd hr1 hg1) (L2N.takes_of rfl rfl rfl rfl) h_p_best_worth (ra_cons (xv 3) (ra_cons re_int (ra_cons (xv 6) (ra_cons (xv 7) ra_nil))))))) (ra_cons (tl N_law (by rfl) (by decide) rfl (fun _ _ _ _ _ => rfl) (fun A1 o1 s1 H1 E1 f1 c1 hr1 hg1 => (xcall (lamCg sc_law.nd hr1 hg1) (L2N.takes_of rfl rfl rfl rfl) h_p_best_machine (ra_cons (xv 3) (ra_cons (xv 4) (ra_cons (re_tup ra_nil) (ra_cons (xv 7) ra_nil))))))) (ra_cons (tl N_law (by rfl) (by decide) rfl (fun _ _ _ _ _ => rfl) (fun A1 o1 s1 H1 E1 f1 c1 hr1 hg1 => (xcall (lamCg sc_law.nd hr1 hg1) (L2N.takes_of rfl rfl rfl rfl) h_p_levels_paper (ra_cons (xv 3) (ra_cons (xv 4) (ra_cons (xv 6) (ra_cons (re_tup (ra_cons re_int (ra_cons re_int ra_nil))) ra_nil))))))) (ra_cons (tl N_law (by rfl) (by decide) rfl (fun _ _ _ _ _ => rfl) (fun A1 o1 s1 H1 E1 f1 c1 hr1 hg1 => (xcall (lamCg sc_law.nd hr1 hg1) (L2N.takes_of rfl rfl rfl rfl) h_p_judge_levels (ra_cons (xv 3) (ra_cons (xv 4) (ra_cons (re_tup (ra_cons (re_tup (ra_cons re_int (ra_cons (re_op m_mul2 (re_tup (ra_cons re_int ra_nil)) (xlen bl (ra_cons (xv 5) ra_nil))) ra_nil))) ra_nil)) (ra_cons (xv 7) (ra_cons (re_tup ra_nil) ra_nil)))))))) (ra_cons (tl N_law (by rfl) (by decide) rfl (fun _ _ _ _ _ => rfl) (fun A1 o1 s1 H1 E1 f1 c1 hr1 hg1 => (xcall (lamCg sc_law.nd hr1 hg1) (L2N.takes_of rfl rfl rfl rfl) h_p_judge_levels (ra_cons (xv 3) (ra_cons (xv 4) (ra_cons (xv 6) (ra_cons (re_tup (ra_cons re_int (ra_cons re_int ra_nil))) (ra_cons (xv 8) ra_nil)))))))) ra_nil)))))))
  (ss_one (s_if (tcmp (m_ne g.u64) (xv 15) (re_op m_mul2 (re_lst (ra_cons (re_tup (ra_cons re_str ra_nil)) ra_nil)) re_int)) (ss_one (s_ret re_bl)) ss_nil)))))))))))))))))))))))
  (ss_one (s_ret re_bl))))
theorem g_law (h_law_above : CalM P w K mg base T k "_law_above" ["one", "other"] F_law_above) (h_law_discount : CalM P w K mg base T k "_law_discount" ["state"] F_law_discount) (h_law_machine : CalM P w K mg base T k "_law_machine" ["state", "own", "others"] F_law_machine) (h_law_next : CalM P w K mg base T k "_law_next" ["state", "many"] F_law_next) (h_law_plus : CalM P w K mg base T k "_law_plus" ["one", "other"] F_law_plus) (h_law_right : CalM P w K mg base T k "_law_right" ["table", "machine", "discount", "levels"] F_law_right) (h_law_same : CalM P w K mg base T k "_law_same" ["told", "due"] F_law_same) (h_law_seen : CalM P w K mg base T k "_law_seen" ["game", "who"] F_law_seen) (h_law_small : CalM P w K mg base T k "_law_small" ["state"] F_law_small) (h_law_stream : CalM P w K mg base T k "_law_stream" ["script"] F_law_stream) (h_law_worths : CalM P w K mg base T k "_law_worths" ["table", "first", "second", "discount"] F_law_worths) (h_p_best_machine : CalM P w K mg base T k "best_machine" ["game", "who", "machine", "discount"] F_p_best_machine) (h_p_best_worth : CalM P w K mg base T k "best_worth" ["game", "who", "machine", "discount"] F_p_best_worth) (h_p_judge_levels : CalM P w K mg base T k "judge_levels" ["game", "who", "machine", "discount", "levels"] F_p_judge_levels) (h_p_levels_paper : CalM P w K mg base T k "levels_paper" ["game", "who", "machine", "discount"] F_p_levels_paper) (bl : Blt mg) {C : Fin 5 → Addr} {gt Pt CS f : Addr} {fd : FuncData} (F : FunD K "law" "law" (defArgs st_law) (defBody st_law) (defScope st_law) [] [] f fd) {c : Addr} (hc : fd.code = .ref c)
    (FT : ∃ fd, FunD K "_law_told" "_law_told" (defArgs st_law_told) (defBody st_law_told) (defScope st_law_told) [] [] gt fd) (hm : mg "_law_told" = some (.ref gt)) (hmc : mg "ChooseError" = some (.ref CS)) (er : Errs K mg C) (hx : ∀ i : Fin 5, i.val < 3 → PySem.W.exmOne K (.ref (C i)) (.ref CS) = some true)
    (TB : LamX.TabB base mg c Pt) (hT : T = [(Pt, ("law.<locals>.<lambda>" : Str))]) : FnG P w K mg base T (k + 3) f fd ["script"] (F_law C) := by
  obtain ⟨oc, od, dV, kV, doc, pm, an, cdv, ct, osl, rfl, lk, hcd, _, _⟩ := F.ex
  refine FnG.chop (FnG.mk' lk hcd sc_law fun A outer s H E hr hg => ?_)
  subst hT
  exact d_law h_law_above h_law_discount h_law_machine h_law_next h_law_plus h_law_right h_law_same h_law_seen h_law_small h_law_stream h_law_worths h_p_best_machine h_p_best_worth h_p_judge_levels h_p_levels_paper bl (tellR (X := cxOf (L2N.CX P w) P w K mg base N_law "law" (defScope st_law) f cdv A outer s H E) FT hm hmc er hx bl TB hc List.mem_cons_self (fun p hp hq => by simp only [List.mem_cons, List.not_mem_nil, or_false] at hp; rw [hp]) hr hg rfl) (hr.mono (by omega)) hg

end
end K21

set_option Elab.async false
set_option linter.all false
set_option maxRecDepth 100000
set_option maxHeartbeats 4000000
namespace K21
open PySem PySem.Spec PyProof.Rows L2 MM PL
/-! ### ratios: the program's own -/
abbrev cGcd : Ev Bool := mT (mOp gtM (mVar 1) (mRet (.int 0)))
abbrev bGcd : SM := sPar 0 1 (mCons (mVar 1) (mCons (mOp modM (mVar 0) (mVar 1)) mNil))
theorem gcd_c (a b : Int) (μ : Mem) : cGcd [some (.int a), some (.int b)] μ = .ok (decide (0 < b)) μ := by
  simp [cGcd, mT, mB, mOp, mVar, mRet, gtM, oO, asB]
theorem gcd_b (a b : Int) (hb : b ≠ 0) (μ : Mem) : bGcd [some (.int a), some (.int b)] μ = .nx [some (.int b), some (.int (a.fmod b))] μ := by
  simp [bGcd, mB, mOp, mVar, mRet, oO, sE, hb, sPar, mCons, mNil, modM]
theorem gcd_stop (a : Nat) (n : Nat) (μ : Mem) : whileN cGcd bGcd (n + 1) [some (.int a), some (.int 0)] μ = .nx [some (.int a), some (.int 0)] μ :=
  while_stop (by rw [gcd_c]; rfl)
theorem gcd_go (a b : Nat) (hb : b ≠ 0) (n : Nat) (μ : Mem) : whileN cGcd bGcd (n + 1) [some (.int a), some (.int b)] μ = whileN cGcd bGcd n [some (.int b), some (.int (a % b : Nat))] μ := by
  have e : (a : Int).fmod b = ((a % b : Nat) : Int) := by
    rw [Int.fmod_eq_emod_of_nonneg _ (by omega)]
    omega
  rw [← e]
  exact while_go (by rw [gcd_c, decide_eq_true (by omega)]) (gcd_b _ _ (by omega) μ)
theorem gcd_while (μ : Mem) : ∀ (k a b n : Nat), b < 2 ^ k → 2 * k + 1 ≤ n → whileN cGcd bGcd n [some (.int a), some (.int b)] μ = .nx [some (.int (Nat.gcd a b)), some (.int 0)] μ := by
  intro k
  induction k with
  | zero =>
    intro a b n hb hn
    have : b = 0 := by simpa using hb
    subst this
    obtain ⟨m, rfl⟩ : ∃ m, n = m + 1 := ⟨n - 1, by omega⟩
    rw [Nat.gcd_zero_right]
    exact gcd_stop a m μ
  | succ k ih =>
    intro a b n hb hn
    obtain ⟨m, rfl⟩ : ∃ m, n = m + 1 := ⟨n - 1, by omega⟩
    by_cases h0 : b = 0
    · subst h0
      rw [Nat.gcd_zero_right]
      exact gcd_stop a m μ
    · rw [gcd_go a b h0 m μ]
      obtain ⟨m, rfl⟩ : ∃ m', m = m' + 1 := ⟨m - 1, by omega⟩
      have hr : a % b < b := Nat.mod_lt _ (by omega)
      have e1 : Nat.gcd a b = Nat.gcd b (a % b) := by rw [Nat.gcd_comm a b, Nat.gcd_rec b a, Nat.gcd_comm]
      by_cases h1 : a % b = 0
      · rw [h1, e1, h1, Nat.gcd_zero_right]
        exact gcd_stop b m μ
      · rw [gcd_go b (a % b) h1 m μ]
        have hr2 : b % (a % b) < a % b := Nat.mod_lt _ (by omega)
        have hs : b % (a % b) ≤ b - a % b := by
          have := Nat.div_add_mod b (a % b)
          have q1 : 1 ≤ b / (a % b) := (Nat.le_div_iff_mul_le (by omega)).mpr (by omega)
          have : a % b * 1 ≤ a % b * (b / (a % b)) := Nat.mul_le_mul_left _ q1
          omega
        have hb2 : b < 2 * 2 ^ k := by rw [← Nat.pow_succ']; exact hb
        rw [ih (a % b) (b % (a % b)) m (by omega) (by omega), e1, Nat.gcd_comm b (a % b), Nat.gcd_rec (a % b) b, Nat.gcd_comm (b % (a % b))]
theorem divisor_ok {μ : Mem} (hm : okMem μ) (a b : Int) (hb : b.natAbs < 2 ^ 20000) : F_p_divisor [.int a, .int b] μ = .ok (.int (Int.gcd a b : Nat)) μ := by
  have hw := gcd_while μ 20000 a.natAbs b.natAbs FUEL hb (by unfold FUEL; omega)
  have ab : ∀ i : Int, (if i < 0 then -i else i) = (i.natAbs : Int) := fun i => by omega
  refine run_rt0 ?_ rfl hm
  show M_p_divisor [some (.int a), some (.int b)] μ = _
  unfold M_p_divisor
  refine seq_step (ρ1 := [some (.int a.natAbs), some (.int b.natAbs)]) (μ1 := μ) (by simp [sAsg, sRet, sE, sDrop, sPar, sPass, gN, mB, mRet, mVar, mCons, mNil, mTup, mLst, mCB, mOp, mUn, mT, asB, oO, absM, ab]) ?_
  refine seq_step hw ?_
  simp [sAsg, sRet, sE, sDrop, sPar, sPass, gN, mB, mRet, mVar, mCons, mNil, mTup, mLst, mCB, mOp, mUn, mT, asB, oO, Int.gcd]
/-- the quotient in lowest terms -/
def qv (t b : Int) : MV := .tup [.int (t.fdiv (Int.gcd t b : Nat)), .int (b.fdiv (Int.gcd t b : Nat))]
theorem ratio_ok {μ : Mem} (hm : okMem μ) (t b : Int) (hb : 0 < b) (hz : b.natAbs < 2 ^ 8000) : F_p_ratio [.int t, .int b] μ = .ok (qv t b) μ := by
  have hg : 0 < Int.gcd t b := Int.gcd_pos_of_ne_zero_right t (by omega)
  have hl : Int.gcd t b ≤ b.natAbs := Nat.le_of_dvd (by omega) (Nat.gcd_dvd_right _ _)
  have hlog : (Int.gcd t b).log2 < 9000 := by
    have : (Int.gcd t b).log2 < 8000 := (Nat.log2_lt (by omega)).mpr (by omega)
    omega
  have hd := divisor_ok hm t b (Nat.lt_of_lt_of_le hz (Nat.pow_le_pow_right (by omega) (by omega)))
  have ok : okDiv ((Int.gcd t b : Nat) : Int) := .inl ⟨by omega, by simpa using hlog⟩
  have n0 : ¬ b = 0 := by omega
  have n1 : ¬ b < 0 := by omega
  refine run_rt0 ?_ rfl hm
  show M_p_ratio [some (.int t), some (.int b), none] μ = _
  unfold M_p_ratio
  refine seq_step (ρ1 := [some (.int t), some (.int b), none]) (μ1 := μ) (if_f (μ1 := μ) (by simp [sAsg, sRet, sE, sDrop, sPar, sPass, gN, mB, mRet, mVar, mCons, mNil, mTup, mLst, mCB, mOp, mUn, mT, asB, oO, eqI, n0]) rfl) ?_
  refine seq_step (ρ1 := [some (.int t), some (.int b), some (.int (Int.gcd t b : Nat))]) (μ1 := μ) (by simp [sAsg, sRet, sE, sDrop, sPar, sPass, gN, mB, mRet, mVar, mCons, mNil, mTup, mLst, mCB, mOp, mUn, mT, asB, oO, mCall, hd]) ?_
  refine seq_step (ρ1 := [some (.int t), some (.int b), some (.int (Int.gcd t b : Nat))]) (μ1 := μ) (if_f (μ1 := μ) (by simp [sAsg, sRet, sE, sDrop, sPar, sPass, gN, mB, mRet, mVar, mCons, mNil, mTup, mLst, mCB, mOp, mUn, mT, asB, oO, ltM, n1]) rfl) ?_
  simp [sAsg, sRet, sE, sDrop, sPar, sPass, gN, mB, mRet, mVar, mCons, mNil, mTup, mLst, mCB, mOp, mUn, mT, asB, oO, fdivM, ok, qv, two_le]
/-! ### ratios as Rat -/
def rq (x : Rat) : MV := .tup [.int x.num, .int x.den]
theorem nr_rq (x : Rat) : nr (rq x) = true := rfl
theorem qv_rat (t : Int) (n : Nat) (h : n ≠ 0) : qv t n = rq (mkRat t n) := by
  have e : Int.gcd t n = Nat.gcd n t.natAbs := by rw [Int.gcd, Int.natAbs_natCast, Nat.gcd_comm]
  unfold qv rq
  rw [Rat.num_mkRat, Rat.den_mkRat, if_neg h, if_neg h, e]
  have h0 : (0 : Int) ≤ (Nat.gcd n t.natAbs : Nat) := by omega
  rw [Int.fdiv_eq_ediv_of_nonneg _ h0, Int.fdiv_eq_ediv_of_nonneg _ h0]
  rw [Int.natCast_ediv]
theorem qv_rat2 (t b : Int) (h : 0 < b) : qv t b = rq (mkRat t b.natAbs) := by
  have := qv_rat t b.natAbs (by omega)
  rwa [show ((b.natAbs : Nat) : Int) = b by omega] at this
/-- its parts are below 2^n -/
def Sz (x : Rat) (n : Nat) : Prop := x.num.natAbs < 2 ^ n ∧ x.den < 2 ^ n
theorem Sz.mono {x : Rat} {n m : Nat} (h : Sz x n) (k : n ≤ m) : Sz x m := ⟨Nat.lt_of_lt_of_le h.1 (Nat.pow_le_pow_right (by omega) k), Nat.lt_of_lt_of_le h.2 (Nat.pow_le_pow_right (by omega) k)⟩
theorem mkRat_sz {t : Int} {d n : Nat} (h1 : t.natAbs < 2 ^ n) (h2 : d < 2 ^ n) (h0 : d ≠ 0) : Sz (mkRat t d) n := by
  unfold Sz
  rw [Rat.num_mkRat, Rat.den_mkRat, if_neg h0, if_neg h0]
  have a1 : (t / (Nat.gcd d t.natAbs : Int)).natAbs ≤ t.natAbs := Int.natAbs_ediv_le_natAbs _ _
  have a2 : d / Nat.gcd d t.natAbs ≤ d := Nat.div_le_self _ _
  exact ⟨by omega, by omega⟩
theorem mul_lt_pow {a b n m : Nat} (h1 : a < 2 ^ n) (h2 : b < 2 ^ m) : a * b < 2 ^ (n + m) := by
  rw [Nat.pow_add]
  have p : 0 < 2 ^ m := Nat.pow_pos (by omega)
  calc a * b ≤ a * 2 ^ m := Nat.mul_le_mul_left _ (by omega)
    _ < 2 ^ n * 2 ^ m := Nat.mul_lt_mul_of_pos_right h1 p
theorem Sz.mul {x y : Rat} {n m : Nat} (hx : Sz x n) (hy : Sz y m) : Sz (x * y) (n + m) := by
  rw [Rat.mul_def']
  refine mkRat_sz ?_ (mul_lt_pow hx.2 hy.2) (Nat.mul_ne_zero x.den_nz y.den_nz)
  rw [Int.natAbs_mul]
  exact mul_lt_pow hx.1 hy.1
theorem Sz.add {x y : Rat} {n m : Nat} (hx : Sz x n) (hy : Sz y m) : Sz (x + y) (n + m + 1) := by
  rw [Rat.add_def']
  have e : 2 ^ (n + m + 1) = 2 ^ (n + m) + 2 ^ (n + m) := by rw [Nat.pow_succ]; omega
  have a1 := mul_lt_pow hx.1 hy.2
  have a2 := mul_lt_pow hy.1 hx.2
  rw [Nat.add_comm m n] at a2
  refine mkRat_sz ?_ (by have := mul_lt_pow hx.2 hy.2; omega) (Nat.mul_ne_zero x.den_nz y.den_nz)
  have b1 := Int.natAbs_add_le (x.num * y.den) (y.num * x.den)
  rw [Int.natAbs_mul, Int.natAbs_mul, Int.natAbs_natCast, Int.natAbs_natCast] at b1
  omega
theorem log_lt {a n : Nat} (h : a < 2 ^ n) : a.log2 ≤ n := by
  by_cases z : a = 0
  · subst z; simp
  · exact Nat.le_of_lt ((Nat.log2_lt z).mpr h)
theorem okMul_of {i j : Int} {n m : Nat} (hi : i.natAbs < 2 ^ n) (hj : j.natAbs < 2 ^ m) (h : n + m < 900000) : okMul i j := by
  have a := log_lt hi
  have b := log_lt hj
  unfold okMul
  omega
theorem den_int (x : Rat) : (x.den : Int).natAbs = x.den := Int.natAbs_natCast _
theorem ix0 (μ : Mem) (a b : MV) : ixM μ (.tup [a, b]) (.int 0) = some a := rfl
theorem ix1 (μ : Mem) (a b : MV) : ixM μ (.tup [a, b]) (.int 1) = some b := rfl
theorem addI (μ : Mem) (i j : Int) : addM μ (.int i) (.int j) = some (.int (i + j)) := rfl
theorem mulI {i j : Int} (μ : Mem) (h : okMul i j) : mulM2 μ (.int i) (.int j) = some (.int (i * j)) := if_pos h
theorem den_pos (x : Rat) : (0 : Int) < x.den := by have := x.den_nz; omega
theorem added_ok {μ : Mem} (hm : okMem μ) {x y : Rat} {n m : Nat} (hx : Sz x n) (hy : Sz y m) (h : n + m < 7000) : F_p_added [rq x, rq y] μ = .ok (rq (x + y)) μ := by
  have hd : 0 < (x.den : Int) * y.den := Int.mul_pos (den_pos x) (den_pos y)
  have hs : ((x.den : Int) * y.den).natAbs < 2 ^ 8000 := by
    rw [Int.natAbs_mul, den_int, den_int]
    exact Nat.lt_of_lt_of_le (mul_lt_pow hx.2 hy.2) (Nat.pow_le_pow_right (by omega) (by omega))
  have hr := ratio_ok hm (x.num * y.den + y.num * x.den) (x.den * y.den) hd hs
  have m1 := okMul_of (i := x.num) (j := y.den) hx.1 (by rw [den_int]; exact hy.2) (by omega)
  have m2 := okMul_of (i := y.num) (j := x.den) hy.1 (by rw [den_int]; exact hx.2) (by omega)
  have m3 := okMul_of (i := x.den) (j := y.den) (by rw [den_int]; exact hx.2) (by rw [den_int]; exact hy.2) (by omega)
  have e : qv (x.num * y.den + y.num * x.den) (x.den * y.den) = rq (x + y) := by
    rw [qv_rat2 _ _ hd, Rat.add_def', Int.natAbs_mul, den_int, den_int]
  rw [e] at hr
  refine run_rt0 ?_ (nr_rq _) hm
  show M_p_added [some (rq x), some (rq y)] μ = _
  unfold M_p_added
  simp [sAsg, sRet, sE, sDrop, sPar, sPass, gN, mB, mRet, mVar, mCons, mNil, mTup, mLst, mCB, mOp, mUn, mT, asB, oO, rq, ix0, ix1, mulI _ m1, mulI _ m2, mulI _ m3, addI, mCall, hr]
theorem times_ok {μ : Mem} (hm : okMem μ) {x y : Rat} {n m : Nat} (hx : Sz x n) (hy : Sz y m) (h : n + m < 7000) : F_p_times [rq x, rq y] μ = .ok (rq (x * y)) μ := by
  have hd : 0 < (x.den : Int) * y.den := Int.mul_pos (den_pos x) (den_pos y)
  have hs : ((x.den : Int) * y.den).natAbs < 2 ^ 8000 := by
    rw [Int.natAbs_mul, den_int, den_int]
    exact Nat.lt_of_lt_of_le (mul_lt_pow hx.2 hy.2) (Nat.pow_le_pow_right (by omega) (by omega))
  have hr := ratio_ok hm (x.num * y.num) (x.den * y.den) hd hs
  have m1 := okMul_of (i := x.num) (j := y.num) hx.1 hy.1 (by omega)
  have m3 := okMul_of (i := x.den) (j := y.den) (by rw [den_int]; exact hx.2) (by rw [den_int]; exact hy.2) (by omega)
  have e : qv (x.num * y.num) (x.den * y.den) = rq (x * y) := by
    rw [qv_rat2 _ _ hd, Rat.mul_def', Int.natAbs_mul, den_int, den_int]
  rw [e] at hr
  refine run_rt0 ?_ (nr_rq _) hm
  show M_p_times [some (rq x), some (rq y)] μ = _
  unfold M_p_times
  simp [sAsg, sRet, sE, sDrop, sPar, sPass, gN, mB, mRet, mVar, mCons, mNil, mTup, mLst, mCB, mOp, mUn, mT, asB, oO, rq, ix0, ix1, mulI _ m1, mulI _ m3, mCall, hr]
theorem less_ok {μ : Mem} (hm : okMem μ) {x y : Rat} {n m : Nat} (hx : Sz x n) (hy : Sz y m) (h : n + m < 7000) : F_p_less [rq x, rq y] μ = .ok (.bl (decide (x < y))) μ := by
  have m1 := okMul_of (i := x.num) (j := y.den) hx.1 (by rw [den_int]; exact hy.2) (by omega)
  have m2 := okMul_of (i := y.num) (j := x.den) hy.1 (by rw [den_int]; exact hx.2) (by omega)
  refine run_rt0 ?_ rfl hm
  show M_p_less [some (rq x), some (rq y)] μ = _
  unfold M_p_less
  simp [sAsg, sRet, sE, sDrop, sPar, sPass, gN, mB, mRet, mVar, mCons, mNil, mTup, mLst, mCB, mOp, mUn, mT, asB, oO, rq, ix0, ix1, mulI _ m1, mulI _ m2, ltM, Rat.lt_iff]
theorem negative_ok {μ : Mem} (hm : okMem μ) (x : Rat) : F_p_negative [rq x] μ = .ok (rq (-x)) μ := by
  refine run_rt0 ?_ (nr_rq _) hm
  show M_p_negative [some (rq x)] μ = _
  unfold M_p_negative
  simp [sAsg, sRet, sE, sDrop, sPar, sPass, gN, mB, mRet, mVar, mCons, mNil, mTup, mLst, mCB, mOp, mUn, mT, asB, oO, rq, ix0, ix1, negM, two_le]
/-! ### ratios: the law's own -/
abbrev bLg : SM := sSeq (sIf (mT (mOp eqM (mVar 1) (mRet (.int 0)))) (fun ρ μ => .bk ρ μ) sPass) (sPar 0 1 (mCons (mVar 1) (mCons (mOp modM (mVar 0) (mVar 1)) mNil)))
theorem lg_stop (a : Int) (t : Option MV) (μ : Mem) : bLg [some (.int a), some (.int 0), t] μ = .bk [some (.int a), some (.int 0), t] μ := by
  unfold bLg sSeq
  rw [show sIf (mT (mOp eqM (mVar 1) (mRet (.int 0)))) (fun ρ μ => .bk ρ μ) sPass [some (.int a), some (.int 0), t] μ = .bk [some (.int a), some (.int 0), t] μ from if_t (μ1 := μ) (by simp [sAsg, sRet, sE, sDrop, sPar, sPass, gN, mB, mRet, mVar, mCons, mNil, mTup, mLst, mCB, mOp, mUn, mT, asB, oO, eqI]) rfl]
theorem lg_go (a b : Int) (hb : b ≠ 0) (t : Option MV) (μ : Mem) : bLg [some (.int a), some (.int b), t] μ = .nx [some (.int b), some (.int (a.fmod b)), t] μ := by
  unfold bLg
  refine seq_step (ρ1 := [some (.int a), some (.int b), t]) (μ1 := μ) (if_f (μ1 := μ) (by simp [sAsg, sRet, sE, sDrop, sPar, sPass, gN, mB, mRet, mVar, mCons, mNil, mTup, mLst, mCB, mOp, mUn, mT, asB, oO, eqI, hb]) rfl) ?_
  simp [sAsg, sRet, sE, sDrop, sPar, sPass, gN, mB, mRet, mVar, mCons, mNil, mTup, mLst, mCB, mOp, mUn, mT, asB, oO, modM, hb]
theorem lg_for (μ : Mem) (xs0 : List MV) : ∀ (k a b : Nat) (xs : List MV) (t : Option MV), b < 2 ^ k → 2 * k + 1 ≤ xs.length → ∃ u, forL ⟨xs0, []⟩ (gN 2) bLg xs [some (.int a), some (.int b), t] μ = .nx [some (.int (Nat.gcd a b)), some (.int 0), u] μ := by
  have fm : ∀ a b : Nat, (a : Int).fmod b = ((a % b : Nat) : Int) := fun a b => by
    rw [Int.fmod_eq_emod_of_nonneg _ (by omega)]
    omega
  intro k
  induction k with
  | zero =>
    intro a b xs t hb hn
    have : b = 0 := by simpa using hb
    subst this
    match xs, hn with
    | x :: xs, _ =>
      rw [Nat.gcd_zero_right]
      exact ⟨_, for_bk (by rfl) (lg_stop a _ μ)⟩
  | succ k ih =>
    intro a b xs t hb hn
    match xs, hn with
    | x :: y :: xs, hn =>
      have hn : 2 * k + 1 ≤ xs.length := by simp at hn; omega
      by_cases h0 : b = 0
      · subst h0
        rw [Nat.gcd_zero_right]
        exact ⟨_, for_bk (by rfl) (lg_stop a _ μ)⟩
      · have hr : a % b < b := Nat.mod_lt _ (by omega)
        have e1 : Nat.gcd a b = Nat.gcd b (a % b) := by rw [Nat.gcd_comm a b, Nat.gcd_rec b a, Nat.gcd_comm]
        have s1 := lg_go a b (by omega) (some x) μ
        rw [fm] at s1
        by_cases h1 : a % b = 0
        · rw [h1] at s1
          rw [e1, h1, Nat.gcd_zero_right, for_nx (g := gN 2) (by rfl) s1]
          exact ⟨_, for_bk (by rfl) (lg_stop b _ μ)⟩
        · have s2 := lg_go b (a % b : Nat) (by omega) (some y) μ
          rw [fm] at s2
          have hs : b % (a % b) ≤ b - a % b := by
            have := Nat.div_add_mod b (a % b)
            have q1 : 1 ≤ b / (a % b) := (Nat.le_div_iff_mul_le (by omega)).mpr (by omega)
            have : a % b * 1 ≤ a % b * (b / (a % b)) := Nat.mul_le_mul_left _ q1
            omega
          have hr2 : b % (a % b) < a % b := Nat.mod_lt _ (by omega)
          have hb2 : b < 2 * 2 ^ k := by rw [← Nat.pow_succ']; exact hb
          obtain ⟨u, hu⟩ := ih (a % b) (b % (a % b)) xs (some y) (by omega) hn
          refine ⟨u, ?_⟩
          rw [for_nx (g := gN 2) (by rfl) s1, for_nx (g := gN 2) (by rfl) s2, hu, e1, Nat.gcd_comm b (a % b), Nat.gcd_rec (a % b) b, Nat.gcd_comm (b % (a % b))]
theorem intsL_cons (n : Nat) : ∃ r, intsL 0 (n + 1) = .int 0 :: r ∧ r.length = n := by
  have h := intsL_len 0 (n + 1)
  match e : intsL 0 (n + 1), h with
  | x :: r, h =>
    have g := intsL_get (lo := 0) (n := n + 1) (i := 0) (d := x) (by rw [e]; rfl)
    refine ⟨r, ?_, by simpa using h⟩
    rw [g.2]
    rfl
theorem lgcd_ok {μ : Mem} (hm : okMem μ) (a b : Int) (hb : 0 < b) (hz : b.natAbs < 2 ^ 199) : F_law_gcd [.int a, .int b] μ = .ok (.int (Int.gcd a b : Nat)) μ := by
  obtain ⟨r, hr, hl⟩ := intsL_cons 399
  obtain ⟨n, rfl⟩ : ∃ n : Nat, b = n := ⟨b.toNat, by omega⟩
  have hlt : (a % (n : Int)).toNat < n := by
    have := Int.emod_lt_of_pos a hb
    have := Int.emod_nonneg a (b := (n : Int)) (by omega)
    omega
  have fm : a.fmod n = ((a % (n : Int)).toNat : Nat) := by
    have := Int.emod_nonneg a (b := (n : Int)) (by omega)
    rw [Int.fmod_eq_emod_of_nonneg _ (by omega)]
    omega
  have gr : Nat.gcd n (a % (n : Int)).toNat = Int.gcd a n := by
    have : ((a % (n : Int)).toNat : Int) = a % (n : Int) := by
      have := Int.emod_nonneg a (b := (n : Int)) (by omega)
      omega
    rw [← Int.gcd_natCast_natCast, this, Int.emod_def, Int.gcd_sub_mul_left_right, Int.gcd_comm]
  obtain ⟨u, hu⟩ := lg_for μ (intsL 0 400) 199 n (a % (n : Int)).toNat r (some (.int 0)) (by omega) (by omega)
  have s1 := lg_go a n (by omega) (some (.int 0)) μ
  rw [fm] at s1
  refine run_rt0 ?_ rfl hm
  show M_law_gcd [some (.int a), some (.int n), none] μ = _
  unfold M_law_gcd
  refine seq_step (ρ1 := [some (.int (Nat.gcd n (a % (n : Int)).toNat)), some (.int 0), u]) (μ1 := μ) (sfor_of (mrng1 (n := 400) (μ1 := μ) (by simp [sAsg, sRet, sE, sDrop, sPar, sPass, gN, mB, mRet, mVar, mCons, mNil, mTup, mLst, mCB, mOp, mUn, mT, asB, oO]) (by decide)) ?_) ?_
  · show forL ⟨intsL 0 400, []⟩ (gN 2) bLg (intsL 0 400) _ μ = _
    have key : ∀ xs, xs = .int 0 :: r → forL ⟨intsL 0 400, []⟩ (gN 2) bLg xs [some (.int a), some (.int n), none] μ = .nx [some (.int (Nat.gcd n (a % (n : Int)).toNat)), some (.int 0), u] μ := fun xs e => by
      rw [e, for_nx (g := gN 2) (by rfl) s1]
      exact hu
    exact key _ hr
  · have : ¬ ((Int.gcd a n : Nat) : Int) < 0 := by omega
    simp [sAsg, sRet, sE, sDrop, sPar, sPass, gN, mB, mRet, mVar, mCons, mNil, mTup, mLst, mCB, mOp, mUn, mT, asB, oO, absM, gr, this]
theorem lfrac_ok {μ : Mem} (hm : okMem μ) (t b : Int) (hb : 0 < b) (hz : b.natAbs < 2 ^ 199) : F_law_fraction [.int t, .int b] μ = .ok (qv t b) μ := by
  have hg : 0 < Int.gcd t b := Int.gcd_pos_of_ne_zero_right t (by omega)
  have hl : Int.gcd t b ≤ b.natAbs := Nat.le_of_dvd (by omega) (Nat.gcd_dvd_right _ _)
  have hlog : (Int.gcd t b).log2 < 9000 := by
    have : (Int.gcd t b).log2 < 199 := (Nat.log2_lt (by omega)).mpr (by omega)
    omega
  have ok : okDiv ((Int.gcd t b : Nat) : Int) := .inl ⟨by omega, by simpa using hlog⟩
  have hd := lgcd_ok hm t b hb hz
  refine run_rt0 ?_ rfl hm
  show M_law_fraction [some (.int t), some (.int b), none] μ = _
  unfold M_law_fraction
  refine seq_step (ρ1 := [some (.int t), some (.int b), some (.int (Int.gcd t b : Nat))]) (μ1 := μ) (by simp [sAsg, sRet, sE, sDrop, sPar, sPass, gN, mB, mRet, mVar, mCons, mNil, mTup, mLst, mCB, mOp, mUn, mT, asB, oO, mCall, hd]) ?_
  simp [sAsg, sRet, sE, sDrop, sPar, sPass, gN, mB, mRet, mVar, mCons, mNil, mTup, mLst, mCB, mOp, mUn, mT, asB, oO, fdivM, ok, qv, two_le]
theorem lplus_ok {μ : Mem} (hm : okMem μ) {x y : Rat} {n m : Nat} (hx : Sz x n) (hy : Sz y m) (h : n + m ≤ 199) : F_law_plus [rq x, rq y] μ = .ok (rq (x + y)) μ := by
  have hd : 0 < (x.den : Int) * y.den := Int.mul_pos (den_pos x) (den_pos y)
  have hs : ((x.den : Int) * y.den).natAbs < 2 ^ 199 := by
    rw [Int.natAbs_mul, den_int, den_int]
    exact Nat.lt_of_lt_of_le (mul_lt_pow hx.2 hy.2) (Nat.pow_le_pow_right (by omega) (by omega))
  have hr := lfrac_ok hm (x.num * y.den + y.num * x.den) (x.den * y.den) hd hs
  have m1 := okMul_of (i := x.num) (j := y.den) hx.1 (by rw [den_int]; exact hy.2) (by omega)
  have m2 := okMul_of (i := y.num) (j := x.den) hy.1 (by rw [den_int]; exact hx.2) (by omega)
  have m3 := okMul_of (i := x.den) (j := y.den) (by rw [den_int]; exact hx.2) (by rw [den_int]; exact hy.2) (by omega)
  have e : qv (x.num * y.den + y.num * x.den) (x.den * y.den) = rq (x + y) := by
    rw [qv_rat2 _ _ hd, Rat.add_def', Int.natAbs_mul, den_int, den_int]
  rw [e] at hr
  refine run_rt0 ?_ (nr_rq _) hm
  show M_law_plus [some (rq x), some (rq y)] μ = _
  unfold M_law_plus
  simp [sAsg, sRet, sE, sDrop, sPar, sPass, gN, mB, mRet, mVar, mCons, mNil, mTup, mLst, mCB, mOp, mUn, mT, asB, oO, rq, ix0, ix1, mulI _ m1, mulI _ m2, mulI _ m3, addI, mCall, hr]
theorem ltimes_ok {μ : Mem} (hm : okMem μ) {x y : Rat} {n m : Nat} (hx : Sz x n) (hy : Sz y m) (h : n + m ≤ 199) : F_law_times [rq x, rq y] μ = .ok (rq (x * y)) μ := by
  have hd : 0 < (x.den : Int) * y.den := Int.mul_pos (den_pos x) (den_pos y)
  have hs : ((x.den : Int) * y.den).natAbs < 2 ^ 199 := by
    rw [Int.natAbs_mul, den_int, den_int]
    exact Nat.lt_of_lt_of_le (mul_lt_pow hx.2 hy.2) (Nat.pow_le_pow_right (by omega) (by omega))
  have hr := lfrac_ok hm (x.num * y.num) (x.den * y.den) hd hs
  have m1 := okMul_of (i := x.num) (j := y.num) hx.1 hy.1 (by omega)
  have m3 := okMul_of (i := x.den) (j := y.den) (by rw [den_int]; exact hx.2) (by rw [den_int]; exact hy.2) (by omega)
  have e : qv (x.num * y.num) (x.den * y.den) = rq (x * y) := by
    rw [qv_rat2 _ _ hd, Rat.mul_def', Int.natAbs_mul, den_int, den_int]
  rw [e] at hr
  refine run_rt0 ?_ (nr_rq _) hm
  show M_law_times [some (rq x), some (rq y)] μ = _
  unfold M_law_times
  simp [sAsg, sRet, sE, sDrop, sPar, sPass, gN, mB, mRet, mVar, mCons, mNil, mTup, mLst, mCB, mOp, mUn, mT, asB, oO, rq, ix0, ix1, mulI _ m1, mulI _ m3, mCall, hr]
theorem rat_div {x y : Rat} (hy : 0 < y.num) : x / y = mkRat (x.num * y.den) (x.den * y.num.toNat) := by
  have e1 : x = mkRat x.num x.den := (Rat.mkRat_self x).symm
  have e2 : y⁻¹ = mkRat y.den y.num.toNat := by
    rw [Rat.mkRat_eq_div]
    have h : (y.num.toNat : Rat) = (y.num : Rat) := by
      have : ((y.num.toNat : Int) : Rat) = (y.num : Rat) := by rw [Int.toNat_of_nonneg (by omega)]
      rwa [Rat.intCast_natCast] at this
    rw [h]
    have d : y = (y.num : Rat) / (y.den : Rat) := by
      have := Rat.mkRat_eq_div y.num y.den
      rw [Rat.mkRat_self] at this
      exact this
    have n1 : (y.num : Rat) ≠ 0 := fun z => by
      have : y.num = 0 := by exact_mod_cast z
      omega
    have n2 : (y.den : Rat) ≠ 0 := fun z => by
      have : y.den = 0 := by exact_mod_cast z
      exact y.den_nz this
    have : y * ((y.den : Rat) / (y.num : Rat)) = 1 := by
      conv => lhs; lhs; rw [d]
      grind
    have c : ((y.den : Int) : Rat) = (y.den : Rat) := Rat.intCast_natCast _
    rw [c]
    have n3 : y ≠ 0 := fun z => by rw [z] at hy; simp at hy
    grind
  rw [Rat.div_def, e2]
  conv => lhs; lhs; rw [e1]
  rw [Rat.mkRat_mul_mkRat]
theorem over_ok {μ : Mem} (hm : okMem μ) {x y : Rat} {n m : Nat} (hx : Sz x n) (hy : Sz y m) (hp : 0 < y.num) (h : n + m < 7000) : F_p_over [rq x, rq y] μ = .ok (rq (x / y)) μ := by
  have hd : 0 < (x.den : Int) * y.num := Int.mul_pos (den_pos x) hp
  have hs : ((x.den : Int) * y.num).natAbs < 2 ^ 8000 := by
    rw [Int.natAbs_mul, den_int]
    exact Nat.lt_of_lt_of_le (mul_lt_pow hx.2 hy.1) (Nat.pow_le_pow_right (by omega) (by omega))
  have hr := ratio_ok hm (x.num * y.den) (x.den * y.num) hd hs
  have m1 := okMul_of (i := x.num) (j := y.den) hx.1 (by rw [den_int]; exact hy.2) (by omega)
  have m3 := okMul_of (i := x.den) (j := y.num) (by rw [den_int]; exact hx.2) hy.1 (by omega)
  have e : qv (x.num * y.den) (x.den * y.num) = rq (x / y) := by
    rw [qv_rat2 _ _ hd, rat_div hp, Int.natAbs_mul, den_int, show y.num.natAbs = y.num.toNat by omega]
  rw [e] at hr
  refine run_rt0 ?_ (nr_rq _) hm
  show M_p_over [some (rq x), some (rq y)] μ = _
  unfold M_p_over
  simp [sAsg, sRet, sE, sDrop, sPar, sPass, gN, mB, mRet, mVar, mCons, mNil, mTup, mLst, mCB, mOp, mUn, mT, asB, oO, rq, ix0, ix1, mulI _ m1, mulI _ m3, mCall, hr]
theorem gcd_rat (x : Rat) : Int.gcd x.num x.den = 1 := by
  have := x.reduced
  rw [Int.gcd, Int.natAbs_natCast]
  exact this
/-- is it a ratio: a pair of whole numbers -/
def isQ (t b : Int) : Bool := decide (1 ≤ b) && decide (Int.gcd t b = 1)
theorem is_ratio_ok {μ : Mem} (hm : okMem μ) (t b : Int) (hb : b.natAbs < 2 ^ 20000) : F_p_is_ratio [.tup [.int t, .int b]] μ = .ok (.bl (isQ t b)) μ := by
  have hd := divisor_ok hm t b hb
  have l2 : lenM μ [.tup [.int t, .int b]] = some (.int 2) := rfl
  refine run_rt0 ?_ rfl hm
  show M_p_is_ratio [some (.tup [.int t, .int b])] μ = _
  unfold M_p_is_ratio isQ
  by_cases h : 1 ≤ b
  · simp [sAsg, sRet, sE, sDrop, sPar, sPass, gN, mB, mRet, mVar, mCons, mNil, mTup, mLst, mCB, mOp, mUn, mT, asB, oO, mAnd, ix0, ix1, l2, eqI, geM, h, mCall, hd]
    omega
  · simp [sAsg, sRet, sE, sDrop, sPar, sPass, gN, mB, mRet, mVar, mCons, mNil, mTup, mLst, mCB, mOp, mUn, mT, asB, oO, mAnd, ix0, ix1, l2, eqI, geM, h]
end K21

set_option Elab.async false
set_option linter.all false
set_option maxRecDepth 100000
set_option maxHeartbeats 4000000
namespace K21
open PySem PySem.Spec PyProof.Rows L2 MM PL
/-! ### tables -/
def rR (r : List Int) : MV := .tup (r.map .int)
def rT (t : List (List Int)) : MV := .tup (t.map rR)
theorem nr_R (r : List Int) : nr (rR r) = true := by
  unfold rR nr
  exact nrs_map _ (fun _ => rfl) r
theorem nr_T (t : List (List Int)) : nr (rT t) = true := by
  unfold rT nr
  exact nrs_map _ nr_R t
theorem lenR (μ : Mem) (r : List Int) : lenM μ [rR r] = some (.int r.length) := by
  show some (MV.int (r.map MV.int).length) = _
  rw [List.length_map]
theorem lenTT (μ : Mem) (t : List (List Int)) : lenM μ [rT t] = some (.int t.length) := by
  show some (MV.int (t.map rR).length) = _
  rw [List.length_map]
/-- a table in range -/
structure OkT (t : List (List Int)) (h w : Nat) : Prop where
  hl : t.length = h
  h1 : 1 ≤ h ∧ h ≤ 5
  w1 : 1 ≤ w ∧ w ≤ 5
  rl : ∀ r ∈ t, r.length = w
  rg : ∀ r ∈ t, ∀ g ∈ r, -99 ≤ g ∧ g ≤ 99
theorem lenT (μ : Mem) (xs : List MV) : lenM μ [.tup xs] = some (.int xs.length) := rfl
theorem ixT (μ : Mem) (xs : List MV) (i : Int) : ixM μ (.tup xs) (.int i) = atI xs i := rfl
theorem atN {α : Type} (xs : List α) (n : Nat) (h : n < xs.length) : atI xs (n : Int) = xs[n]? := by
  unfold atI ixN
  rw [if_pos (by omega), if_pos (by omega)]
  simp
theorem at0 {α : Type} (x : α) (xs : List α) : atI (x :: xs) 0 = some x := by
  unfold atI ixN
  rw [if_pos (by omega), if_pos (by simp <;> omega)]
  rfl
theorem ixTT (μ : Mem) (r : List Int) (t : List (List Int)) : ixM μ (rT (r :: t)) (.int 0) = some (rR r) := at0 _ _
theorem neI (μ : Mem) (i j : Int) : neM μ (.int i) (.int j) = some (.bl (!decide (i = j))) := rfl
theorem small5 {n : Nat} (h : n ≤ 1000) : n ≤ sizeLine := by
  have : (1000 : Nat) ≤ sizeLine := by decide
  omega
theorem check_table_ok {μ : Mem} (hm : okMem μ) {t : List (List Int)} {h w : Nat} (ok : OkT t h w) : F_p_check_table [rT t] μ = .ok .non μ := by
  match t, ok with
  | [], ok => exact absurd ok.hl (by have := ok.h1; simp; omega)
  | r0 :: t', ok =>
    have l0 : r0.length = w := ok.rl r0 List.mem_cons_self
    have h1 := ok.h1
    have w1 := ok.w1
    have hl : (t'.length : Int) + 1 = h := by have := ok.hl; simp at this; omega
    have key : M_p_check_table [some (rT (r0 :: t')), none, none] μ = .nx [some (rT (r0 :: t')), (r0 :: t').foldl (fun _ r => some (rR r)) none, none] μ := by
      unfold M_p_check_table
      have c1 : decide ((1 : Int) ≤ (t'.length : Int) + 1) = true := decide_eq_true (by omega)
      have c2 : decide ((t'.length : Int) + 1 ≤ 5) = true := decide_eq_true (by omega)
      have c3 : decide ((1 : Int) ≤ (r0.length : Int)) = true := decide_eq_true (by omega)
      have c4 : decide ((r0.length : Int) ≤ 5) = true := decide_eq_true (by omega)
      refine seq_step (ρ1 := [some (rT (r0 :: t')), none, none]) (μ1 := μ) (if_f (μ1 := μ) ?_ rfl) ?_
      · simp [sAsg, sRet, sE, sDrop, sPar, sPass, gN, mB, mRet, mVar, mCons, mNil, mTup, mLst, mCB, mOp, mUn, mT, asB, oO, mOr, mNot, mChain, leM, lenTT, lenR, ixTT, c1, c2, c3, c4]
      · refine sfor_of (t := ⟨(r0 :: t').map rR, []⟩) (μ1 := μ) (mitm (μ1 := μ) (d := rT (r0 :: t')) (by simp [sAsg, sRet, sE, sDrop, sPar, sPass, gN, mB, mRet, mVar, mCons, mNil, mTup, mLst, mCB, mOp, mUn, mT, asB, oO]) rfl) ?_
        refine for_fold rR (fun u : Option MV => [some (rT (r0 :: t')), u, none]) (fun _ => μ) (fun _ r => some (rR r)) (fun _ => True) (r0 :: t') none trivial ?_
        intro r hr u _
        refine ⟨trivial, _, _, rfl, .inl (if_f (μ1 := μ) ?_ rfl)⟩
        have e1 : r.length = r0.length := by rw [l0, ok.rl r hr]
        have hc : mComp (List.map (·.2) ([("gain", 2)] : List (Str × Nat))) (mItm (mVar 1)) (gN 2) mYes (mChain leM leM (mUn negM (mRet (.int 99))) (mVar 2) (mRet (.int 99))) [some (rT (r0 :: t')), some (rR r), none] μ = .ok (.lst (r.map fun _ => .bl true)) μ := by
          refine mcomp_map .int (fun _ => .bl true) r (mitm (μ1 := μ) (d := rR r) (by simp [sAsg, sRet, sE, sDrop, sPar, sPass, gN, mB, mRet, mVar, mCons, mNil, mTup, mLst, mCB, mOp, mUn, mT, asB, oO]) rfl) (small5 (by rw [ok.rl r hr]; omega)) fun x hx => ?_
          obtain ⟨g1, g2⟩ := ok.rg r hr x hx
          refine ⟨_, rfl, ?_⟩
          have d1 : decide ((-99 : Int) ≤ x) = true := decide_eq_true g1
          have d2 : decide (x ≤ 99) = true := decide_eq_true g2
          simp [sAsg, sRet, sE, sDrop, sPar, sPass, gN, mB, mRet, mVar, mCons, mNil, mTup, mLst, mCB, mOp, mUn, mT, asB, oO, mChain, negM, leM, wipeE, d1, d2]
        have ha : allM μ [.lst (r.map fun _ => MV.bl true)] = some (.bl true) := by
          rw [all_map μ (fun _ : Int => true) r]
          simp
        have hcc : mCB allM (mCons (mComp (List.map (·.2) ([("gain", 2)] : List (Str × Nat))) (mItm (mVar 1)) (gN 2) mYes (mChain leM leM (mUn negM (mRet (.int 99))) (mVar 2) (mRet (.int 99)))) mNil) [some (rT (r0 :: t')), some (rR r), none] μ = .ok (.bl true) μ := by
          simp only [mCB, mCons, mB, hc, mNil, mRet, ha, oO]
        have hn : mOp neM (mCB lenM (mCons (mVar 1) mNil)) (mCB lenM (mCons (mOp ixM (mVar 0) (mRet (.int 0))) mNil)) [some (rT (r0 :: t')), some (rR r), none] μ = .ok (.bl false) μ := by
          simp [sAsg, sRet, sE, sDrop, sPar, sPass, gN, mB, mRet, mVar, mCons, mNil, mTup, mLst, mCB, mOp, mUn, mT, asB, oO, lenR, ixTT, neI, e1]
        simp only [mT, mOr, mNot, mB, List.set_cons_succ, List.set_cons_zero, hn, hcc, asB, oO, Bool.not_true]
    exact run_nx0 key hm
theorem check_table_nil {μ : Mem} (hm : okMem μ) : F_p_check_table [.tup []] μ = .exc ⟨"NotAllowed", none⟩ μ := by
  refine run_exc0 ?_ hm
  show M_p_check_table [some (.tup []), none, none] μ = _
  unfold M_p_check_table
  refine seq_exc (if_t (μ1 := μ) ?_ rfl)
  have : decide ((1 : Int) ≤ 0) = false := rfl
  simp [sAsg, sRet, sE, sDrop, sPar, sPass, gN, mB, mRet, mVar, mCons, mNil, mTup, mLst, mCB, mOp, mUn, mT, asB, oO, mOr, mNot, mChain, leM, lenT]
/-- a game -/
def rG (a b : List (List Int)) : MV := .tup [rT a, rT b]
theorem nr_G (a b : List (List Int)) : nr (rG a b) = true := by
  unfold rG nr nrs nrs nrs
  rw [nr_T, nr_T]
  rfl
theorem ixG0 (μ : Mem) (a b : List (List Int)) : ixM μ (rG a b) (.int 0) = some (rT a) := rfl
theorem ixG1 (μ : Mem) (a b : List (List Int)) : ixM μ (rG a b) (.int 1) = some (rT b) := rfl
theorem check_game_ok {μ : Mem} (hm : okMem μ) {a b : List (List Int)} {h w : Nat} (oa : OkT a h w) (ob : OkT b h w) : F_p_check_game [rG a b] μ = .ok .non μ := by
  have ca := check_table_ok hm oa
  have cb := check_table_ok hm ob
  match a, b, oa, ob with
  | [], _, oa, _ => exact absurd oa.hl (by have := oa.h1; simp; omega)
  | _, [], _, ob => exact absurd ob.hl (by have := ob.h1; simp; omega)
  | r :: a', q :: b', oa, ob =>
    refine run_nx0 (ρ := [some (rG (r :: a') (q :: b'))]) ?_ hm
    show M_p_check_game [some (rG (r :: a') (q :: b'))] μ = _
    unfold M_p_check_game
    refine seq_step (ρ1 := [some (rG (r :: a') (q :: b'))]) (μ1 := μ) (by simp [sAsg, sRet, sE, sDrop, sPar, sPass, gN, mB, mRet, mVar, mCons, mNil, mTup, mLst, mCB, mOp, mUn, mT, asB, oO, mCall, ixG0, ca]) ?_
    refine seq_step (ρ1 := [some (rG (r :: a') (q :: b'))]) (μ1 := μ) (by simp [sAsg, sRet, sE, sDrop, sPar, sPass, gN, mB, mRet, mVar, mCons, mNil, mTup, mLst, mCB, mOp, mUn, mT, asB, oO, mCall, ixG1, cb]) ?_
    refine if_f (μ1 := μ) ?_ rfl
    have e1 : (r :: a').length = (q :: b').length := oa.hl.trans ob.hl.symm
    have e2 : r.length = q.length := (oa.rl r List.mem_cons_self).trans (ob.rl q List.mem_cons_self).symm
    have e3 : a'.length = b'.length := by simpa using e1
    simp [sAsg, sRet, sE, sDrop, sPar, sPass, gN, mB, mRet, mVar, mCons, mNil, mTup, mLst, mCB, mOp, mUn, mT, asB, oO, mOr, ixG0, ixG1, ixTT, lenTT, lenR, neI, e2, e3]
end K21

set_option Elab.async false
set_option linter.all false
set_option maxRecDepth 100000
set_option maxHeartbeats 4000000
namespace K21
open PySem PySem.Spec PyProof.Rows L2 MM PL
/-! ### machines -/
abbrev Mch := List (Int × List Int)
def rS (s : Int × List Int) : MV := .tup [.int s.1, rR s.2]
def rM (m : Mch) : MV := .tup (m.map rS)
theorem nr_S (s : Int × List Int) : nr (rS s) = true := by
  unfold rS nr nrs nrs nrs
  rw [nr_R]
  rfl
theorem nr_M (m : Mch) : nr (rM m) = true := by
  unfold rM nr
  exact nrs_map _ nr_S m
structure OkM (m : Mch) (own others : Nat) : Prop where
  l1 : 1 ≤ m.length ∧ m.length ≤ 6
  ch : ∀ s ∈ m, 0 ≤ s.1 ∧ s.1 < own
  ln : ∀ s ∈ m, s.2.length = others
  af : ∀ s ∈ m, ∀ v ∈ s.2, 0 ≤ v ∧ v < m.length
theorem lenM_ (μ : Mem) (m : Mch) : lenM μ [rM m] = some (.int m.length) := by
  show some (MV.int (m.map rS).length) = _
  rw [List.length_map]
theorem check_machine_ok {μ : Mem} (hm : okMem μ) {m : Mch} {own others : Nat} (ho : others ≤ 5) (ok : OkM m own others) : F_p_check_machine [.int own, .int others, rM m] μ = .ok .non μ := by
  have key : M_p_check_machine [some (.int own), some (.int others), some (rM m), none, none, none] μ = .nx (m.foldl (fun u s => (some (MV.int s.1), some (rR s.2))) (none, none) |> fun u => [some (.int own), some (.int others), some (rM m), u.1, u.2, none]) μ := by
    unfold M_p_check_machine
    have l1 := ok.l1
    have c1 : decide ((1 : Int) ≤ (m.length : Int)) = true := decide_eq_true (by omega)
    have c2 : decide ((m.length : Int) ≤ 6) = true := decide_eq_true (by omega)
    refine seq_step (ρ1 := [some (.int own), some (.int others), some (rM m), none, none, none]) (μ1 := μ) (if_f (μ1 := μ) ?_ rfl) ?_
    · simp [sAsg, sRet, sE, sDrop, sPar, sPass, gN, mB, mRet, mVar, mCons, mNil, mTup, mLst, mCB, mOp, mUn, mT, asB, oO, mNot, mChain, leM, lenM_, c1, c2]
    · refine sfor_of (t := ⟨m.map rS, []⟩) (μ1 := μ) (mitm (μ1 := μ) (d := rM m) (by simp [sAsg, sRet, sE, sDrop, sPar, sPass, gN, mB, mRet, mVar, mCons, mNil, mTup, mLst, mCB, mOp, mUn, mT, asB, oO]) rfl) ?_
      refine for_fold rS (fun u : Option MV × Option MV => [some (.int own), some (.int others), some (rM m), u.1, u.2, none]) (fun _ => μ) (fun _ s => (some (.int s.1), some (rR s.2))) (fun _ => True) m (none, none) trivial ?_
      intro s hs u _
      obtain ⟨g1, g2⟩ := ok.ch s hs
      refine ⟨trivial, _, _, rfl, .inl ?_⟩
      have d1 : decide ((0 : Int) ≤ s.1) = true := decide_eq_true g1
      have d2 : decide (s.1 < (own : Int)) = true := decide_eq_true g2
      refine seq_step (ρ1 := [some (.int own), some (.int others), some (rM m), some (.int s.1), some (rR s.2), none]) (μ1 := μ) (if_f (μ1 := μ) ?_ rfl) (if_f (μ1 := μ) ?_ rfl)
      · simp [sAsg, sRet, sE, sDrop, sPar, sPass, gN, mB, mRet, mVar, mCons, mNil, mTup, mLst, mCB, mOp, mUn, mT, asB, oO, mNot, mOr, mChain, leM, ltM, lenR, neI, d1, d2, ok.ln s hs]
      · have hc : mComp (List.map (·.2) ([("after", 5)] : List (Str × Nat))) (mItm (mVar 4)) (gN 5) mYes (mChain leM ltM (mRet (.int 0)) (mVar 5) (mCB lenM (mCons (mVar 2) mNil))) [some (.int own), some (.int others), some (rM m), some (.int s.1), some (rR s.2), none] μ = .ok (.lst (s.2.map fun _ => .bl true)) μ := by
          refine mcomp_map .int (fun _ => .bl true) s.2 (mitm (μ1 := μ) (d := rR s.2) (by simp [sAsg, sRet, sE, sDrop, sPar, sPass, gN, mB, mRet, mVar, mCons, mNil, mTup, mLst, mCB, mOp, mUn, mT, asB, oO]) rfl) (small5 (by rw [ok.ln s hs]; omega)) fun x hx => ?_
          obtain ⟨g1, g2⟩ := ok.af s hs x hx
          refine ⟨_, rfl, ?_⟩
          have d1 : decide ((0 : Int) ≤ x) = true := decide_eq_true g1
          have d2 : decide (x < (m.length : Int)) = true := decide_eq_true g2
          simp [sAsg, sRet, sE, sDrop, sPar, sPass, gN, mB, mRet, mVar, mCons, mNil, mTup, mLst, mCB, mOp, mUn, mT, asB, oO, mChain, leM, ltM, lenM_, wipeE, d1, d2]
        have ha : allM μ [.lst (s.2.map fun _ => MV.bl true)] = some (.bl true) := by
          rw [all_map μ (fun _ : Int => true) s.2]
          simp
        have hcc : mCB allM (mCons (mComp (List.map (·.2) ([("after", 5)] : List (Str × Nat))) (mItm (mVar 4)) (gN 5) mYes (mChain leM ltM (mRet (.int 0)) (mVar 5) (mCB lenM (mCons (mVar 2) mNil)))) mNil) [some (.int own), some (.int others), some (rM m), some (.int s.1), some (rR s.2), none] μ = .ok (.bl true) μ := by
          exact mcb1 hc ha
        simp only [mT, mNot, mB, hcc, asB, oO, Bool.not_true]
  exact run_nx0 key hm
end K21

set_option Elab.async false
set_option linter.all false
set_option maxRecDepth 100000
set_option maxHeartbeats 4000000
namespace K21
open PySem PySem.Spec PyProof.Rows L2 MM PL
/-! ### columns -/
def cols (t : List (List Int)) (w : Nat) : List (List Int) := (List.range w).map fun j => t.map fun r => r.getD j 0
theorem tupM_l (μ : Mem) (xs : List MV) : tupleM μ [.lst xs] = some (.tup xs) := rfl
theorem ixR (μ : Mem) (r : List Int) (j : Nat) (h : j < r.length) : ixM μ (rR r) (.int (0 + (j : Int))) = some (.int (r.getD j 0)) := by
  show atI (r.map MV.int) (0 + (j : Int)) = _
  rw [Int.zero_add, atN _ _ (by rw [List.length_map]; exact h), List.getElem?_map, List.getElem?_eq_getElem h, List.getD_eq_getElem?_getD, List.getElem?_eq_getElem h]
  rfl
theorem flipped_ok {μ : Mem} (hm : okMem μ) {t : List (List Int)} {h w : Nat} (ok : OkT t h w) : F_p_flipped [rT t] μ = .ok (rT (cols t w)) μ := by
  match t, ok with
  | [], ok => exact absurd ok.hl (by have := ok.h1; simp; omega)
  | r0 :: t', ok =>
    have l0 : r0.length = w := ok.rl r0 List.mem_cons_self
    have w1 := ok.w1
    have h1 := ok.h1
    have hl := ok.hl
    refine run_rt0 ?_ (nr_T _) hm
    show M_p_flipped [some (rT (r0 :: t')), none, none] μ = _
    unfold M_p_flipped
    have inner : ∀ j, j < w → mComp (List.map (·.2) ([("row", 2)] : List (Str × Nat))) (mItm (mVar 0)) (gN 2) mYes (mOp ixM (mVar 2) (mVar 1)) [some (rT (r0 :: t')), some (.int (0 + (j : Int))), none] μ = .ok (.lst ((r0 :: t').map fun r => .int (r.getD j 0))) μ := by
      intro j hj
      refine mcomp_map rR (fun r => .int (r.getD j 0)) (r0 :: t') (mitm (μ1 := μ) (d := rT (r0 :: t')) (by simp [sAsg, sRet, sE, sDrop, sPar, sPass, gN, mB, mRet, mVar, mCons, mNil, mTup, mLst, mCB, mOp, mUn, mT, asB, oO]) rfl) (small5 (by omega)) fun r hr => ⟨_, rfl, ?_⟩
      have q := ixR μ r j (by rw [ok.rl r hr]; exact hj)
      have : ixM μ (rR r) (.int (j : Int)) = some (.int (r[j]?.getD 0)) := by simpa using q
      simp [sAsg, sRet, sE, sDrop, sPar, sPass, gN, mB, mRet, mVar, mCons, mNil, mTup, mLst, mCB, mOp, mUn, mT, asB, oO, wipeE, this]
    have i2 : ∀ j, j < w → mCB tupleM (mCons (mComp (List.map (·.2) ([("row", 2)] : List (Str × Nat))) (mItm (mVar 0)) (gN 2) mYes (mOp ixM (mVar 2) (mVar 1))) mNil) [some (rT (r0 :: t')), some (.int (0 + (j : Int))), none] μ = .ok (rR ((r0 :: t').map fun r => r.getD j 0)) μ := fun j hj => by
      refine mcb1 (inner j hj) ?_
      rw [tupM_l]
      unfold rR
      rw [List.map_map]
      rfl
    have rg : Rg62 ((w : Nat) : Int) := by
      have q : (w : Int) ≤ 5 := by omega
      exact ⟨by omega, by omega⟩
    have outer : mComp (List.map (·.2) ([("at", 1)] : List (Str × Nat))) (mRng rng1 (mCons (mCB lenM (mCons (mOp ixM (mVar 0) (mRet (.int 0))) mNil)) mNil)) (gN 1) mYes (mCB tupleM (mCons (mComp (List.map (·.2) ([("row", 2)] : List (Str × Nat))) (mItm (mVar 0)) (gN 2) mYes (mOp ixM (mVar 2) (mVar 1))) mNil)) [some (rT (r0 :: t')), none, none] μ
        = .ok (.lst ((List.range w).map fun j => rR ((r0 :: t').map fun r => r.getD j 0))) μ := by
      have hw : mRng rng1 (mCons (mCB lenM (mCons (mOp ixM (mVar 0) (mRet (.int 0))) mNil)) mNil) [some (rT (r0 :: t')), none, none] μ = .ok ⟨intsL 0 w, []⟩ μ := mrng1 (n := w) (μ1 := μ) (by simp [sAsg, sRet, sE, sDrop, sPar, sPass, gN, mB, mRet, mVar, mCons, mNil, mTup, mLst, mCB, mOp, mUn, mT, asB, oO, ixTT, lenR, l0]) rg
      refine mcomp_map (g := gN 1) (fun j : Nat => MV.int (0 + (j : Int))) (fun j => rR ((r0 :: t').map fun r => r.getD j 0)) (List.range w) hw (small5 (by simp; omega)) fun j hj => ⟨_, rfl, ?_⟩
      exact i2 j (List.mem_range.mp hj)
    have fin : mCB tupleM (mCons (mComp (List.map (·.2) ([("at", 1)] : List (Str × Nat))) (mRng rng1 (mCons (mCB lenM (mCons (mOp ixM (mVar 0) (mRet (.int 0))) mNil)) mNil)) (gN 1) mYes (mCB tupleM (mCons (mComp (List.map (·.2) ([("row", 2)] : List (Str × Nat))) (mItm (mVar 0)) (gN 2) mYes (mOp ixM (mVar 2) (mVar 1))) mNil))) mNil) [some (rT (r0 :: t')), none, none] μ = .ok (rT (cols (r0 :: t') w)) μ := by
      refine mcb1 outer ?_
      rw [tupM_l]
      unfold rT cols
      rw [List.map_map]
      rfl
    unfold sRet sE
    rw [fin]
/-- the table as one sees it -/
def seen (a b : List (List Int)) (h : Nat) (who : Int) : List (List Int) := if who = 0 then a else cols b h
theorem seen_by_ok {μ : Mem} (hm : okMem μ) {a b : List (List Int)} {h w : Nat} (ob : OkT b h w) (who : Int) : F_p_seen_by [rG a b, .int who] μ = .ok (rT (if who = 0 then a else cols b w)) μ := by
  have hf := flipped_ok hm ob
  refine run_rt0 ?_ (nr_T _) hm
  show M_p_seen_by [some (rG a b), some (.int who)] μ = _
  unfold M_p_seen_by
  by_cases e : who = 0
  · simp [sAsg, sRet, sE, sDrop, sPar, sPass, gN, mB, mRet, mVar, mCons, mNil, mTup, mLst, mCB, mOp, mUn, mT, asB, oO, mIf, eqI, e, ixG0]
  · simp [sAsg, sRet, sE, sDrop, sPar, sPass, gN, mB, mRet, mVar, mCons, mNil, mTup, mLst, mCB, mOp, mUn, mT, asB, oO, mIf, eqI, e, ixG1, mCall, hf]
end K21

set_option Elab.async false
set_option linter.all false
set_option maxRecDepth 100000
set_option maxHeartbeats 4000000
namespace K21
open PySem PySem.Spec PyProof.Rows L2 MM PL
theorem rq_one : rq 1 = .tup [.int 1, .int 1] := rfl
theorem rq_zero : rq 0 = .tup [.int 0, .int 1] := rfl
theorem isQ_rat (x : Rat) : isQ x.num x.den = true := by
  unfold isQ
  rw [gcd_rat x]
  have := x.den_nz
  simp
  omega
theorem sz_one : Sz 1 1 := ⟨by decide, by decide⟩
theorem check_discount_ok {μ : Mem} (hm : okMem μ) {d : Rat} {n : Nat} (hd : Sz d n) (hn : n ≤ 6000) (h0 : 0 ≤ d.num) (h1 : d < 1) : F_p_check_discount [rq d] μ = .ok .non μ := by
  have hi := is_ratio_ok hm d.num d.den (by rw [den_int]; exact Nat.lt_of_lt_of_le hd.2 (Nat.pow_le_pow_right (by omega) (by omega)))
  rw [isQ_rat] at hi
  have hi : F_p_is_ratio [rq d] μ = .ok (.bl true) μ := hi
  have hl := less_ok hm hd sz_one (by omega)
  rw [decide_eq_true h1, rq_one] at hl
  have hx : ixM μ (rq d) (.int 0) = some (.int d.num) := rfl
  have n0 : ¬ d.num < 0 := by omega
  refine run_nx0 (ρ := [some (rq d)]) ?_ hm
  show M_p_check_discount [some (rq d)] μ = _
  unfold M_p_check_discount
  refine if_f (μ1 := μ) ?_ rfl
  simp [sAsg, sRet, sE, sDrop, sPar, sPass, gN, mB, mRet, mVar, mCons, mNil, mTup, mLst, mCB, mOp, mUn, mT, asB, oO, mOr, mNot, mCall, hi, hx, ltM, n0, two_le, hl]
theorem check_who_ok {μ : Mem} (hm : okMem μ) {who : Int} (h : who = 0 ∨ who = 1) : F_p_check_who [.int who] μ = .ok .non μ := by
  refine run_nx0 (ρ := [some (.int who)]) ?_ hm
  show M_p_check_who [some (.int who)] μ = _
  unfold M_p_check_who
  refine if_f (μ1 := μ) ?_ rfl
  rcases h with rfl | rfl
  · have : notInM μ (.int 0) (.tup [.int 0, .int 1]) = some (.bl false) := rfl
    simp [sAsg, sRet, sE, sDrop, sPar, sPass, gN, mB, mRet, mVar, mCons, mNil, mTup, mLst, mCB, mOp, mUn, mT, asB, oO, two_le, this]
  · have : notInM μ (.int 1) (.tup [.int 0, .int 1]) = some (.bl false) := rfl
    simp [sAsg, sRet, sE, sDrop, sPar, sPass, gN, mB, mRet, mVar, mCons, mNil, mTup, mLst, mCB, mOp, mUn, mT, asB, oO, two_le, this]
end K21

set_option Elab.async false
set_option linter.all false
set_option maxRecDepth 100000
set_option maxHeartbeats 4000000
/-! ## PT: rules for what M-terms come to -/
namespace PL
open PySem PySem.Spec PyProof.Rows L2 MM
section
variable {ρ ρ1 ρ2 : MM.Env} {μ μ1 μ2 μ3 : Mem} {m ma mb mc : Ev MV} {ms : Ev (List MV)} {a b c d r : MV} {ds : List MV}
theorem le_size0 {n : Nat} (h : n ≤ 50) : n ≤ sizeLine := by
  have : (50 : Nat) ≤ sizeLine := by decide
  omega
theorem var_ok {i : Nat} (h : ρ[i]? = some (some d)) : mVar i ρ μ = .ok d μ := by unfold mVar; rw [h]
theorem k_ok {α : Type} {a : α} : mRet a ρ μ = .ok a μ := rfl
theorem op_ok {op : Op2} (ha : ma ρ μ = .ok a μ1) (hb : mb ρ μ1 = .ok b μ2) (h : op μ2 a b = some r) : mOp op ma mb ρ μ = .ok r μ2 := by
  unfold mOp mB; rw [ha]; dsimp only; rw [hb]; dsimp only; rw [h]; rfl
theorem un_ok {op : Mem → MV → Option MV} (ha : ma ρ μ = .ok a μ1) (h : op μ1 a = some r) : mUn op ma ρ μ = .ok r μ1 := by
  unfold mUn mB; rw [ha]; dsimp only; rw [h]; rfl
theorem nil_ok : mNil ρ μ = .ok [] μ := rfl
theorem cons_ok (h : m ρ μ = .ok d μ1) (hs : ms ρ μ1 = .ok ds μ2) : mCons m ms ρ μ = .ok (d :: ds) μ2 := by
  unfold mCons mB; rw [h]; dsimp only; rw [hs]; rfl
theorem one_ok (h : m ρ μ = .ok d μ1) : mCons m mNil ρ μ = .ok [d] μ1 := cons_ok h nil_ok
theorem star_ok {xs : List MV} (h : m ρ μ = .ok d μ1) (hq : seqOf μ1 d = some xs) (hs : ms ρ μ1 = .ok ds μ2) : mStar m ms ρ μ = .ok (xs ++ ds) μ2 := by
  unfold mStar mB; rw [h]; dsimp only; rw [hq]; dsimp only; rw [hs]; rfl
theorem cb_ok {op : OpC} (hs : ms ρ μ = .ok ds μ1) (h : op μ1 ds = some r) : mCB op ms ρ μ = .ok r μ1 := by
  unfold mCB mB; rw [hs]; dsimp only; rw [h]; rfl
theorem tup_ok (hs : ms ρ μ = .ok ds μ1) (hl : ds.length ≤ sizeLine := by exact le_size0 (by simp)) : mTup ms ρ μ = .ok (.tup ds) μ1 := by
  unfold mTup mB; rw [hs]; dsimp only; rw [if_pos hl]; rfl
theorem lst_ok (hs : ms ρ μ = .ok ds μ1) (hl : ds.length ≤ sizeLine := by exact le_size0 (by simp)) : mLst ms ρ μ = .ok (.lst ds) μ1 := by
  unfold mLst mB; rw [hs]; dsimp only; rw [if_pos hl]; rfl
theorem lstC_ok (hs : ms ρ μ = .ok ds μ1) (hl : ds.length ≤ sizeLine := by exact le_size0 (by simp)) : mLstC ms ρ μ = .ok (.ref μ1.length) (μ1 ++ [.lst ds]) := by
  unfold mLstC mB; rw [hs]; dsimp only; rw [if_pos hl]
theorem t_ok {k : Bool} (h : m ρ μ = .ok (.bl k) μ1) : mT m ρ μ = .ok k μ1 := by
  unfold mT mB; rw [h]; rfl
theorem not_ok {k : Bool} (h : m ρ μ = .ok (.bl k) μ1) : mNot m ρ μ = .ok (.bl (!k)) μ1 := by
  unfold mNot mB; rw [h]
theorem and_t {o : Out MV} (h : ma ρ μ = .ok (.bl true) μ1) (k : mb ρ μ1 = o) : mAnd ma mb ρ μ = o := by
  unfold mAnd mB; rw [h]; exact k
theorem and_f (h : ma ρ μ = .ok (.bl false) μ1) : mAnd ma mb ρ μ = .ok (.bl false) μ1 := by
  unfold mAnd mB; rw [h]
theorem and_ok {p q : Bool} (h : ma ρ μ = .ok (.bl p) μ) (k : p = true → mb ρ μ = .ok (.bl q) μ) : mAnd ma mb ρ μ = .ok (.bl (p && q)) μ := by
  cases p with
  | true => exact and_t h (k rfl)
  | false => exact and_f h
theorem or_f {o : Out MV} (h : ma ρ μ = .ok (.bl false) μ1) (k : mb ρ μ1 = o) : mOr ma mb ρ μ = o := by
  unfold mOr mB; rw [h]; exact k
theorem or_t (h : ma ρ μ = .ok (.bl true) μ1) : mOr ma mb ρ μ = .ok (.bl true) μ1 := by
  unfold mOr mB; rw [h]
theorem or_ok {p q : Bool} (h : ma ρ μ = .ok (.bl p) μ) (k : p = false → mb ρ μ = .ok (.bl q) μ) : mOr ma mb ρ μ = .ok (.bl (p || q)) μ := by
  cases p with
  | true => exact or_t h
  | false => exact or_f h (k rfl)
theorem ifE_t {c : Ev Bool} {o : Out MV} (h : c ρ μ = .ok true μ1) (k : ma ρ μ1 = o) : mIf c ma mb ρ μ = o := by
  unfold mIf mB; rw [h]; exact k
theorem ifE_f {c : Ev Bool} {o : Out MV} (h : c ρ μ = .ok false μ1) (k : mb ρ μ1 = o) : mIf c ma mb ρ μ = o := by
  unfold mIf mB; rw [h]; exact k
theorem chain_t {o1 o2 : Op2} (ha : ma ρ μ = .ok a μ1) (hb : mb ρ μ1 = .ok b μ2) (h1 : o1 μ2 a b = some (.bl true)) (hc : mc ρ μ2 = .ok c μ3) (h2 : o2 μ3 b c = some r) : mChain o1 o2 ma mb mc ρ μ = .ok r μ3 := by
  unfold mChain mB; rw [ha]; dsimp only; rw [hb]; dsimp only; rw [h1]; dsimp only; rw [hc]; dsimp only; rw [h2]; rfl
theorem chain_f {o1 o2 : Op2} (ha : ma ρ μ = .ok a μ1) (hb : mb ρ μ1 = .ok b μ2) (h1 : o1 μ2 a b = some (.bl false)) : mChain o1 o2 ma mb mc ρ μ = .ok (.bl false) μ2 := by
  unfold mChain mB; rw [ha]; dsimp only; rw [hb]; dsimp only; rw [h1]
theorem chain_ok {o1 o2 : Op2} {p q : Bool} (ha : ma ρ μ = .ok a μ) (hb : mb ρ μ = .ok b μ) (h1 : o1 μ a b = some (.bl p)) (hc : mc ρ μ = .ok c μ) (h2 : o2 μ b c = some (.bl q)) : mChain o1 o2 ma mb mc ρ μ = .ok (.bl (p && q)) μ := by
  cases p with
  | true => exact chain_t ha hb h1 hc h2
  | false => exact chain_f ha hb h1
theorem part_ok {i : Int} (h : m ρ μ = .ok (.int i) μ1) : mPart m ρ μ = .ok (some i) μ1 := by
  unfold mPart mB; rw [h]; rfl
theorem nopart_ok : mNoPart ρ μ = .ok none μ := rfl
theorem slice_ok {ml mh : Ev (Option Int)} {l h : Option Int} (ha : ma ρ μ = .ok a μ1) (hl : ml ρ μ1 = .ok l μ2) (hh : mh ρ μ2 = .ok h μ3) (e : sliceM μ3 a l h = some r) : mSlice ma ml mh ρ μ = .ok r μ3 := by
  unfold mSlice mB; rw [ha]; dsimp only; rw [hl]; dsimp only; rw [hh]; dsimp only; rw [e]; rfl
theorem meth_ok {op : OpM} {xs : List MV} (ho : m ρ μ = .ok d μ1) (hl : lstOf μ1 d = some xs) (hs : ms ρ μ1 = .ok ds μ2) (h : op μ2 d ds = some (r, μ3)) : mMeth op m ms ρ μ = .ok r μ3 := by
  unfold mMeth mB; rw [ho]; dsimp only; unfold isLst; rw [hl]; dsimp only; rw [hs]; dsimp only; rw [h]; rfl
theorem asg_ok {g : TgM} (h : m ρ μ = .ok d μ1) (hg : g d ρ μ1 = some (ρ2, μ2)) : sAsg m g ρ μ = .nx ρ2 μ2 := by
  unfold sAsg sE; rw [h]; dsimp only; rw [hg]
theorem ret_s (h : m ρ μ = .ok d μ1) : sRet m ρ μ = .rt d μ1 := by
  unfold sRet sE; rw [h]
theorem drop_s (h : m ρ μ = .ok r μ1) : sDrop m ρ μ = .nx ρ μ1 := by
  unfold sDrop sE; rw [h]; rfl
theorem drop_x {x : Exc} (h : m ρ μ = .exc x μ1) : sDrop m ρ μ = .exc x μ1 := by
  unfold sDrop sE; rw [h]
theorem asg_x {g : TgM} {x : Exc} (h : m ρ μ = .exc x μ1) : sAsg m g ρ μ = .exc x μ1 := by
  unfold sAsg sE; rw [h]
theorem ret_x {x : Exc} (h : m ρ μ = .exc x μ1) : sRet m ρ μ = .exc x μ1 := by
  unfold sRet sE; rw [h]
theorem par_s {i j : Nat} (hs : ms ρ μ = .ok [a, b] μ1) : sPar i j ms ρ μ = .nx ((ρ.set i (some a)).set j (some b)) μ1 := by
  unfold sPar sE; rw [hs]
theorem if_n {c : Ev Bool} (h : c ρ μ = .ok false μ1) : sIf c sb sPass ρ μ = .nx ρ μ1 := if_f h rfl
theorem raise_s {x : Str} : sRaise x ρ μ = .exc ⟨x, none⟩ μ := rfl
theorem enum_ok {t : Itm} (hs : ms ρ μ = .ok [d] μ1) (e : itmOf μ1 d = some t) : mEnum ms ρ μ = .ok ⟨enumL 0 t.items, t.chk⟩ μ1 := by
  unfold mEnum mItA mB; rw [hs]; dsimp only; unfold enumOf; dsimp only; rw [e]; rfl
theorem call_x {n : Nat} {F : FM} {x : Exc} (h : ms ρ μ = .exc x μ1) : mCall n F ms ρ μ = .exc x μ1 := by
  unfold mCall mB; rw [h]
end
/-! ### operations -/
section
variable {μ : Mem}
theorem eqD_of {a b : MV} {d e : PyData} (h1 : pd μ a = some d) (h2 : pd μ b = some e) (s1 : SeqAt.shaped d = true) (s2 : SeqAt.shaped e = true) : eqM μ a b = some (.bl (PyData.eqv d e)) := by
  unfold eqM eqD; rw [h1, h2]; dsimp only; rw [if_pos ⟨s1, s2⟩]; rfl
theorem neI' (i j : Int) : neM μ (.int i) (.int j) = some (.bl (!decide (i = j))) := rfl
theorem ltI (i j : Int) : ltM μ (.int i) (.int j) = some (.bl (decide (i < j))) := rfl
theorem leI (i j : Int) : leM μ (.int i) (.int j) = some (.bl (decide (i ≤ j))) := rfl
theorem gtI (i j : Int) : gtM μ (.int i) (.int j) = some (.bl (decide (j < i))) := rfl
theorem geI (i j : Int) : geM μ (.int i) (.int j) = some (.bl (decide (j ≤ i))) := rfl
theorem addI' (i j : Int) : addM μ (.int i) (.int j) = some (.int (i + j)) := rfl
theorem subI (i j : Int) : subM μ (.int i) (.int j) = some (.int (i - j)) := rfl
theorem fdivI {i j : Int} (h : okDiv j) : fdivM μ (.int i) (.int j) = some (.int (i.fdiv j)) := if_pos h
theorem modI {i j : Int} (h : j ≠ 0) : modM μ (.int i) (.int j) = some (.int (i.fmod j)) := if_pos h
theorem mulI' {i j : Int} (h : okMul i j) : mulM2 μ (.int i) (.int j) = some (.int (i * j)) := if_pos h
theorem lenT' (xs : List MV) : lenM μ [.tup xs] = some (.int xs.length) := rfl
theorem lenL (xs : List MV) : lenM μ [.lst xs] = some (.int xs.length) := rfl
theorem lenC {i : Nat} {xs : List MV} (h : μ[i]? = some (.lst xs)) : lenM μ [.ref i] = some (.int xs.length) := by
  show ((seqOf μ (.ref i)).map fun xs => MV.int xs.length) = _
  show ((celOf μ i).map fun xs => MV.int xs.length) = _
  unfold celOf; rw [h]; rfl
theorem ixT' (xs : List MV) (i : Int) : ixM μ (.tup xs) (.int i) = atI xs i := rfl
theorem ixL (xs : List MV) (i : Int) : ixM μ (.lst xs) (.int i) = atI xs i := rfl
theorem ixC {j : Nat} {xs : List MV} (i : Int) (h : μ[j]? = some (.lst xs)) : ixM μ (.ref j) (.int i) = atI xs i := by
  show (seqOf μ (.ref j)).bind (fun xs => atI xs i) = _
  show (celOf μ j).bind (fun xs => atI xs i) = _
  unfold celOf; rw [h]; rfl
theorem celOf_of {i : Nat} {xs : List MV} (h : μ[i]? = some (.lst xs)) : celOf μ i = some xs := by
  unfold celOf; rw [h]
theorem itmC {i : Nat} {xs : List MV} (h : μ[i]? = some (.lst xs)) : itmOf μ (.ref i) = some ⟨xs, [(i, xs)]⟩ := by
  show ((celOf μ i).map fun xs => (⟨xs, [(i, xs)]⟩ : Itm)) = _
  rw [celOf_of h]; rfl
theorem atI_nat {α : Type} (xs : List α) (n : Nat) (h : n < xs.length) : atI xs (n : Int) = some xs[n] := by
  unfold atI ixN
  rw [if_pos (by omega), if_pos (by omega)]
  simp [h]
theorem appC {i : Nat} {xs : List MV} {y : MV} (h : μ[i]? = some (.lst xs)) (hl : xs.length < sizeLine) : appM μ (.ref i) [y] = some (.non, μ.set i (.lst (xs ++ [y]))) := by
  unfold appM; dsimp only; rw [h]; dsimp only; rw [if_pos hl]
theorem lstC_of {i : Nat} {xs : List MV} (h : μ[i]? = some (.lst xs)) : lstOf μ (.ref i) = some xs := celOf_of h
theorem set_last {μ : Mem} {c c' : Cell} : (μ ++ [c]).set μ.length c' = μ ++ [c'] := by
  rw [List.set_append_right _ _ (Nat.le_refl _), Nat.sub_self]; rfl
theorem get_last {μ : Mem} {c : Cell} : (μ ++ [c])[μ.length]? = some c := by
  rw [List.getElem?_append_right (Nat.le_refl _), Nat.sub_self]; rfl
theorem app_last {μ : Mem} {xs : List MV} {y : MV} (hl : xs.length < sizeLine) : appM (μ ++ [.lst xs]) (.ref μ.length) [y] = some (.non, μ ++ [.lst (xs ++ [y])]) := by
  rw [appC get_last hl, set_last]
theorem le_size {n : Nat} (h : n ≤ 1000000) : n ≤ sizeLine := by
  have : (1000000 : Nat) ≤ sizeLine := by decide
  omega
end
/-- xs.append(y) -/
theorem app_s {ρ : MM.Env} {μ : Mem} {mo me : Ev MV} {i : Nat} {xs : List MV} {y : MV} (ho : mo ρ μ = .ok (.ref i) μ) (h : μ[i]? = some (.lst xs)) (he : me ρ μ = .ok y μ) (hl : xs.length ≤ 1000000) : sDrop (mMeth appM mo (mCons me mNil)) ρ μ = .nx ρ (μ.set i (.lst (xs ++ [y]))) :=
  drop_s (r := .non) (meth_ok ho (lstC_of h) (one_ok he) (appC h (by have : (1000001 : Nat) < sizeLine := by decide
                                                                     omega)))
theorem appL_s {ρ : MM.Env} {μ : Mem} {mo me : Ev MV} {xs : List MV} {y : MV} (ho : mo ρ (μ ++ [.lst xs]) = .ok (.ref μ.length) (μ ++ [.lst xs])) (he : me ρ (μ ++ [.lst xs]) = .ok y (μ ++ [.lst xs])) (hl : xs.length ≤ 1000000) : sDrop (mMeth appM mo (mCons me mNil)) ρ (μ ++ [.lst xs]) = .nx ρ (μ ++ [.lst (xs ++ [y])]) := by
  rw [app_s ho get_last he hl, set_last]
mutual
theorem okN_mono {n m : Nat} (h : n ≤ m) : ∀ d : MV, okN n d = true → okN m d = true
  | .ref i, q => by
    unfold okN at q ⊢
    exact decide_eq_true (Nat.lt_of_lt_of_le (of_decide_eq_true q) h)
  | .tup xs, q => by unfold okN at q ⊢; exact okNs_mono h xs q
  | .lst xs, q => by unfold okN at q ⊢; exact okNs_mono h xs q
  | .non, _ => rfl
  | .bl _, _ => rfl
  | .int _, _ => rfl
  | .str _, _ => rfl
  | .cst _, _ => rfl
  | .scr _, _ => rfl
theorem okNs_mono {n m : Nat} (h : n ≤ m) : ∀ xs : List MV, okN.okNs n xs = true → okN.okNs m xs = true
  | [], _ => rfl
  | x :: xs, q => by
    unfold okN.okNs at q ⊢
    rw [Bool.and_eq_true] at q ⊢
    exact ⟨okN_mono h x q.1, okNs_mono h xs q.2⟩
end
theorem okC_mono {n m : Nat} (h : n ≤ m) : ∀ c : Cell, okC n c = true → okC m c = true
  | .dead, _ => rfl
  | .lst xs, q => okNs_mono h xs q
/-- cells laid at the end -/
theorem okMem_app {μ ν : Mem} (hm : okMem μ) (h : ∀ c ∈ ν, okC (μ.length + ν.length) c = true) : okMem (μ ++ ν) := by
  unfold okMem at hm ⊢
  rw [List.length_append, List.all_append, Bool.and_eq_true]
  rw [List.all_eq_true] at hm ⊢
  exact ⟨fun c hc => okC_mono (Nat.le_add_right _ _) c (hm c hc), by rw [List.all_eq_true]; exact h⟩
theorem okMem_snoc {μ : Mem} {xs : List MV} (hm : okMem μ) (h : nrs xs = true) : okMem (μ ++ [.lst xs]) :=
  okMem_app hm fun c hc => by rw [List.mem_singleton.mp hc]; exact okNs_nr xs h
/-! ### a def's end, with what it made beyond -/
theorem run_data {N : List Str} {b : SM} {ds : List MV} {μ ν : Mem} {d : MV} (h : b (envS N ds) μ = .rt d (μ ++ ν)) (hd : nr d = true) (hm : okMem μ) : runC N b ds μ = .ok d μ := by
  unfold runC; rw [h]; exact chop_data hd hm
theorem run_cell {N : List Str} {b : SM} {ds : List MV} {μ ν : Mem} {i : Nat} {xs : List MV} (h : b (envS N ds) μ = .rt (.ref i) (μ ++ ν)) (hi : μ.length ≤ i) (hx : (μ ++ ν)[i]? = some (.lst xs)) (hd : nrs xs = true) (hm : okMem μ) : runC N b ds μ = .ok (.lst xs) μ := by
  unfold runC; rw [h]
  have e : (μ ++ ν).take μ.length = μ := List.take_left
  have := chop_cell (μ := μ) (μ' := μ ++ ν) hi hx hd (by rw [e]; exact hm)
  rw [e] at this
  exact this
theorem run_x {N : List Str} {b : SM} {ds : List MV} {μ ν : Mem} {x : Exc} (h : b (envS N ds) μ = .exc x (μ ++ ν)) (hm : okMem μ) : runC N b ds μ = .exc x μ := by
  unfold runC; rw [h]; exact chop_exc hm
theorem run_nx {N : List Str} {b : SM} {ds : List MV} {μ ν : Mem} {ρ : MM.Env} (h : b (envS N ds) μ = .nx ρ (μ ++ ν)) (hm : okMem μ) : runC N b ds μ = .ok .non μ := by
  unfold runC; rw [h]; exact chop_data rfl hm
/-- a def's end: what is told with its new cells as values -/
theorem frz_cell {n k i : Nat} {μ : Mem} {xs : List MV} (hi : n ≤ i) (hx : μ[i]? = some (.lst xs)) (hd : nrs xs = true) : frzN n μ (k + 1) (.ref i) = .lst xs := by
  have : ¬ i < n := Nat.not_lt.mpr hi
  unfold frzN
  rw [if_neg this, hx]
  show MV.lst (frzN.frzNs n μ k xs) = _
  rw [(frz_nr k).2 xs hd]
theorem frz_tup {n k : Nat} {μ : Mem} {xs : List MV} : frzN n μ (k + 1) (.tup xs) = .tup (frzN.frzNs n μ k xs) := by unfold frzN; rfl
theorem frz_lst {n k : Nat} {μ : Mem} {xs : List MV} : frzN n μ (k + 1) (.lst xs) = .lst (frzN.frzNs n μ k xs) := by unfold frzN; rfl
theorem frzs_cons {n k : Nat} {μ : Mem} {x : MV} {xs : List MV} : frzN.frzNs n μ k (x :: xs) = frzN n μ k x :: frzN.frzNs n μ k xs := by
  conv => lhs; unfold frzN.frzNs
theorem frzs_nil {n k : Nat} {μ : Mem} : frzN.frzNs n μ k [] = [] := by unfold frzN.frzNs; rfl
theorem run_frz {N : List Str} {b : SM} {ds : List MV} {μ ν : Mem} {d d' : MV} (h : b (envS N ds) μ = .rt d (μ ++ ν)) (e : frzN μ.length (μ ++ ν) 9 d = d') (hd : nr d' = true) (hm : okMem μ) : runC N b ds μ = .ok d' μ := by
  have e2 : (μ ++ ν).take μ.length = μ := List.take_left
  unfold runC
  rw [h]
  unfold outS chopO
  dsimp only
  rw [e, e2, okN_nr d' hd]
  have hm : μ.all (okC μ.length) = true := hm
  rw [hm]
  rfl
theorem mcomp_mapR {α : Type} {vs : List Nat} {mi : Ev Itm} {g : TgM} {e : Ev MV} {ρ : MM.Env} {μ μ1 : Mem} {r : MV} (rep : α → MV) (f : α → MV) (xs : List α) (h1 : mi ρ μ = .ok ⟨xs.map rep, []⟩ μ1) (hl : xs.length ≤ sizeLine)
    (h : ∀ x ∈ xs, ∃ ρ1, g (rep x) (wipeE ρ vs) μ1 = some (ρ1, μ1) ∧ e ρ1 μ1 = .ok (f x) μ1) (hr : .lst (xs.map f) = r) : mComp vs mi g mYes e ρ μ = .ok r μ1 := by
  rw [← hr]; exact mcomp_map rep f xs h1 hl h
theorem mcomp_filterR {α : Type} {vs : List Nat} {mi : Ev Itm} {g : TgM} {c : Ev Bool} {e : Ev MV} {ρ : MM.Env} {μ μ1 : Mem} {r : MV} (rep : α → MV) (p : α → Bool) (f : α → MV) (xs : List α) (h1 : mi ρ μ = .ok ⟨xs.map rep, []⟩ μ1) (hl : xs.length ≤ sizeLine)
    (h : ∀ x ∈ xs, ∃ ρ1, g (rep x) (wipeE ρ vs) μ1 = some (ρ1, μ1) ∧ c ρ1 μ1 = .ok (p x) μ1 ∧ (p x = true → e ρ1 μ1 = .ok (f x) μ1)) (hr : .lst ((xs.filter p).map f) = r) : mComp vs mi g c e ρ μ = .ok r μ1 := by
  rw [← hr]; exact mcomp_filter rep p f xs h1 hl h
/-! ### a for over cells' items, by a state -/
/-- items of a cell that stays -/
theorem forC_fold {α S : Type} {xs0 : List MV} {chk : List (Nat × List MV)} {g : TgM} {b : SM} (rep : α → MV) (env : S → MM.Env) (mem : S → Mem) (step : S → α → S) (I : S → Prop) (hI : ∀ s, I s → Itm.ok ⟨xs0, chk⟩ (mem s)) : ∀ (xs : List α) (s : S), I s →
    (∀ x ∈ xs, ∀ s, I s → I (step s x) ∧ ∃ ρ1 μ1, g (rep x) (env s) (mem s) = some (ρ1, μ1) ∧ (b ρ1 μ1 = .nx (env (step s x)) (mem (step s x)) ∨ b ρ1 μ1 = .ct (env (step s x)) (mem (step s x)))) →
    forL ⟨xs0, chk⟩ g b (xs.map rep) (env s) (mem s) = .nx (env (xs.foldl step s)) (mem (xs.foldl step s))
  | [], s, hs, h => by
    show forL ⟨xs0, chk⟩ g b [] (env s) (mem s) = _
    unfold forL
    rw [if_pos (hI s hs)]
    rfl
  | x :: xs, s, hs, h => by
    obtain ⟨i2, ρ1, μ1, h1, h2⟩ := h x List.mem_cons_self s hs
    have ih := forC_fold rep env mem step I hI xs (step s x) i2 (fun y hy => h y (List.mem_cons_of_mem _ hy)) (xs0 := xs0) (chk := chk) (g := g) (b := b)
    show forL ⟨xs0, chk⟩ g b (rep x :: xs.map rep) (env s) (mem s) = _
    unfold forL
    rw [if_pos (hI s hs), h1]
    dsimp only
    rcases h2 with h2 | h2 <;> rw [h2] <;> exact ih
end PL

set_option Elab.async false
set_option linter.all false
set_option maxRecDepth 100000
set_option maxHeartbeats 4000000
/-! ## PT2: data that is shown; draws -/
namespace PL
open PySem PySem.Spec PyProof.Rows L2 MM
mutual
theorem pd_pd0 {μ : Mem} : ∀ (d : MV) (p : PyData), pd0 d = some p → pd μ d = some p
  | .non, _, h => h
  | .bl _, _, h => h
  | .int _, _, h => h
  | .str _, _, h => h
  | .ref _, _, h => by cases h
  | .cst _, _, h => by cases h
  | .scr _, _, h => by cases h
  | .tup xs, p, h => by
    unfold pd0 at h
    obtain ⟨ps, h1, h2⟩ := Option.map_eq_some_iff.mp h
    unfold pd
    rw [pdL_pd0 xs ps h1, ← h2]; rfl
  | .lst xs, p, h => by
    unfold pd0 at h
    obtain ⟨ps, h1, h2⟩ := Option.map_eq_some_iff.mp h
    unfold pd
    rw [pdL_pd0 xs ps h1, ← h2]; rfl
theorem pdL_pd0 {μ : Mem} : ∀ (xs : List MV) (ps : List PyData), pd0L xs = some ps → pdL μ xs = some ps
  | [], _, h => h
  | x :: xs, ps, h => by
    unfold pd0L at h
    unfold pdL
    cases h1 : pd0 x with
    | none => rw [h1] at h; cases h
    | some p =>
      cases h2 : pd0L xs with
      | none => rw [h1, h2] at h; cases h
      | some qs =>
        rw [h1, h2] at h
        rw [pd_pd0 x p h1, pdL_pd0 xs qs h2]
        exact h
end
theorem pd0L_cons {x : MV} {xs : List MV} {p : PyData} {ps : List PyData} (h1 : pd0 x = some p) (h2 : pd0L xs = some ps) : pd0L (x :: xs) = some (p :: ps) := by
  unfold pd0L; rw [h1, h2]
/-- data that can be shown: ints of few signs, depth, how much there is -/
structure Sp (B k n : Nat) (p : PyData) : Prop where
  sh : p.showable = true
  nd : p.hasDict = false
  dp : p.depth ≤ k
  cl : p.canLay0 = true
  lv : p.leavesShort B = true
  bu : p.bulk ≤ n
  ok : ∀ c ∈ p.shown.cps.toList, c < 0x110000
def Sd (B k n : Nat) (d : MV) : Prop := ∃ p, pd0 d = some p ∧ Sp B k n p
theorem Sp.mono {B k n k' n' : Nat} {p : PyData} (h : Sp B k n p) (hk : k ≤ k') (hn : n ≤ n') : Sp B k' n' p := ⟨h.sh, h.nd, Nat.le_trans h.dp hk, h.cl, h.lv, Nat.le_trans h.bu hn, h.ok⟩
theorem Sd.mono {B k n k' n' : Nat} {d : MV} (h : Sd B k n d) (hk : k ≤ k') (hn : n ≤ n') : Sd B k' n' d := let ⟨p, a, b⟩ := h; ⟨p, a, b.mono hk hn⟩
theorem Sp.int {B b : Nat} {i : Int} (h : i.natAbs < 2 ^ b) (hb : 0 < b) (hB : b + 1 ≤ B) (hs : b ≤ 1920) : Sp B 0 0 (.int i) := by
  have hl := bits_le h hb
  have hlen : (PySem.Str.ofString (toString i)).length ≤ B := by
    have := int_text_length_le hb hl
    rw [PySem.ofString_length]
    omega
  refine ⟨?_, rfl, Nat.le_refl _, rfl, ?_, Nat.le_refl _, fun c hc => ?_⟩
  · unfold PyData.showable
    exact decide_eq_true (by omega)
  · unfold PyData.leavesShort
    rw [PyData.shown_int]
    exact decide_eq_true hlen
  · rw [PyData.shown_int] at hc
    refine Classical.byContradiction fun z => ?_
    exact int_text_free' c ⟨by omega, .inr (by omega)⟩ i hc
theorem Sd.int {B b : Nat} {i : Int} (h : i.natAbs < 2 ^ b) (hb : 0 < b) (hB : b + 1 ≤ B) (hs : b ≤ 1920) : Sd B 0 0 (.int i) := ⟨_, rfl, Sp.int h hb hB hs⟩
theorem Sp.str {B n : Nat} {x : Str} (h1 : PyData.strOk x = true) (h2 : PyData.leavesShort B (.str x) = true) (h3 : x.cps.size ≤ n) (h4 : (PyData.shown (.str x)).cps.toList.all (· < 0x110000) = true) : Sp B 0 n (.str x) :=
  ⟨rfl, rfl, Nat.le_refl _, h1, h2, h3, fun c hc => of_decide_eq_true (List.all_eq_true.mp h4 c hc)⟩
theorem Sd.str {B n : Nat} {x : Str} (h1 : PyData.strOk x = true) (h2 : PyData.leavesShort B (.str x) = true) (h3 : x.cps.size ≤ n) (h4 : (PyData.shown (.str x)).cps.toList.all (· < 0x110000) = true) : Sd B 0 n (.str x) := ⟨_, rfl, Sp.str h1 h2 h3 h4⟩
theorem Sp.bl {B : Nat} {b : Bool} : Sp B 0 0 (.bool b) := ⟨rfl, rfl, Nat.le_refl _, rfl, rfl, Nat.le_refl _, by cases b <;> decide⟩
theorem Sp.non {B : Nat} : Sp B 0 0 .none := ⟨rfl, rfl, Nat.le_refl _, rfl, rfl, Nat.le_refl _, by decide⟩
theorem Sd.bl {B : Nat} {b : Bool} : Sd B 0 0 (.bl b) := ⟨_, rfl, Sp.bl⟩
theorem Sd.non {B : Nat} : Sd B 0 0 .non := ⟨_, rfl, Sp.non⟩
section
variable {B k n : Nat}
theorem SpAll : ∀ {ps : List PyData}, (∀ p ∈ ps, Sp B k n p) → PyData.showableAll ps = true ∧ PyData.hasDictAll ps = false ∧ PyData.depthAll ps ≤ k ∧ PyData.canLayAll0 ps = true ∧ PyData.leavesShortAll B ps = true ∧ PyData.bulkAll ps ≤ ps.length * (n + 1) ∧ ∀ t ∈ PyData.shownAll ps, ∀ c ∈ t.cps.toList, c < 0x110000
  | [], _ => ⟨rfl, rfl, Nat.zero_le _, rfl, rfl, Nat.zero_le _, fun t ht => by rw [PyData.shownAll_nil] at ht; cases ht⟩
  | p :: ps, h => by
    have h1 := h p List.mem_cons_self
    obtain ⟨a1, a2, a3, a4, a5, a6, a7⟩ := SpAll (ps := ps) fun q hq => h q (List.mem_cons_of_mem _ hq)
    refine ⟨?_, ?_, ?_, ?_, ?_, ?_, fun t ht => ?_⟩
    · unfold PyData.showableAll; rw [h1.sh, a1]; rfl
    · unfold PyData.hasDictAll; rw [h1.nd, a2]; rfl
    · unfold PyData.depthAll; exact Nat.max_le.mpr ⟨h1.dp, a3⟩
    · unfold PyData.canLayAll0; rw [h1.cl, a4]; rfl
    · unfold PyData.leavesShortAll; rw [h1.lv, a5]; rfl
    · unfold PyData.bulkAll
      have := h1.bu
      rw [List.length_cons, Nat.succ_mul]
      omega
    · rw [PyData.shownAll_cons] at ht
      rcases List.mem_cons.mp ht with rfl | ht
      · exact h1.ok
      · exact a7 t ht
theorem SdAll : ∀ {xs : List MV}, (∀ x ∈ xs, Sd B k n x) → ∃ ps, pd0L xs = some ps ∧ ps.length = xs.length ∧ ∀ p ∈ ps, Sp B k n p
  | [], _ => ⟨[], rfl, rfl, fun p hp => by cases hp⟩
  | x :: xs, h => by
    obtain ⟨p, a, b⟩ := h x List.mem_cons_self
    obtain ⟨ps, c, d, e⟩ := SdAll (xs := xs) fun q hq => h q (List.mem_cons_of_mem _ hq)
    refine ⟨p :: ps, pd0L_cons a c, by rw [List.length_cons, List.length_cons, d], fun q hq => ?_⟩
    rcases List.mem_cons.mp hq with rfl | hq
    · exact b
    · exact e q hq
theorem Sp.list {ps : List PyData} (h : ∀ p ∈ ps, Sp B k n p) : Sp B (k + 1) (ps.length * (n + 1)) (.list ps) := by
  obtain ⟨a1, a2, a3, a4, a5, a6, a7⟩ := SpAll h
  refine ⟨a1, a2, by unfold PyData.depth; omega, a4, a5, a6, fun c hc => ?_⟩
  rw [PyData.shown_list, mem_cps_append, mem_cps_append, mem_join] at hc
  rcases hc with (hc | ⟨t, ht, hc⟩ | ⟨_, hc⟩) | hc
  · rw [signs_lbrack] at hc; simp at hc; omega
  · exact a7 t ht c hc
  · rw [signs_sep] at hc; simp at hc; omega
  · rw [signs_rbrack] at hc; simp at hc; omega
theorem Sp.tuple {ps : List PyData} (h : ∀ p ∈ ps, Sp B k n p) : Sp B (k + 1) (ps.length * (n + 1)) (.tuple ps) := by
  obtain ⟨a1, a2, a3, a4, a5, a6, a7⟩ := SpAll h
  refine ⟨a1, a2, by unfold PyData.depth; omega, a4, a5, a6, fun c hc => ?_⟩
  rw [PyData.shown_tuple, mem_cps_append, mem_cps_append, mem_join] at hc
  rcases hc with (hc | ⟨t, ht, hc⟩ | ⟨_, hc⟩) | hc
  · rw [signs_lparen] at hc; simp at hc; omega
  · exact a7 t ht c hc
  · rw [signs_sep] at hc; simp at hc; omega
  · have key : ∀ b : Bool, c ∈ ((if b = true then ",)" else ")" : String) : Str).cps.toList → c < 0x110000 := fun b hb => by
      have e1 : ((",)" : String) : Str).cps.toList = [44, 41] := by decide
      have e2 : ((")" : String) : Str).cps.toList = [41] := by decide
      cases b
      · have hb : c ∈ ((")" : String) : Str).cps.toList := hb
        rw [e2] at hb; simp at hb; omega
      · have hb : c ∈ ((",)" : String) : Str).cps.toList := hb
        rw [e1] at hb; simp at hb; omega
    exact key _ hc
theorem Sd.lst {xs : List MV} (h : ∀ x ∈ xs, Sd B k n x) : Sd B (k + 1) (xs.length * (n + 1)) (.lst xs) := by
  obtain ⟨ps, a, b, c⟩ := SdAll h
  refine ⟨.list ps, ?_, b ▸ Sp.list c⟩
  unfold pd0; rw [a]; rfl
theorem Sd.tup {xs : List MV} (h : ∀ x ∈ xs, Sd B k n x) : Sd B (k + 1) (xs.length * (n + 1)) (.tup xs) := by
  obtain ⟨ps, a, b, c⟩ := SdAll h
  refine ⟨.tuple ps, ?_, b ▸ Sp.tuple c⟩
  unfold pd0; rw [a]; rfl
theorem Sd.shaped {d : MV} {p : PyData} (h : Sp B k n p) (hk : k ≤ 64) : SeqAt.shaped p = true := by
  unfold SeqAt.shaped; rw [h.cl, decide_eq_true (Nat.le_trans h.dp hk)]; rfl
theorem repr_ok {μ : Mem} {d : MV} (h : Sd B k n d) (hk : k ≤ 50) (hB : 8 ≤ B) (hz : (B + 2) * (n + 1) + B ≤ sizeLine) : ∃ s : Str, reprM μ [.lst [d]] = some (.str s) ∧ PyData.strOk s = true := by
  obtain ⟨p, a, b⟩ := h
  have b1 : Sp B (k + 1) ([p].length * (n + 1)) (.list [p]) := Sp.list fun q hq => by rw [List.mem_singleton.mp hq]; exact b
  have e : pd μ (.lst [d]) = some (.list [p]) := by
    unfold pd
    rw [pdL_pd0 [d] [p] (pd0L_cons a rfl)]; rfl
  have hl := PyData.shown_le_bulk B hB (.list [p]) b1.lv
  have hl2 : (B + 2) * (PyData.list [p]).bulk ≤ (B + 2) * (n + 1) := Nat.mul_le_mul_left _ (by have := b1.bu; simpa using this)
  refine ⟨(PyData.list [p]).shown, ?_, ?_⟩
  · unfold reprM
    dsimp only
    rw [e]
    dsimp only
    rw [if_pos ⟨b1.sh, b1.nd, by have := b1.dp; omega, by omega⟩]
  · unfold PyData.strOk
    rw [← Array.all_toList, List.all_eq_true]
    exact fun c hc => decide_eq_true (b1.ok c hc)
/-- equal ones are shown alike -/
theorem same_ok {μ : Mem} (hm : okMem μ) {d : MV} (h : Sd B k n d) (hk : k ≤ 50) (hB : 8 ≤ B) (hz : (B + 2) * (n + 1) + B ≤ sizeLine) :
    runC ["told", "due"] (sRet (mOp eqM (mCB reprM (mCons (mLst (mCons (mVar 0) mNil)) mNil)) (mCB reprM (mCons (mLst (mCons (mVar 1) mNil)) mNil)))) [d, d] μ = .ok (.bl true) μ := by
  obtain ⟨s, e1, e2⟩ := repr_ok (μ := μ) h hk hB hz
  refine run_rt0 (ret_s (op_ok (cb_ok (one_ok (lst_ok (one_ok (var_ok (d := d) rfl)) (le_size (by simp)))) e1) (cb_ok (one_ok (lst_ok (one_ok (var_ok (d := d) rfl)) (le_size (by simp)))) e1) ?_)) rfl hm
  have sh : SeqAt.shaped (.str s) = true := by
    unfold SeqAt.shaped PyData.canLay0
    rw [e2]; rfl
  rw [eqD_of (d := .str s) (e := .str s) rfl rfl sh sh]
  unfold PyData.eqv
  simp
end
/-- equal data -/
theorem eq_refl {B k n : Nat} {μ : Mem} {d : MV} (h : Sd B k n d) (hk : k ≤ 64) : eqM μ d d = some (.bl true) := by
  obtain ⟨p, a, b⟩ := h
  have sh := Sd.shaped (d := d) b hk
  rw [eqD_of (pd_pd0 d p a) (pd_pd0 d p a) sh sh, SeqAt.eqv_refl p b.cl]
theorem ne_refl {B k n : Nat} {μ : Mem} {d : MV} (h : Sd B k n d) (hk : k ≤ 64) : neM μ d d = some (.bl false) := by
  obtain ⟨p, a, b⟩ := h
  have sh := Sd.shaped (d := d) b hk
  unfold neM eqD
  rw [pd_pd0 d p a]
  dsimp only
  rw [if_pos ⟨sh, sh⟩, SeqAt.eqv_refl p b.cl]
  rfl
/-! ### for, by counted turns -/
theorem for_idx {xs0 : List MV} {g : TgM} {b : SM} (I : Nat → MM.Env → Mem → Prop) (J : MM.Env → Mem → Prop) : ∀ (xs : List MV) (k : Nat) (ρ : MM.Env) (μ : Mem), I k ρ μ → (∀ ρ μ, I (k + xs.length) ρ μ → J ρ μ) →
    (∀ (j : Nat) (x : MV), xs[j]? = some x → ∀ ρ μ, I (k + j) ρ μ → ∃ ρ1 μ1, g x ρ μ = some (ρ1, μ1) ∧ ((∃ ρ2 μ2, (b ρ1 μ1 = .nx ρ2 μ2 ∨ b ρ1 μ1 = .ct ρ2 μ2) ∧ I (k + j + 1) ρ2 μ2) ∨ (∃ ρ2 μ2, b ρ1 μ1 = .bk ρ2 μ2 ∧ J ρ2 μ2))) →
    ∃ ρ' μ', forL ⟨xs0, []⟩ g b xs ρ μ = .nx ρ' μ' ∧ J ρ' μ'
  | [], k, ρ, μ, hi, hj, h => ⟨ρ, μ, for_end, hj ρ μ hi⟩
  | x :: xs, k, ρ, μ, hi, hj, h => by
    obtain ⟨ρ1, μ1, h1, h2⟩ := h 0 x rfl ρ μ hi
    rcases h2 with ⟨ρ2, μ2, h2 | h2, i2⟩ | ⟨ρ2, μ2, h2, j2⟩
    · rw [for_nx h1 h2]
      refine for_idx I J xs (k + 1) ρ2 μ2 i2 (fun ρ μ q => hj ρ μ (by rw [List.length_cons]; rw [show k + (xs.length + 1) = k + 1 + xs.length by omega]; exact q)) fun j y hy ρ μ q => ?_
      have := h (j + 1) y (by simpa using hy) ρ μ (by rw [show k + (j + 1) = k + 1 + j by omega]; exact q)
      rwa [show k + (j + 1) = k + 1 + j by omega] at this
    · have e : forL ⟨xs0, []⟩ g b (x :: xs) ρ μ = forL ⟨xs0, []⟩ g b xs ρ2 μ2 := by
        conv => lhs; unfold forL
        rw [if_pos ok_nil, h1]
        dsimp only
        rw [h2]
      rw [e]
      refine for_idx I J xs (k + 1) ρ2 μ2 i2 (fun ρ μ q => hj ρ μ (by rw [List.length_cons]; rw [show k + (xs.length + 1) = k + 1 + xs.length by omega]; exact q)) fun j y hy ρ μ q => ?_
      have := h (j + 1) y (by simpa using hy) ρ μ (by rw [show k + (j + 1) = k + 1 + j by omega]; exact q)
      rwa [show k + (j + 1) = k + 1 + j by omega] at this
    · rw [for_bk h1 h2]
      exact ⟨ρ2, μ2, rfl, j2⟩
/-! ### the draws -/
structure Ns (xs : List Int) : Prop where
  ne : xs ≠ []
  rg : ∀ x ∈ xs, 0 ≤ x ∧ x < 1009
  ln : xs.length ≤ 4000
def sC (xs : List Int) (k : Nat) : Cell := .lst [.lst (xs.map .int), .int k]
theorem nrs_ints (xs : List Int) : nrs (xs.map .int) = true := nrs_map _ (fun _ => rfl) xs
theorem okC_s {n : Nat} (xs : List Int) (k : Nat) : okC n (sC xs k) = true := okNs_nr _ (by rw [nrs_all]; simp only [List.all_cons, List.all_nil, Bool.and_true]; unfold nr; rw [nrs_ints]; rfl)
theorem okMem_s {xs : List Int} {k j : Nat} {rest : Mem} (h : okMem (sC xs k :: rest)) : okMem (sC xs j :: rest) := by
  unfold okMem at h ⊢
  rw [List.all_cons, Bool.and_eq_true] at h ⊢
  exact ⟨okC_s _ _, h.2⟩
/-- one draw -/
def drw (xs : List Int) (k : Nat) (m : Int) : Int := (xs.getD (k % xs.length) 0 + (k / xs.length : Nat) * 389 + (k : Int) * (k / xs.length : Nat) * 17).fmod m
theorem drw_rg {xs : List Int} {k : Nat} {m : Int} (h : 0 < m) : 0 ≤ drw xs k m ∧ drw xs k m < m := ⟨Int.fmod_nonneg_of_pos _ h, Int.fmod_lt_of_pos _ h⟩
def Mnext : SM := (sSeq (sAsg (mOp addM (mOp ixM (mVar 0) (mRet (.int 1))) (mRet (.int 1))) (gIx (mVar 0) (mRet (.int 1))))
  (sSeq (sAsg (mOp fdivM (mOp ixM (mVar 0) (mRet (.int 1))) (mCB lenM (mCons (mOp ixM (mVar 0) (mRet (.int 0))) mNil))) (gN 2))
  (sRet (mOp modM (mCB intM (mCons (mOp addM (mOp addM (mOp ixM (mOp ixM (mVar 0) (mRet (.int 0))) (mOp modM (mOp ixM (mVar 0) (mRet (.int 1))) (mCB lenM (mCons (mOp ixM (mVar 0) (mRet (.int 0))) mNil)))) (mOp mulM2 (mVar 2) (mRet (.int 389)))) (mOp mulM2 (mOp mulM2 (mOp ixM (mVar 0) (mRet (.int 1))) (mVar 2)) (mRet (.int 17)))) mNil)) (mVar 1)))))
def Fnext : FM := runC ["state", "many", "turn"] Mnext
theorem small_mul {i j : Int} (hi : i.natAbs < 2 ^ 4000) (hj : j.natAbs < 2 ^ 4000) : okMul i j := by
  have a : i.natAbs.log2 < 4000 := bits_le hi (by omega)
  have b : j.natAbs.log2 < 4000 := bits_le hj (by omega)
  unfold okMul
  omega
set_option exponentiation.threshold 5000 in
theorem lt_big {n : Nat} (h : n < 2 ^ 200) : n < 2 ^ 4000 := Nat.lt_of_lt_of_le h (Nat.pow_le_pow_right (by omega) (by omega))
theorem next_ok {xs : List Int} (hx : Ns xs) {k : Nat} (hk : k < 2 ^ 60) {rest : Mem} (hm : okMem (sC xs k :: rest)) {m : Int} (h : 0 < m) : Fnext [.ref 0, .int m] (sC xs k :: rest) = .ok (.int (drw xs (k + 1) m)) (sC xs (k + 1) :: rest) := by
  have hl : 0 < xs.length := List.length_pos_iff.mpr hx.ne
  have hl2 := hx.ln
  have c0 : ∀ j, (sC xs j :: rest)[0]? = some (.lst [.lst (xs.map .int), .int j]) := fun j => rfl
  have hs : (sC xs (k + 1) :: rest).take (sC xs k :: rest).length = sC xs (k + 1) :: rest := List.take_of_length_le (Nat.le_refl _)
  have hdv : ((k : Int) + 1).fdiv xs.length = ((k + 1) / xs.length : Nat) := by
    rw [Int.fdiv_eq_ediv_of_nonneg _ (by omega), Int.natCast_ediv]
    rfl
  have hmd : ((k : Int) + 1).fmod xs.length = ((k + 1) % xs.length : Nat) := by
    rw [Int.fmod_eq_emod_of_nonneg _ (by omega), Int.natCast_emod]
    rfl
  have hlt := Nat.mod_lt (k + 1) hl
  have hq : (k + 1) / xs.length ≤ k + 1 := Nat.div_le_self _ _
  have e1 : lenM (sC xs (k + 1) :: rest) [.lst (xs.map .int)] = some (.int xs.length) := by rw [lenL, List.length_map]
  have ixr : ixM (sC xs (k + 1) :: rest) (.lst (xs.map .int)) (.int ((k + 1) % xs.length : Nat)) = some (.int (xs.getD ((k + 1) % xs.length) 0)) := by
    rw [ixL, atI_nat _ _ (by rw [List.length_map]; exact hlt), List.getElem_map, List.getD_eq_getElem?_getD, List.getElem?_eq_getElem hlt]
    rfl
  have odv : okDiv (xs.length : Int) := .inr ⟨by omega, by omega⟩
  have st : Mnext [some (.ref 0), some (.int m), none] (sC xs k :: rest) = .rt (.int (drw xs (k + 1) m)) (sC xs (k + 1) :: rest) := by
    unfold Mnext
    refine seq_step (ρ1 := [some (.ref 0), some (.int m), none]) (μ1 := sC xs (k + 1) :: rest) (asg_ok (op_ok (op_ok (var_ok rfl) k_ok (ixC 1 (c0 k))) k_ok rfl) rfl) ?_
    refine seq_step (ρ1 := [some (.ref 0), some (.int m), some (.int ((k + 1) / xs.length : Nat))]) (μ1 := sC xs (k + 1) :: rest) (asg_ok (op_ok (op_ok (var_ok rfl) k_ok (ixC 1 (c0 (k + 1)))) (cb_ok (one_ok (op_ok (var_ok rfl) k_ok (ixC 0 (c0 (k + 1))))) e1) ?_) rfl) ?_
    · have : fdivM (sC xs (k + 1) :: rest) (.int ((k + 1 : Nat) : Int)) (.int xs.length) = some (.int (((k : Int) + 1).fdiv xs.length)) := fdivI odv
      rw [hdv] at this
      exact this
    · refine ret_s (op_ok (cb_ok (one_ok (op_ok (op_ok (op_ok (op_ok (var_ok rfl) k_ok (ixC 0 (c0 (k + 1)))) (op_ok (op_ok (var_ok rfl) k_ok (ixC 1 (c0 (k + 1)))) (cb_ok (one_ok (op_ok (var_ok rfl) k_ok (ixC 0 (c0 (k + 1))))) e1) ?_) ixr) (op_ok (var_ok rfl) k_ok (mulI' (small_mul ?_ ?_))) rfl) (op_ok (op_ok (op_ok (var_ok rfl) k_ok (ixC 1 (c0 (k + 1)))) (var_ok rfl) (mulI' (small_mul ?_ ?_))) k_ok (mulI' (small_mul ?_ ?_))) rfl)) rfl) (var_ok rfl) ?_)
      · have : modM (sC xs (k + 1) :: rest) (.int ((k + 1 : Nat) : Int)) (.int xs.length) = some (.int (((k : Int) + 1).fmod xs.length)) := modI (by omega)
        rw [hmd] at this
        exact this
      · exact lt_big (by rw [Int.natAbs_natCast]; omega)
      · exact lt_big (by decide)
      · exact lt_big (by rw [Int.natAbs_natCast]; omega)
      · exact lt_big (by rw [Int.natAbs_natCast]; omega)
      · refine lt_big ?_
        rw [Int.natAbs_mul]
        have a1 : ((k + 1 : Nat) : Int).natAbs < 2 ^ 61 := by omega
        have a2 : (((k + 1) / xs.length : Nat) : Int).natAbs < 2 ^ 61 := by rw [Int.natAbs_natCast]; omega
        calc _ ≤ 2 ^ 61 * 2 ^ 61 := Nat.mul_le_mul (by omega) (by omega)
          _ < 2 ^ 200 := by decide
      · exact lt_big (by decide)
      · exact modI (by omega)
  have := run_rt (N := ["state", "many", "turn"]) (b := Mnext) (ds := [.ref 0, .int m]) (μ := sC xs k :: rest) st rfl (by rw [hs]; exact okMem_s hm)
  rw [hs] at this
  exact this
end PL

set_option Elab.async false
set_option linter.all false
set_option maxRecDepth 100000
set_option maxHeartbeats 4000000
/-! ## PT3: typed data: equal, in, index; slices; while -/
namespace PL
open PySem PySem.Spec PyProof.Rows L2 MM
/-- rep writes α as data of depth at most k, equal just if the same -/
structure Dt {α : Type} [DecidableEq α] (k : Nat) (rep : α → MV) (D : α → PyData) : Prop where
  pd : ∀ x, pd0 (rep x) = some (D x)
  cl : ∀ x, (D x).canLay0 = true
  dp : ∀ x, (D x).depth ≤ k
  eq : ∀ x y, PyData.eqv (D x) (D y) = decide (x = y)
theorem Dt.int : Dt 0 MV.int PyData.int := ⟨fun _ => rfl, fun _ => rfl, fun _ => Nat.le_refl _, fun x y => by unfold PyData.eqv; rfl⟩
theorem Dt.nat : Dt 0 (fun n : Nat => MV.int n) (fun n => PyData.int n) := ⟨fun _ => rfl, fun _ => rfl, fun _ => Nat.le_refl _, fun x y => by
  unfold PyData.eqv
  show decide ((x : Int) = y) = _
  by_cases h : x = y
  · rw [decide_eq_true h, decide_eq_true (by omega)]
  · rw [decide_eq_false h, decide_eq_false (by omega)]⟩
section
variable {α β : Type} [DecidableEq α] [DecidableEq β] {k j : Nat} {rep : α → MV} {D : α → PyData} {rep2 : β → MV} {D2 : β → PyData}
theorem Dt.mono (h : Dt k rep D) (hk : k ≤ j) : Dt j rep D := ⟨h.pd, h.cl, fun x => Nat.le_trans (h.dp x) hk, h.eq⟩
theorem Dt.pair (h : Dt k rep D) (h2 : Dt k rep2 D2) : Dt (k + 1) (fun p : α × β => .tup [rep p.1, rep2 p.2]) (fun p => .tuple [D p.1, D2 p.2]) where
  pd := fun p => by
    show (pd0L [rep p.1, rep2 p.2]).map PyData.tuple = _
    rw [pd0L_cons (h.pd p.1) (pd0L_cons (h2.pd p.2) rfl)]; rfl
  cl := fun p => by
    unfold PyData.canLay0 PyData.canLayAll0 PyData.canLayAll0 PyData.canLayAll0
    rw [h.cl, h2.cl]; rfl
  dp := fun p => by
    unfold PyData.depth PyData.depthAll PyData.depthAll PyData.depthAll
    have := h.dp p.1
    have := h2.dp p.2
    omega
  eq := fun p q => by
    unfold PyData.eqv PyData.eqvAll PyData.eqvAll PyData.eqvAll
    rw [h.eq, h2.eq]
    by_cases e1 : p.1 = q.1 <;> by_cases e2 : p.2 = q.2 <;> simp [e1, e2, Prod.ext_iff]
theorem pd0L_map (h : Dt k rep D) : ∀ xs : List α, pd0L (xs.map rep) = some (xs.map D)
  | [] => rfl
  | x :: xs => pd0L_cons (h.pd x) (pd0L_map h xs)
theorem canL_map (h : Dt k rep D) : ∀ xs : List α, PyData.canLayAll0 (xs.map D) = true
  | [] => rfl
  | x :: xs => by
    show PyData.canLayAll0 (D x :: xs.map D) = true
    unfold PyData.canLayAll0
    rw [h.cl x, canL_map h xs]; rfl
theorem depL_map (h : Dt k rep D) : ∀ xs : List α, PyData.depthAll (xs.map D) ≤ k
  | [] => Nat.zero_le _
  | x :: xs => by
    show PyData.depthAll (D x :: xs.map D) ≤ k
    unfold PyData.depthAll
    exact Nat.max_le.mpr ⟨h.dp x, depL_map h xs⟩
theorem eqvL_map (h : Dt k rep D) : ∀ xs ys : List α, PyData.eqvAll (xs.map D) (ys.map D) = decide (xs = ys)
  | [], [] => rfl
  | [], y :: ys => rfl
  | x :: xs, [] => rfl
  | x :: xs, y :: ys => by
    show PyData.eqvAll (D x :: xs.map D) (D y :: ys.map D) = _
    unfold PyData.eqvAll
    rw [h.eq, eqvL_map h xs ys]
    by_cases e1 : x = y <;> by_cases e2 : xs = ys <;> simp [e1, e2]
theorem Dt.tup (h : Dt k rep D) : Dt (k + 1) (fun xs : List α => .tup (xs.map rep)) (fun xs => .tuple (xs.map D)) where
  pd := fun xs => by
    show (pd0L (xs.map rep)).map PyData.tuple = _
    rw [pd0L_map h]; rfl
  cl := fun xs => by unfold PyData.canLay0; exact canL_map h xs
  dp := fun xs => by unfold PyData.depth; have := depL_map h xs; omega
  eq := fun xs ys => by unfold PyData.eqv; exact eqvL_map h xs ys
theorem Dt.lst (h : Dt k rep D) : Dt (k + 1) (fun xs : List α => .lst (xs.map rep)) (fun xs => .list (xs.map D)) where
  pd := fun xs => by
    show (pd0L (xs.map rep)).map PyData.list = _
    rw [pd0L_map h]; rfl
  cl := fun xs => by unfold PyData.canLay0; exact canL_map h xs
  dp := fun xs => by unfold PyData.depth; have := depL_map h xs; omega
  eq := fun xs ys => by unfold PyData.eqv; exact eqvL_map h xs ys
theorem Dt.shaped (h : Dt k rep D) (hk : k ≤ 64) (x : α) : SeqAt.shaped (D x) = true := by
  unfold SeqAt.shaped
  rw [h.cl, decide_eq_true (Nat.le_trans (h.dp x) hk)]; rfl
theorem Dt.eqM (h : Dt k rep D) (hk : k ≤ 64) (μ : Mem) (x y : α) : eqM μ (rep x) (rep y) = some (.bl (decide (x = y))) := by
  rw [eqD_of (pd_pd0 _ _ (h.pd x)) (pd_pd0 _ _ (h.pd y)) (h.shaped hk x) (h.shaped hk y), h.eq]
theorem Dt.neM (h : Dt k rep D) (hk : k ≤ 64) (μ : Mem) (x y : α) : neM μ (rep x) (rep y) = some (.bl (!decide (x = y))) := by
  unfold MM.neM eqD
  rw [pd_pd0 _ _ (h.pd x), pd_pd0 _ _ (h.pd y)]
  dsimp only
  rw [if_pos ⟨h.shaped hk x, h.shaped hk y⟩, h.eq]; rfl
/-- the list of a value: a cell's or a frozen one -/
theorem pd_list (h : Dt k rep D) {μ : Mem} {d : MV} {xs : List α} (hd : lstOf μ d = some (xs.map rep)) : pd μ d = some (.list (xs.map D)) := by
  cases d with
  | lst ys =>
    cases hd
    unfold MM.pd
    rw [pdL_pd0 _ _ (pd0L_map h xs)]; rfl
  | ref i =>
    unfold MM.pd
    rw [show celOf μ i = some (xs.map rep) from hd]
    dsimp only
    rw [pd0L_map h xs]; rfl
  | _ => cases hd
theorem any_map_eqv (h : Dt k rep D) (x : α) : ∀ xs : List α, (xs.map D).any (fun z => PyData.eqv z (D x)) = decide (x ∈ xs)
  | [] => rfl
  | y :: ys => by
    show (PyData.eqv (D y) (D x) || (ys.map D).any fun z => PyData.eqv z (D x)) = _
    rw [h.eq, any_map_eqv h x ys]
    by_cases e1 : x = y
    · subst e1; simp
    · have : ¬ y = x := fun z => e1 z.symm
      simp [e1, this]
theorem lstOf_notup {μ : Mem} {d : MV} {xs : List MV} (h : lstOf μ d = some xs) : ∀ ys, d ≠ .tup ys := fun ys e => by subst e; cases h
theorem inB_list (h : Dt k rep D) (hk : k ≤ 60) {μ : Mem} {d : MV} {xs : List α} (hd : lstOf μ d = some (xs.map rep)) (x : α) : inB μ (rep x) d = some (decide (x ∈ xs)) := by
  have hl : SeqAt.shaped (.list (xs.map D)) = true := Dt.shaped (Dt.lst h) (by omega) xs
  have e : inB μ (rep x) d = inDl μ (rep x) d := by
    unfold inB
    split
    · rename_i ys
      exact absurd rfl (lstOf_notup hd ys)
    · rfl
  rw [e]
  unfold inDl
  rw [pd_pd0 _ _ (h.pd x), pd_list h hd]
  dsimp only
  rw [if_pos ⟨h.shaped (by omega) x, hl⟩, any_map_eqv h]
theorem Dt.inM (h : Dt k rep D) (hk : k ≤ 60) {μ : Mem} {d : MV} {xs : List α} (hd : lstOf μ d = some (xs.map rep)) (x : α) : inM μ (rep x) d = some (.bl (decide (x ∈ xs))) := by
  unfold MM.inM; rw [inB_list h hk hd]; rfl
theorem Dt.notInM (h : Dt k rep D) (hk : k ≤ 60) {μ : Mem} {d : MV} {xs : List α} (hd : lstOf μ d = some (xs.map rep)) (x : α) : notInM μ (rep x) d = some (.bl (!decide (x ∈ xs))) := by
  unfold MM.notInM; rw [inB_list h hk hd]; rfl
theorem Dt.notIn_t (h : Dt k rep D) (hk : k ≤ 60) {μ : Mem} {d : MV} {xs : List α} (hd : lstOf μ d = some (xs.map rep)) {x : α} (hx : x ∉ xs) : MM.notInM μ (rep x) d = some (.bl true) := by
  rw [h.notInM hk hd, decide_eq_false hx]; rfl
theorem Dt.notIn_f (h : Dt k rep D) (hk : k ≤ 60) {μ : Mem} {d : MV} {xs : List α} (hd : lstOf μ d = some (xs.map rep)) {x : α} (hx : x ∈ xs) : MM.notInM μ (rep x) d = some (.bl false) := by
  rw [h.notInM hk hd, decide_eq_true hx]; rfl
theorem Dt.in_t (h : Dt k rep D) (hk : k ≤ 60) {μ : Mem} {d : MV} {xs : List α} (hd : lstOf μ d = some (xs.map rep)) {x : α} (hx : x ∈ xs) : MM.inM μ (rep x) d = some (.bl true) := by
  rw [h.inM hk hd, decide_eq_true hx]
theorem Dt.in_f (h : Dt k rep D) (hk : k ≤ 60) {μ : Mem} {d : MV} {xs : List α} (hd : lstOf μ d = some (xs.map rep)) {x : α} (hx : x ∉ xs) : MM.inM μ (rep x) d = some (.bl false) := by
  rw [h.inM hk hd, decide_eq_false hx]
theorem firstD_map (h : Dt k rep D) (x : α) : ∀ (xs : List α) (n : Nat), x ∈ xs → firstD (D x) (xs.map D) n = some (n + xs.idxOf x)
  | [], _, hx => by cases hx
  | y :: ys, n, hx => by
    show firstD (D x) (D y :: ys.map D) n = _
    unfold firstD
    rw [h.eq]
    by_cases e : y = x
    · subst e
      rw [decide_eq_true rfl, if_pos rfl]
      simp
    · rw [decide_eq_false e, if_neg (by simp), firstD_map h x ys (n + 1) ((List.mem_cons.mp hx).resolve_left fun z => e z.symm), List.idxOf_cons]
      have : (y == x) = false := by simpa using e
      rw [this]
      simp
      omega
theorem Dt.idx (h : Dt k rep D) (hk : k ≤ 60) {μ : Mem} {d : MV} {xs : List α} (hd : lstOf μ d = some (xs.map rep)) {x : α} (hx : x ∈ xs) : idxM μ d [rep x] = some (.int (xs.idxOf x : Nat), μ) := by
  have hl : SeqAt.shaped (.list (xs.map D)) = true := Dt.shaped (Dt.lst h) (by omega) xs
  unfold idxM
  dsimp only
  rw [hd, pd_pd0 _ _ (h.pd x)]
  dsimp only [Option.bind]
  rw [pdL_pd0 _ _ (pd0L_map h xs)]
  dsimp only
  rw [if_pos ⟨hl, h.shaped (by omega) x⟩, firstD_map h x xs 0 hx, Nat.zero_add]
  rfl
end
theorem sum_map' {α : Type} (μ : Mem) (g : α → Int) (xs : List α) : sumM μ [.lst (xs.map fun c => .int (g c))] = some (.int (xs.map g).sum) := by
  have := sum_map μ (xs.map g)
  rwa [List.map_map] at this
/-! ### slices -/
theorem cut_from {α : Type} (xs : List α) (n : Nat) : cutM xs (some (n : Int)) none = xs.drop n := by
  unfold cutM
  rw [HT.sIx_nat, HT.sIx_none]
  have e : List.drop (min n xs.length) xs = xs.drop n := by
    rcases Nat.le_total n xs.length with h | h
    · rw [Nat.min_eq_left h]
    · rw [Nat.min_eq_right h, List.drop_of_length_le (Nat.le_refl _), List.drop_of_length_le h]
  rw [e]
  exact List.take_of_length_le (by rw [List.length_drop]; omega)
theorem cut_to {α : Type} (xs : List α) (n : Nat) : cutM xs none (some (n : Int)) = xs.take n := by
  unfold cutM
  rw [HT.sIx_nat, HT.sIx_none, List.drop_zero, Nat.sub_zero]
  rcases Nat.le_total n xs.length with h | h
  · rw [Nat.min_eq_left h]
  · rw [Nat.min_eq_right h, List.take_of_length_le (Nat.le_refl _), List.take_of_length_le h]
theorem cut_mid {α : Type} (xs : List α) (n m : Nat) : cutM xs (some (n : Int)) (some (m : Int)) = (xs.drop n).take (m - n) := by
  unfold cutM
  rw [HT.sIx_nat, HT.sIx_nat]
  rcases Nat.le_total n xs.length with h | h
  · rw [Nat.min_eq_left h]
    rcases Nat.le_total m xs.length with g | g
    · rw [Nat.min_eq_left g]
    · rw [Nat.min_eq_right g, List.take_of_length_le (by rw [List.length_drop]; exact Nat.le_refl _), List.take_of_length_le (by rw [List.length_drop]; omega)]
  · rw [Nat.min_eq_right h, List.drop_of_length_le (Nat.le_refl _), List.drop_of_length_le h]
    simp
theorem sliceL {μ : Mem} {d : MV} {xs : List MV} {lo hi : Option Int} (h : lstOf μ d = some xs) : sliceM μ d lo hi = some (.lst (cutM xs lo hi)) := by
  cases d with
  | lst ys => cases h; rfl
  | ref i =>
    show (lstOf μ (.ref i)).map (fun xs => MV.lst (cutM xs lo hi)) = _
    rw [h]; rfl
  | _ => cases h
/-! ### while, for, by counted turns -/
theorem while_range {c : Ev Bool} {b : SM} (env : Nat → MM.Env) (mem : Nat → Mem) (n : Nat) {fuel : Nat} (hf : n < fuel) (h : ∀ i, i < n → c (env i) (mem i) = .ok true (mem i) ∧ b (env i) (mem i) = .nx (env (i + 1)) (mem (i + 1))) (he : c (env n) (mem n) = .ok false (mem n)) :
    whileN c b fuel (env 0) (mem 0) = .nx (env n) (mem n) := by
  have key : ∀ m k f, k + m = n → m < f → whileN c b f (env k) (mem k) = .nx (env n) (mem n) := by
    intro m
    induction m with
    | zero =>
      intro k f hk hf
      obtain ⟨f', rfl⟩ : ∃ f', f = f' + 1 := ⟨f - 1, by omega⟩
      have : k = n := by omega
      subst this
      exact while_stop he
    | succ m ih =>
      intro k f hk hf
      obtain ⟨f', rfl⟩ : ∃ f', f = f' + 1 := ⟨f - 1, by omega⟩
      obtain ⟨h1, h2⟩ := h k (by omega)
      rw [while_go h1 h2]
      exact ih (k + 1) f' (by omega) (by omega)
  exact key n 0 fuel (by omega) hf
theorem forl_range {g : TgM} {b : SM} {xs0 : List MV} (env : Nat → MM.Env) (mem : Nat → Mem) (n : Nat) (h : ∀ i, i < n → ∃ ρ1 μ1, g (.int i) (env i) (mem i) = some (ρ1, μ1) ∧ b ρ1 μ1 = .nx (env (i + 1)) (mem (i + 1))) :
    forL ⟨xs0, []⟩ g b (intsL 0 n) (env 0) (mem 0) = .nx (env n) (mem n) := by
  have key : ∀ m k, k + m = n → forL ⟨xs0, []⟩ g b ((List.range' k m).map fun i => MV.int ((0 : Int) + (i : Nat))) (env k) (mem k) = .nx (env n) (mem n) := by
    intro m
    induction m with
    | zero =>
      intro k hk
      have : k = n := by omega
      subst this
      exact for_end
    | succ m ih =>
      intro k hk
      obtain ⟨ρ1, μ1, h1, h2⟩ := h k (by omega)
      rw [List.range'_succ, List.map_cons, for_nx (by rw [Int.zero_add]; exact h1) h2]
      exact ih (k + 1) (by omega)
  have := key n 0 (by omega)
  unfold intsL
  rw [List.range_eq_range']
  exact this
theorem forl_list {α : Type} {g : TgM} {b : SM} {xs0 : List MV} (rep : α → MV) (xs : List α) (env : Nat → MM.Env) (mem : Nat → Mem) (h : ∀ i (hi : i < xs.length), ∃ ρ1 μ1, g (rep xs[i]) (env i) (mem i) = some (ρ1, μ1) ∧ b ρ1 μ1 = .nx (env (i + 1)) (mem (i + 1))) :
    forL ⟨xs0, []⟩ g b (xs.map rep) (env 0) (mem 0) = .nx (env xs.length) (mem xs.length) := by
  have key : ∀ (ys : List α) (k : Nat), xs.drop k = ys → forL ⟨xs0, []⟩ g b (ys.map rep) (env k) (mem k) = .nx (env (k + ys.length)) (mem (k + ys.length)) := by
    intro ys
    induction ys with
    | nil => intro k _; exact for_end
    | cons y ys ih =>
      intro k hk
      obtain ⟨e1, e2, hl⟩ := drop_get hk
      obtain ⟨ρ1, μ1, h1, h2⟩ := h k hl
      have ey : xs[k] = y := by
        rw [List.getElem?_eq_getElem hl] at e1
        exact Option.some.inj e1
      rw [ey] at h1
      rw [List.map_cons, for_nx h1 h2, ih (k + 1) e2, List.length_cons, show k + (ys.length + 1) = k + 1 + ys.length by omega]
  have := key xs 0 (by simp)
  rwa [Nat.zero_add] at this
/-- .. with an end ahead: at turn n it breaks -/
theorem forl_brk {g : TgM} {b : SM} {xs0 : List MV} (env : Nat → MM.Env) (mem : Nat → Mem) (n m : Nat) {ρe : MM.Env} {μe : Mem} (hn : n < m) (h : ∀ i, i < n → ∃ ρ1 μ1, g (.int i) (env i) (mem i) = some (ρ1, μ1) ∧ b ρ1 μ1 = .nx (env (i + 1)) (mem (i + 1)))
    (he : ∃ ρ1 μ1, g (.int n) (env n) (mem n) = some (ρ1, μ1) ∧ b ρ1 μ1 = .bk ρe μe) :
    forL ⟨xs0, []⟩ g b (intsL 0 m) (env 0) (mem 0) = .nx ρe μe := by
  have key : ∀ q k, k + q = n → ∀ r, q < r → forL ⟨xs0, []⟩ g b ((List.range' k r).map fun i => MV.int ((0 : Int) + (i : Nat))) (env k) (mem k) = .nx ρe μe := by
    intro q
    induction q with
    | zero =>
      intro k hk r hr
      have : k = n := by omega
      subst this
      obtain ⟨r', rfl⟩ : ∃ r', r = r' + 1 := ⟨r - 1, by omega⟩
      obtain ⟨ρ1, μ1, h1, h2⟩ := he
      rw [List.range'_succ, List.map_cons]
      exact for_bk (by rw [Int.zero_add]; exact h1) h2
    | succ q ih =>
      intro k hk r hr
      obtain ⟨r', rfl⟩ : ∃ r', r = r' + 1 := ⟨r - 1, by omega⟩
      obtain ⟨ρ1, μ1, h1, h2⟩ := h k (by omega)
      rw [List.range'_succ, List.map_cons, for_nx (by rw [Int.zero_add]; exact h1) h2]
      exact ih (k + 1) (by omega) r' (by omega)
  have := key n 0 (by omega) m hn
  unfold intsL
  rw [List.range_eq_range']
  exact this
end PL

set_option Elab.async false
set_option linter.all false
set_option maxRecDepth 100000
set_option maxHeartbeats 4000000
/-! ## PT4: the stream, draws in comprehensions -/
namespace PL
open PySem PySem.Spec PyProof.Rows L2 MM
/-- a def that draws -/
theorem run_S {N : List Str} {b : SM} {ds : List MV} {xs : List Int} {k k' : Nat} {rest : Mem} {d : MV} (h : b (envS N ds) (sC xs k :: rest) = .rt d (sC xs k' :: rest)) (hd : nr d = true) (hm : okMem (sC xs k :: rest)) : runC N b ds (sC xs k :: rest) = .ok d (sC xs k' :: rest) := by
  have hs : (sC xs k' :: rest).take (sC xs k :: rest).length = sC xs k' :: rest := List.take_of_length_le (Nat.le_refl _)
  have := run_rt h hd (by rw [hs]; exact okMem_s hm)
  rwa [hs] at this
theorem comp_draw {α : Type} {xs0 : List MV} {g : TgM} {e : Ev MV} {ρ : MM.Env} (rep : α → MV) (Q : α → Prop) (S : Nat → Mem) (c B : Nat) : ∀ (items : List MV) (k : Nat), k + items.length * c ≤ B →
    (∀ x ∈ items, ∀ k, k + c ≤ B → ∃ ρ1, g x ρ (S k) = some (ρ1, S k) ∧ ∃ a k', e ρ1 (S k) = .ok (rep a) (S k') ∧ Q a ∧ k ≤ k' ∧ k' ≤ k + c) →
    ∃ (as : List α) (k' : Nat), compL ⟨xs0, []⟩ g mYes e ρ items (S k) = some (as.map rep, S k') ∧ as.length = items.length ∧ (∀ a ∈ as, Q a) ∧ k ≤ k' ∧ k' ≤ k + items.length * c
  | [], k, _, _ => by
    refine ⟨[], k, ?_, rfl, (fun a ha => by cases ha), Nat.le_refl _, Nat.le_add_right _ _⟩
    unfold compL
    rw [if_pos ok_nil]; rfl
  | x :: items, k, hB, h => by
    rw [List.length_cons, Nat.succ_mul] at hB
    obtain ⟨ρ1, h1, a, k1, h2, h3, h4, h5⟩ := h x List.mem_cons_self k (by omega)
    obtain ⟨as, k', h6, h7, h8, h9, h10⟩ := comp_draw rep Q S c B items k1 (by omega) (fun y hy => h y (List.mem_cons_of_mem _ hy)) (xs0 := xs0) (g := g) (e := e) (ρ := ρ)
    refine ⟨a :: as, k', ?_, by simp [h7], fun b hb => ?_, by omega, by rw [List.length_cons, Nat.succ_mul]; omega⟩
    · unfold compL
      rw [if_pos ok_nil, h1]
      simp only [mYes, mRet, h2, h6, List.map_cons]
    · rcases List.mem_cons.mp hb with rfl | hb
      · exact h3
      · exact h8 b hb
/-- a comprehension that draws -/
theorem mcomp_draw {α : Type} {vs : List Nat} {mi : Ev Itm} {g : TgM} {e : Ev MV} {ρ : MM.Env} (rep : α → MV) (Q : α → Prop) (S : Nat → Mem) (c B : Nat) {items : List MV} {n k : Nat} (hn : items.length = n) (h1 : mi ρ (S k) = .ok ⟨items, []⟩ (S k)) (hl : n ≤ 1000000) (hB : k + n * c ≤ B)
    (h : ∀ x ∈ items, ∀ k, k + c ≤ B → ∃ ρ1, g x (wipeE ρ vs) (S k) = some (ρ1, S k) ∧ ∃ a k', e ρ1 (S k) = .ok (rep a) (S k') ∧ Q a ∧ k ≤ k' ∧ k' ≤ k + c) :
    ∃ (as : List α) (k' : Nat), mComp vs mi g mYes e ρ (S k) = .ok (.lst (as.map rep)) (S k') ∧ as.length = n ∧ (∀ a ∈ as, Q a) ∧ k ≤ k' ∧ k' ≤ k + n * c := by
  subst hn
  obtain ⟨as, k', a1, a2, a3, a4, a5⟩ := comp_draw rep Q S c B items k hB h (xs0 := items)
  refine ⟨as, k', ?_, a2, a3, a4, a5⟩
  unfold mComp mCompL
  unfold mB
  dsimp only
  rw [h1]
  dsimp only
  unfold compT
  rw [if_pos (le_size hl), a1]
  rfl
/-! ### the stream -/
noncomputable def Mstream : SM := (sSeq (sAsg (mLstC mNil) (gN 1))
  (sSeq (sFor (mItm (mSlice (mVar 0) mNoPart (mPart (mRet (.int 63))))) (gN 2) (sSeq (sAsg (mCB absM (mCons (mCB intM (mCons (mVar 2) mNil)) mNil)) (gN 3))
  (sIf (mT (mOp geM (mVar 3) (mOp powM (mRet (.int 10)) (mRet (.int 18))))) (sFor (mRng rng1 (mCons (mRet (.int 60)) mNil)) (gN 4) (sSeq (sDrop (mMeth appM (mVar 1) (mCons (mOp modM (mCB intM (mCons (mVar 3) mNil)) (mRet (.int 1009))) mNil)))
  (sSeq (sAsg (mOp fdivM (mVar 3) (mRet (.int 1009))) (gN 3))
  (sIf (mT (mOp eqM (mVar 3) (mRet (.int 0)))) (fun ρ μ => .bk ρ μ) sPass)))) (sSeq (sAsg (mOp modM (mCB intM (mCons (mVar 3) mNil)) (mRet (.int 2147483647))) (gN 5))
  (sFor (mRng rng1 (mCons (mRet (.int 10)) mNil)) (gN 4) (sSeq (sAsg (mOp modM (mCB intM (mCons (mOp addM (mOp addM (mOp mulM2 (mVar 5) (mRet (.int 48271))) (mOp mulM2 (mRet (.int 7)) (mVar 4))) (mRet (.int 11))) mNil)) (mRet (.int 2147483647))) (gN 5))
  (sDrop (mMeth appM (mVar 1) (mCons (mOp modM (mOp modM (mCB intM (mCons (mOp addM (mOp mulM2 (mVar 5) (mRet (.int 69621))) (mVar 4)) mNil)) (mRet (.int 2147483629))) (mRet (.int 1009))) mNil)))))))))
  (sSeq (sIf (mT (mOp eqM (mCB lenM (mCons (mVar 1) mNil)) (mRet (.int 0)))) (sDrop (mMeth appM (mVar 1) (mCons (mRet (.int 0)) mNil))) sPass)
  (sRet (mVar 1)))))
noncomputable def Fstream : FM := runC ["script", "numbers", "cell", "rest", "k", "stirred"] Mstream
def nums (xs : List Int) : Mem := [.lst (xs.map .int)]
def Rg9 (xs : List Int) : Prop := ∀ x ∈ xs, 0 ≤ x ∧ x < 1009
theorem Rg9.snoc {xs : List Int} {y : Int} (h : Rg9 xs) (hy : 0 ≤ y ∧ y < 1009) : Rg9 (xs ++ [y]) := fun x hx => by
  rcases List.mem_append.mp hx with hx | hx
  · exact h x hx
  · rw [List.mem_singleton.mp hx]; exact hy
theorem nums_app {ρ : MM.Env} {xs : List Int} {mo me : Ev MV} {y : Int} (ho : mo ρ (nums xs) = .ok (.ref 0) (nums xs)) (he : me ρ (nums xs) = .ok (.int y) (nums xs)) (hl : xs.length ≤ 100000) : sDrop (mMeth appM mo (mCons me mNil)) ρ (nums xs) = .nx ρ (nums (xs ++ [y])) := by
  refine (app_s ho (i := 0) (xs := xs.map .int) rfl he (by rw [List.length_map]; omega)).trans ?_
  unfold nums
  rw [List.map_append]
  rfl
theorem fmod9 (i : Int) : 0 ≤ i.fmod 1009 ∧ i.fmod 1009 < 1009 := ⟨Int.fmod_nonneg_of_pos _ (by omega), Int.fmod_lt_of_pos _ (by omega)⟩
theorem stream_ok (ns : List Int) : ∃ xs, Fstream [.scr ns] [] = .ok (.lst (xs.map .int)) [] ∧ Ns xs := by
  let I : Nat → MM.Env → Mem → Prop := fun i ρ μ => ∃ u v w z xs, ρ = [some (.scr ns), some (.ref 0), u, v, w, z] ∧ μ = nums xs ∧ Rg9 xs ∧ xs.length ≤ 60 * i
  have body : ∀ (i : Nat), i < 63 → ∀ (c : Int) (u v w z : Option MV) (xs : List Int), Rg9 xs → xs.length ≤ 60 * i → ∃ ρ2 μ2, (sSeq (sAsg (mCB absM (mCons (mCB intM (mCons (mVar 2) mNil)) mNil)) (gN 3))
  (sIf (mT (mOp geM (mVar 3) (mOp powM (mRet (.int 10)) (mRet (.int 18))))) (sFor (mRng rng1 (mCons (mRet (.int 60)) mNil)) (gN 4) (sSeq (sDrop (mMeth appM (mVar 1) (mCons (mOp modM (mCB intM (mCons (mVar 3) mNil)) (mRet (.int 1009))) mNil)))
  (sSeq (sAsg (mOp fdivM (mVar 3) (mRet (.int 1009))) (gN 3))
  (sIf (mT (mOp eqM (mVar 3) (mRet (.int 0)))) (fun ρ μ => .bk ρ μ) sPass)))) (sSeq (sAsg (mOp modM (mCB intM (mCons (mVar 3) mNil)) (mRet (.int 2147483647))) (gN 5))
  (sFor (mRng rng1 (mCons (mRet (.int 10)) mNil)) (gN 4) (sSeq (sAsg (mOp modM (mCB intM (mCons (mOp addM (mOp addM (mOp mulM2 (mVar 5) (mRet (.int 48271))) (mOp mulM2 (mRet (.int 7)) (mVar 4))) (mRet (.int 11))) mNil)) (mRet (.int 2147483647))) (gN 5))
  (sDrop (mMeth appM (mVar 1) (mCons (mOp modM (mOp modM (mCB intM (mCons (mOp addM (mOp mulM2 (mVar 5) (mRet (.int 69621))) (mVar 4)) mNil)) (mRet (.int 2147483629))) (mRet (.int 1009))) mNil))))))))
      [some (.scr ns), some (.ref 0), some (.int c), v, w, z] (nums xs) = .nx ρ2 μ2 ∧ I (i + 1) ρ2 μ2 := by
    intro i hi c u v w z xs hx hlen
    obtain ⟨r, hr⟩ : ∃ r : Int, absM (nums xs) [.int c] = some (.int r) := ⟨_, rfl⟩
    have s1 : sAsg (mCB absM (mCons (mCB intM (mCons (mVar 2) mNil)) mNil)) (gN 3) [some (.scr ns), some (.ref 0), some (.int c), v, w, z] (nums xs) = .nx [some (.scr ns), some (.ref 0), some (.int c), some (.int r), w, z] (nums xs) :=
      asg_ok (cb_ok (one_ok (cb_ok (one_ok (var_ok rfl)) rfl)) hr) rfl
    have pw : powM (nums xs) (.int 10) (.int 18) = some (.int (10 ^ 18)) := by
      show (if (0 : Int) ≤ 18 ∧ (18 : Int) ≤ 1000000 ∧ (10 : Int).natAbs < 2 ^ 64 then some (MV.int (10 ^ (18 : Int).toNat)) else none) = _
      rw [if_pos (by decide)]; rfl
    have s2 : (mT (mOp geM (mVar 3) (mOp powM (mRet (.int 10)) (mRet (.int 18))))) [some (.scr ns), some (.ref 0), some (.int c), some (.int r), w, z] (nums xs) = .ok (decide ((10 ^ 18 : Int) ≤ r)) (nums xs) :=
      t_ok (op_ok (var_ok rfl) (op_ok k_ok k_ok pw) rfl)
    by_cases big : (10 ^ 18 : Int) ≤ r
    · rw [decide_eq_true big] at s2
      let I2 : Nat → MM.Env → Mem → Prop := fun j ρ μ => ∃ r u w ys, ρ = [some (.scr ns), some (.ref 0), u, some (.int r), w, z] ∧ μ = nums ys ∧ Rg9 ys ∧ ys.length ≤ 60 * i + j
      obtain ⟨ρ', μ', e1, e2⟩ := for_idx (xs0 := intsL 0 60) (g := gN 4) (b := (sSeq (sDrop (mMeth appM (mVar 1) (mCons (mOp modM (mCB intM (mCons (mVar 3) mNil)) (mRet (.int 1009))) mNil)))
          (sSeq (sAsg (mOp fdivM (mVar 3) (mRet (.int 1009))) (gN 3)) (sIf (mT (mOp eqM (mVar 3) (mRet (.int 0)))) (fun ρ μ => .bk ρ μ) sPass)))) I2 (I (i + 1)) (intsL 0 60) 0 [some (.scr ns), some (.ref 0), some (.int c), some (.int r), w, z] (nums xs) ⟨r, _, _, xs, rfl, rfl, hx, by omega⟩
        (fun ρ μ ⟨r, u, w, ys, e1, e2, e3, e4⟩ => ⟨u, _, w, z, ys, e1, e2, e3, by rw [intsL_len] at e4; omega⟩) (by
          intro j x hj ρ μ ⟨r, u, w, ys, e1, e2, e3, e4⟩
          obtain ⟨hj1, rfl⟩ := intsL_get hj
          subst e1 e2
          refine ⟨_, _, rfl, ?_⟩
          have a1 := nums_app (ρ := [some (.scr ns), some (.ref 0), u, some (.int r), some (.int (0 + (j : Int))), z]) (xs := ys) (mo := mVar 1) (me := mOp modM (mCB intM (mCons (mVar 3) mNil)) (mRet (.int 1009))) (y := r.fmod 1009) (var_ok rfl) (op_ok (cb_ok (one_ok (var_ok rfl)) rfl) k_ok (modI (by decide))) (by omega)
          have a2 : sAsg (mOp fdivM (mVar 3) (mRet (.int 1009))) (gN 3) [some (.scr ns), some (.ref 0), u, some (.int r), some (.int (0 + (j : Int))), z] (nums (ys ++ [r.fmod 1009])) = .nx [some (.scr ns), some (.ref 0), u, some (.int (r.fdiv 1009)), some (.int (0 + (j : Int))), z] (nums (ys ++ [r.fmod 1009])) :=
            asg_ok (op_ok (var_ok rfl) k_ok (fdivI (.inr (by decide)))) rfl
          have a3 : (mT (mOp eqM (mVar 3) (mRet (.int 0)))) [some (.scr ns), some (.ref 0), u, some (.int (r.fdiv 1009)), some (.int (0 + (j : Int))), z] (nums (ys ++ [r.fmod 1009])) = .ok (decide (r.fdiv 1009 = 0)) (nums (ys ++ [r.fmod 1009])) := t_ok (op_ok (var_ok rfl) k_ok (eqI _ _ _))
          have ln : (ys ++ [r.fmod 1009]).length ≤ 60 * i + (0 + j + 1) := by rw [List.length_append]; simp; omega
          by_cases z0 : r.fdiv 1009 = 0
          · rw [decide_eq_true z0] at a3
            exact .inr ⟨_, _, seq_step a1 (seq_step a2 (if_t a3 rfl)), u, _, _, z, _, rfl, rfl, e3.snoc (fmod9 r), by omega⟩
          · rw [decide_eq_false z0] at a3
            exact .inl ⟨_, _, .inl (seq_step a1 (seq_step a2 (if_f a3 rfl))), _, _, _, _, rfl, rfl, e3.snoc (fmod9 r), ln⟩)
      exact ⟨ρ', μ', seq_step s1 (if_t s2 (sfor_of (mrng1 (n := 60) (one_ok k_ok) (by decide)) e1)), e2⟩
    · rw [decide_eq_false big] at s2
      have s3 : sAsg (mOp modM (mCB intM (mCons (mVar 3) mNil)) (mRet (.int 2147483647))) (gN 5) [some (.scr ns), some (.ref 0), some (.int c), some (.int r), w, z] (nums xs) = .nx [some (.scr ns), some (.ref 0), some (.int c), some (.int r), w, some (.int (r.fmod 2147483647))] (nums xs) :=
        asg_ok (op_ok (cb_ok (one_ok (var_ok rfl)) rfl) k_ok (modI (by decide))) rfl
      let I2 : Nat → MM.Env → Mem → Prop := fun j ρ μ => ∃ t w ys, ρ = [some (.scr ns), some (.ref 0), some (.int c), some (.int r), w, some (.int t)] ∧ 0 ≤ t ∧ t < 2147483647 ∧ μ = nums ys ∧ Rg9 ys ∧ ys.length ≤ 60 * i + j
      obtain ⟨ρ', μ', e1, e2⟩ := for_idx (xs0 := intsL 0 10) (g := gN 4) (b := (sSeq (sAsg (mOp modM (mCB intM (mCons (mOp addM (mOp addM (mOp mulM2 (mVar 5) (mRet (.int 48271))) (mOp mulM2 (mRet (.int 7)) (mVar 4))) (mRet (.int 11))) mNil)) (mRet (.int 2147483647))) (gN 5))
          (sDrop (mMeth appM (mVar 1) (mCons (mOp modM (mOp modM (mCB intM (mCons (mOp addM (mOp mulM2 (mVar 5) (mRet (.int 69621))) (mVar 4)) mNil)) (mRet (.int 2147483629))) (mRet (.int 1009))) mNil))))) I2 (I (i + 1)) (intsL 0 10) 0 [some (.scr ns), some (.ref 0), some (.int c), some (.int r), w, some (.int (r.fmod 2147483647))] (nums xs)
        ⟨_, _, xs, rfl, Int.fmod_nonneg_of_pos _ (by omega), Int.fmod_lt_of_pos _ (by omega), rfl, hx, by omega⟩
        (fun ρ μ ⟨t, w, ys, e1, _, _, e2, e3, e4⟩ => ⟨_, _, w, _, ys, e1, e2, e3, by rw [intsL_len] at e4; omega⟩) (by
          intro j x hj ρ μ ⟨t, w, ys, e1, t0, t1, e2, e3, e4⟩
          obtain ⟨hj1, rfl⟩ := intsL_get hj
          subst e1 e2
          refine ⟨_, _, rfl, .inl ?_⟩
          obtain ⟨t', ht'⟩ : ∃ t', t' = (t * 48271 + 7 * (0 + (j : Int)) + 11).fmod 2147483647 := ⟨_, rfl⟩
          have t0' : 0 ≤ t' ∧ t' < 2147483647 := by rw [ht']; exact ⟨Int.fmod_nonneg_of_pos _ (by omega), Int.fmod_lt_of_pos _ (by omega)⟩
          have a1 : sAsg (mOp modM (mCB intM (mCons (mOp addM (mOp addM (mOp mulM2 (mVar 5) (mRet (.int 48271))) (mOp mulM2 (mRet (.int 7)) (mVar 4))) (mRet (.int 11))) mNil)) (mRet (.int 2147483647))) (gN 5) [some (.scr ns), some (.ref 0), some (.int c), some (.int r), some (.int (0 + (j : Int))), some (.int t)] (nums ys) = .nx [some (.scr ns), some (.ref 0), some (.int c), some (.int r), some (.int (0 + (j : Int))), some (.int t')] (nums ys) := by
            rw [ht']
            exact asg_ok (op_ok (cb_ok (one_ok (op_ok (op_ok (op_ok (var_ok rfl) k_ok (mulI' (small_mul (lt_big (by omega)) (lt_big (by decide))))) (op_ok k_ok (var_ok rfl) (mulI' (small_mul (lt_big (by decide)) (lt_big (by omega))))) rfl) k_ok rfl)) rfl) k_ok (modI (by decide))) rfl
          have a2 := nums_app (ρ := [some (.scr ns), some (.ref 0), some (.int c), some (.int r), some (.int (0 + (j : Int))), some (.int t')]) (xs := ys) (mo := mVar 1) (me := mOp modM (mOp modM (mCB intM (mCons (mOp addM (mOp mulM2 (mVar 5) (mRet (.int 69621))) (mVar 4)) mNil)) (mRet (.int 2147483629))) (mRet (.int 1009))) (y := ((t' * 69621 + (0 + (j : Int))).fmod 2147483629).fmod 1009)
            (var_ok rfl) (op_ok (op_ok (cb_ok (one_ok (op_ok (op_ok (var_ok rfl) k_ok (mulI' (small_mul (lt_big (by omega)) (lt_big (by decide))))) (var_ok rfl) rfl)) rfl) k_ok (modI (by decide))) k_ok (modI (by decide))) (by omega)
          exact ⟨_, _, .inl (seq_step a1 a2), t', _, _, rfl, t0'.1, t0'.2, rfl, e3.snoc (fmod9 _), by rw [List.length_append]; simp; omega⟩)
      exact ⟨ρ', μ', seq_step s1 (if_f s2 (seq_step s3 (sfor_of (mrng1 (n := 10) (one_ok k_ok) (by decide)) e1))), e2⟩
  have hcut : (cutM ns none (some (63 : Int))).length ≤ 63 := by
    have : cutM ns none (some (63 : Int)) = ns.take 63 := cut_to ns 63
    rw [this, List.length_take]
    omega
  obtain ⟨ρ', μ', e1, u, v, w, z, xs, e2, e3, e4, e5⟩ := for_idx (xs0 := (cutM ns none (some (63 : Int))).map .int) (g := gN 2) (b := (sSeq (sAsg (mCB absM (mCons (mCB intM (mCons (mVar 2) mNil)) mNil)) (gN 3))
  (sIf (mT (mOp geM (mVar 3) (mOp powM (mRet (.int 10)) (mRet (.int 18))))) (sFor (mRng rng1 (mCons (mRet (.int 60)) mNil)) (gN 4) (sSeq (sDrop (mMeth appM (mVar 1) (mCons (mOp modM (mCB intM (mCons (mVar 3) mNil)) (mRet (.int 1009))) mNil)))
  (sSeq (sAsg (mOp fdivM (mVar 3) (mRet (.int 1009))) (gN 3))
  (sIf (mT (mOp eqM (mVar 3) (mRet (.int 0)))) (fun ρ μ => .bk ρ μ) sPass)))) (sSeq (sAsg (mOp modM (mCB intM (mCons (mVar 3) mNil)) (mRet (.int 2147483647))) (gN 5))
  (sFor (mRng rng1 (mCons (mRet (.int 10)) mNil)) (gN 4) (sSeq (sAsg (mOp modM (mCB intM (mCons (mOp addM (mOp addM (mOp mulM2 (mVar 5) (mRet (.int 48271))) (mOp mulM2 (mRet (.int 7)) (mVar 4))) (mRet (.int 11))) mNil)) (mRet (.int 2147483647))) (gN 5))
  (sDrop (mMeth appM (mVar 1) (mCons (mOp modM (mOp modM (mCB intM (mCons (mOp addM (mOp mulM2 (mVar 5) (mRet (.int 69621))) (mVar 4)) mNil)) (mRet (.int 2147483629))) (mRet (.int 1009))) mNil))))))))) I (I 63) ((cutM ns none (some (63 : Int))).map .int) 0 [some (.scr ns), some (.ref 0), none, none, none, none] (nums [])
    ⟨_, _, _, _, [], rfl, rfl, (fun x hx => by cases hx), Nat.zero_le _⟩ (fun ρ μ ⟨u, v, w, z, xs, e1, e2, e3, e4⟩ => ⟨u, v, w, z, xs, e1, e2, e3, by rw [List.length_map] at e4; omega⟩) (by
      intro j x hj ρ μ ⟨u, v, w, z, xs, e1, e2, e3, e4⟩
      rw [List.getElem?_map] at hj
      obtain ⟨c, hc, rfl⟩ := Option.map_eq_some_iff.mp hj
      have hj2 : j < 63 := Nat.lt_of_lt_of_le (List.getElem?_eq_some_iff.mp hc).1 hcut
      subst e1 e2
      obtain ⟨ρ2, μ2, h1, h2⟩ := body j hj2 c u v w z xs e3 (by omega)
      refine ⟨_, _, rfl, .inl ⟨ρ2, μ2, .inl h1, ?_⟩⟩
      rw [show 0 + j + 1 = j + 1 by omega]
      exact h2)
  subst e2 e3
  have key : ∃ ys, Mstream [some (.scr ns), none, none, none, none, none] [] = .rt (.ref 0) (nums ys) ∧ Ns ys := by
    have l0 : sAsg (mLstC mNil) (gN 1) [some (.scr ns), none, none, none, none, none] [] = .nx [some (.scr ns), some (.ref 0), none, none, none, none] (nums []) := asg_ok (lstC_ok nil_ok) rfl
    have lf : (mT (mOp eqM (mCB lenM (mCons (mVar 1) mNil)) (mRet (.int 0)))) [some (.scr ns), some (.ref 0), u, v, w, z] (nums xs) = .ok (decide ((xs.length : Int) = 0)) (nums xs) := by
      have := lenC (μ := nums xs) (i := 0) (xs := xs.map .int) rfl
      rw [List.length_map] at this
      exact t_ok (op_ok (cb_ok (one_ok (var_ok rfl)) this) k_ok (eqI _ _ _))
    unfold Mstream
    by_cases h0 : (xs.length : Int) = 0
    · rw [decide_eq_true h0] at lf
      have x0 : xs = [] := List.length_eq_zero_iff.mp (by omega)
      subst x0
      refine ⟨[0], seq_step l0 (seq_step (sfor_of (mitm (d := .lst ((cutM ns none (some (63 : Int))).map .int)) (slice_ok (a := .scr ns) (h := some 63) (var_ok rfl) nopart_ok (part_ok k_ok) rfl) rfl) e1) (seq_step (if_t lf (nums_app (y := 0) (var_ok rfl) k_ok (by simp))) (ret_s (var_ok rfl)))), by simp, fun x hx => ?_, by simp⟩
      rw [List.mem_singleton.mp hx]; omega
    · rw [decide_eq_false h0] at lf
      exact ⟨xs, seq_step l0 (seq_step (sfor_of (mitm (d := .lst ((cutM ns none (some (63 : Int))).map .int)) (slice_ok (a := .scr ns) (h := some 63) (var_ok rfl) nopart_ok (part_ok k_ok) rfl) rfl) e1) (seq_step (if_n lf) (ret_s (var_ok rfl)))), fun e => h0 (by rw [e]; rfl), e4, by omega⟩
  obtain ⟨ys, h1, h2⟩ := key
  refine ⟨ys, ?_, h2⟩
  exact run_cell (μ := []) (ν := nums ys) (i := 0) (xs := ys.map .int) h1 (Nat.le_refl _) rfl (nrs_ints _) rfl
end PL

set_option linter.all false
/-! ## orbits of a function on finitely many -/
namespace Orb
variable {α : Type} [DecidableEq α]
def P (g : α → α) (x : α) : Nat → α
  | 0 => x
  | t + 1 => g (P g x t)
def line (g : α → α) (x : α) (n : Nat) : List α := (List.range n).map (P g x)
theorem line_len (g : α → α) (x : α) (n : Nat) : (line g x n).length = n := by simp [line]
theorem line_succ (g : α → α) (x : α) (n : Nat) : line g x (n + 1) = line g x n ++ [P g x n] := by
  simp [line, List.range_succ]
theorem line_get {g : α → α} {x : α} {n i : Nat} (h : i < n) : (line g x n)[i]? = some (P g x i) := by
  simp [line, h]
theorem mem_line {g : α → α} {x y : α} {n : Nat} : y ∈ line g x n ↔ ∃ i, i < n ∧ P g x i = y := by
  simp [line]
/-- the first n times are all different -/
def Fresh (g : α → α) (x : α) (n : Nat) : Prop := ∀ i j, i < n → j < n → P g x i = P g x j → i = j
theorem Fresh.succ {g : α → α} {x : α} {n : Nat} (h : Fresh g x n) (k : P g x n ∉ line g x n) : Fresh g x (n + 1) := by
  intro i j hi hj e
  rcases Nat.lt_or_ge i n with a | a
  · rcases Nat.lt_or_ge j n with b | b
    · exact h i j a b e
    · have : j = n := by omega
      subst this
      exact absurd (mem_line.mpr ⟨i, a, e⟩) k
  · have hi2 : i = n := by omega
    subst hi2
    rcases Nat.lt_or_ge j i with b | b
    · exact absurd (mem_line.mpr ⟨j, b, e.symm⟩) k
    · omega
theorem card_le : ∀ (n : Nat) (xs : List Nat), xs.Nodup → (∀ x ∈ xs, x < n) → xs.length ≤ n
  | 0, xs, _, h => by
    cases xs with
    | nil => exact Nat.le_refl _
    | cons x xs => exact absurd (h x List.mem_cons_self) (Nat.not_lt_zero _)
  | n + 1, xs, nd, h => by
    by_cases hn : n ∈ xs
    · have h1 := card_le n (xs.erase n) (nd.erase n) (fun x hx => by
        have a := h x (List.mem_of_mem_erase hx)
        have b := (nd.mem_erase_iff.mp hx).1
        omega)
      have := List.length_erase_of_mem hn
      have := List.length_pos_of_mem hn
      omega
    · have := card_le n xs nd (fun x hx => by
        have a := h x hx
        have b : x ≠ n := fun z => hn (z ▸ hx)
        omega)
      omega
/-- with N of them none is fresh for longer -/
theorem fresh_le {g : α → α} {x : α} {n N : Nat} (f : α → Nat) (hf : ∀ t, f (P g x t) < N) (inj : ∀ s t, f (P g x s) = f (P g x t) → P g x s = P g x t) (h : Fresh g x n) : n ≤ N := by
  have := card_le N ((List.range n).map fun t => f (P g x t)) (by
    rw [List.nodup_iff_pairwise_ne, List.pairwise_map]
    refine List.Pairwise.imp_of_mem ?_ List.nodup_range
    intro a b ha hb hab e
    exact hab (h a b (List.mem_range.mp ha) (List.mem_range.mp hb) (inj a b e))) (fun y hy => by
    obtain ⟨t, _, rfl⟩ := List.mem_map.mp hy
    exact hf t)
  simpa using this
/-- one comes again: at time L the one of time i -/
structure Rho (g : α → α) (x : α) (i L : Nat) : Prop where
  lt : i < L
  eq : P g x L = P g x i
  fr : Fresh g x L
theorem rho_ex {g : α → α} {x : α} {N : Nat} (f : α → Nat) (hf : ∀ t, f (P g x t) < N) (inj : ∀ s t, f (P g x s) = f (P g x t) → P g x s = P g x t) : ∃ i L, L ≤ N ∧ Rho g x i L := by
  have key : ∀ m, Fresh g x m → m ≤ N → ∃ i L, L ≤ N ∧ Rho g x i L := by
    intro m
    induction hk : N - m generalizing m with
    | zero =>
      intro hm hl
      have e : m = N := by omega
      subst e
      have : ¬ Fresh g x (m + 1) := fun z => by have := fresh_le f hf inj z; omega
      by_cases k : P g x m ∈ line g x m
      · obtain ⟨i, a, b⟩ := mem_line.mp k
        exact ⟨i, m, Nat.le_refl _, a, b.symm, hm⟩
      · exact absurd (hm.succ k) this
    | succ k ih =>
      intro hm hl
      by_cases q : P g x m ∈ line g x m
      · obtain ⟨i, a, b⟩ := mem_line.mp q
        exact ⟨i, m, hl, a, b.symm, hm⟩
      · exact ih (m + 1) (by omega) (hm.succ q) (by omega)
  exact key 0 (fun i j hi => absurd hi (Nat.not_lt_zero _)) (Nat.zero_le _)
namespace Rho
variable {g : α → α} {x : α} {i L : Nat}
theorem notin (r : Rho g x i L) {n : Nat} (h : n < L) : P g x n ∉ line g x n := fun z => by
  obtain ⟨j, a, b⟩ := mem_line.mp z
  have := r.fr j n (by omega) h b
  omega
theorem nth (r : Rho g x i L) {j : Nat} (hj : j < L) : (line g x L).idxOf (P g x j) = j := by
  have key : ∀ m k, k ≤ j → j < k + m → k + m ≤ L → ((List.range' k m).map (P g x)).idxOf (P g x j) = j - k := by
    intro m
    induction m with
    | zero => intro k h1 h2; omega
    | succ m ih =>
      intro k h1 h2 h3
      rw [List.range'_succ, List.map_cons, List.idxOf_cons]
      by_cases e : k = j
      · subst e; simp
      · have n : ¬ P g x k = P g x j := fun z => e (r.fr k j (by omega) hj z)
        have : (P g x k == P g x j) = false := by simpa using n
        rw [this, ih (k + 1) (by omega) (by omega) (by omega)]
        simp
        omega
  have := key L 0 (by omega) (by omega) (by omega)
  unfold line
  rw [List.range_eq_range']
  simpa using this
theorem nthL (r : Rho g x i L) : (line g x L).idxOf (P g x L) = i := by rw [r.eq, r.nth r.lt]
theorem isin (r : Rho g x i L) : P g x L ∈ line g x L := mem_line.mpr ⟨i, r.lt, r.eq.symm⟩
theorem per (r : Rho g x i L) : ∀ t, i ≤ t → P g x (t + (L - i)) = P g x t := by
  intro t ht
  induction t with
  | zero =>
    have : i = 0 := by omega
    have e : 0 + (L - i) = L := by have := r.lt; omega
    rw [e, r.eq, this]
  | succ t ih =>
    by_cases h : i ≤ t
    · have e : t + 1 + (L - i) = (t + (L - i)) + 1 := by omega
      rw [e]
      show g (P g x (t + (L - i))) = g (P g x t)
      rw [ih h]
    · have e : t + 1 = i := by omega
      have e2 : t + 1 + (L - i) = L := by have := r.lt; omega
      rw [e2, r.eq, e]
theorem per_mul (r : Rho g x i L) {t : Nat} (ht : i ≤ t) : ∀ k, P g x (t + k * (L - i)) = P g x t
  | 0 => by rw [Nat.zero_mul, Nat.add_zero]
  | k + 1 => by
    have e : t + (k + 1) * (L - i) = (t + k * (L - i)) + (L - i) := by rw [Nat.succ_mul, Nat.add_assoc]
    rw [e, r.per _ (by omega), r.per_mul ht k]
theorem red (r : Rho g x i L) {t : Nat} (ht : i ≤ t) : P g x t = P g x (i + (t - i) % (L - i)) := by
  have h := r.per_mul (t := i + (t - i) % (L - i)) (by omega) ((t - i) / (L - i))
  have e : i + (t - i) % (L - i) + (t - i) / (L - i) * (L - i) = t := by
    have := Nat.mod_add_div (t - i) (L - i)
    rw [Nat.mul_comm] at this
    omega
  rw [e] at h
  exact h
/-- behind time i the same comes again after the ring's length, not ahead -/
theorem not_ahead (r : Rho g x i L) {t k : Nat} (ht : i ≤ t) (k1 : 1 ≤ k) (k2 : k < L - i) : P g x (t + k) ≠ P g x t := fun e => by
  rw [r.red (t := t + k) (by omega), r.red ht] at e
  have p : 0 < L - i := by omega
  have h1 := Nat.mod_lt (t + k - i) p
  have h2 := Nat.mod_lt (t - i) p
  have := r.fr _ _ (by omega) (by omega) e
  have e2 : (t + k - i) % (L - i) = (t - i) % (L - i) := by omega
  have e3 : t + k - i = (t - i) + k := by omega
  rw [e3] at e2
  have d := Nat.div_add_mod (t - i + k) (L - i)
  have d2 := Nat.div_add_mod (t - i) (L - i)
  have : (L - i) * ((t - i + k) / (L - i)) = (L - i) * ((t - i) / (L - i)) + k := by omega
  have hd : ((t - i + k) / (L - i)) ≤ (t - i) / (L - i) ∨ (t - i) / (L - i) + 1 ≤ (t - i + k) / (L - i) := by omega
  rcases hd with hd | hd
  · have := Nat.mul_le_mul_left (L - i) hd
    omega
  · have := Nat.mul_le_mul_left (L - i) hd
    rw [Nat.mul_add, Nat.mul_one] at this
    omega
/-- the sum over a ring does not ask where one begins -/
theorem sum_ring (r : Rho g x i L) (w : α → Int) : ∀ t, i ≤ t → ((List.range (L - i)).map fun k => w (P g x (t + k))).sum = ((List.range (L - i)).map fun k => w (P g x (i + k))).sum := by
  have step : ∀ t, i ≤ t → ((List.range (L - i)).map fun k => w (P g x (t + 1 + k))).sum = ((List.range (L - i)).map fun k => w (P g x (t + k))).sum := by
    intro t ht
    have hp := r.per t ht
    generalize hq : L - i = p at hp
    cases p with
    | zero => rfl
    | succ p =>
      have a1 : ((List.range (p + 1)).map fun k => w (P g x (t + 1 + k))).sum = ((List.range p).map fun k => w (P g x (t + 1 + k))).sum + w (P g x (t + 1 + p)) := by
        rw [List.range_succ, List.map_append, List.sum_append]; simp
      have a2 : ((List.range (p + 1)).map fun k => w (P g x (t + k))).sum = w (P g x (t + 0)) + ((List.range p).map ((fun k => w (P g x (t + k))) ∘ Nat.succ)).sum := by
        rw [List.range_succ_eq_map, List.map_cons, List.sum_cons, List.map_map]
      rw [a1, a2]
      have e1 : ((List.range p).map fun k => w (P g x (t + 1 + k))) = ((List.range p).map ((fun k => w (P g x (t + k))) ∘ Nat.succ)) := by
        refine List.map_congr_left fun k _ => ?_
        show w (P g x (t + 1 + k)) = w (P g x (t + (k + 1)))
        rw [show t + 1 + k = t + (k + 1) by omega]
      have e2 : P g x (t + 1 + p) = P g x (t + 0) := by
        rw [show t + 1 + p = t + (p + 1) by omega, hp]; rfl
      rw [e1, e2]
      omega
  intro t ht
  induction t with
  | zero =>
    have : i = 0 := by omega
    rw [this]
  | succ t ih =>
    by_cases h : i ≤ t
    · rw [step t h, ih h]
    · have : t + 1 = i := by omega
      rw [this]
end Rho
end Orb
/-! ## sums with a discount -/
namespace Dis
def ds (d : Rat) : List Rat → Rat
  | [] => 0
  | g :: gs => g + d * ds d gs
theorem fwd (d : Rat) : ∀ (gs : List Rat) (t w : Rat), gs.foldl (fun (p : Rat × Rat) g => (p.1 + p.2 * g, p.2 * d)) (t, w) = (t + w * ds d gs, w * d ^ gs.length)
  | [], t, w => by
    show (t, w) = (t + w * 0, w * d ^ 0)
    rw [Rat.mul_zero, Rat.add_zero, Rat.pow_zero, Rat.mul_one]
  | g :: gs, t, w => by
    show gs.foldl _ (t + w * g, w * d) = (t + w * (g + d * ds d gs), w * d ^ (gs.length + 1))
    rw [fwd d gs, Rat.pow_succ]
    refine Prod.ext ?_ ?_
    · show t + w * g + w * d * ds d gs = t + w * (g + d * ds d gs)
      grind
    · show w * d * d ^ gs.length = w * (d ^ gs.length * d)
      grind
theorem bwd (d h : Rat) : ∀ gs : List Rat, gs.foldr (fun g a => g + d * a) h = ds d gs + d ^ gs.length * h
  | [] => by
    show h = 0 + d ^ 0 * h
    rw [Rat.pow_zero, Rat.one_mul, Rat.zero_add]
  | g :: gs => by
    show g + d * gs.foldr (fun g a => g + d * a) h = g + d * ds d gs + d ^ (gs.length + 1) * h
    rw [bwd d h gs, Rat.pow_succ]
    grind
end Dis

set_option linter.all false
namespace Dis
theorem ds_snoc (d g : Rat) : ∀ gs : List Rat, ds d (gs ++ [g]) = ds d gs + d ^ gs.length * g
  | [] => by
    show g + d * 0 = 0 + d ^ 0 * g
    rw [Rat.pow_zero]; grind
  | x :: gs => by
    show x + d * ds d (gs ++ [g]) = x + d * ds d gs + d ^ (gs.length + 1) * g
    rw [ds_snoc d g gs, Rat.pow_succ]; grind
theorem ds_take (d : Rat) (gs : List Rat) {j : Nat} (h : j < gs.length) : ds d (gs.take (j + 1)) = ds d (gs.take j) + d ^ j * gs[j] := by
  rw [List.take_succ_eq_append_getElem h, ds_snoc, List.length_take, Nat.min_eq_left (by omega)]
theorem pow_rg {d : Rat} (h0 : 0 ≤ d) (h1 : d < 1) : ∀ n : Nat, 0 ≤ d ^ n ∧ d ^ n ≤ 1
  | 0 => by rw [Rat.pow_zero]; exact ⟨by decide, Rat.le_refl⟩
  | n + 1 => by
    obtain ⟨a, b⟩ := pow_rg h0 h1 n
    rw [Rat.pow_succ]
    refine ⟨Rat.mul_nonneg a h0, ?_⟩
    have := Rat.mul_le_mul_of_nonneg_right b h0
    grind
theorem pow_lt {d : Rat} (h0 : 0 ≤ d) (h1 : d < 1) (n : Nat) : d ^ (n + 1) < 1 := by
  obtain ⟨a, b⟩ := pow_rg h0 h1 n
  rw [Rat.pow_succ]
  have := Rat.mul_le_mul_of_nonneg_right b h0
  grind
theorem num_pos {x : Rat} (h : 0 < x) : 0 < x.num := by
  rcases Int.lt_or_le 0 x.num with a | a
  · exact a
  · have : x ≤ 0 := by
      rw [Rat.le_iff]
      simp
      exact a
    grind
/-! ### the least of pairs -/
def en (k : Nat) : List Int → List (Int × Nat)
  | [] => []
  | m :: ms => (m, k) :: en (k + 1) ms
theorem foldl_min_le : ∀ (ms : List Int) (m : Int), ms.foldl min m ≤ m
  | [], m => Int.le_refl _
  | x :: ms, m => by
    have := foldl_min_le ms (min m x)
    show ms.foldl min (min m x) ≤ m
    omega
theorem min_pairs : ∀ (ms : List Int) (k : Nat) (m0 : Int) (j0 : Nat), j0 < k → (en k ms).foldl (fun a y => if y.1 < a.1 ∨ (y.1 = a.1 ∧ y.2 < a.2) then y else a) (m0, j0) = (ms.foldl min m0, if ms.foldl min m0 = m0 then j0 else k + ms.idxOf (ms.foldl min m0))
  | [], k, m0, j0, _ => by simp [en]
  | m :: ms, k, m0, j0, h => by
    show (en (k + 1) ms).foldl _ (if m < m0 ∨ (m = m0 ∧ k < j0) then (m, k) else (m0, j0)) = (ms.foldl min (min m0 m), if ms.foldl min (min m0 m) = m0 then j0 else k + (m :: ms).idxOf (ms.foldl min (min m0 m)))
    by_cases c : m < m0
    · rw [if_pos (.inl c), min_pairs ms (k + 1) m k (by omega), show min m0 m = m by omega]
      have := foldl_min_le ms m
      rw [if_neg (show ¬ ms.foldl min m = m0 by omega), List.idxOf_cons]
      by_cases e : ms.foldl min m = m
      · rw [if_pos e, e]; simp
      · have : (m == ms.foldl min m) = false := by simpa using fun z => e z.symm
        rw [if_neg e, this]
        simp
        omega
    · rw [if_neg (by omega), min_pairs ms (k + 1) m0 j0 (by omega), show min m0 m = m0 by omega]
      by_cases e : ms.foldl min m0 = m0
      · rw [if_pos e, if_pos e]
      · have := foldl_min_le ms m0
        have q : (m == ms.foldl min m0) = false := by
          have : ¬ m = ms.foldl min m0 := by omega
          simpa using this
        rw [if_neg e, if_neg e, List.idxOf_cons, q]
        simp
        omega
end Dis

set_option linter.all false
/-! ## the value of going on for ever; plans made better -/
namespace Orb
variable {α : Type} [DecidableEq α]
theorem P_shift (g : α → α) (x : α) : ∀ t, P g (g x) t = P g x (t + 1)
  | 0 => rfl
  | t + 1 => by
    show g (P g (g x) t) = g (P g x (t + 1))
    rw [P_shift g x t]
theorem Rho.shift {g : α → α} {x : α} {i L : Nat} (r : Rho g x (i + 1) L) : Rho g (g x) i (L - 1) := by
  have hlt := r.lt
  refine ⟨by omega, ?_, fun a b ha hb e => ?_⟩
  · rw [P_shift, P_shift, show L - 1 + 1 = L by omega]
    exact r.eq
  · rw [P_shift, P_shift] at e
    have := r.fr (a + 1) (b + 1) (by omega) (by omega) e
    omega
theorem Rho.turn {g : α → α} {x : α} {L : Nat} (r : Rho g x 0 L) : Rho g (g x) 0 L := by
  have hlt := r.lt
  have e0 : P g x L = P g x 0 := r.eq
  refine ⟨hlt, ?_, fun a b ha hb e => ?_⟩
  · rw [P_shift, P_shift]
    show g (P g x L) = g (P g x 0)
    rw [e0]
  · rw [P_shift, P_shift] at e
    rcases Nat.lt_or_ge (a + 1) L with a1 | a1
    · rcases Nat.lt_or_ge (b + 1) L with b1 | b1
      · have := r.fr (a + 1) (b + 1) a1 b1 e
        omega
      · have eb : b + 1 = L := by omega
        rw [eb, e0] at e
        have := r.fr (a + 1) 0 a1 hlt e
        omega
    · have ea : a + 1 = L := by omega
      rcases Nat.lt_or_ge (b + 1) L with b1 | b1
      · rw [ea, e0] at e
        have := r.fr 0 (b + 1) hlt b1 e
        omega
      · omega
theorem Rho.uniq {g : α → α} {x : α} {i L i' L' : Nat} (r : Rho g x i L) (r' : Rho g x i' L') : i = i' ∧ L = L' := by
  have h1 := r.lt
  have h2 := r'.lt
  have eL : L = L' := by
    rcases Nat.lt_or_ge L L' with q | q
    · have := r'.fr L i q (by omega) r.eq
      omega
    · rcases Nat.lt_or_ge L' L with q2 | q2
      · have := r.fr L' i' q2 (by omega) r'.eq
        omega
      · omega
  subst eL
  have e : P g x i = P g x i' := r.eq.symm.trans r'.eq
  exact ⟨r.fr i i' h1 h2 e, rfl⟩
end Orb
namespace Dis
open Orb
variable {α : Type} [DecidableEq α]
/-- what is had from x on, for ever -/
def cf (g : α → α) (γ : α → Rat) (d : Rat) (x : α) (i L : Nat) : Rat :=
  ds d ((List.range i).map fun t => γ (P g x t)) + d ^ i * (ds d ((List.range (L - i)).map fun k => γ (P g x (i + k))) / (1 + -(d ^ (L - i))))
theorem rest_ne {d : Rat} (h0 : 0 ≤ d) (h1 : d < 1) {n : Nat} (hn : 1 ≤ n) : 0 < 1 + -(d ^ n) := by
  obtain ⟨m, rfl⟩ : ∃ m, n = m + 1 := ⟨n - 1, by omega⟩
  have := pow_lt h0 h1 m
  grind
theorem cf_step {g : α → α} {γ : α → Rat} {d : Rat} (h0 : 0 ≤ d) (h1 : d < 1) {x : α} {i L i' L' : Nat} (r : Rho g x i L) (r' : Rho g (g x) i' L') : cf g γ d x i L = γ x + d * cf g γ d (g x) i' L' := by
  have hlt := r.lt
  cases i with
  | succ i =>
    obtain ⟨e1, e2⟩ := r'.uniq r.shift
    subst e1 e2
    unfold cf
    have a1 : ((List.range (i' + 1)).map fun t => γ (P g x t)) = γ x :: ((List.range i').map fun t => γ (P g (g x) t)) := by
      rw [List.range_succ_eq_map, List.map_cons, List.map_map]
      refine congrArg (γ x :: ·) (List.map_congr_left fun t _ => ?_)
      show γ (P g x (t + 1)) = γ (P g (g x) t)
      rw [P_shift]
    have a2 : ((List.range (L - (i' + 1))).map fun k => γ (P g x (i' + 1 + k))) = ((List.range (L - 1 - i')).map fun k => γ (P g (g x) (i' + k))) := by
      rw [show L - (i' + 1) = L - 1 - i' by omega]
      refine List.map_congr_left fun k _ => ?_
      rw [P_shift, show i' + 1 + k = i' + k + 1 by omega]
    rw [a1, a2, show L - (i' + 1) = L - 1 - i' by omega]
    show γ x + d * ds d _ + d ^ (i' + 1) * _ = _
    rw [Rat.pow_succ]
    grind
  | zero =>
    obtain ⟨e1, e2⟩ := r'.uniq r.turn
    subst e1 e2
    unfold cf
    have hp := rest_ne h0 h1 (n := L') (by omega)
    simp only [Nat.sub_zero, Nat.zero_add, List.range_zero, List.map_nil]
    obtain ⟨p, rfl⟩ : ∃ p, L' = p + 1 := ⟨L' - 1, by omega⟩
    have a1 : ((List.range (p + 1)).map fun k => γ (P g x k)) = γ x :: ((List.range p).map fun k => γ (P g (g x) k)) := by
      rw [List.range_succ_eq_map, List.map_cons, List.map_map]
      refine congrArg (γ x :: ·) (List.map_congr_left fun t _ => ?_)
      show γ (P g x (t + 1)) = γ (P g (g x) t)
      rw [P_shift]
    have a2 : ((List.range (p + 1)).map fun k => γ (P g (g x) k)) = ((List.range p).map fun k => γ (P g (g x) k)) ++ [γ x] := by
      rw [List.range_succ, List.map_append]
      have : P g (g x) p = x := by
        rw [P_shift]
        exact r.eq
      simp only [List.map_cons, List.map_nil]
      rw [this]
    rw [a1, a2, ds_snoc, List.length_map, List.length_range]
    show (0 : Rat) + d ^ 0 * ((γ x + d * ds d _) / _) = γ x + d * (0 + d ^ 0 * (_ / _))
    generalize ds d ((List.range p).map fun k => γ (P g (g x) k)) = D at *
    have e : d ^ (p + 1) = d ^ p * d := Rat.pow_succ ..
    rw [e] at hp ⊢
    generalize d ^ p = w at *
    have n : 1 + -(w * d) ≠ 0 := by grind
    simp only [Rat.pow_zero]
    have key : γ x + d * D = γ x * (1 + -(w * d)) + d * (D + w * γ x) := by grind
    rw [key]
    grind
/-- .. is at most U, where U is kept -/
theorem cf_le {g : α → α} {γ : α → Rat} {d : Rat} (h0 : 0 ≤ d) (h1 : d < 1) {x : α} {i L : Nat} (r : Rho g x i L) (U : α → Rat) (hU : ∀ t, γ (P g x t) + d * U (P g x (t + 1)) ≤ U (P g x t)) : cf g γ d x i L ≤ U x := by
  have hlt := r.lt
  have part : ∀ (n a : Nat), ds d ((List.range n).map fun k => γ (P g x (a + k))) + d ^ n * U (P g x (a + n)) ≤ U (P g x a) := by
    intro n
    induction n with
    | zero =>
      intro a
      show (0 : Rat) + d ^ 0 * U (P g x (a + 0)) ≤ _
      rw [Rat.pow_zero, Nat.add_zero]
      grind
    | succ n ih =>
      intro a
      have q := ih (a + 1)
      have e : ((List.range (n + 1)).map fun k => γ (P g x (a + k))) = γ (P g x a) :: ((List.range n).map fun k => γ (P g x (a + 1 + k))) := by
        rw [List.range_succ_eq_map, List.map_cons, List.map_map]
        refine congrArg (γ (P g x a) :: ·) (List.map_congr_left fun t _ => ?_)
        show γ (P g x (a + (t + 1))) = _
        rw [show a + (t + 1) = a + 1 + t by omega]
      rw [e, show a + (n + 1) = a + 1 + n by omega, Rat.pow_succ]
      show γ (P g x a) + d * ds d _ + d ^ n * d * _ ≤ _
      have q2 := Rat.mul_le_mul_of_nonneg_left q h0
      have q3 := hU a
      grind
  have pR := part (L - i) i
  rw [show i + (L - i) = L by omega, r.eq] at pR
  have hp := rest_ne h0 h1 (n := L - i) (by omega)
  have pA := part i 0
  simp only [Nat.zero_add] at pA
  have pow0 := (pow_rg h0 h1 i).1
  unfold cf
  generalize ds d ((List.range (L - i)).map fun k => γ (P g x (i + k))) = R at *
  generalize d ^ (L - i) = w at *
  generalize U (P g x i) = u at *
  have n : 1 + -w ≠ 0 := by grind
  have hR : R / (1 + -w) ≤ u := by
    by_cases c : R / (1 + -w) ≤ u
    · exact c
    · exfalso
      have c' : u < R / (1 + -w) := by grind
      have m := Rat.mul_lt_mul_of_pos_right c' hp
      have e : R / (1 + -w) * (1 + -w) = R := by grind
      grind
  have q := Rat.mul_le_mul_of_nonneg_left hR pow0
  have : U (P g x 0) = U x := rfl
  grind
theorem cf_ge {g : α → α} {γ : α → Rat} {d : Rat} (h0 : 0 ≤ d) (h1 : d < 1) {x : α} {i L : Nat} (r : Rho g x i L) (U : α → Rat) (hU : ∀ t, U (P g x t) ≤ γ (P g x t) + d * U (P g x (t + 1))) : U x ≤ cf g γ d x i L := by
  have neg : ∀ (gs : List Rat), ds d (gs.map fun y => -y) = -(ds d gs) := by
    intro gs
    induction gs with
    | nil => show (0 : Rat) = -0; grind
    | cons y gs ih =>
      show -y + d * ds d (gs.map fun y => -y) = -(y + d * ds d gs)
      rw [ih]; grind
  have q := cf_le (γ := fun y => -(γ y)) h0 h1 r (fun y => -(U y)) (fun t => by have := hU t; grind)
  have e : cf g (fun y => -(γ y)) d x i L = -(cf g γ d x i L) := by
    unfold cf
    have e1 : ((List.range i).map fun t => -(γ (P g x t))) = ((List.range i).map fun t => γ (P g x t)).map fun y => -y := by rw [List.map_map]; rfl
    have e2 : ((List.range (L - i)).map fun k => -(γ (P g x (i + k)))) = ((List.range (L - i)).map fun k => γ (P g x (i + k))).map fun y => -y := by rw [List.map_map]; rfl
    rw [e1, e2, neg, neg]
    grind
  rw [e] at q
  grind
end Dis
/-! ## plans -/
namespace Pol
/-- the least of finitely many -/
theorem least (D : Nat → Rat) : ∀ n, 0 < n → ∃ m, m < n ∧ ∀ s, s < n → D m ≤ D s
  | 0, h => absurd h (by omega)
  | 1, _ => ⟨0, by omega, fun s hs => by rw [show s = 0 by omega]; exact Rat.le_refl⟩
  | n + 2, _ => by
    obtain ⟨m, h1, h2⟩ := least D (n + 1) (by omega)
    by_cases c : D m ≤ D (n + 1)
    · exact ⟨m, by omega, fun s hs => by
        rcases Nat.lt_or_ge s (n + 1) with q | q
        · exact h2 s q
        · rw [show s = n + 1 by omega]; exact c⟩
    · exact ⟨n + 1, by omega, fun s hs => by
        rcases Nat.lt_or_ge s (n + 1) with q | q
        · have := h2 s q
          grind
        · rw [show s = n + 1 by omega]; exact Rat.le_refl⟩
/-- what is kept by d from below is not below 0 -/
theorem nonneg {n : Nat} {D : Nat → Rat} {nx : Nat → Nat} {d : Rat} (h0 : 0 ≤ d) (h1 : d < 1) (hn : ∀ s, s < n → nx s < n) (h : ∀ s, s < n → d * D (nx s) ≤ D s) : ∀ s, s < n → 0 ≤ D s := by
  intro s hs
  obtain ⟨m, hm, hl⟩ := least D n (by omega)
  have a := h m hm
  have b := hl (nx m) (hn m hm)
  have c := Rat.mul_le_mul_of_nonneg_left b h0
  have e : 0 ≤ D m := by
    by_cases q : 0 ≤ D m
    · exact q
    · exfalso
      have q2 : D m < 0 := by grind
      have : 0 < 1 - d := by grind
      have : D m * (1 - d) < 0 := by
        have := Rat.mul_lt_mul_of_pos_right q2 this
        grind
      grind
  have := hl s hs
  grind
/-- all rows of n numbers below m -/
def rows (m : Nat) : Nat → List (List Nat)
  | 0 => [[]]
  | n + 1 => (List.range m).flatMap fun x => (rows m n).map (x :: ·)
theorem mem_rows {m : Nat} : ∀ {n : Nat} {p : List Nat}, p.length = n → (∀ x ∈ p, x < m) → p ∈ rows m n
  | 0, [], _, _ => by simp [rows]
  | n + 1, x :: p, h1, h2 => by
    unfold rows
    rw [List.mem_flatMap]
    exact ⟨x, List.mem_range.mpr (h2 x List.mem_cons_self), List.mem_map.mpr ⟨p, mem_rows (by simpa using h1) fun y hy => h2 y (List.mem_cons_of_mem _ hy), rfl⟩⟩
theorem rows_len (m : Nat) : ∀ n, (rows m n).length = m ^ n
  | 0 => rfl
  | n + 1 => by
    unfold rows
    rw [List.length_flatMap]
    have : (List.map (fun a => (List.map (fun x => a :: x) (rows m n)).length) (List.range m)) = List.replicate m (m ^ n) := by
      rw [List.eq_replicate_iff]
      refine ⟨by simp, fun b hb => ?_⟩
      obtain ⟨x, _, rfl⟩ := List.mem_map.mp hb
      rw [List.length_map, rows_len m n]
    rw [this, List.sum_replicate_nat, Nat.pow_succ, Nat.mul_comm]
theorem countP_lt {α : Type} {p q : α → Bool} : ∀ {l : List α}, (∀ x ∈ l, q x = true → p x = true) → (∃ x ∈ l, p x = true ∧ q x = false) → l.countP q < l.countP p
  | [], _, ⟨x, hx, _⟩ => by cases hx
  | y :: l, h, ⟨x, hx, hp, hq⟩ => by
    have le : l.countP q ≤ l.countP p := List.countP_mono_left fun x hx => h x (List.mem_cons_of_mem _ hx)
    rw [List.countP_cons, List.countP_cons]
    rcases List.mem_cons.mp hx with e | hx
    · subst e
      rw [hp, hq]
      simp
      omega
    · have ih := countP_lt (l := l) (fun x hx => h x (List.mem_cons_of_mem _ hx)) ⟨x, hx, hp, hq⟩
      have hy := h y List.mem_cons_self
      cases e : q y with
      | true => rw [hy e]; simp; omega
      | false =>
        cases p y <;> simp <;> omega
end Pol

set_option Elab.async false
set_option linter.all false
set_option maxRecDepth 100000
set_option maxHeartbeats 4000000
/-! ## PT5: least and greatest, told, odds and ends -/
namespace PL
open PySem PySem.Spec PyProof.Rows L2 MM
theorem pd0L_ints : ∀ r : List Int, pd0L (r.map MV.int) = some (r.map PyData.int)
  | [] => rfl
  | x :: r => by
    have ih := pd0L_ints r
    show pd0L (MV.int x :: r.map MV.int) = _
    unfold pd0L
    rw [ih]
    rfl
theorem alike_ints (r : List Int) : alikeB (r.map PyData.int) = true := by
  unfold alikeB
  rw [Bool.and_eq_true, List.all_eq_true, List.all_eq_true]
  refine ⟨fun x hx => List.all_eq_true.mpr fun y hy => ?_, fun x hx => ?_⟩
  · obtain ⟨i, _, rfl⟩ := List.mem_map.mp hx
    obtain ⟨j, _, rfl⟩ := List.mem_map.mp hy
    rfl
  · obtain ⟨i, _, rfl⟩ := List.mem_map.mp hx
    rfl
theorem depth_ints : ∀ r : List Int, PyData.depthAll (r.map PyData.int) ≤ 100
  | [] => by decide
  | x :: r => by
    have := depth_ints r
    show max (PyData.depth (.int x)) (PyData.depthAll (r.map PyData.int)) ≤ 100
    exact Nat.max_le.mpr ⟨by simp [PyData.depth], this⟩
theorem max_ints (μ : Mem) (x : Int) (r : List Int) {d : MV} (h : seqOf μ d = some ((x :: r).map MV.int)) : maxM μ [d] = some (.int (r.foldl max x)) := by
  unfold maxM bestM
  dsimp only
  rw [h]
  dsimp only [Option.bind]
  rw [pd0L_ints]
  dsimp only [List.map]
  rw [if_pos ⟨alike_ints (x :: r), depth_ints (x :: r)⟩, PySem.W.maxD_ints]
  rfl
theorem min_ints (μ : Mem) (x : Int) (r : List Int) {d : MV} (h : seqOf μ d = some ((x :: r).map MV.int)) : minM μ [d] = some (.int (r.foldl min x)) := by
  unfold minM bestM
  dsimp only
  rw [h]
  dsimp only [Option.bind]
  rw [pd0L_ints]
  dsimp only [List.map]
  rw [if_pos ⟨alike_ints (x :: r), depth_ints (x :: r)⟩, PySem.W.minD_ints]
  rfl
/-! ### enumerate; the least of pairs -/
theorem enumL_map {α : Type} (rep : α → MV) : ∀ (xs : List α) (k : Nat), enumL k (xs.map rep) = (xs.zipIdx k).map fun p => .tup [.int p.2, rep p.1]
  | [], _ => rfl
  | x :: xs, k => by
    show .tup [.int k, rep x] :: enumL (k + 1) (xs.map rep) = _
    rw [enumL_map rep xs (k + 1)]; rfl
def rN (p : Int × Nat) : MV := .tup [.int p.1, .int p.2]
def dN (p : Int × Nat) : PyData := .tuple [.int p.1, .int p.2]
theorem pd0L_N : ∀ xs : List (Int × Nat), pd0L (xs.map rN) = some (xs.map dN)
  | [] => rfl
  | x :: xs => pd0L_cons rfl (pd0L_N xs)
theorem alike_N (xs : List (Int × Nat)) : alikeB (xs.map dN) = true := by
  unfold alikeB
  rw [Bool.and_eq_true, List.all_eq_true, List.all_eq_true]
  refine ⟨fun x hx => List.all_eq_true.mpr fun y hy => ?_, fun x hx => ?_⟩
  · obtain ⟨i, _, rfl⟩ := List.mem_map.mp hx
    obtain ⟨j, _, rfl⟩ := List.mem_map.mp hy
    simp [dN, PySem.W.alike, PySem.W.alikeAll]
  · obtain ⟨i, _, rfl⟩ := List.mem_map.mp hx
    rfl
theorem depth_N : ∀ xs : List (Int × Nat), PyData.depthAll (xs.map dN) ≤ 100
  | [] => by decide
  | x :: xs => by
    have := depth_N xs
    show max (PyData.depth (dN x)) (PyData.depthAll (xs.map dN)) ≤ 100
    exact Nat.max_le.mpr ⟨by simp [dN, PyData.depth, PyData.depthAll], this⟩
theorem minD_N : ∀ (xs : List (Int × Nat)) (x : Int × Nat), PySem.W.minD (dN x) (xs.map dN) = dN (xs.foldl (fun a y => if y.1 < a.1 ∨ (y.1 = a.1 ∧ y.2 < a.2) then y else a) x)
  | [], x => rfl
  | y :: ys, x => by
    have ih := minD_N ys (if y.1 < x.1 ∨ (y.1 = x.1 ∧ y.2 < x.2) then y else x)
    unfold PySem.W.minD at ih ⊢
    rw [List.map_cons, List.foldl_cons, List.foldl_cons, ← ih]
    congr 1
    show (if PySem.W.dataLt (dN y) (dN x) = true then dN y else dN x) = _
    unfold dN
    rw [PySem.W.dataLt_ii]
    have q : (((y.2 : Nat) : Int) < ((x.2 : Nat) : Int)) ↔ y.2 < x.2 := by omega
    by_cases c : y.1 < x.1 ∨ (y.1 = x.1 ∧ y.2 < x.2)
    · rw [if_pos c, if_pos (by rw [decide_eq_true_eq, q]; exact c)]
    · rw [if_neg c, if_neg (by rw [decide_eq_true_eq, q]; exact c)]
theorem min_N (μ : Mem) (m : Int) (ms : List Int) : minM μ [.lst ((Dis.en 0 (m :: ms)).map rN)] = some (rN (ms.foldl min m, (m :: ms).idxOf (ms.foldl min m))) := by
  have h := Dis.min_pairs ms 1 m 0 (by omega)
  unfold minM bestM
  show ((some ((Dis.en 0 (m :: ms)).map rN)).bind _) = _
  dsimp only [Option.bind]
  rw [pd0L_N]
  show (if alikeB (dN (m, 0) :: (Dis.en 1 ms).map dN) = true ∧ PyData.depthAll (dN (m, 0) :: (Dis.en 1 ms).map dN) ≤ 100 then unPd (PySem.W.minD (dN (m, 0)) ((Dis.en 1 ms).map dN)) else none) = _
  rw [if_pos ⟨alike_N ((m, 0) :: Dis.en 1 ms), depth_N ((m, 0) :: Dis.en 1 ms)⟩, minD_N, h]
  have e : (if ms.foldl min m = m then 0 else 1 + ms.idxOf (ms.foldl min m)) = (m :: ms).idxOf (ms.foldl min m) := by
    rw [List.idxOf_cons]
    by_cases c : ms.foldl min m = m
    · rw [if_pos c, c]; simp
    · have q : (m == ms.foldl min m) = false := by simpa using fun z => c z.symm
      rw [if_neg c, q]; simp; omega
  rw [e]
  rfl
/-- the greatest, the least of a row -/
def mx : List Int → Int
  | [] => 0
  | x :: r => r.foldl max x
def mn : List Int → Int
  | [] => 0
  | x :: r => r.foldl min x
theorem mx_ok {μ : Mem} {d : MV} {r : List Int} (hr : r ≠ []) (h : seqOf μ d = some (r.map MV.int)) : maxM μ [d] = some (.int (mx r)) := by
  cases r with
  | nil => exact absurd rfl hr
  | cons x r => exact max_ints μ x r h
theorem mn_ok {μ : Mem} {d : MV} {r : List Int} (hr : r ≠ []) (h : seqOf μ d = some (r.map MV.int)) : minM μ [d] = some (.int (mn r)) := by
  cases r with
  | nil => exact absurd rfl hr
  | cons x r => exact min_ints μ x r h
theorem foldl_min_mem : ∀ (r : List Int) (x : Int), r.foldl min x = x ∨ r.foldl min x ∈ r
  | [], x => .inl rfl
  | y :: r, x => by
    show r.foldl min (min x y) = x ∨ r.foldl min (min x y) ∈ y :: r
    rcases foldl_min_mem r (min x y) with h | h
    · rw [h]
      rcases Int.le_total x y with q | q
      · exact .inl (by omega)
      · exact .inr (by rw [show min x y = y by omega]; exact List.mem_cons_self)
    · exact .inr (List.mem_cons_of_mem _ h)
theorem mn_mem {r : List Int} (hr : r ≠ []) : mn r ∈ r := by
  cases r with
  | nil => exact absurd rfl hr
  | cons x r =>
    rcases foldl_min_mem r x with h | h
    · show r.foldl min x ∈ x :: r
      rw [h]; exact List.mem_cons_self
    · exact List.mem_cons_of_mem _ h
theorem min_N' (μ : Mem) {ms : List Int} (h : ms ≠ []) : minM μ [.lst ((Dis.en 0 ms).map rN)] = some (rN (mn ms, ms.idxOf (mn ms))) := by
  cases ms with
  | nil => exact absurd rfl h
  | cons m ms => exact min_N μ m ms
theorem en_zip {α : Type} (f : α → Int) : ∀ (xs : List α) (k : Nat), Dis.en k (xs.map f) = (xs.zipIdx k).map fun p => (f p.1, p.2)
  | [], _ => rfl
  | x :: xs, k => by
    show (f x, k) :: Dis.en (k + 1) (xs.map f) = _
    rw [en_zip f xs (k + 1)]; rfl
/-! ### what is told -/
theorem told_ok {C : Fin 5 → Addr} {m : Ev MV} {ρ : MM.Env} {μ μ1 : Mem} {d : MV} (h : m ρ μ = .ok d μ1) : mTold (ksE C) m ρ μ = .ok (.tup [.str "told", d]) μ1 := by
  unfold mTold; rw [h]; rfl
theorem told_not {C : Fin 5 → Addr} {m : Ev MV} {ρ : MM.Env} {μ μ1 : Mem} (h : m ρ μ = .exc ⟨"NotAllowed", none⟩ μ1) : mTold (ksE C) m ρ μ = .ok (.tup [.str "refused"]) μ1 := by
  unfold mTold; rw [h]
  have : MM.kindOf (ksE C) "NotAllowed" = some (("refused" : Str)) := by
    unfold MM.kindOf ksE
    rw [List.find?_cons_of_pos (by exact decide_eq_true rfl)]
    rfl
  show (match MM.kindOf (ksE C) "NotAllowed" with
    | some k => Out.ok (MV.tup [.str k]) μ1
    | none => .bad) = _
  rw [this]
theorem told_miss {C : Fin 5 → Addr} {m : Ev MV} {ρ : MM.Env} {μ μ1 : Mem} (h : m ρ μ = .exc ⟨"Missing", none⟩ μ1) : mTold (ksE C) m ρ μ = .ok (.tup [.str "missing"]) μ1 := by
  unfold mTold; rw [h]
  have n1 : ¬ ("NotAllowed" : Str) = "Missing" := by decide
  have n2 : ¬ ("TooLarge" : Str) = "Missing" := by decide
  have : MM.kindOf (ksE C) "Missing" = some (("missing" : Str)) := by
    unfold MM.kindOf ksE
    rw [List.find?_cons_of_neg (by exact fun z => n1 (of_decide_eq_true z)), List.find?_cons_of_neg (by exact fun z => n2 (of_decide_eq_true z)), List.find?_cons_of_pos (by exact decide_eq_true rfl)]
    rfl
  show (match MM.kindOf (ksE C) "Missing" with
    | some k => Out.ok (MV.tup [.str k]) μ1
    | none => .bad) = _
  rw [this]
theorem get_app {μ ν : Mem} {i : Nat} : (μ ++ ν)[μ.length + i]? = ν[i]? := by
  rw [List.getElem?_append_right (Nat.le_add_right _ _), Nat.add_sub_cancel_left]
theorem set_app {μ ν : Mem} {i : Nat} {c : Cell} : (μ ++ ν).set (μ.length + i) c = μ ++ ν.set i c := by
  rw [List.set_append_right _ _ (Nat.le_add_right _ _), Nat.add_sub_cancel_left]
theorem sd_ref {B : Nat} : Sd B 1 8 (.tup [.str "refused"]) := by
  have h : ∀ x ∈ [MV.str "refused"], Sd B 0 7 x := fun x hx => by
    rw [List.mem_singleton.mp hx]
    exact Sd.str (by decide +kernel) (by unfold PyData.leavesShort; decide +kernel) (by decide +kernel) (by decide +kernel)
  exact Sd.tup h
theorem sd_two {B k n : Nat} {x y : MV} (h1 : Sd B k n x) (h2 : Sd B k n y) : ∀ z ∈ [x, y], Sd B k n z := fun z hz => by
  rcases List.mem_cons.mp hz with rfl | hz
  · exact h1
  · rw [List.mem_singleton.mp hz]; exact h2
theorem head_range {p : Nat → Bool} {n x : Nat} (h1 : p x = true) (h2 : x < n) (h3 : ∀ y, y < x → p y = false) : ∃ r, (List.range n).filter p = x :: r := by
  have q : ((List.range n).filter p).head? = some x := by
    rw [List.head?_filter, List.find?_range_eq_some]
    exact ⟨h1, List.mem_range.mpr h2, fun j hj => by rw [h3 j hj]; rfl⟩
  cases hl : (List.range n).filter p with
  | nil => rw [hl] at q; cases q
  | cons y r =>
    rw [hl] at q
    cases q
    exact ⟨r, rfl⟩
theorem mulT {μ : Mem} {x : MV} {n : Nat} (h0 : 1 ≤ n) (h1 : n ≤ 1000) : mulM2 μ (.tup [x]) (.int n) = some (.tup (List.replicate n x)) := by
  show (if (n : Int) = 1 then some (MV.tup [x]) else if [x] ≠ [] ∧ (n : Int) ≤ 0 ∧ -(2 ^ 63) ≤ (n : Int) then some (.tup []) else if [x] ≠ [] ∧ 2 ≤ (n : Int) ∧ (n : Int) ≤ 1000 ∧ [x].length ≤ 1000 then some (.tup (List.replicate (n : Int).toNat [x]).flatten) else none) = _
  by_cases e : n = 1
  · subst e; rfl
  · rw [if_neg (by omega), if_neg (by omega), if_pos ⟨by simp, by omega, by omega, by simp⟩, Int.toNat_natCast, List.flatten_replicate_singleton]
/-! ### comprehensions over a cell -/
theorem comp_mapT {α : Type} {t : Itm} {g : TgM} {e : Ev MV} {ρ : MM.Env} {μ : Mem} (ok : t.ok μ) (rep : α → MV) (f : α → MV) : ∀ (xs : List α),
    (∀ x ∈ xs, ∃ ρ1, g (rep x) ρ μ = some (ρ1, μ) ∧ e ρ1 μ = .ok (f x) μ) → compL t g mYes e ρ (xs.map rep) μ = some (xs.map f, μ)
  | [], h => by
    show compL t g mYes e ρ [] μ = _
    unfold compL
    rw [if_pos ok]; rfl
  | x :: xs, h => by
    obtain ⟨ρ1, h1, h2⟩ := h x List.mem_cons_self
    have ih := comp_mapT ok rep f xs (fun y hy => h y (List.mem_cons_of_mem _ hy)) (g := g) (e := e) (ρ := ρ)
    show compL t g mYes e ρ (rep x :: xs.map rep) μ = _
    unfold compL
    rw [if_pos ok, h1]
    simp only [mYes, mRet, h2, ih, List.map_cons]
theorem mcomp_mapT {α : Type} {vs : List Nat} {mi : Ev Itm} {g : TgM} {e : Ev MV} {ρ : MM.Env} {μ μ1 : Mem} {r : MV} {chk : List (Nat × List MV)} (rep : α → MV) (f : α → MV) (xs : List α) (h1 : mi ρ μ = .ok ⟨xs.map rep, chk⟩ μ1) (ok : Itm.ok ⟨xs.map rep, chk⟩ μ1) (hl : xs.length ≤ sizeLine)
    (h : ∀ x ∈ xs, ∃ ρ1, g (rep x) (wipeE ρ vs) μ1 = some (ρ1, μ1) ∧ e ρ1 μ1 = .ok (f x) μ1) (hr : .lst (xs.map f) = r) : mComp vs mi g mYes e ρ μ = .ok r μ1 := by
  unfold mComp mCompL
  unfold mB
  dsimp only
  rw [h1]
  dsimp only
  unfold compT
  rw [if_pos (by rw [List.length_map]; exact hl), comp_mapT ok rep f xs h, ← hr]
  rfl
theorem ok_one {i : Nat} {xs ys : List MV} {μ : Mem} (h : μ[i]? = some (.lst ys)) : Itm.ok ⟨xs, [(i, ys)]⟩ μ := fun p hp => by
  rw [List.mem_singleton.mp hp]
  exact celOf_of h
/-- lists that are equal -/
theorem Dt.eqL {α : Type} [DecidableEq α] {k : Nat} {rep : α → MV} {D : α → PyData} (h : Dt k rep D) (hk : k ≤ 60) {μ : Mem} {a b : MV} {xs ys : List α} (ha : lstOf μ a = some (xs.map rep)) (hb : lstOf μ b = some (ys.map rep)) : MM.eqM μ a b = some (.bl (decide (xs = ys))) := by
  have s1 : SeqAt.shaped (.list (xs.map D)) = true := Dt.shaped (Dt.lst h) (by omega) xs
  have s2 : SeqAt.shaped (.list (ys.map D)) = true := Dt.shaped (Dt.lst h) (by omega) ys
  rw [eqD_of (pd_list h ha) (pd_list h hb) s1 s2]
  unfold PyData.eqv
  rw [eqvL_map h]
/-! ### while with an end by return -/
theorem while_rt {c : Ev Bool} {b : SM} {n : Nat} {ρ : MM.Env} {μ μ1 μ2 : Mem} {d : MV} (h1 : c ρ μ = .ok true μ1) (h2 : b ρ μ1 = .rt d μ2) : whileN c b (n + 1) ρ μ = .rt d μ2 := by
  conv => lhs; unfold whileN
  rw [h1]
  dsimp only
  rw [h2]
/-- a for that may return: by turns; J of what is kept, R of what is returned -/
theorem for_ret {xs0 : List MV} {g : TgM} {b : SM} (I : Nat → MM.Env → Mem → Prop) (R : MV → Mem → Prop) : ∀ (xs : List MV) (k : Nat) (ρ : MM.Env) (μ : Mem), I k ρ μ →
    (∀ (j : Nat) (x : MV), xs[j]? = some x → ∀ ρ μ, I (k + j) ρ μ → ∃ ρ1 μ1, g x ρ μ = some (ρ1, μ1) ∧ ((∃ ρ2 μ2, b ρ1 μ1 = .nx ρ2 μ2 ∧ I (k + j + 1) ρ2 μ2) ∨ (∃ d μ2, b ρ1 μ1 = .rt d μ2 ∧ R d μ2))) →
    (∃ ρ' μ', forL ⟨xs0, []⟩ g b xs ρ μ = .nx ρ' μ' ∧ I (k + xs.length) ρ' μ') ∨ (∃ d μ', forL ⟨xs0, []⟩ g b xs ρ μ = .rt d μ' ∧ R d μ')
  | [], k, ρ, μ, hi, h => .inl ⟨ρ, μ, for_end, hi⟩
  | x :: xs, k, ρ, μ, hi, h => by
    obtain ⟨ρ1, μ1, h1, h2⟩ := h 0 x rfl ρ μ hi
    rcases h2 with ⟨ρ2, μ2, h2, i2⟩ | ⟨d, μ2, h2, r2⟩
    · rw [for_nx h1 h2, List.length_cons, show k + (xs.length + 1) = k + 1 + xs.length by omega]
      refine for_ret I R xs (k + 1) ρ2 μ2 i2 fun j y hy ρ μ q => ?_
      have := h (j + 1) y (by simpa using hy) ρ μ (by rw [show k + (j + 1) = k + 1 + j by omega]; exact q)
      rwa [show k + (j + 1) = k + 1 + j by omega] at this
    · exact .inr ⟨d, μ2, for_rt h1 h2, r2⟩
end PL

set_option Elab.async false
set_option linter.all false
set_option maxRecDepth 100000
set_option maxHeartbeats 4000000
namespace K21
open PySem PySem.Spec PyProof.Rows L2 MM PL
/-! ### two machines, step by step -/
def chN (m : Mch) (i : Nat) : Int := (m.getD i (0, [])).1
def mvN (m : Mch) (i : Nat) (j : Int) : Nat := ((m.getD i (0, [])).2.getD j.toNat 0).toNat
def stp (f s : Mch) (p : Nat × Nat) : Nat × Nat := (mvN f p.1 (chN s p.2), mvN s p.2 (chN f p.1))
def rP (p : Nat × Nat) : MV := .tup [.int p.1, .int p.2]
def cel (f s : Mch) (p : Nat × Nat) : Int × Int := (chN f p.1, chN s p.2)
def rC (p : Int × Int) : MV := .tup [.int p.1, .int p.2]
theorem nr_P (p : Nat × Nat) : nr (rP p) = true := rfl
theorem nr_C (p : Int × Int) : nr (rC p) = true := rfl
/-- in range -/
def InP (f s : Mch) (p : Nat × Nat) : Prop := p.1 < f.length ∧ p.2 < s.length
section
variable {f s : Mch} {h w : Nat}
theorem atM {m : Mch} {i : Nat} (hi : i < m.length) (μ : Mem) : ixM μ (rM m) (.int i) = some (.tup [.int (chN m i), rR (m.getD i (0, [])).2]) := by
  show atI (m.map rS) (i : Int) = _
  rw [atI_nat _ _ (by rw [List.length_map]; exact hi), List.getElem_map]
  unfold rS chN
  rw [List.getD_eq_getElem?_getD, List.getElem?_eq_getElem hi]
  rfl
theorem atR {r : List Int} {j : Int} (h0 : 0 ≤ j) (hj : j < r.length) (μ : Mem) : ixM μ (rR r) (.int j) = some (.int (r.getD j.toNat 0)) := by
  obtain ⟨n, rfl⟩ : ∃ n : Nat, j = n := ⟨j.toNat, by omega⟩
  show atI (r.map MV.int) (n : Int) = _
  rw [atI_nat _ _ (by rw [List.length_map]; omega), List.getElem_map, List.getD_eq_getElem?_getD, Int.toNat_natCast, List.getElem?_eq_getElem (by omega)]
  rfl
theorem OkM.at {m : Mch} {own others i : Nat} (ok : OkM m own others) (hi : i < m.length) : m.getD i (0, []) ∈ m := by
  rw [List.getD_eq_getElem?_getD, List.getElem?_eq_getElem hi]
  exact List.getElem_mem hi
theorem OkM.c {m : Mch} {own others i : Nat} (ok : OkM m own others) (hi : i < m.length) : 0 ≤ chN m i ∧ chN m i < own := ok.ch _ (ok.at hi)
theorem OkM.m {m : Mch} {own others i : Nat} {j : Int} (ok : OkM m own others) (hi : i < m.length) (h0 : 0 ≤ j) (hj : j < others) : mvN m i j < m.length ∧ (m.getD i (0, [])).2.getD j.toNat 0 = mvN m i j := by
  have hm := ok.at hi
  have hl := ok.ln _ hm
  have := ok.af _ hm ((m.getD i (0, [])).2.getD j.toNat 0) (by
    rw [List.getD_eq_getElem?_getD (l := (m.getD i (0, [])).2), List.getElem?_eq_getElem (by omega)]
    exact List.getElem_mem _)
  unfold mvN
  omega
theorem stp_in (of : OkM f h w) (os : OkM s w h) {p : Nat × Nat} (hp : InP f s p) : InP f s (stp f s p) :=
  ⟨(of.m hp.1 (os.c hp.2).1 (os.c hp.2).2).1, (os.m hp.2 (of.c hp.1).1 (of.c hp.1).2).1⟩
theorem P_in (of : OkM f h w) (os : OkM s w h) : ∀ t, InP f s (Orb.P (stp f s) (0, 0) t)
  | 0 => ⟨by have := of.l1; show 0 < f.length; omega, by have := os.l1; show 0 < s.length; omega⟩
  | t + 1 => stp_in of os (P_in of os t)
variable {ρ : MM.Env} {μ : Mem} {mf ms' : Ev MV}
/-- f[one][0] -/
theorem choice_ok {m : Mch} {i : Nat} {ma mi : Ev MV} (hi : i < m.length) (h1 : ma ρ μ = .ok (rM m) μ) (h2 : mi ρ μ = .ok (.int i) μ) : mOp ixM (mOp ixM ma mi) (mRet (.int 0)) ρ μ = .ok (.int (chN m i)) μ :=
  op_ok (op_ok h1 h2 (atM hi μ)) k_ok rfl
/-- f[one][1][j] -/
theorem move_ok {m : Mch} {own others i : Nat} {j : Int} (ok : OkM m own others) {ma mi mj : Ev MV} (hi : i < m.length) (h0 : 0 ≤ j) (hj : j < others) (h1 : ma ρ μ = .ok (rM m) μ) (h2 : mi ρ μ = .ok (.int i) μ) (h3 : mj ρ μ = .ok (.int j) μ) :
    mOp ixM (mOp ixM (mOp ixM ma mi) (mRet (.int 1))) mj ρ μ = .ok (.int (mvN m i j)) μ := by
  refine op_ok (op_ok (op_ok h1 h2 (atM hi μ)) k_ok rfl) h3 ?_
  rw [atR h0 (by rw [ok.ln _ (ok.at hi)]; exact hj), (ok.m hi h0 hj).2]
theorem step_ok (of : OkM f h w) (os : OkM s w h) {p : Nat × Nat} (hp : InP f s p) {ma mb mi mj : Ev MV} (h1 : ma ρ μ = .ok (rM f) μ) (h2 : mb ρ μ = .ok (rM s) μ) (h3 : mi ρ μ = .ok (.int p.1) μ) (h4 : mj ρ μ = .ok (.int p.2) μ) :
    mTup (mCons (mOp ixM (mOp ixM (mOp ixM ma mi) (mRet (.int 1))) (mOp ixM (mOp ixM mb mj) (mRet (.int 0)))) (mCons (mOp ixM (mOp ixM (mOp ixM mb mj) (mRet (.int 1))) (mOp ixM (mOp ixM ma mi) (mRet (.int 0)))) mNil)) ρ μ = .ok (rP (stp f s p)) μ :=
  tup_ok (cons_ok (move_ok of hp.1 (os.c hp.2).1 (os.c hp.2).2 h1 h3 (choice_ok hp.2 h2 h4)) (one_ok (move_ok os hp.2 (of.c hp.1).1 (of.c hp.1).2 h2 h4 (choice_ok hp.1 h1 h3))))
theorem cell_ok {p : Nat × Nat} (hp : InP f s p) {ma mb mi mj : Ev MV} (h1 : ma ρ μ = .ok (rM f) μ) (h2 : mb ρ μ = .ok (rM s) μ) (h3 : mi ρ μ = .ok (.int p.1) μ) (h4 : mj ρ μ = .ok (.int p.2) μ) :
    mTup (mCons (mOp ixM (mOp ixM ma mi) (mRet (.int 0))) (mCons (mOp ixM (mOp ixM mb mj) (mRet (.int 0))) mNil)) ρ μ = .ok (rC (cel f s p)) μ :=
  tup_ok (cons_ok (choice_ok hp.1 h1 h3) (one_ok (choice_ok hp.2 h2 h4)))
theorem go_ok (hm : okMem μ) (of : OkM f h w) (os : OkM s w h) {p : Nat × Nat} (hp : InP f s p) : F_law_go [rM f, rM s, rP p] μ = .ok (rP (stp f s p)) μ :=
  run_rt0 (show M_law_go [some (rM f), some (rM s), some (rP p)] μ = _ from ret_s (step_ok of os hp (var_ok rfl) (var_ok rfl) (op_ok (var_ok rfl) k_ok rfl) (op_ok (var_ok rfl) k_ok rfl))) rfl hm
end
/-! ### turns -/
section
variable {f s : Mch} {h w : Nat}
def PP (f s : Mch) (t : Nat) : Nat × Nat := Orb.P (stp f s) (0, 0) t
/-- the cells of the first n turns -/
def cells (f s : Mch) (n : Nat) : List (Int × Int) := (List.range n).map fun t => cel f s (PP f s t)
theorem cells_len (n : Nat) : (cells f s n).length = n := by simp [cells]
theorem cells_succ (n : Nat) : cells f s (n + 1) = cells f s n ++ [cel f s (PP f s n)] := by simp [cells, List.range_succ]
def rCs (xs : List (Int × Int)) : List MV := xs.map rC
theorem nrs_Cs (xs : List (Int × Int)) : nrs (rCs xs) = true := nrs_map _ nr_C xs
end
end K21

set_option Elab.async false
set_option linter.all false
set_option maxRecDepth 100000
set_option maxHeartbeats 4000000
namespace K21
open PySem PySem.Spec PyProof.Rows L2 MM PL
theorem dtP : Dt 1 rP (fun p => .tuple [.int p.1, .int p.2]) := Dt.pair Dt.nat Dt.nat
theorem dtC : Dt 1 rC (fun p => .tuple [.int p.1, .int p.2]) := Dt.pair Dt.int Dt.int
section
variable {f s : Mch} {h w i L : Nat}
abbrev rho (f s : Mch) (i L : Nat) : Prop := Orb.Rho (stp f s) (0, 0) i L
abbrev lin (f s : Mch) (n : Nat) : List (Nat × Nat) := Orb.line (stp f s) (0, 0) n
def rPs (xs : List (Nat × Nat)) : List MV := xs.map rP
theorem nrs_Ps (xs : List (Nat × Nat)) : nrs (rPs xs) = true := nrs_map _ nr_P xs
end
/-! ### what cells gain -/
section
variable {t : List (List Int)} {h w : Nat} {μ : Mem} {ρ : MM.Env}
def gnT (t : List (List Int)) (c : Int × Int) : Int := (t.getD c.1.toNat []).getD c.2.toNat 0
def InC (h w : Nat) (c : Int × Int) : Prop := 0 ≤ c.1 ∧ c.1 < h ∧ 0 ≤ c.2 ∧ c.2 < w
theorem OkT.row (ok : OkT t h w) {i : Nat} (hi : i < h) : t.getD i [] ∈ t := by
  have := ok.hl
  rw [List.getD_eq_getElem?_getD, List.getElem?_eq_getElem (by omega)]
  exact List.getElem_mem _
theorem gn_rg (ok : OkT t h w) {c : Int × Int} (hc : InC h w c) : -99 ≤ gnT t c ∧ gnT t c ≤ 99 := by
  obtain ⟨a1, a2, a3, a4⟩ := hc
  have hr := ok.row (i := c.1.toNat) (by omega)
  have hl := ok.rl _ hr
  refine ok.rg _ hr _ ?_
  unfold gnT
  rw [List.getD_eq_getElem?_getD (l := t.getD c.1.toNat []), List.getElem?_eq_getElem (by omega)]
  exact List.getElem_mem _
theorem ixTab (ok : OkT t h w) {i : Int} (h0 : 0 ≤ i) (h1 : i < h) : ixM μ (rT t) (.int i) = some (rR (t.getD i.toNat [])) := by
  obtain ⟨n, rfl⟩ : ∃ n : Nat, i = n := ⟨i.toNat, by omega⟩
  have := ok.hl
  show atI (t.map rR) (n : Int) = _
  rw [atI_nat _ _ (by rw [List.length_map]; omega), List.getElem_map, List.getD_eq_getElem?_getD, Int.toNat_natCast, List.getElem?_eq_getElem (by omega)]
  rfl
theorem gain_ok (ok : OkT t h w) {c : Int × Int} (hc : InC h w c) {mt mi mj : Ev MV} (h1 : mt ρ μ = .ok (rT t) μ) (h2 : mi ρ μ = .ok (.int c.1) μ) (h3 : mj ρ μ = .ok (.int c.2) μ) : mOp ixM (mOp ixM mt mi) mj ρ μ = .ok (.int (gnT t c)) μ := by
  obtain ⟨a1, a2, a3, a4⟩ := hc
  have hl := ok.rl _ (ok.row (i := c.1.toNat) (by omega))
  exact op_ok (op_ok h1 h2 (ixTab ok a1 a2)) h3 (atR a3 (by rw [hl]; exact a4) μ)
theorem cel_in {f s : Mch} (of : OkM f h w) (os : OkM s w h) (n : Nat) : InC h w (cel f s (PP f s n)) := by
  have hp := P_in of os (f := f) (s := s) n
  have a := of.c hp.1
  have b := os.c hp.2
  exact ⟨a.1, a.2, b.1, b.2⟩
/-- [table[row][column] for row, column in cells] -/
theorem gains_ok (ok : OkT t h w) {cs : List (Int × Int)} (hc : ∀ c ∈ cs, InC h w c) (hl : cs.length ≤ 1000000) {vs : List Nat} {mi : Ev Itm} {mt : Ev MV} {i j : Nat} (h1 : mi ρ μ = .ok ⟨rCs cs, []⟩ μ)
    (hi : i < ρ.length) (hj : j < ρ.length) (hij : i ≠ j) (ht : ∀ a b, mt (((wipeE ρ vs).set i a).set j b) μ = .ok (rT t) μ) :
    mComp vs mi (gT ((gN i) :: ((gN j) :: []))) mYes (mOp ixM (mOp ixM mt (mVar i)) (mVar j)) ρ μ = .ok (.lst (cs.map fun c => .int (gnT t c))) μ := by
  refine mcomp_map rC _ cs h1 (le_size hl) fun c h => ⟨((wipeE ρ vs).set i (some (.int c.1))).set j (some (.int c.2)), rfl, gain_ok ok (hc c h) (ht _ _) (var_ok ?_) (var_ok ?_)⟩
  · rw [List.getElem?_set_ne (fun z => hij z.symm), List.getElem?_set_self (by rw [wipeE_len]; exact hi)]
  · rw [List.getElem?_set_self (by rw [List.length_set, wipeE_len]; exact hj)]
end
/-! ### gains in the long run -/
section
variable {f s : Mch} {h w i L : Nat} {a b : List (List Int)}
/-- the ring's cells -/
def ring (f s : Mch) (i L : Nat) : List (Int × Int) := (List.range (L - i)).map fun k => cel f s (PP f s (i + k))
theorem lin_drop : (rPs (lin f s L)).drop i = (List.range (L - i)).map fun k => rP (PP f s (i + k)) := by
  show List.drop i (((List.range L).map (PP f s)).map rP) = _
  rw [List.map_map, ← List.map_drop, List.range_eq_range', List.drop_range']
  simp only [Nat.zero_add, Nat.one_mul]
  rw [List.range'_eq_map_range, List.map_map]
  refine List.map_congr_left fun k _ => ?_
  show rP (PP f s (i * 1 + k)) = _
  rw [Nat.mul_one]
def sumT (t : List (List Int)) (cs : List (Int × Int)) : Int := (cs.map (gnT t)).sum
end
end K21

set_option Elab.async false
set_option linter.all false
set_option maxRecDepth 100000
set_option maxHeartbeats 4000000
namespace K21
open PySem PySem.Spec PyProof.Rows L2 MM PL
section
variable {μ : Mem} {d : Rat}
theorem sz_pow (hd : Sz d 3) : ∀ n : Nat, Sz (d ^ n) (3 * n + 1)
  | 0 => by rw [Rat.pow_zero]; exact sz_one
  | n + 1 => by
    rw [Rat.pow_succ]
    exact ((sz_pow hd n).mul hd).mono (by omega)
theorem power_ok (hm : okMem μ) (hd : Sz d 3) {n : Nat} (hn : n ≤ 100) : F_p_power [rq d, .int n] μ = .ok (rq (d ^ n)) μ := by
  let env : Nat → MM.Env := fun j => [some (rq d), some (.int n), some (rq (d ^ j)), if j = 0 then none else some (.int (j - 1 : Nat))]
  refine run_rt0 (show M_p_power [some (rq d), some (.int n), none, none] μ = _ from ?_) (nr_rq _) hm
  unfold M_p_power
  refine seq_step (ρ1 := env 0) (μ1 := μ) ((asg_ok (tup_ok (cons_ok k_ok (one_ok k_ok))) rfl).trans ?_) ?_
  · show SOut.nx [some (rq d), some (.int n), some (rq 1), none] μ = .nx [some (rq d), some (.int n), some (rq (d ^ 0)), none] μ
    rw [Rat.pow_zero]
  · refine seq_step (ρ1 := env n) (sfor_of (mrng1 (n := n) (μ1 := μ) (one_ok (var_ok rfl)) ⟨by omega, by omega⟩) (forl_range env (fun _ => μ) n fun j hj => ⟨_, _, rfl, ?_⟩)) (ret_s (var_ok rfl))
    have h := times_ok hm (sz_pow hd j) hd (by omega)
    rw [← Rat.pow_succ] at h
    exact asg_ok (call_ok (cons_ok (var_ok rfl) (one_ok (var_ok rfl))) rfl h) rfl
/-- the gains as ratios -/
def gR (t : List (List Int)) (cs : List (Int × Int)) : List Rat := cs.map fun c => ((gnT t c : Int) : Rat)
theorem gR_at {t : List (List Int)} {cs : List (Int × Int)} {j : Nat} (hj : j < cs.length) (h : j < (gR t cs).length) : (gR t cs)[j] = ((gnT t cs[j] : Int) : Rat) := by simp [gR]
theorem rq_int (i : Int) : rq (i : Rat) = .tup [.int i, .int 1] := rfl
theorem sz_int {i : Int} {n : Nat} (h : i.natAbs < 2 ^ n) (hn : 1 ≤ n) : Sz (i : Rat) n := ⟨h, Nat.lt_of_lt_of_le (by decide : (1 : Nat) < 2 ^ 1) (Nat.pow_le_pow_right (by omega) hn)⟩
variable {t : List (List Int)} {h w : Nat}
theorem sz_gain (ok : OkT t h w) {c : Int × Int} (hc : InC h w c) : Sz ((gnT t c : Int) : Rat) 7 := by
  have := gn_rg ok hc
  exact sz_int (by omega) (by omega)
theorem sz_ds (ok : OkT t h w) (hd : Sz d 3) {cs : List (Int × Int)} (hc : ∀ c ∈ cs, InC h w c) : ∀ j, j ≤ cs.length → j ≤ 20 → Sz (Dis.ds d ((gR t cs).take j)) (70 * j + 1)
  | 0, _, _ => by rw [List.take_zero]; exact Sz.mono (n := 1) ⟨show (0 : Rat).num.natAbs < 2 ^ 1 by decide, show (0 : Rat).den < 2 ^ 1 by decide⟩ (by omega)
  | j + 1, h1, h2 => by
    have hl : j < (gR t cs).length := by unfold gR; rw [List.length_map]; omega
    rw [Dis.ds_take d _ hl]
    have a := sz_ds ok hd hc j (by omega) (by omega)
    rw [gR_at (by omega) hl]
    have b := (sz_pow hd j).mul (sz_gain ok (hc _ (List.getElem_mem (by omega : j < cs.length))))
    exact (a.add b).mono (by omega)
theorem discounted_ok (hm : okMem μ) (ok : OkT t h w) (hd : Sz d 3) {cs : List (Int × Int)} (hc : ∀ c ∈ cs, InC h w c) (hl : cs.length ≤ 20) : F_p_discounted [rT t, .lst (rCs cs), rq d] μ = .ok (rq (Dis.ds d (gR t cs))) μ := by
  have gl : (gR t cs).length = cs.length := by unfold gR; rw [List.length_map]
  let env : Nat → MM.Env := fun j => [some (rT t), some (.lst (rCs cs)), some (rq d), some (rq (Dis.ds d ((gR t cs).take j))), some (rq (d ^ j)), if j = 0 then none else (cs[j - 1]?).map fun c => .int c.1, if j = 0 then none else (cs[j - 1]?).map fun c => .int c.2]
  have e0 : env 0 = [some (rT t), some (.lst (rCs cs)), some (rq d), some (rq 0), some (rq 1), none, none] := by
    show [_, _, _, some (rq (Dis.ds d ((gR t cs).take 0))), some (rq (d ^ 0)), none, none] = _
    rw [List.take_zero, Rat.pow_zero]; rfl
  refine run_rt0 (show M_p_discounted [some (rT t), some (.lst (rCs cs)), some (rq d), none, none, none, none] μ = _ from ?_) (nr_rq _) hm
  unfold M_p_discounted
  refine seq_step (ρ1 := env 0) (μ1 := μ) ((asg_ok (tup_ok (cons_ok (tup_ok (cons_ok k_ok (one_ok k_ok))) (one_ok (tup_ok (cons_ok k_ok (one_ok k_ok)))))) rfl).trans ?_) ?_
  · rw [e0]; rfl
  · refine seq_step (ρ1 := env cs.length) (sfor_of (mitm (var_ok rfl) rfl) (forl_list rC cs env (fun _ => μ) fun j hj => ⟨[some (rT t), some (.lst (rCs cs)), some (rq d), some (rq (Dis.ds d ((gR t cs).take j))), some (rq (d ^ j)), some (.int cs[j].1), some (.int cs[j].2)], μ, rfl, ?_⟩)) ?_
    · have hg := sz_gain ok (hc _ (List.getElem_mem hj))
      have h1 := times_ok hm (sz_pow hd j) hg (by omega)
      have h2 := added_ok hm (sz_ds ok hd hc j (by omega) (by omega)) ((sz_pow hd j).mul hg) (by omega)
      have h3 := times_ok hm (sz_pow hd j) hd (by omega)
      have hd2 := Dis.ds_take d (gR t cs) (j := j) (by omega)
      rw [gR_at hj (by omega)] at hd2
      rw [← hd2] at h2
      rw [← Rat.pow_succ] at h3
      have en : env (j + 1) = [some (rT t), some (.lst (rCs cs)), some (rq d), some (rq (Dis.ds d ((gR t cs).take (j + 1)))), some (rq (d ^ (j + 1))), some (.int cs[j].1), some (.int cs[j].2)] := by
        show [_, _, _, _, _, if j + 1 = 0 then none else (cs[j + 1 - 1]?).map _, if j + 1 = 0 then none else (cs[j + 1 - 1]?).map _] = _
        rw [if_neg (by omega), if_neg (by omega), Nat.add_sub_cancel, List.getElem?_eq_getElem hj]
        rfl
      rw [en]
      have g1 := gain_ok (ρ := [some (rT t), some (.lst (rCs cs)), some (rq d), some (rq (Dis.ds d ((gR t cs).take j))), some (rq (d ^ j)), some (.int cs[j].1), some (.int cs[j].2)]) (μ := μ) ok (hc _ (List.getElem_mem hj)) (mt := mVar 0) (mi := mVar 5) (mj := mVar 6) (var_ok rfl) (var_ok rfl) (var_ok rfl)
      refine seq_step (asg_ok (call_ok (cons_ok (var_ok rfl) (one_ok (call_ok (cons_ok (var_ok rfl) (one_ok (tup_ok (cons_ok g1 (one_ok k_ok))))) rfl h1))) rfl h2) rfl) ?_
      exact asg_ok (call_ok (cons_ok (var_ok rfl) (one_ok (var_ok rfl))) rfl h3) rfl
    · refine ret_s ((var_ok rfl).trans ?_)
      rw [List.take_of_length_le (by omega)]
end
section
variable {f s : Mch} {h w i L : Nat} {a b : List (List Int)} {d : Rat}
/-- what a table is worth -/
def wth (f s : Mch) (i L : Nat) (d : Rat) (t : List (List Int)) : Rat := Dis.ds d (gR t (cells f s i)) + d ^ i * (Dis.ds d (gR t (ring f s i L)) / (1 + -(d ^ (L - i))))
theorem cells_take (h : i ≤ L) : (cells f s L).take i = cells f s i := by
  unfold cells
  rw [← List.map_take, List.take_range, Nat.min_eq_left h]
theorem cells_drop : (cells f s L).drop i = ring f s i L := by
  unfold cells ring
  rw [← List.map_drop, List.range_eq_range', List.drop_range']
  simp only [Nat.zero_add, Nat.one_mul]
  rw [List.range'_eq_map_range, List.map_map]
  refine List.map_congr_left fun k _ => ?_
  show cel f s (PP f s (i * 1 + k)) = _
  rw [Nat.mul_one]
theorem Sz.neg {x : Rat} {n : Nat} (h : Sz x n) : Sz (-x) n := ⟨by rw [Rat.neg_num]; have := h.1; omega, by rw [Rat.neg_den]; exact h.2⟩
theorem Sz.div {x y : Rat} {n m : Nat} (hx : Sz x n) (hy : Sz y m) (hp : 0 < y.num) : Sz (x / y) (n + m) := by
  rw [rat_div hp]
  refine mkRat_sz ?_ (mul_lt_pow hx.2 (by have := hy.1; omega)) (Nat.mul_ne_zero x.den_nz (by omega))
  rw [Int.natAbs_mul, Int.natAbs_natCast]
  exact mul_lt_pow hx.1 hy.2
theorem rest_pos (h0 : 0 ≤ d) (h1 : d < 1) {n : Nat} (hn : 1 ≤ n) : 0 < (1 + -(d ^ n)).num := by
  obtain ⟨m, rfl⟩ : ∃ m, n = m + 1 := ⟨n - 1, by omega⟩
  have := Dis.pow_lt h0 h1 m
  exact Dis.num_pos (by grind)
end
end K21

set_option Elab.async false
set_option linter.all false
set_option maxRecDepth 100000
set_option maxHeartbeats 4000000
namespace K21
open PySem PySem.Spec PyProof.Rows L2 MM PL
section
variable {μ : Mem} {a b t : List (List Int)} {h w : Nat}
theorem cols_ok (ok : OkT t h w) : OkT (cols t w) w h := by
  have hl := ok.hl
  refine ⟨by simp [cols], ok.w1, ok.h1, fun r hr => ?_, fun r hr g hg => ?_⟩
  · obtain ⟨j, _, rfl⟩ := List.mem_map.mp hr
    simp [hl]
  · obtain ⟨j, hj, rfl⟩ := List.mem_map.mp hr
    obtain ⟨q, hq, rfl⟩ := List.mem_map.mp hg
    have hj := List.mem_range.mp hj
    have := ok.rl q hq
    refine ok.rg q hq _ ?_
    rw [List.getD_eq_getElem?_getD, List.getElem?_eq_getElem (by omega)]
    exact List.getElem_mem _
theorem tops_ne (ok : OkT t h w) : ∀ r ∈ t, r ≠ [] := fun r hr e => by
  have := ok.rl r hr
  rw [e] at this
  have := ok.w1
  simp at *
  omega
/-- the greatest of each column -/
def tops (t : List (List Int)) (w : Nat) : List Int := (cols t w).map mx
theorem tops_nonempty (ok : OkT t h w) : tops t w ≠ [] := fun e => by
  have : (tops t w).length = w := by simp [tops, cols]
  rw [e] at this
  have := ok.w1
  simp at *
  omega
def dims (h w : Nat) (who : Int) : Nat × Nat := if who = 0 then (h, w) else (w, h)
/-! ### refused -/
theorem machine_x1 (hm : okMem μ) {m : Mch} {own others : Nat} (hl : m.length = 0 ∨ 6 < m.length) : F_p_check_machine [.int own, .int others, rM m] μ = .exc ⟨"NotAllowed", none⟩ μ := by
  refine run_exc0 (show M_p_check_machine [some (.int own), some (.int others), some (rM m), none, none, none] μ = _ from ?_) hm
  unfold M_p_check_machine
  refine seq_exc (if_t (μ1 := μ) (t_ok (not_ok (k := false) ?_)) raise_s)
  rcases hl with hl | hl
  · have c1 : decide ((1 : Int) ≤ (m.length : Int)) = false := decide_eq_false (by omega)
    exact chain_f k_ok (cb_ok (one_ok (var_ok rfl)) (lenM_ μ m)) (by rw [leI, c1])
  · have c1 : decide ((1 : Int) ≤ (m.length : Int)) = true := decide_eq_true (by omega)
    have c2 : decide ((m.length : Int) ≤ 6) = false := decide_eq_false (by omega)
    exact chain_t k_ok (cb_ok (one_ok (var_ok rfl)) (lenM_ μ m)) (by rw [leI, c1]) k_ok (by rw [leI, c2])
/-- its first state is none -/
theorem machine_x2 (hm : okMem μ) {s : Int × List Int} {own others : Nat} (hs : (own : Int) ≤ s.1 ∨ (s.1 = 0 ∧ 0 < own ∧ s.2.length ≠ others) ∨ (s.1 = 0 ∧ 0 < own ∧ s.2.length = others ∧ s.2.length ≤ 100 ∧ ∃ v ∈ s.2, ¬ (0 ≤ v ∧ v < 1))) (h0 : 0 ≤ s.1) :
    F_p_check_machine [.int own, .int others, rM [s]] μ = .exc ⟨"NotAllowed", none⟩ μ := by
  refine run_exc0 (show M_p_check_machine [some (.int own), some (.int others), some (rM [s]), none, none, none] μ = _ from ?_) hm
  unfold M_p_check_machine
  refine seq_step (if_n (t_ok (not_ok (k := true) (μ1 := μ) ?_))) ?_
  · exact chain_t k_ok (cb_ok (one_ok (var_ok rfl)) (lenM_ μ [s])) rfl k_ok rfl
  refine sfor_of (t := ⟨[rS s], []⟩) (μ1 := μ) (mitm (var_ok rfl) rfl) ?_
  have fx : ∀ {b : SM} {ρ1 : MM.Env} {x : Exc}, gT ((gN 3) :: ((gN 4) :: [])) (rS s) [some (.int own), some (.int others), some (rM [s]), none, none, none] μ = some (ρ1, μ) → b ρ1 μ = .exc x μ → forL ⟨[rS s], []⟩ (gT ((gN 3) :: ((gN 4) :: []))) b [rS s] [some (.int own), some (.int others), some (rM [s]), none, none, none] μ = .exc x μ := by
    intro b ρ1 x h1 h2
    conv => lhs; unfold forL
    rw [if_pos ok_nil, h1]
    dsimp only
    rw [h2]
  refine fx (ρ1 := [some (.int own), some (.int others), some (rM [s]), some (.int s.1), some (rR s.2), none]) rfl ?_
  have d0 : decide ((0 : Int) ≤ s.1) = true := decide_eq_true h0
  rcases hs with hs | ⟨s0, po, hs⟩ | ⟨s0, po, hl, hb, v, hv, nv⟩
  · have d1 : decide (s.1 < (own : Int)) = false := decide_eq_false (by omega)
    exact seq_exc (if_t (t_ok (or_t (not_ok (k := false) (chain_t k_ok (var_ok rfl) (by rw [leI, d0]) (var_ok rfl) (by rw [ltI, d1]))))) raise_s)
  · have d1 : decide (s.1 < (own : Int)) = true := decide_eq_true (by omega)
    have d2 : (!decide ((s.2.length : Int) = (others : Int))) = true := by simp; omega
    exact seq_exc (if_t (t_ok (or_f (not_ok (k := true) (chain_t k_ok (var_ok rfl) (by rw [leI, d0]) (var_ok rfl) (by rw [ltI, d1]))) (op_ok (cb_ok (one_ok (var_ok rfl)) (lenR μ _)) (var_ok rfl) (by rw [neI', d2])))) raise_s)
  · have d1 : decide (s.1 < (own : Int)) = true := decide_eq_true (by omega)
    have d2 : (!decide ((s.2.length : Int) = (others : Int))) = false := by simp; omega
    refine seq_step (if_n (t_ok (or_f (not_ok (k := true) (chain_t k_ok (var_ok rfl) (by rw [leI, d0]) (var_ok rfl) (by rw [ltI, d1]))) (op_ok (cb_ok (one_ok (var_ok rfl)) (lenR μ _)) (var_ok rfl) (by rw [neI', d2]))))) ?_
    refine if_t (t_ok (not_ok (k := false) (cb_ok (one_ok (mcomp_map .int (fun v => .bl (decide (0 ≤ v) && decide (v < 1))) s.2 (mitm (var_ok rfl) rfl) (le_size (by omega)) fun x hx => ⟨_, rfl, chain_ok k_ok (var_ok rfl) (leI _ _) (cb_ok (one_ok (var_ok rfl)) (lenM_ μ [s])) rfl⟩)) ((all_map μ _ _).trans ?_)))) raise_s
    congr 2
    rw [List.all_eq_false]
    refine ⟨v, hv, ?_⟩
    simpa using nv
theorem discount_x1 (hm : okMem μ) : F_p_check_discount [.tup [.int 1, .int 1]] μ = .exc ⟨"NotAllowed", none⟩ μ := by
  have hi := is_ratio_ok hm 1 1 (Nat.lt_of_lt_of_le (by decide : (1 : Int).natAbs < 2 ^ 1) (Nat.pow_le_pow_right (by omega) (by omega)))
  have hl := less_ok hm sz_one sz_one (by omega)
  rw [decide_eq_false (by decide : ¬ (1 : Rat) < 1)] at hl
  refine run_exc0 (show M_p_check_discount [some (.tup [.int 1, .int 1])] μ = _ from ?_) hm
  unfold M_p_check_discount
  exact if_t (t_ok (or_f (not_ok (k := true) (call_ok (one_ok (var_ok rfl)) rfl hi)) (or_f (op_ok (op_ok (var_ok rfl) k_ok rfl) k_ok rfl) (not_ok (k := false) (call_ok (cons_ok (var_ok rfl) (one_ok (tup_ok (cons_ok k_ok (one_ok k_ok))))) rfl hl))))) raise_s
theorem discount_x2 (hm : okMem μ) : F_p_check_discount [.tup [.int (-1), .int 2]] μ = .exc ⟨"NotAllowed", none⟩ μ := by
  have hi := is_ratio_ok hm (-1) 2 (Nat.lt_of_lt_of_le (by decide : (2 : Int).natAbs < 2 ^ 2) (Nat.pow_le_pow_right (by omega) (by omega)))
  refine run_exc0 (show M_p_check_discount [some (.tup [.int (-1), .int 2])] μ = _ from ?_) hm
  unfold M_p_check_discount
  exact if_t (t_ok (or_f (not_ok (k := true) (call_ok (one_ok (var_ok rfl)) rfl hi)) (or_t (op_ok (op_ok (var_ok rfl) k_ok rfl) k_ok rfl)))) raise_s
theorem discount_x3 (hm : okMem μ) : F_p_check_discount [.tup [.int 2, .int 4]] μ = .exc ⟨"NotAllowed", none⟩ μ := by
  have hi := is_ratio_ok hm 2 4 (Nat.lt_of_lt_of_le (by decide : (4 : Int).natAbs < 2 ^ 3) (Nat.pow_le_pow_right (by omega) (by omega)))
  refine run_exc0 (show M_p_check_discount [some (.tup [.int 2, .int 4])] μ = _ from ?_) hm
  unfold M_p_check_discount
  exact if_t (t_ok (or_t (not_ok (k := false) (call_ok (one_ok (var_ok rfl)) rfl hi)))) raise_s
end
end K21

set_option Elab.async false
set_option linter.all false
set_option maxRecDepth 100000
set_option maxHeartbeats 4000000
namespace K21
open PySem PySem.Spec PyProof.Rows L2 MM PL
/-! ### what the law draws -/
section
variable {xs : List Int} {rest : Mem} {k : Nat}
theorem lnext (hx : Ns xs) (hk : k < 2 ^ 60) (hm : okMem (sC xs k :: rest)) {m : Int} (h : 0 < m) : ∃ r : Int, F_law_next [.ref 0, .int m] (sC xs k :: rest) = .ok (.int r) (sC xs (k + 1) :: rest) ∧ 0 ≤ r ∧ r < m :=
  ⟨_, next_ok hx hk hm h, drw_rg h⟩
theorem okM_at (hm : okMem (sC xs k :: rest)) (j : Nat) : okMem (sC xs j :: rest) := okMem_s hm
theorem mach_draw (hx : Ns xs) (hm : okMem (sC xs k :: rest)) (hk : k + 1000 ≤ 2 ^ 50) {own others : Nat} (h1 : 1 ≤ own) (h2 : others ≤ 5) : ∃ (m : Mch) (k' : Nat), F_law_machine [.ref 0, .int own, .int others] (sC xs k :: rest) = .ok (rM m) (sC xs k' :: rest) ∧ OkM m own others ∧ m.length ≤ 4 ∧ k ≤ k' ∧ k' ≤ k + 100 := by
  obtain ⟨r, e1, r0, r1⟩ := lnext hx (k := k) (by omega) hm (m := 4) (by omega)
  obtain ⟨n, rfl⟩ : ∃ n : Nat, r = n := ⟨r.toNat, by omega⟩
  let S : Nat → Mem := fun k => sC xs k :: rest
  obtain ⟨m, k', a1, a2, a3, a4, a5⟩ := mcomp_draw (vs := [4]) (g := gN 4) (e := (mTup (mCons (mCall 2 F_law_next (mCons (mVar 0) (mCons (mVar 1) mNil))) (mCons (mCB tupleM (mCons (mComp (List.map (·.2) ([("answer", 5)] : List (Str × Nat))) (mRng rng1 (mCons (mVar 2) mNil)) (gN 5) mYes (mCall 2 F_law_next (mCons (mVar 0) (mCons (mVar 3) mNil)))) mNil)) mNil))))
    (mi := mRng rng1 (mCons (mVar 3) mNil)) (ρ := [some (.ref 0), some (.int own), some (.int others), some (.int ((n + 1 : Nat) : Int)), none, none]) rS (fun s => 0 ≤ s.1 ∧ s.1 < own ∧ s.2.length = others ∧ ∀ v ∈ s.2, 0 ≤ v ∧ v < ((n + 1 : Nat) : Int)) S 10 (2 ^ 50) (items := intsL 0 (n + 1)) (n := n + 1) (k := k + 1) (intsL_len _ _)
    (mrng1 (n := n + 1) (one_ok (var_ok rfl)) ⟨by omega, by omega⟩) (by omega) (by omega) (by
      intro x hx1 j hj
      refine ⟨[some (.ref 0), some (.int own), some (.int others), some (.int ((n + 1 : Nat) : Int)), some x, none], rfl, ?_⟩
      obtain ⟨c, e2, c0, c1⟩ := lnext hx (k := j) (rest := rest) (by omega) (okM_at hm j) (m := own) (by omega)
      obtain ⟨vs, k2, b1, b2, b3, b4, b5⟩ := mcomp_draw (vs := [5]) (g := gN 5) (e := mCall 2 F_law_next (mCons (mVar 0) (mCons (mVar 3) mNil))) (mi := mRng rng1 (mCons (mVar 2) mNil)) (ρ := [some (.ref 0), some (.int own), some (.int others), some (.int ((n + 1 : Nat) : Int)), some x, none]) MV.int (fun v => 0 ≤ v ∧ v < ((n + 1 : Nat) : Int)) S 1 (2 ^ 55) (items := intsL 0 others) (n := others) (k := j + 1) (intsL_len _ _)
        (mrng1 (n := others) (one_ok (var_ok rfl)) ⟨by omega, by omega⟩) (by omega) (by omega) (by
          intro y hy i hi
          obtain ⟨v, e3, v0, v1⟩ := lnext hx (k := i) (rest := rest) (by omega) (okM_at hm i) (m := ((n + 1 : Nat) : Int)) (by omega)
          exact ⟨_, rfl, v, i + 1, call_ok (cons_ok (var_ok rfl) (one_ok (var_ok rfl))) rfl e3, ⟨v0, v1⟩, by omega, by omega⟩)
      exact ⟨(c, vs), k2, tup_ok (cons_ok (call_ok (cons_ok (var_ok rfl) (one_ok (var_ok rfl))) rfl e2) (one_ok (cb_ok (one_ok b1) rfl))), ⟨c0, c1, b2, b3⟩, by omega, by omega⟩)
  refine ⟨m, k', run_S (show M_law_machine [some (.ref 0), some (.int own), some (.int others), none, none, none] (sC xs k :: rest) = _ from ?_) (nr_M m) hm, ⟨⟨by omega, by omega⟩, fun s hs => ⟨(a3 s hs).1, (a3 s hs).2.1⟩, fun s hs => (a3 s hs).2.2.1, fun s hs v hv => ?_⟩, by omega, by omega, by omega⟩
  · unfold M_law_machine
    refine seq_step (ρ1 := [some (.ref 0), some (.int own), some (.int others), some (.int ((n + 1 : Nat) : Int)), none, none]) (μ1 := sC xs (k + 1) :: rest) (asg_ok (op_ok k_ok (call_ok (cons_ok (var_ok rfl) (one_ok k_ok)) rfl e1) ?_) rfl) (ret_s (cb_ok (one_ok a1) rfl))
    rw [addI', show (1 : Int) + n = ((n + 1 : Nat) : Int) by omega]
  · have := (a3 s hs).2.2.2 v hv
    rw [a2]
    exact this
theorem pd_game : OkT [[3, 0], [5, 1]] 2 2 ∧ OkT [[3, 5], [0, 1]] 2 2 := by
  constructor <;> exact ⟨rfl, by decide, by decide, by decide, by decide⟩
theorem small_draw (hx : Ns xs) (hm : okMem (sC xs k :: rest)) (hk : k + 1000 ≤ 2 ^ 50) : ∃ (a b : List (List Int)) (h w k' : Nat), F_law_small [.ref 0] (sC xs k :: rest) = .ok (rG a b) (sC xs k' :: rest) ∧ OkT a h w ∧ OkT b h w ∧ h ≤ 3 ∧ w ≤ 3 ∧ k ≤ k' ∧ k' ≤ k + 100 := by
  let S : Nat → Mem := fun k => sC xs k :: rest
  obtain ⟨r1, e1, r10, r11⟩ := lnext hx (k := k) (by omega) hm (m := 3) (by omega)
  obtain ⟨n1, rfl⟩ : ∃ n : Nat, r1 = n := ⟨r1.toNat, by omega⟩
  obtain ⟨r2, e2, r20, r21⟩ := lnext hx (k := k + 1) (by omega) (okM_at hm _) (m := 3) (by omega)
  obtain ⟨n2, rfl⟩ : ∃ n : Nat, r2 = n := ⟨r2.toNat, by omega⟩
  obtain ⟨r3, e3, r30, r31⟩ := lnext hx (k := k + 2) (by omega) (okM_at hm _) (m := 2) (by omega)
  obtain ⟨r4, e4, r40, r41⟩ := lnext hx (k := k + 3) (by omega) (okM_at hm _) (m := 3) (by omega)
  obtain ⟨t, ht, t1, t2⟩ : ∃ t : Int, ixM (S (k + 3)) (.lst [.int 2, .int 5]) (.int r3) = some (.int t) ∧ 2 ≤ t ∧ t ≤ 5 := by
    rcases (show r3 = 0 ∨ r3 = 1 by omega) with rfl | rfl
    · exact ⟨2, rfl, by omega, by omega⟩
    · exact ⟨5, rfl, by omega, by omega⟩
  have pre : ∀ {b : SM} {o : SOut}, b [some (.ref 0), some (.int ((n1 + 1 : Nat) : Int)), some (.int ((n2 + 1 : Nat) : Int)), some (.int t), none, none, none] (S (k + 3)) = o →
      (sSeq (sAsg (mOp addM (mRet (.int 1)) (mCall 2 F_law_next (mCons (mVar 0) (mCons (mRet (.int 3)) mNil)))) (gN 1)) (sSeq (sAsg (mOp addM (mRet (.int 1)) (mCall 2 F_law_next (mCons (mVar 0) (mCons (mRet (.int 3)) mNil)))) (gN 2)) (sSeq (sAsg (mOp ixM (mLst (mCons (mRet (.int 2)) (mCons (mRet (.int 5)) mNil))) (mCall 2 F_law_next (mCons (mVar 0) (mCons (mRet (.int 2)) mNil)))) (gN 3)) b))) [some (.ref 0), none, none, none, none, none, none] (S k) = o := by
    intro b o hb
    refine seq_step (ρ1 := [some (.ref 0), some (.int ((n1 + 1 : Nat) : Int)), none, none, none, none, none]) (μ1 := S (k + 1)) (asg_ok (op_ok k_ok (call_ok (cons_ok (var_ok rfl) (one_ok k_ok)) rfl e1) ?_) rfl) ?_
    · rw [addI', show (1 : Int) + n1 = ((n1 + 1 : Nat) : Int) by omega]
    refine seq_step (ρ1 := [some (.ref 0), some (.int ((n1 + 1 : Nat) : Int)), some (.int ((n2 + 1 : Nat) : Int)), none, none, none, none]) (μ1 := S (k + 2)) (asg_ok (op_ok k_ok (call_ok (cons_ok (var_ok rfl) (one_ok k_ok)) rfl e2) ?_) rfl) ?_
    · rw [addI', show (1 : Int) + n2 = ((n2 + 1 : Nat) : Int) by omega]
    exact seq_step (asg_ok (op_ok (lst_ok (cons_ok k_ok (one_ok k_ok))) (call_ok (cons_ok (var_ok rfl) (one_ok k_ok)) rfl e3) ht) rfl) hb
  have tst : (mT (mOp eqM (mCall 2 F_law_next (mCons (mVar 0) (mCons (mRet (.int 3)) mNil))) (mRet (.int 0)))) [some (.ref 0), some (.int ((n1 + 1 : Nat) : Int)), some (.int ((n2 + 1 : Nat) : Int)), some (.int t), none, none, none] (S (k + 3)) = .ok (decide (r4 = 0)) (S (k + 4)) :=
    t_ok (op_ok (call_ok (cons_ok (var_ok rfl) (one_ok k_ok)) rfl e4) k_ok (eqI _ _ _))
  by_cases z : r4 = 0
  · rw [decide_eq_true z] at tst
    refine ⟨_, _, 2, 2, k + 4, run_S (show M_law_small [some (.ref 0), none, none, none, none, none, none] (sC xs k :: rest) = .rt (rG [[3, 0], [5, 1]] [[3, 5], [0, 1]]) (sC xs (k + 4) :: rest) from ?_) (nr_G _ _) hm, pd_game.1, pd_game.2, by omega, by omega, by omega, by omega⟩
    unfold M_law_small
    exact pre (seq_rt (if_t tst (ret_s (tup_ok (cons_ok (tup_ok (cons_ok (tup_ok (cons_ok k_ok (one_ok k_ok))) (one_ok (tup_ok (cons_ok k_ok (one_ok k_ok)))))) (one_ok (tup_ok (cons_ok (tup_ok (cons_ok k_ok (one_ok k_ok))) (one_ok (tup_ok (cons_ok k_ok (one_ok k_ok))))))))))))
  · rw [decide_eq_false z] at tst
    let Q : List (List Int) → Prop := fun t => t.length = n1 + 1 ∧ ∀ r ∈ t, r.length = n2 + 1 ∧ ∀ g ∈ r, -99 ≤ g ∧ g ≤ 99
    obtain ⟨ts, k', a1, a2, a3, a4, a5⟩ := mcomp_draw (vs := [4]) (g := gN 4) (e := (mCB tupleM (mCons (mComp (List.map (·.2) ([("row", 5)] : List (Str × Nat))) (mRng rng1 (mCons (mVar 1) mNil)) (gN 5) mYes (mCB tupleM (mCons (mComp (List.map (·.2) ([("column", 6)] : List (Str × Nat))) (mRng rng1 (mCons (mVar 2) mNil)) (gN 6) mYes (mOp subM (mCall 2 F_law_next (mCons (mVar 0) (mCons (mOp addM (mOp mulM2 (mRet (.int 2)) (mVar 3)) (mRet (.int 1))) mNil))) (mVar 3))) mNil))) mNil)))
      (mi := mItm (mLst (mCons (mRet (.int 0)) (mCons (mRet (.int 1)) mNil)))) (ρ := [some (.ref 0), some (.int ((n1 + 1 : Nat) : Int)), some (.int ((n2 + 1 : Nat) : Int)), some (.int t), none, none, none]) rT Q S 40 (2 ^ 50) (items := [.int 0, .int 1]) (n := 2) (k := k + 4) rfl
      (mitm (lst_ok (cons_ok k_ok (one_ok k_ok))) rfl) (by omega) (by omega) (by
        intro x _ j hj
        refine ⟨[some (.ref 0), some (.int ((n1 + 1 : Nat) : Int)), some (.int ((n2 + 1 : Nat) : Int)), some (.int t), some x, none, none], rfl, ?_⟩
        obtain ⟨rs, k2, b1, b2, b3, b4, b5⟩ := mcomp_draw (vs := [5]) (g := gN 5) (e := (mCB tupleM (mCons (mComp (List.map (·.2) ([("column", 6)] : List (Str × Nat))) (mRng rng1 (mCons (mVar 2) mNil)) (gN 6) mYes (mOp subM (mCall 2 F_law_next (mCons (mVar 0) (mCons (mOp addM (mOp mulM2 (mRet (.int 2)) (mVar 3)) (mRet (.int 1))) mNil))) (mVar 3))) mNil)))
          (mi := mRng rng1 (mCons (mVar 1) mNil)) (ρ := [some (.ref 0), some (.int ((n1 + 1 : Nat) : Int)), some (.int ((n2 + 1 : Nat) : Int)), some (.int t), some x, none, none]) rR (fun r => r.length = n2 + 1 ∧ ∀ g ∈ r, -99 ≤ g ∧ g ≤ 99) S 10 (2 ^ 51) (items := intsL 0 (n1 + 1)) (n := n1 + 1) (k := j) (intsL_len _ _)
          (mrng1 (n := n1 + 1) (one_ok (var_ok rfl)) ⟨by omega, by omega⟩) (by omega) (by omega) (by
            intro y _ i hi
            refine ⟨[some (.ref 0), some (.int ((n1 + 1 : Nat) : Int)), some (.int ((n2 + 1 : Nat) : Int)), some (.int t), some x, some y, none], rfl, ?_⟩
            obtain ⟨gs, k3, c1, c2, c3, c4, c5⟩ := mcomp_draw (vs := [6]) (g := gN 6) (e := mOp subM (mCall 2 F_law_next (mCons (mVar 0) (mCons (mOp addM (mOp mulM2 (mRet (.int 2)) (mVar 3)) (mRet (.int 1))) mNil))) (mVar 3))
              (mi := mRng rng1 (mCons (mVar 2) mNil)) (ρ := [some (.ref 0), some (.int ((n1 + 1 : Nat) : Int)), some (.int ((n2 + 1 : Nat) : Int)), some (.int t), some x, some y, none]) MV.int (fun g => -99 ≤ g ∧ g ≤ 99) S 1 (2 ^ 52) (items := intsL 0 (n2 + 1)) (n := n2 + 1) (k := i) (intsL_len _ _)
              (mrng1 (n := n2 + 1) (one_ok (var_ok rfl)) ⟨by omega, by omega⟩) (by omega) (by omega) (by
                intro u _ l hl
                obtain ⟨v, e5, v0, v1⟩ := lnext hx (k := l) (rest := rest) (by omega) (okM_at hm l) (m := 2 * t + 1) (by omega)
                exact ⟨_, rfl, v - t, l + 1, op_ok (call_ok (cons_ok (var_ok rfl) (one_ok (op_ok (op_ok k_ok (var_ok rfl) (mulI' (small_mul (lt_big (by decide)) (lt_big (by omega))))) k_ok rfl))) rfl e5) (var_ok rfl) rfl, ⟨by omega, by omega⟩, by omega, by omega⟩)
            exact ⟨gs, k3, cb_ok (one_ok c1) rfl, ⟨c2, c3⟩, by omega, by omega⟩)
        exact ⟨rs, k2, cb_ok (one_ok b1) rfl, ⟨b2, b3⟩, by omega, by omega⟩)
    match ts, a2, a3 with
    | [a, b], _, a3 =>
      have ok : ∀ t, Q t → OkT t (n1 + 1) (n2 + 1) := fun t q => ⟨q.1, by omega, by omega, fun r hr => (q.2 r hr).1, fun r hr => (q.2 r hr).2⟩
      refine ⟨a, b, n1 + 1, n2 + 1, k', run_S (show M_law_small [some (.ref 0), none, none, none, none, none, none] (sC xs k :: rest) = .rt (rG a b) (sC xs k' :: rest) from ?_) (nr_G _ _) hm, ok a (a3 a (by simp)), ok b (a3 b (by simp)), by omega, by omega, by omega, by omega⟩
      unfold M_law_small
      exact pre (seq_step (if_n tst) (ret_s (cb_ok (one_ok a1) rfl)))
theorem disc_draw (hx : Ns xs) (hm : okMem (sC xs k :: rest)) (hk : k + 1000 ≤ 2 ^ 50) : ∃ (d : Rat), F_law_discount [.ref 0] (sC xs k :: rest) = .ok (rq d) (sC xs (k + 2) :: rest) ∧ 0 ≤ d.num ∧ d.num < d.den ∧ d.den ≤ 7 := by
  obtain ⟨r1, e1, r10, r11⟩ := lnext hx (k := k) (by omega) hm (m := 7) (by omega)
  obtain ⟨n, rfl⟩ : ∃ n : Nat, r1 = n := ⟨r1.toNat, by omega⟩
  obtain ⟨r2, e2, r20, r21⟩ := lnext hx (k := k + 1) (by omega) (okM_at hm _) (m := ((n + 1 : Nat) : Int)) (by omega)
  have e3 := lfrac_ok (okM_at hm (k + 2)) r2 ((n + 1 : Nat) : Int) (by omega) (by rw [Int.natAbs_natCast]; exact Nat.lt_of_lt_of_le (by omega : n + 1 < 2 ^ 3) (Nat.pow_le_pow_right (by omega) (by omega)))
  rw [qv_rat r2 (n + 1) (by omega)] at e3
  refine ⟨mkRat r2 (n + 1), run_S (show M_law_discount [some (.ref 0), none] (sC xs k :: rest) = _ from ?_) (nr_rq _) hm, ?_, ?_, ?_⟩
  · unfold M_law_discount
    refine seq_step (ρ1 := [some (.ref 0), some (.int ((n + 1 : Nat) : Int))]) (μ1 := sC xs (k + 1) :: rest) (asg_ok (op_ok k_ok (call_ok (cons_ok (var_ok rfl) (one_ok k_ok)) rfl e1) ?_) rfl) ?_
    · rw [addI', show (1 : Int) + n = ((n + 1 : Nat) : Int) by omega]
    · exact ret_s (call_ok (cons_ok (call_ok (cons_ok (var_ok rfl) (one_ok (var_ok rfl))) rfl e2) (one_ok (var_ok rfl))) rfl e3)
  · rw [Rat.num_mkRat, if_neg (by omega)]
    exact Int.ediv_nonneg r20 (by omega)
  · rw [Rat.num_mkRat, Rat.den_mkRat, if_neg (by omega), if_neg (by omega)]
    have gp : 0 < Nat.gcd (n + 1) r2.natAbs := Nat.gcd_pos_of_pos_left _ (by omega)
    obtain ⟨u, hu⟩ := Nat.gcd_dvd_left (n + 1) r2.natAbs
    obtain ⟨v, hv⟩ := Nat.gcd_dvd_right (n + 1) r2.natAbs
    generalize Nat.gcd (n + 1) r2.natAbs = g at *
    have ev : r2 = (g * v : Nat) := by omega
    rw [ev, hu, Nat.mul_div_cancel_left u gp, Int.natCast_mul, Int.mul_ediv_cancel_left _ (by omega)]
    have h1 : g * v < g * u := by omega
    have := Nat.lt_of_mul_lt_mul_left h1
    omega
  · rw [Rat.den_mkRat, if_neg (by omega)]
    exact Nat.le_trans (Nat.div_le_self _ _) (by omega)
end
end K21

set_option Elab.async false
set_option linter.all false
set_option maxRecDepth 100000
set_option maxHeartbeats 4000000
namespace K21
open PySem PySem.Spec PyProof.Rows L2 MM PL
/-! ### sizes in the law -/
section
variable {d : Rat}
structure Dsc (d : Rat) : Prop where
  n0 : 0 ≤ d.num
  lt : d.num < d.den
  d7 : d.den ≤ 7
theorem Dsc.sz (h : Dsc d) : Sz d 3 := ⟨by have := h.n0; have := h.lt; have := h.d7; omega, by have := h.d7; omega⟩
theorem Dsc.one (h : Dsc d) : d < 1 := by
  rw [Rat.lt_iff]
  have := h.lt
  simp
  omega
theorem Dsc.zero (h : Dsc d) : 0 ≤ d := Rat.num_nonneg.mp h.n0
theorem den_mul (d : Rat) : d * (d.den : Rat) = (d.num : Rat) := by
  have e : d = (d.num : Rat) / (d.den : Rat) := by
    have := Rat.mkRat_eq_div d.num d.den
    rw [Rat.mkRat_self] at this
    exact this
  have n2 : (d.den : Rat) ≠ 0 := fun z => by
    have : d.den = 0 := by exact_mod_cast z
    exact d.den_nz this
  conv => lhs; lhs; rw [e]
  grind
theorem den_pow (d : Rat) : ∀ j : Nat, d ^ j * (d.den : Rat) ^ j = (d.num : Rat) ^ j
  | 0 => by simp [Rat.pow_zero]
  | j + 1 => by
    have := den_pow d j
    have := den_mul d
    rw [Rat.pow_succ, Rat.pow_succ, Rat.pow_succ]
    grind
theorem pow_cast (i : Int) : ∀ j : Nat, ((i ^ j : Int) : Rat) = (i : Rat) ^ j
  | 0 => by rw [Int.pow_zero, Rat.pow_zero]; rfl
  | j + 1 => by rw [Int.pow_succ, Rat.pow_succ, Rat.intCast_mul, pow_cast i j]
theorem pow_castN (i : Nat) (j : Nat) : ((i ^ j : Nat) : Rat) = (i : Rat) ^ j := by
  have := pow_cast (i : Int) j
  rw [← Int.natCast_pow, Rat.intCast_natCast, Rat.intCast_natCast] at this
  exact this
theorem sz_of_mul {x : Rat} {D : Nat} {n : Int} {m : Nat} (h : x * (D : Rat) = (n : Rat)) (h0 : D ≠ 0) (h1 : n.natAbs < 2 ^ m) (h2 : D < 2 ^ m) : Sz x m := by
  have n2 : (D : Rat) ≠ 0 := fun z => h0 (by exact_mod_cast z)
  have e : x = mkRat n D := by
    rw [Rat.mkRat_eq_div, ← h]
    grind
  rw [e]
  exact mkRat_sz h1 h2 h0
theorem pow_le7 {q : Nat} (h : q ≤ 7) : ∀ j : Nat, q ^ j ≤ 7 ^ j := fun j => Nat.pow_le_pow_left h j
theorem ds_int (hd : Dsc d) {gs : List Int} (hg : ∀ g ∈ gs, g.natAbs ≤ 99) : ∀ j, j ≤ gs.length → ∃ n : Int, Dis.ds d ((gs.map fun g : Int => (g : Rat)).take j) * (d.den : Rat) ^ j = (n : Rat) ∧ n.natAbs ≤ 99 * j * 7 ^ j
  | 0, _ => ⟨0, by rw [List.take_zero]; show (0 : Rat) * _ = 0; rw [Rat.zero_mul], by simp⟩
  | j + 1, h => by
    obtain ⟨n, e, hn⟩ := ds_int hd hg j (by omega)
    have hl : j < (gs.map fun g : Int => (g : Rat)).length := by rw [List.length_map]; omega
    have hgj := hg _ (List.getElem_mem (show j < gs.length by omega))
    refine ⟨(n + d.num ^ j * gs[j]) * d.den, ?_, ?_⟩
    · rw [Dis.ds_take d _ hl, List.getElem_map, Rat.intCast_mul, Rat.intCast_add, Rat.intCast_mul, pow_cast, Rat.intCast_natCast, ← e, ← den_pow, Rat.pow_succ]
      grind
    · rw [Int.natAbs_mul, Int.natAbs_natCast]
      have h7 := hd.d7
      have a1 := Int.natAbs_add_le n (d.num ^ j * gs[j])
      rw [Int.natAbs_mul, Int.natAbs_pow] at a1
      have a2 : d.num.natAbs ^ j ≤ 7 ^ j := pow_le7 (by have := hd.n0; have := hd.lt; omega) j
      have a3 : d.num.natAbs ^ j * gs[j].natAbs ≤ 7 ^ j * 99 := Nat.mul_le_mul a2 hgj
      have a4 : (n + d.num ^ j * gs[j]).natAbs ≤ 99 * (j + 1) * 7 ^ j := by
        have : 99 * (j + 1) * 7 ^ j = 99 * j * 7 ^ j + 7 ^ j * 99 := by
          rw [Nat.mul_add, Nat.add_mul, Nat.mul_one, Nat.mul_comm 99 (7 ^ j)]
        omega
      calc _ ≤ 99 * (j + 1) * 7 ^ j * 7 := Nat.mul_le_mul a4 h7
        _ = 99 * (j + 1) * 7 ^ (j + 1) := by rw [Nat.pow_succ, Nat.mul_assoc]
theorem le16 {j : Nat} (h : j ≤ 16) : 7 ^ j ≤ 7 ^ 16 := Nat.pow_le_pow_right (by omega) h
/-- what is summed up has less than 60 bits -/
theorem sz_fwd (hd : Dsc d) {gs : List Int} (hg : ∀ g ∈ gs, g.natAbs ≤ 99) {j : Nat} (h : j ≤ gs.length) (h16 : j ≤ 16) : Sz (Dis.ds d ((gs.map fun g : Int => (g : Rat)).take j)) 60 := by
  obtain ⟨n, e, hn⟩ := ds_int hd hg j h
  rw [← pow_castN] at e
  have p := hd.lt
  have q := hd.n0
  refine sz_of_mul e (Nat.ne_of_gt (Nat.pow_pos (by omega))) ?_ ?_
  · have a : 99 * j * 7 ^ j ≤ 99 * 16 * 7 ^ 16 := Nat.mul_le_mul (by omega) (le16 h16)
    have : 99 * 16 * 7 ^ 16 < 2 ^ 60 := by decide
    omega
  · have a : d.den ^ j ≤ 7 ^ 16 := Nat.le_trans (pow_le7 hd.d7 j) (le16 h16)
    have : 7 ^ 16 < 2 ^ 60 := by decide
    omega
/-- parts of so many bits each -/
def Sz2 (x : Rat) (a b : Nat) : Prop := x.num.natAbs < 2 ^ a ∧ x.den < 2 ^ b
theorem mkRat_sz2 {t : Int} {e a b : Nat} (h1 : t.natAbs < 2 ^ a) (h2 : e < 2 ^ b) (h0 : e ≠ 0) : Sz2 (mkRat t e) a b := by
  unfold Sz2
  rw [Rat.num_mkRat, Rat.den_mkRat, if_neg h0, if_neg h0]
  have a1 : (t / (Nat.gcd e t.natAbs : Int)).natAbs ≤ t.natAbs := Int.natAbs_ediv_le_natAbs _ _
  have a2 : e / Nat.gcd e t.natAbs ≤ e := Nat.div_le_self _ _
  exact ⟨by omega, by omega⟩
theorem Sz2.sz {x : Rat} {a b n : Nat} (h : Sz2 x a b) (ha : a ≤ n) (hb : b ≤ n) : Sz x n := ⟨Nat.lt_of_lt_of_le h.1 (Nat.pow_le_pow_right (by omega) ha), Nat.lt_of_lt_of_le h.2 (Nat.pow_le_pow_right (by omega) hb)⟩
theorem Sz2.mul (hd : Sz d 3) {x : Rat} {a b : Nat} (h : Sz2 x a b) : Sz2 (d * x) (a + 3) (b + 3) := by
  rw [Rat.mul_def']
  refine mkRat_sz2 ?_ ?_ (Nat.mul_ne_zero d.den_nz x.den_nz)
  · rw [Int.natAbs_mul, Nat.add_comm]
    exact mul_lt_pow hd.1 h.1
  · rw [Nat.add_comm]
    exact mul_lt_pow hd.2 h.2
theorem Sz2.addI {g : Int} (hg : g.natAbs ≤ 99) {x : Rat} {a b : Nat} (h : Sz2 x a b) (hab : b + 7 ≤ a) : Sz2 ((g : Rat) + x) (a + 1) b := by
  rw [Rat.add_def']
  refine mkRat_sz2 ?_ ?_ (Nat.mul_ne_zero (by show 1 ≠ 0; omega) x.den_nz)
  · show (g * (x.den : Int) + x.num * ((1 : Nat) : Int)).natAbs < 2 ^ (a + 1)
    have a1 := Int.natAbs_add_le (g * (x.den : Int)) (x.num * ((1 : Nat) : Int))
    rw [Int.natAbs_mul, Int.natAbs_mul, Int.natAbs_natCast, Int.natAbs_natCast, Nat.mul_one] at a1
    have a2 : g.natAbs * x.den < 2 ^ (7 + b) := mul_lt_pow (by omega) h.2
    have a3 : 2 ^ (7 + b) ≤ 2 ^ a := Nat.pow_le_pow_right (by omega) (by omega)
    have a4 := h.1
    rw [Nat.pow_succ]
    omega
  · show 1 * x.den < 2 ^ b
    have := h.2
    omega
end
/-! ### the law's worths -/
section
variable {f s : Mch} {h w i L : Nat} {t : List (List Int)} {d : Rat} {μ : Mem}
theorem gR_cast (t : List (List Int)) (cs : List (Int × Int)) : gR t cs = (cs.map (gnT t)).map fun g : Int => (g : Rat) := by
  unfold gR; rw [List.map_map]; rfl
theorem gnabs (ok : OkT t h w) {cs : List (Int × Int)} (hc : ∀ c ∈ cs, InC h w c) : ∀ g ∈ cs.map (gnT t), g.natAbs ≤ 99 := fun g hg => by
  obtain ⟨c, hc', rfl⟩ := List.mem_map.mp hg
  have := gn_rg ok (hc c hc')
  omega
/-- behind time i - j, gained backwards -/
def Hb (f s : Mch) (t : List (List Int)) (d : Rat) (i : Nat) (x : Rat) (j : Nat) : Rat := ((gR t (cells f s i)).drop (i - j)).foldr (fun g a => g + d * a) x
theorem Hb_zero (x : Rat) : Hb f s t d i x 0 = x := by
  unfold Hb
  rw [List.drop_of_length_le (by unfold gR; rw [List.length_map, cells_len]; omega)]
  rfl
theorem Hb_succ (x : Rat) {j : Nat} (hj : j < i) : Hb f s t d i x (j + 1) = ((gnT t (cel f s (PP f s (i - 1 - j))) : Int) : Rat) + d * Hb f s t d i x j := by
  have hl : i - (j + 1) < (gR t (cells f s i)).length := by unfold gR; rw [List.length_map, cells_len]; omega
  unfold Hb
  rw [List.drop_eq_getElem_cons hl, show i - (j + 1) + 1 = i - j by omega, List.foldr_cons, gR_at (by rw [cells_len]; omega) hl]
  have : (cells f s i)[i - (j + 1)]'(by rw [cells_len]; omega) = cel f s (PP f s (i - 1 - j)) := by
    unfold cells
    rw [List.getElem_map, List.getElem_range, show i - (j + 1) = i - 1 - j by omega]
  rw [this]
theorem Hb_all (x : Rat) : Hb f s t d i x i = Dis.ds d (gR t (cells f s i)) + d ^ i * x := by
  unfold Hb
  rw [Nat.sub_self, List.drop_zero, Dis.bwd]
  have : (gR t (cells f s i)).length = i := by unfold gR; rw [List.length_map, cells_len]
  rw [this]
theorem sz_Hb (hd : Dsc d) (ok : OkT t h w) (of : OkM f h w) (os : OkM s w h) {x : Rat} (hx : Sz2 x 118 111) : ∀ j, j ≤ i → Sz2 (Hb f s t d i x j) (118 + 4 * j) (111 + 3 * j)
  | 0, _ => by rw [Hb_zero]; exact hx
  | j + 1, hj => by
    have ih := sz_Hb hd ok of os hx j (by omega)
    rw [Hb_succ x (by omega)]
    have g := gn_rg ok (cel_in of os (i - 1 - j))
    have q := Sz2.addI (g := gnT t (cel f s (PP f s (i - 1 - j)))) (a := 118 + 4 * j + 3) (b := 111 + 3 * j + 3) (by omega) (Sz2.mul hd.sz ih) (by omega)
    rw [show 118 + 4 * (j + 1) = 118 + 4 * j + 3 + 1 by omega, show 111 + 3 * (j + 1) = 111 + 3 * j + 3 by omega]
    exact q
theorem lin_take (h : i ≤ L) : (rPs (lin f s L)).take i = (List.range i).map fun k => rP (PP f s k) := by
  show List.take i (((List.range L).map (PP f s)).map rP) = _
  rw [List.map_map, ← List.map_take, List.take_range, Nat.min_eq_left h]
  rfl
/-- (table[first[one][0]][second[two][0]], 1) -/
theorem lgain_ok {ρ : MM.Env} (ok : OkT t h w) (of : OkM f h w) (os : OkM s w h) (n : Nat) {mt ma mb mi mj : Ev MV} (h1 : mt ρ μ = .ok (rT t) μ) (h2 : ma ρ μ = .ok (rM f) μ) (h3 : mb ρ μ = .ok (rM s) μ) (h4 : mi ρ μ = .ok (.int (PP f s n).1) μ) (h5 : mj ρ μ = .ok (.int (PP f s n).2) μ) :
    mTup (mCons (mOp ixM (mOp ixM mt (mOp ixM (mOp ixM ma mi) (mRet (.int 0)))) (mOp ixM (mOp ixM mb mj) (mRet (.int 0)))) (mCons (mRet (.int 1)) mNil)) ρ μ = .ok (rq ((gnT t (cel f s (PP f s n)) : Int) : Rat)) μ := by
  have hp := P_in of os (f := f) (s := s) n
  exact tup_ok (cons_ok (gain_ok (c := cel f s (PP f s n)) ok (cel_in of os n) h1 (choice_ok hp.1 h2 h4) (choice_ok hp.2 h3 h5)) (one_ok k_ok))
theorem worths_ok (hm : okMem μ) (ok : OkT t h w) (of : OkM f h w) (os : OkM s w h) (r : rho f s i L) (hL : L ≤ 16) (hd : Dsc d) : F_law_worths [rT t, rM f, rM s, rq d] μ = .ok (rq (wth f s i L d t)) μ := by
  have hlt := r.lt
  obtain ⟨L', rfl⟩ : ∃ L', L = L' + 1 := ⟨L - 1, by omega⟩
  let ln := rPs (lin f s (L' + 1))
  let X : Mem := μ ++ [.lst ln]
  have hX : okMem X := okMem_snoc hm (nrs_Ps _)
  -- the line
  let env : Nat → MM.Env := fun j => [some (rT t), some (rM f), some (rM s), some (rq d), some (.ref μ.length), if j = 0 then none else some (.int (j - 1 : Nat)), none, none, none, none, none, none, none, if j = 0 then none else some (rP (PP f s j))]
  let mem : Nat → Mem := fun j => μ ++ [.lst (rPs (lin f s (j + 1)))]
  have okm : ∀ j, okMem (mem j) := fun j => okMem_snoc hm (nrs_Ps _)
  have last : ∀ j, ixM (mem j) (.ref μ.length) (.int (-1)) = some (rP (PP f s j)) := fun j => by
    refine (ixC (-1) get_last).trans ?_
    unfold rPs
    rw [show lin f s (j + 1) = lin f s j ++ [PP f s j] from Orb.line_succ _ _ _, List.map_append]
    unfold atI ixN
    have e : ((lin f s j).map rP ++ [PP f s j].map rP).length = j + 1 := by simp [Orb.line_len]
    rw [e, if_neg (by omega), if_pos (by omega)]
    have e2 : ((-1 : Int) + ((j + 1 : Nat) : Int)).toNat = j := by omega
    rw [e2, Option.bind_some, List.getElem?_append_right (by simp [Orb.line_len])]
    simp [Orb.line_len]
  let E2 : Option MV → Option MV → Option MV → Option MV → Option MV → Option MV → MM.Env := fun x7 x8 x9 x10 x11 x12 => [some (rT t), some (rM f), some (rM s), some (rq d), some (.ref μ.length), some (.int L'), some (.lst ((List.range (L' + 1 - i)).map fun k => rP (PP f s (i + k)))), x7, x8, x9, x10, x11, x12, some (rP (PP f s (L' + 1)))]
  have inr : ∀ c ∈ ring f s i (L' + 1), InC h w c := fun c hc => by
    obtain ⟨k, _, rfl⟩ := List.mem_map.mp hc
    exact cel_in of os (i + k)
  have rl : (ring f s i (L' + 1)).length = L' + 1 - i := by simp [ring]
  have gl : (gR t (ring f s i (L' + 1))).length = L' + 1 - i := by unfold gR; rw [List.length_map, rl]
  have rget : ∀ j (hj : j < (gR t (ring f s i (L' + 1))).length), (gR t (ring f s i (L' + 1)))[j] = ((gnT t (cel f s (PP f s (i + j))) : Int) : Rat) := fun j hj => by
    rw [gR_at (by omega) hj]
    simp [ring]
  have zT : ∀ j, j ≤ L' + 1 - i → Sz (Dis.ds d ((gR t (ring f s i (L' + 1))).take j)) 60 := fun j hj => by
    rw [gR_cast]
    exact sz_fwd hd (gnabs ok inr) (by rw [List.length_map, rl]; exact hj) (by omega)
  let tot : Nat → Rat := fun j => Dis.ds d ((gR t (ring f s i (L' + 1))).take j)
  have key : M_law_worths [some (rT t), some (rM f), some (rM s), some (rq d), none, none, none, none, none, none, none, none, none, none] μ = .rt (rq (wth f s i (L' + 1) d t)) X := by
    unfold M_law_worths
    refine seq_step (ρ1 := env 0) (μ1 := mem 0) (asg_ok (lstC_ok (one_ok (tup_ok (cons_ok k_ok (one_ok k_ok))))) rfl) ?_
    refine seq_step (ρ1 := [some (rT t), some (rM f), some (rM s), some (rq d), some (.ref μ.length), some (.int L'), none, none, none, none, none, none, none, some (rP (PP f s (L' + 1)))]) (μ1 := X) (sfor_of (mrng1 (n := 40) (one_ok k_ok) (by decide)) (forl_brk env mem L' 40 (by omega) (fun j hj => ?_) ?_)) ?_
    · have hp := P_in of os (f := f) (s := s) j
      have em : mem (j + 1) = μ ++ [.lst (rPs (lin f s (j + 1)) ++ [rP (PP f s (j + 1))])] := by
        show μ ++ [.lst (rPs (lin f s (j + 1 + 1)))] = _
        rw [show lin f s (j + 1 + 1) = lin f s (j + 1) ++ [PP f s (j + 1)] from Orb.line_succ _ _ _]
        unfold rPs
        rw [List.map_append]; rfl
      refine ⟨_, _, rfl, ?_⟩
      rw [em]
      refine seq_step (ρ1 := [some (rT t), some (rM f), some (rM s), some (rq d), some (.ref μ.length), some (.int j), none, none, none, none, none, none, none, some (rP (PP f s (j + 1)))]) (μ1 := mem j) (asg_ok (call_ok (cons_ok (var_ok rfl) (cons_ok (var_ok rfl) (one_ok (op_ok (var_ok rfl) (un_ok k_ok rfl) (last j))))) rfl (go_ok (p := PP f s j) (okm j) of os hp)) rfl) ?_
      refine seq_step (if_n (t_ok (op_ok (var_ok rfl) (var_ok rfl) (dtP.in_f (by omega) (lstC_of get_last) (r.notin (n := j + 1) (by omega)))))) ?_
      exact appL_s (var_ok rfl) (var_ok rfl) (by unfold rPs; rw [List.length_map, Orb.line_len]; omega)
    · have hp := P_in of os (f := f) (s := s) L'
      refine ⟨_, _, rfl, ?_⟩
      refine seq_step (ρ1 := [some (rT t), some (rM f), some (rM s), some (rq d), some (.ref μ.length), some (.int L'), none, none, none, none, none, none, none, some (rP (PP f s (L' + 1)))]) (μ1 := mem L') (asg_ok (call_ok (cons_ok (var_ok rfl) (cons_ok (var_ok rfl) (one_ok (op_ok (var_ok rfl) (un_ok k_ok rfl) (last L'))))) rfl (go_ok (p := PP f s L') (okm L') of os hp)) rfl) ?_
      have bkq : ∀ {a b : SM} {ρ ρ1 : MM.Env} {μ μ1 : Mem}, a ρ μ = .bk ρ1 μ1 → sSeq a b ρ μ = .bk ρ1 μ1 := fun q => by unfold sSeq; rw [q]
      exact bkq (if_t (t_ok (op_ok (var_ok rfl) (var_ok rfl) (dtP.in_t (by omega) (lstC_of get_last) r.isin))) rfl)
    have ixi : idxM X (.ref μ.length) [rP (PP f s (L' + 1))] = some (.int i, X) := (dtP.idx (by omega) (lstC_of get_last) r.isin).trans (congrArg (fun n : Nat => some (MV.int n, X)) r.nthL)
    refine seq_step (ρ1 := E2 none none none none none none) (μ1 := X) (asg_ok (slice_ok (var_ok rfl) (part_ok (meth_ok (var_ok rfl) (lstC_of get_last) (one_ok (var_ok rfl)) ixi)) nopart_ok ((sliceL (lstC_of get_last)).trans ?_)) rfl) ?_
    · rw [cut_from, lin_drop]
    refine seq_step (ρ1 := E2 (some (rq 1)) none none none none none) (μ1 := X) (asg_ok (tup_ok (cons_ok k_ok (one_ok k_ok))) rfl) ?_
    let env3 : Nat → MM.Env := fun j => E2 (some (rq (d ^ j))) (some (rq (tot j))) (if j = 0 then none else some (.int (PP f s (i + (j - 1))).1)) (if j = 0 then none else some (.int (PP f s (i + (j - 1))).2)) none none
    refine seq_step (ρ1 := env3 0) (μ1 := X) ((asg_ok (tup_ok (cons_ok k_ok (one_ok k_ok))) rfl).trans ?_) ?_
    · show SOut.nx (E2 (some (rq 1)) (some (rq 0)) none none none none) X = .nx (E2 (some (rq (d ^ 0))) (some (rq (Dis.ds d ((gR t (ring f s i (L' + 1))).take 0)))) none none none none) X
      rw [Rat.pow_zero, List.take_zero]; rfl
    refine seq_step (ρ1 := env3 (L' + 1 - i)) (μ1 := X) (sfor_of (t := ⟨(List.range (L' + 1 - i)).map fun k => rP (PP f s (i + k)), []⟩) (mitm (var_ok rfl) rfl) ?_) ?_
    · have := forl_list (g := gT ((gN 9) :: ((gN 10) :: []))) (xs0 := (List.range (L' + 1 - i)).map fun k => rP (PP f s (i + k))) (b := (sSeq (sAsg (mCall 2 F_law_plus (mCons (mVar 8) (mCons (mCall 2 F_law_times (mCons (mVar 7) (mCons (mTup (mCons (mOp ixM (mOp ixM (mVar 0) (mOp ixM (mOp ixM (mVar 1) (mVar 9)) (mRet (.int 0)))) (mOp ixM (mOp ixM (mVar 2) (mVar 10)) (mRet (.int 0)))) (mCons (mRet (.int 1)) mNil))) mNil))) mNil))) (gN 8))
  (sAsg (mCall 2 F_law_times (mCons (mVar 7) (mCons (mVar 3) mNil))) (gN 7)))) (fun k => rP (PP f s (i + k))) (List.range (L' + 1 - i)) env3 (fun _ => X) (fun j hj => by
        rw [List.length_range] at hj
        rw [List.getElem_range]
        refine ⟨E2 (some (rq (d ^ j))) (some (rq (tot j))) (some (.int (PP f s (i + j)).1)) (some (.int (PP f s (i + j)).2)) none none, X, rfl, ?_⟩
        have zg := gn_rg ok (cel_in of os (f := f) (s := s) (i + j))
        have zG : Sz ((gnT t (cel f s (PP f s (i + j))) : Int) : Rat) 7 := sz_int (by omega) (by omega)
        have zw := (sz_pow hd.sz j).mono (m := 49) (by omega)
        have T1 := ltimes_ok hX zw zG (by omega)
        have P1 := lplus_ok hX (zT j (by omega)) (zw.mul zG) (by omega)
        have T2 := ltimes_ok hX zw hd.sz (by omega)
        rw [← Rat.pow_succ] at T2
        have e := Dis.ds_take d (gR t (ring f s i (L' + 1))) (j := j) (by omega)
        rw [rget j (by omega)] at e
        rw [← e] at P1
        refine seq_step (asg_ok (call_ok (cons_ok (var_ok rfl) (one_ok (call_ok (cons_ok (var_ok rfl) (one_ok (lgain_ok ok of os (i + j) (var_ok rfl) (var_ok rfl) (var_ok rfl) (var_ok rfl) (var_ok rfl)))) rfl T1))) rfl P1) rfl) ?_
        exact asg_ok (call_ok (cons_ok (var_ok rfl) (one_ok (var_ok rfl))) rfl T2) rfl)
      rw [List.length_range] at this
      exact this
    have zw := (sz_pow hd.sz (L' + 1 - i)).mono (m := 49) (by omega)
    have P2 := lplus_ok hX sz_one zw.neg (by omega)
    have zr := sz_one.add zw.neg
    have hp := rest_pos hd.zero hd.one (n := L' + 1 - i) (by omega)
    obtain ⟨x9, x10, ee⟩ : ∃ x9 x10, env3 (L' + 1 - i) = E2 (some (rq (d ^ (L' + 1 - i)))) (some (rq (tot (L' + 1 - i)))) x9 x10 none none := ⟨_, _, rfl⟩
    rw [ee]
    have negq : MV.tup [.int (0 - (d ^ (L' + 1 - i)).num), .int (d ^ (L' + 1 - i)).den] = rq (-(d ^ (L' + 1 - i))) := by
      unfold rq
      rw [Rat.neg_num, Rat.neg_den, Int.zero_sub]
    refine seq_step (ρ1 := E2 (some (rq (d ^ (L' + 1 - i)))) (some (rq (tot (L' + 1 - i)))) x9 x10 (some (rq (1 + -(d ^ (L' + 1 - i))))) none) (μ1 := X) (asg_ok (call_ok (cons_ok (tup_ok (cons_ok k_ok (one_ok k_ok))) (one_ok (tup_ok (cons_ok (op_ok k_ok (op_ok (var_ok rfl) k_ok rfl) rfl) (one_ok (op_ok (var_ok rfl) k_ok rfl)))))) rfl (negq ▸ P2)) rfl) ?_
    have zt := zT (L' + 1 - i) (Nat.le_refl _)
    obtain ⟨h0, eh0⟩ : ∃ h0 : Rat, h0 = tot (L' + 1 - i) / (1 + -(d ^ (L' + 1 - i))) := ⟨_, rfl⟩
    have F1 : F_law_fraction [.int ((tot (L' + 1 - i)).num * (1 + -(d ^ (L' + 1 - i))).den), .int (((tot (L' + 1 - i)).den : Int) * (1 + -(d ^ (L' + 1 - i))).num)] X = .ok (rq h0) X := by
      have hdd : 0 < ((tot (L' + 1 - i)).den : Int) * (1 + -(d ^ (L' + 1 - i))).num := Int.mul_pos (den_pos _) hp
      have := lfrac_ok hX ((tot (L' + 1 - i)).num * (1 + -(d ^ (L' + 1 - i))).den) _ hdd (by
        rw [Int.natAbs_mul, den_int]
        exact Nat.lt_of_lt_of_le (mul_lt_pow zt.2 zr.1) (Nat.pow_le_pow_right (by omega) (by omega)))
      rw [this, qv_rat2 _ _ hdd, eh0, rat_div hp, Int.natAbs_mul, den_int, show (1 + -(d ^ (L' + 1 - i))).num.natAbs = (1 + -(d ^ (L' + 1 - i))).num.toNat by omega]
    have k1 := okMul_of (i := (tot (L' + 1 - i)).num) (j := (1 + -(d ^ (L' + 1 - i))).den) zt.1 (by rw [den_int]; exact zr.2) (by omega)
    have k2 := okMul_of (i := (tot (L' + 1 - i)).den) (j := (1 + -(d ^ (L' + 1 - i))).num) (by rw [den_int]; exact zt.2) zr.1 (by omega)
    refine seq_step (ρ1 := E2 (some (rq (d ^ (L' + 1 - i)))) (some (rq (tot (L' + 1 - i)))) x9 x10 (some (rq (1 + -(d ^ (L' + 1 - i))))) (some (rq h0))) (μ1 := X) (asg_ok (call_ok (cons_ok (op_ok (op_ok (var_ok rfl) k_ok rfl) (op_ok (var_ok rfl) k_ok rfl) (mulI' k1)) (one_ok (op_ok (op_ok (var_ok rfl) k_ok rfl) (op_ok (var_ok rfl) k_ok rfl) (mulI' k2)))) rfl F1) rfl) ?_
    have zh : Sz2 h0 118 111 := by
      have := zt.div zr hp
      rw [← eh0] at this
      exact ⟨Nat.lt_of_lt_of_le this.1 (Nat.pow_le_pow_right (by omega) (by omega)), Nat.lt_of_lt_of_le this.2 (Nat.pow_le_pow_right (by omega) (by omega))⟩
    let env4 : Nat → MM.Env := fun j => E2 (some (rq (d ^ (L' + 1 - i)))) (some (rq (tot (L' + 1 - i)))) (if j = 0 then x9 else some (.int (PP f s (i - 1 - (j - 1))).1)) (if j = 0 then x10 else some (.int (PP f s (i - 1 - (j - 1))).2)) (some (rq (1 + -(d ^ (L' + 1 - i))))) (some (rq (Hb f s t d i h0 j)))
    have e40 : E2 (some (rq (d ^ (L' + 1 - i)))) (some (rq (tot (L' + 1 - i)))) x9 x10 (some (rq (1 + -(d ^ (L' + 1 - i))))) (some (rq h0)) = env4 0 := by
      show _ = E2 _ _ x9 x10 _ (some (rq (Hb f s t d i h0 0)))
      rw [Hb_zero]
    rw [e40]
    refine seq_step (ρ1 := env4 i) (μ1 := X) (sfor_of (t := ⟨(List.range i).reverse.map fun k => rP (PP f s k), []⟩) (mitm (un_ok (slice_ok (var_ok rfl) nopart_ok (part_ok (meth_ok (var_ok rfl) (lstC_of get_last) (one_ok (var_ok rfl)) ixi)) (sliceL (lstC_of get_last))) rfl) ?_) ?_) ?_
    · rw [cut_to, lin_take (by omega)]
      show some (⟨((List.range i).map fun k => rP (PP f s k)).reverse, []⟩ : Itm) = _
      rw [← List.map_reverse]
    · have := forl_list (g := gT ((gN 9) :: ((gN 10) :: []))) (xs0 := (List.range i).reverse.map fun k => rP (PP f s k)) (b := (sAsg (mCall 2 F_law_plus (mCons (mTup (mCons (mOp ixM (mOp ixM (mVar 0) (mOp ixM (mOp ixM (mVar 1) (mVar 9)) (mRet (.int 0)))) (mOp ixM (mOp ixM (mVar 2) (mVar 10)) (mRet (.int 0)))) (mCons (mRet (.int 1)) mNil))) (mCons (mCall 2 F_law_times (mCons (mVar 3) (mCons (mVar 12) mNil))) mNil))) (gN 12))) (fun k => rP (PP f s k)) (List.range i).reverse env4 (fun _ => X) (fun j hj => by
        rw [List.length_reverse, List.length_range] at hj
        rw [List.getElem_reverse, List.getElem_range, List.length_range]
        refine ⟨E2 (some (rq (d ^ (L' + 1 - i)))) (some (rq (tot (L' + 1 - i)))) (some (.int (PP f s (i - 1 - j)).1)) (some (.int (PP f s (i - 1 - j)).2)) (some (rq (1 + -(d ^ (L' + 1 - i))))) (some (rq (Hb f s t d i h0 j))), X, rfl, ?_⟩
        have zj := sz_Hb hd ok of os zh (i := i) j (by omega)
        have zg := gn_rg ok (cel_in of os (f := f) (s := s) (i - 1 - j))
        have zG : Sz ((gnT t (cel f s (PP f s (i - 1 - j))) : Int) : Rat) 7 := sz_int (by omega) (by omega)
        have T1 := ltimes_ok hX hd.sz (zj.sz (n := 178) (by omega) (by omega)) (by omega)
        have P1 := lplus_ok hX zG ((zj.mul hd.sz).sz (n := 181) (by omega) (by omega)) (by omega)
        rw [← Hb_succ h0 hj] at P1
        exact asg_ok (call_ok (cons_ok (lgain_ok ok of os (i - 1 - j) (var_ok rfl) (var_ok rfl) (var_ok rfl) (var_ok rfl) (var_ok rfl)) (one_ok (call_ok (cons_ok (var_ok rfl) (one_ok (var_ok rfl))) rfl T1))) rfl P1) rfl)
      rw [List.length_reverse, List.length_range] at this
      exact this
    · refine ret_s ((var_ok rfl).trans ?_)
      rw [Hb_all, eh0]
      show Out.ok (rq (_ + d ^ i * (Dis.ds d ((gR t (ring f s i (L' + 1))).take (L' + 1 - i)) / _))) X = _
      rw [List.take_of_length_le (by omega)]
      rfl
  exact run_data key rfl hm
end
/-! ### the table as one sees it -/
section
variable {a b t : List (List Int)} {h w : Nat} {μ : Mem}
theorem lseen_ok (hm : okMem μ) (ob : OkT b h w) {who : Int} : F_law_seen [rG a b, .int who] μ = .ok (rT (if who = 0 then a else cols b w)) μ := by
  match b, ob with
  | [], ob => exact absurd ob.hl (by have := ob.h1; simp; omega)
  | r0 :: b', ob =>
    have l0 : r0.length = w := ob.rl r0 List.mem_cons_self
    have w1 := ob.w1
    have h1 := ob.h1
    have hl := ob.hl
    refine run_rt0 (show M_law_seen [some (rG a (r0 :: b')), some (.int who), none, none] μ = _ from ?_) (nr_T _) hm
    unfold M_law_seen
    by_cases e : who = 0
    · rw [if_pos e]
      exact seq_rt (if_t (t_ok (op_ok (var_ok rfl) k_ok ((eqI _ _ _).trans (by rw [decide_eq_true e])))) (ret_s (op_ok (var_ok rfl) k_ok (ixG0 μ _ _))))
    · rw [if_neg e]
      refine seq_step (if_n (t_ok (op_ok (var_ok rfl) k_ok ((eqI _ _ _).trans (by rw [decide_eq_false e]))))) (ret_s (cb_ok (one_ok (mcomp_mapR (α := Nat) (fun j => MV.int (0 + (j : Int))) (fun j => rR ((r0 :: b').map fun r => r.getD j 0)) (List.range w)
        (mrng1 (n := w) (one_ok (cb_ok (one_ok (op_ok (op_ok (var_ok rfl) k_ok (ixG1 μ _ _)) k_ok (ixTT μ _ _))) ((lenR μ _).trans (by rw [l0])))) ⟨by omega, by omega⟩) (le_size (by rw [List.length_range]; omega)) (fun j hj => ⟨_, rfl, cb_ok (one_ok (mcomp_mapR (α := List Int) rR (fun r => .int (r.getD j 0)) (r0 :: b') (mitm (op_ok (var_ok rfl) k_ok (ixG1 μ _ _)) rfl) (le_size (by omega)) (fun r hr => ⟨_, rfl, op_ok (var_ok rfl) (var_ok rfl) (ixR μ r j (by rw [ob.rl r hr]; exact List.mem_range.mp hj))⟩) rfl)) ?_⟩) rfl)) ?_))
      · rw [tupM_l]
        unfold rR
        rw [List.map_map]; rfl
      · rw [tupM_l]
        unfold rT cols
        rw [List.map_map]; rfl
end
end K21

set_option Elab.async false
set_option linter.all false
set_option maxRecDepth 100000
set_option maxHeartbeats 4000000
namespace K21
open PySem PySem.Spec PyProof.Rows L2 MM PL
noncomputable section
end
theorem sd_rq {x : Rat} (h : Sz x 182) : Sd 200 1 2 (rq x) :=
  Sd.tup (k := 0) (n := 0) (sd_two (Sd.int (b := 182) h.1 (by omega) (by omega) (by omega)) (Sd.int (b := 182) (by rw [den_int]; exact h.2) (by omega) (by omega) (by omega)))
theorem sd_ii {i j : Int} (h1 : i.natAbs < 2 ^ 20) (h2 : j.natAbs < 2 ^ 20) : Sd 200 1 2 (.tup [.int i, .int j]) :=
  Sd.tup (k := 0) (n := 0) (sd_two (Sd.int (b := 20) h1 (by omega) (by omega) (by omega)) (Sd.int (b := 20) h2 (by omega) (by omega) (by omega)))
theorem law_same_ok {μ : Mem} (hm : okMem μ) {d : MV} {k n : Nat} (h : Sd 200 k n d) (hk : k ≤ 50) (hn : n ≤ 10000) : F_law_same [d, d] μ = .ok (.bl true) μ :=
  same_ok (B := 200) hm h hk (by omega) (by
    have : (2100000 : Nat) ≤ sizeLine := by decide
    have : (200 + 2) * (n + 1) ≤ (200 + 2) * 10001 := Nat.mul_le_mul_left _ (by omega)
    omega)
section
variable {f s : Mch} {h w i L : Nat} {a b : List (List Int)} {d : Rat} {xs ns : List Int} {rest : Mem}
theorem sum_bound {t : List (List Int)} (ok : OkT t h w) : ∀ (cs : List (Int × Int)), (∀ c ∈ cs, InC h w c) → (sumT t cs).natAbs ≤ 99 * cs.length
  | [], _ => by simp [sumT]
  | c :: cs, hc => by
    have ih := sum_bound ok cs fun x hx => hc x (List.mem_cons_of_mem _ hx)
    have g := gn_rg ok (hc c List.mem_cons_self)
    unfold sumT at ih ⊢
    rw [List.map_cons, List.sum_cons, List.length_cons]
    omega
theorem sd_qv {t : List (List Int)} (ok : OkT t h w) {cs : List (Int × Int)} (hc : ∀ c ∈ cs, InC h w c) (hl : cs.length ≤ 16) {p : Nat} (p0 : 0 < p) (p1 : p ≤ 16) : Sd 200 1 2 (qv (sumT t cs) (p : Int)) := by
  rw [qv_rat _ _ (by omega)]
  have := sum_bound ok cs hc
  refine sd_rq (Sz.mono (n := 20) (mkRat_sz ?_ ?_ (by omega)) (by omega))
  · have : (2 : Nat) ^ 20 = 1048576 := by decide
    omega
  · have : (2 : Nat) ^ 20 = 1048576 := by decide
    omega
theorem ring_in (of : OkM f h w) (os : OkM s w h) : ∀ c ∈ ring f s i L, InC h w c := fun c hc => by
  obtain ⟨k, _, rfl⟩ := List.mem_map.mp hc
  exact cel_in of os (i + k)
theorem ring_len : (ring f s i L).length = L - i := by simp [ring]
theorem sz_wth {t : List (List Int)} (ok : OkT t h w) (of : OkM f h w) (os : OkM s w h) (r : rho f s i L) (hL : L ≤ 16) (hd : Dsc d) : Sz (wth f s i L d t) 182 := by
  have hlt := r.lt
  have z1 : Sz (Dis.ds d (gR t (ring f s i L))) 60 := by
    have := sz_fwd hd (gnabs ok (ring_in (i := i) (L := L) of os)) (j := L - i) (by rw [List.length_map, ring_len]; exact Nat.le_refl _) (by omega)
    rw [← gR_cast, List.take_of_length_le (by unfold gR; rw [List.length_map, ring_len]; exact Nat.le_refl _)] at this
    exact this
  have zw := (sz_pow hd.sz (L - i)).mono (m := 49) (by omega)
  have zr := sz_one.add zw.neg
  have hp := rest_pos hd.zero hd.one (n := L - i) (by omega)
  have zh := z1.div zr hp
  have zh2 : Sz2 (Dis.ds d (gR t (ring f s i L)) / (1 + -(d ^ (L - i)))) 118 111 := ⟨Nat.lt_of_lt_of_le zh.1 (Nat.pow_le_pow_right (by omega) (by omega)), Nat.lt_of_lt_of_le zh.2 (Nat.pow_le_pow_right (by omega) (by omega))⟩
  have := (sz_Hb hd ok of os zh2 (i := i) i (Nat.le_refl _)).sz (n := 182) (by omega) (by omega)
  rw [Hb_all] at this
  exact this
theorem ref3 (μ : Mem) : neM μ (.lst [.tup [.str "refused"], .tup [.str "refused"], .tup [.str "refused"]]) (.lst [.tup [.str "refused"], .tup [.str "refused"], .tup [.str "refused"]]) = some (.bl false) :=
  ne_refl (B := 200) (k := 2) (n := 27) (Sd.lst (k := 1) (n := 8) fun x hx => by
    have : x = .tup [.str "refused"] := by simpa using hx
    rw [this]; exact sd_ref) (by omega)
theorem ref6 (μ : Mem) : neM μ (.lst [.tup [.str "refused"], .tup [.str "refused"], .tup [.str "refused"], .tup [.str "refused"], .tup [.str "refused"], .tup [.str "refused"]]) (.lst [.tup [.str "refused"], .tup [.str "refused"], .tup [.str "refused"], .tup [.str "refused"], .tup [.str "refused"], .tup [.str "refused"]]) = some (.bl false) :=
  ne_refl (B := 200) (k := 2) (n := 54) (Sd.lst (k := 1) (n := 8) fun x hx => by
    have : x = .tup [.str "refused"] := by simpa using hx
    rw [this]; exact sd_ref) (by omega)
theorem mul3 (μ : Mem) : mulM2 μ (.lst [.tup [.str "refused"]]) (.int 3) = some (.lst [.tup [.str "refused"], .tup [.str "refused"], .tup [.str "refused"]]) := by
  show ((some [MV.tup [.str "refused"]]).bind fun xs => if -(2 ^ 63) ≤ (3 : Int) ∧ (3 : Int) < 2 ^ 63 ∧ xs.length * (3 : Int).toNat ≤ sizeLine then some (MV.lst (List.replicate (3 : Int).toNat xs).flatten) else none) = _
  rw [Option.bind_some, if_pos ⟨by decide, by decide, le_size0 (by decide)⟩]; rfl
theorem mul6 (μ : Mem) : mulM2 μ (.lst [.tup [.str "refused"]]) (.int 6) = some (.lst [.tup [.str "refused"], .tup [.str "refused"], .tup [.str "refused"], .tup [.str "refused"], .tup [.str "refused"], .tup [.str "refused"]]) := by
  show ((some [MV.tup [.str "refused"]]).bind fun xs => if -(2 ^ 63) ≤ (6 : Int) ∧ (6 : Int) < 2 ^ 63 ∧ xs.length * (6 : Int).toNat ≤ sizeLine then some (MV.lst (List.replicate (6 : Int).toNat xs).flatten) else none) = _
  rw [Option.bind_some, if_pos ⟨by decide, by decide, le_size0 (by decide)⟩]; rfl
end
end K21

set_option Elab.async false
set_option linter.all false
set_option maxRecDepth 100000
set_option maxHeartbeats 4000000
namespace K21
open PySem PySem.Spec PyProof.Rows L2 MM PL
/-! ### one who plans against a machine -/
section
variable {m : Mch} {t : List (List Int)} {h w : Nat} {d : Rat} {μ : Mem}
/-- plans: a choice for each state -/
def OkP (m : Mch) (h : Nat) (p : List Nat) : Prop := p.length = m.length ∧ ∀ x ∈ p, x < h
def at_ (p : List Nat) (s : Nat) : Nat := p.getD s 0
/-- the next state, what is gained -/
def nxt (m : Mch) (s o : Nat) : Nat := mvN m s (o : Int)
def gan (t : List (List Int)) (m : Mch) (s o : Nat) : Int := gnT t ((o : Int), chN m s)
def stpP (m : Mch) (p : List Nat) (s : Nat) : Nat := nxt m s (at_ p s)
def gamP (t : List (List Int)) (m : Mch) (p : List Nat) (s : Nat) : Rat := ((gan t m s (at_ p s) : Int) : Rat)
def rNs (p : List Nat) : List MV := p.map fun n => .int (n : Nat)
theorem at_lt {p : List Nat} (hp : OkP m h p) {s : Nat} (hs : s < m.length) : at_ p s < h := by
  unfold at_
  rw [List.getD_eq_getElem?_getD, List.getElem?_eq_getElem (by rw [hp.1]; exact hs)]
  exact hp.2 _ (List.getElem_mem _)
theorem nxt_lt (om : OkM m w h) {s o : Nat} (hs : s < m.length) (ho : o < h) : nxt m s o < m.length := (om.m hs (j := (o : Int)) (by omega) (by omega)).1
theorem stpP_lt (om : OkM m w h) {p : List Nat} (hp : OkP m h p) {s : Nat} (hs : s < m.length) : stpP m p s < m.length := nxt_lt om hs (at_lt hp hs)
theorem PP_lt (om : OkM m w h) {p : List Nat} (hp : OkP m h p) {s : Nat} (hs : s < m.length) : ∀ n, Orb.P (stpP m p) s n < m.length
  | 0 => hs
  | n + 1 => stpP_lt om hp (PP_lt om hp hs n)
theorem cell_in (om : OkM m w h) {s o : Nat} (hs : s < m.length) (ho : o < h) : InC h w ((o : Int), chN m s) := by
  have := om.c hs
  exact ⟨by show (0 : Int) ≤ (o : Int); omega, by show (o : Int) < h; omega, this.1, this.2⟩
theorem rho_at (om : OkM m w h) {p : List Nat} (hp : OkP m h p) {s : Nat} (hs : s < m.length) : ∃ i L, L ≤ m.length ∧ Orb.Rho (stpP m p) s i L :=
  Orb.rho_ex (N := m.length) (fun x => x) (PP_lt om hp hs) fun _ _ e => e
theorem dtN : Dt 0 (fun n : Nat => MV.int n) (fun n => PyData.int n) := Dt.nat
/-- what a plan is worth from s on: by any ring that is there -/
noncomputable def valP (t : List (List Int)) (m : Mch) (d : Rat) (p : List Nat) (s : Nat) : Rat :=
  open Classical in if q : ∃ il : Nat × Nat, Orb.Rho (stpP m p) s il.1 il.2 then Dis.cf (stpP m p) (gamP t m p) d s (Classical.choose q).1 (Classical.choose q).2 else 0
theorem valP_eq {p : List Nat} {s i L : Nat} (r : Orb.Rho (stpP m p) s i L) : valP t m d p s = Dis.cf (stpP m p) (gamP t m p) d s i L := by
  have q : ∃ il : Nat × Nat, Orb.Rho (stpP m p) s il.1 il.2 := ⟨(i, L), r⟩
  unfold valP
  rw [dif_pos q]
  obtain ⟨e1, e2⟩ := (Classical.choose_spec q).uniq r
  rw [e1, e2]
theorem valP_step (h0 : 0 ≤ d) (h1 : d < 1) (om : OkM m w h) {p : List Nat} (hp : OkP m h p) {s : Nat} (hs : s < m.length) : valP t m d p s = gamP t m p s + d * valP t m d p (stpP m p s) := by
  obtain ⟨i, L, _, r⟩ := rho_at om hp hs
  obtain ⟨i', L', _, r'⟩ := rho_at om hp (stpP_lt om hp hs)
  rw [valP_eq r, valP_eq r']
  exact Dis.cf_step h0 h1 r r'
/-- cells from s on -/
def cellsP (m : Mch) (p : List Nat) (s a n : Nat) : List (Int × Int) := (List.range n).map fun k => ((at_ p (Orb.P (stpP m p) s (a + k)) : Int), chN m (Orb.P (stpP m p) s (a + k)))
theorem cellsP_len (p : List Nat) (s a n : Nat) : (cellsP m p s a n).length = n := by simp [cellsP]
theorem cellsP_in (om : OkM m w h) {p : List Nat} (hp : OkP m h p) {s : Nat} (hs : s < m.length) (a n : Nat) : ∀ c ∈ cellsP m p s a n, InC h w c := fun c hc => by
  obtain ⟨k, _, rfl⟩ := List.mem_map.mp hc
  have q := PP_lt om hp hs (a + k)
  exact cell_in om q (at_lt hp q)
theorem gR_cellsP (p : List Nat) (s a n : Nat) : gR t (cellsP m p s a n) = (List.range n).map fun k => gamP t m p (Orb.P (stpP m p) s (a + k)) := by
  unfold gR cellsP
  rw [List.map_map]
  rfl
theorem cf_cells {p : List Nat} {s i L : Nat} : Dis.cf (stpP m p) (gamP t m p) d s i L = Dis.ds d (gR t (cellsP m p s 0 i)) + d ^ i * (Dis.ds d (gR t (cellsP m p s i (L - i))) / (1 + -(d ^ (L - i)))) := by
  rw [gR_cellsP, gR_cellsP]
  unfold Dis.cf
  simp only [Nat.zero_add]
/-- sizes: few states -/
theorem sz_cf (hd : Dsc d) (ok : OkT t h w) (om : OkM m w h) {p : List Nat} (hp : OkP m h p) {s i L : Nat} (hs : s < m.length) (r : Orb.Rho (stpP m p) s i L) (hL : L ≤ 4) : Sz (Dis.cf (stpP m p) (gamP t m p) d s i L) 60 := by
  have hlt := r.lt
  have fw : ∀ a n, n ≤ 4 → Sz (Dis.ds d (gR t (cellsP m p s a n))) 20 := fun a n hn => by
    obtain ⟨z, e, hz⟩ := ds_int hd (gnabs ok (cellsP_in om hp hs a n)) n (by rw [List.length_map, cellsP_len]; exact Nat.le_refl _)
    rw [← gR_cast, List.take_of_length_le (by unfold gR; rw [List.length_map, cellsP_len]; exact Nat.le_refl _), ← pow_castN] at e
    have q0 := hd.lt
    have q1 := hd.n0
    refine sz_of_mul e (Nat.ne_of_gt (Nat.pow_pos (by omega))) ?_ ?_
    · have a1 : 99 * n * 7 ^ n ≤ 99 * 4 * 7 ^ 4 := Nat.mul_le_mul (by omega) (Nat.pow_le_pow_right (by omega) hn)
      have : 99 * 4 * 7 ^ 4 < 2 ^ 20 := by decide
      omega
    · have a1 : d.den ^ n ≤ 7 ^ 4 := Nat.le_trans (pow_le7 hd.d7 n) (Nat.pow_le_pow_right (by omega) hn)
      have : 7 ^ 4 < 2 ^ 20 := by decide
      omega
  have zw := (sz_pow hd.sz (L - i)).mono (m := 13) (by omega)
  have zr := sz_one.add zw.neg
  have hp' := rest_pos hd.zero hd.one (n := L - i) (by omega)
  have zh := (fw i (L - i) (by omega)).div zr hp'
  rw [cf_cells]
  have key : ∀ j, j ≤ i → Sz2 (((gR t (cellsP m p s 0 i)).drop (i - j)).foldr (fun g a => g + d * a) (Dis.ds d (gR t (cellsP m p s i (L - i))) / (1 + -(d ^ (L - i))))) (42 + 4 * j) (35 + 3 * j) := by
    intro j
    induction j with
    | zero =>
      intro _
      rw [List.drop_of_length_le (by unfold gR; rw [List.length_map, cellsP_len]; omega)]
      exact ⟨Nat.lt_of_lt_of_le zh.1 (Nat.pow_le_pow_right (by omega) (by omega)), Nat.lt_of_lt_of_le zh.2 (Nat.pow_le_pow_right (by omega) (by omega))⟩
    | succ j ih =>
      intro hj
      have ih := ih (by omega)
      have hl : i - (j + 1) < (gR t (cellsP m p s 0 i)).length := by unfold gR; rw [List.length_map, cellsP_len]; omega
      rw [List.drop_eq_getElem_cons hl, show i - (j + 1) + 1 = i - j by omega, List.foldr_cons, gR_at (by rw [cellsP_len]; omega) hl]
      have g := gn_rg ok (cellsP_in om hp hs 0 i _ (List.getElem_mem (show i - (j + 1) < (cellsP m p s 0 i).length by rw [cellsP_len]; omega)))
      have q := Sz2.addI (g := gnT t ((cellsP m p s 0 i)[i - (j + 1)]'(by rw [cellsP_len]; omega))) (a := 42 + 4 * j + 3) (b := 35 + 3 * j + 3) (by omega) (Sz2.mul hd.sz ih) (by omega)
      rw [show 42 + 4 * (j + 1) = 42 + 4 * j + 3 + 1 by omega, show 35 + 3 * (j + 1) = 35 + 3 * j + 3 by omega]
      exact q
  have q := (key i (Nat.le_refl _)).sz (n := 60) (by omega) (by omega)
  rw [Nat.sub_self, List.drop_zero, Dis.bwd, show (gR t (cellsP m p s 0 i)).length = i by unfold gR; rw [List.length_map, cellsP_len]] at q
  exact q
end
end K21

set_option Elab.async false
set_option linter.all false
set_option maxRecDepth 100000
set_option maxHeartbeats 4000000
namespace K21
open PySem PySem.Spec PyProof.Rows L2 MM PL
/-- cells of plain lists -/
def Pl (ls : Mem) : Prop := ∀ c ∈ ls, ∃ xs, c = .lst xs ∧ nrs xs = true
theorem Pl.nil : Pl [] := fun c hc => by cases hc
theorem Pl.snoc {ls : Mem} {xs : List MV} (h : Pl ls) (hx : nrs xs = true) : Pl (ls ++ [.lst xs]) := fun c hc => by
  rcases List.mem_append.mp hc with hc | hc
  · exact h c hc
  · exact ⟨xs, List.mem_singleton.mp hc, hx⟩
theorem Pl.cons {ls : Mem} {xs : List MV} (h : Pl ls) (hx : nrs xs = true) : Pl (.lst xs :: ls) := fun c hc => by
  rcases List.mem_cons.mp hc with hc | hc
  · exact ⟨xs, hc, hx⟩
  · exact h c hc
theorem okMem_pl {μ ls : Mem} (hm : okMem μ) (h : Pl ls) : okMem (μ ++ ls) := okMem_app hm fun c hc => by
  obtain ⟨xs, e, hx⟩ := h c hc
  rw [e]
  exact okNs_nr xs hx
theorem ix_lst {μ : Mem} {d : MV} {xs : List MV} (h : lstOf μ d = some xs) (i : Int) : ixM μ d (.int i) = atI xs i := by
  cases d with
  | lst ys => cases h; rfl
  | ref j =>
    show (seqOf μ (.ref j)).bind (fun xs => atI xs i) = _
    rw [show seqOf μ (.ref j) = some xs from h]; rfl
  | _ => cases h
theorem tup_lst {μ : Mem} {d : MV} {xs : List MV} (h : lstOf μ d = some xs) : tupleM μ [d] = some (.tup xs) := by
  cases d with
  | lst ys => cases h; rfl
  | ref j =>
    show (lstOf μ (.ref j)).map MV.tup = _
    rw [h]; rfl
  | _ => cases h
theorem nrs_Ns (p : List Nat) : nrs (rNs p) = true := nrs_map _ (fun _ => rfl) p
theorem at_rNs {p : List Nat} {s : Nat} (hs : s < p.length) : atI (rNs p) (s : Int) = some (.int (at_ p s)) := by
  rw [atN _ _ (by unfold rNs; rw [List.length_map]; exact hs)]
  unfold rNs at_
  rw [List.getElem?_map, List.getD_eq_getElem?_getD, List.getElem?_eq_getElem hs]
  rfl
section
variable {m : Mch} {t : List (List Int)} {h w : Nat} {d : Rat} {μ : Mem} {p : List Nat}
noncomputable def rVs (t : List (List Int)) (m : Mch) (d : Rat) (p : List Nat) (n : Nat) : List MV := (List.range n).map fun s => rq (valP t m d p s)
theorem nrs_Vs (n : Nat) : nrs (rVs t m d p n) = true := nrs_map _ (fun _ => rfl) _
theorem rVs_succ (n : Nat) : rVs t m d p (n + 1) = rVs t m d p n ++ [rq (valP t m d p n)] := by simp [rVs, List.range_succ]
theorem linP_take {s i L : Nat} (hi : i ≤ L) : (cellsP m p s 0 L).take i = cellsP m p s 0 i := by
  unfold cellsP
  rw [← List.map_take, List.take_range, Nat.min_eq_left hi]
theorem linP_drop {s i L : Nat} : (cellsP m p s 0 L).drop i = cellsP m p s i (L - i) := by
  unfold cellsP
  rw [← List.map_drop, List.range_eq_range', List.drop_range']
  rw [List.range'_eq_map_range, List.map_map]
  refine List.map_congr_left fun k _ => ?_
  show ((at_ p (Orb.P (stpP m p) s (0 + (0 + i * 1 + k))) : Int), _) = _
  rw [show 0 + (0 + i * 1 + k) = i + k by omega]
theorem answered_ok (hm : okMem μ) (ok : OkT t h w) (om : OkM m w h) (hd : Dsc d) (hp : OkP m h p) {dv : MV} (hv : ∀ ν, lstOf (μ ++ ν) dv = some (rNs p)) :
    F_p_answered_values [rT t, rM m, rq d, dv] μ = .ok (.lst (rVs t m d p m.length)) μ := by
  have m6 := om.l1
  let I : Nat → MM.Env → Mem → Prop := fun j ρ μ' => ∃ (ls : Mem) (u5 u6 u7 u8 u9 u10 u11 u12 : Option MV), ρ = [some (rT t), some (rM m), some (rq d), some dv, some (.ref μ.length), u5, u6, u7, u8, u9, u10, u11, u12, none] ∧ μ' = μ ++ (.lst (rVs t m d p j) :: ls) ∧ Pl ls
  have key : ∃ ls, M_p_answered_values [some (rT t), some (rM m), some (rq d), some dv, none, none, none, none, none, none, none, none, none, none] μ = .rt (.ref μ.length) (μ ++ (.lst (rVs t m d p m.length) :: ls)) := by
    obtain ⟨ρ', μ', e1, ls, u5, u6, u7, u8, u9, u10, u11, u12, e2, e3, e4⟩ := for_idx (xs0 := intsL 0 m.length) (g := gN 5) (b := (sSeq (sPar 6 7 (mCons (mLstC mNil) (mCons (mVar 5) mNil)))
  (sSeq (sWhile (mT (mOp notInM (mVar 7) (mVar 6))) (sSeq (sDrop (mMeth appM (mVar 6) (mCons (mVar 7) mNil)))
  (sAsg (mOp ixM (mOp ixM (mOp ixM (mVar 1) (mVar 7)) (mRet (.int 1))) (mOp ixM (mVar 3) (mVar 7))) (gN 7))))
  (sSeq (sAsg (mMeth idxM (mVar 6) (mCons (mVar 7) mNil)) (gN 8))
  (sSeq (sAsg (mComp (List.map (·.2) ([("state", 13)] : List (Str × Nat))) (mItm (mVar 6)) (gN 13) mYes (mTup (mCons (mOp ixM (mVar 3) (mVar 13)) (mCons (mOp ixM (mOp ixM (mVar 1) (mVar 13)) (mRet (.int 0))) mNil)))) (gN 9))
  (sSeq (sAsg (mCall 3 F_p_discounted (mCons (mVar 0) (mCons (mSlice (mVar 9) (mPart (mVar 8)) mNoPart) (mCons (mVar 2) mNil)))) (gN 10))
  (sSeq (sAsg (mCall 2 F_p_added (mCons (mTup (mCons (mRet (.int 1)) (mCons (mRet (.int 1)) mNil))) (mCons (mCall 1 F_p_negative (mCons (mCall 2 F_p_power (mCons (mVar 2) (mCons (mOp subM (mCB lenM (mCons (mVar 9) mNil)) (mVar 8)) mNil))) mNil)) mNil))) (gN 11))
  (sSeq (sAsg (mCall 3 F_p_discounted (mCons (mVar 0) (mCons (mSlice (mVar 9) mNoPart (mPart (mVar 8))) (mCons (mVar 2) mNil)))) (gN 12))
  (sDrop (mMeth appM (mVar 4) (mCons (mCall 2 F_p_added (mCons (mVar 12) (mCons (mCall 2 F_p_times (mCons (mCall 2 F_p_power (mCons (mVar 2) (mCons (mVar 8) mNil))) (mCons (mCall 2 F_p_over (mCons (mVar 10) (mCons (mVar 11) mNil))) mNil))) mNil))) mNil))))))))))) I (I m.length) (intsL 0 m.length) 0 [some (rT t), some (rM m), some (rq d), some dv, some (.ref μ.length), none, none, none, none, none, none, none, none, none] (μ ++ [.lst []])
      ⟨[], none, none, none, none, none, none, none, none, rfl, rfl, Pl.nil⟩ (fun ρ μ q => by rw [intsL_len, Nat.zero_add] at q; exact q) (by
        intro s x hx ρ μ' ⟨ls, u5, u6, u7, u8, u9, u10, u11, u12, q1, q2, q3⟩
        obtain ⟨hs, rfl⟩ := intsL_get hx
        subst q1 q2
        rw [Nat.zero_add, Int.zero_add] at *
        obtain ⟨i, L, hL, r⟩ := rho_at om hp hs
        have hlt := r.lt
        obtain ⟨M, eM⟩ : ∃ M : Mem, M = μ ++ (.lst (rVs t m d p s) :: ls) := ⟨_, rfl⟩
        have hM : okMem M := eM ▸ okMem_pl hm (Pl.cons q3 (nrs_Vs s))
        have vM : ∀ ν, lstOf (M ++ ν) dv = some (rNs p) := fun ν => by rw [eM, List.append_assoc]; exact hv _
        rw [← eM]
        refine ⟨_, _, rfl, .inl ?_⟩
        let E : MV → Option MV → Option MV → Option MV → Option MV → Option MV → MM.Env := fun x7 x8 x9 x10 x11 x12 => [some (rT t), some (rM m), some (rq d), some dv, some (.ref μ.length), some (.int s), some (.ref M.length), some x7, x8, x9, x10, x11, x12, none]
        let ln : Nat → List Nat := fun k => Orb.line (stpP m p) s k
        let env : Nat → MM.Env := fun k => E (.int ((Orb.P (stpP m p) s k : Nat) : Int)) u8 u9 u10 u11 u12
        let mem : Nat → Mem := fun k => M ++ [.lst (rNs (ln k))]
        let X := mem L
        have okX : okMem X := okMem_snoc hM (nrs_Ns _)
        have vX : lstOf X dv = some (rNs p) := vM _
        have gX : X[M.length]? = some (.lst (rNs (ln L))) := get_last
        have D1 := discounted_ok okX ok hd.sz (cellsP_in om hp hs i (L - i)) (by rw [cellsP_len]; omega)
        have D2 := discounted_ok okX ok hd.sz (cellsP_in om hp hs 0 i) (by rw [cellsP_len]; omega)
        have P1 := power_ok okX hd.sz (n := L - i) (by omega)
        have N1 := negative_ok okX (d ^ (L - i))
        have zp := (sz_pow hd.sz (L - i)).mono (m := 70) (by omega)
        have A1 := added_ok okX sz_one zp.neg (by omega)
        have zr := (sz_one.add zp.neg).mono (m := 80) (by omega)
        have s1 := sz_ds ok hd.sz (cellsP_in om hp hs i (L - i)) (cellsP m p s i (L - i)).length (Nat.le_refl _) (by rw [cellsP_len]; omega)
        rw [List.take_of_length_le (by unfold gR; rw [List.length_map]; omega)] at s1
        have s0 := sz_ds ok hd.sz (cellsP_in om hp hs 0 i) (cellsP m p s 0 i).length (Nat.le_refl _) (by rw [cellsP_len]; omega)
        rw [List.take_of_length_le (by unfold gR; rw [List.length_map]; omega)] at s0
        have s1 := s1.mono (m := 1500) (by rw [cellsP_len]; omega)
        have s0 := s0.mono (m := 1500) (by rw [cellsP_len]; omega)
        have hr := rest_pos hd.zero hd.one (n := L - i) (by omega)
        have O1 := over_ok okX s1 zr hr (by omega)
        have P2 := power_ok okX hd.sz (n := i) (by omega)
        have T1 := times_ok okX ((sz_pow hd.sz i).mono (m := 70) (by omega)) (s1.div zr hr) (by omega)
        have A2 := added_ok okX s0 (((sz_pow hd.sz i).mono (m := 70) (by omega)).mul (s1.div zr hr)) (by omega)
        have ev : valP t m d p s = Dis.ds d (gR t (cellsP m p s 0 i)) + d ^ i * (Dis.ds d (gR t (cellsP m p s i (L - i))) / (1 + -(d ^ (L - i)))) := by
          rw [valP_eq r, cf_cells]
        rw [← ev] at A2
        refine ⟨E (.int ((Orb.P (stpP m p) s L : Nat) : Int)) (some (.int i)) (some (.lst (rCs (cellsP m p s 0 L)))) (some (rq (Dis.ds d (gR t (cellsP m p s i (L - i)))))) (some (rq (1 + -(d ^ (L - i))))) (some (rq (Dis.ds d (gR t (cellsP m p s 0 i))))), μ ++ (.lst (rVs t m d p (s + 1)) :: (ls ++ [.lst (rNs (ln L))])), .inl ?_, ls ++ [.lst (rNs (ln L))], _, _, _, _, _, _, _, _, rfl, rfl, q3.snoc (nrs_Ns _)⟩
        refine seq_step (ρ1 := env 0) (μ1 := mem 0) (par_s (cons_ok (lstC_ok nil_ok) (one_ok (var_ok rfl)))) ?_
        refine seq_step (ρ1 := env L) (μ1 := mem L) (while_range env mem L (by unfold FUEL; omega) (fun k hk => ⟨?_, ?_⟩) ?_) ?_
        · exact t_ok (op_ok (var_ok rfl) (var_ok rfl) (dtN.notIn_t (by omega) (lstC_of get_last) (r.notin hk)))
        · have hq := PP_lt om hp hs k
          have em : mem (k + 1) = M ++ [.lst (rNs (ln k) ++ [.int ((Orb.P (stpP m p) s k : Nat) : Int)])] := by
            show M ++ [.lst (rNs (Orb.line (stpP m p) s (k + 1)))] = _
            rw [Orb.line_succ]
            unfold rNs
            rw [List.map_append]
            rfl
          rw [em]
          refine seq_step (appL_s (var_ok rfl) (var_ok rfl) (by unfold rNs; rw [List.length_map, Orb.line_len]; omega)) ?_
          exact asg_ok (move_ok (j := ((at_ p (Orb.P (stpP m p) s k) : Nat) : Int)) om hq (by omega) (by have := at_lt hp hq; omega) (var_ok rfl) (var_ok rfl) (op_ok (var_ok rfl) (var_ok rfl) ((ix_lst (vM _) _).trans (at_rNs (by rw [hp.1]; exact hq))))) rfl
        · exact t_ok (op_ok (var_ok rfl) (var_ok rfl) (dtN.notIn_f (by omega) (lstC_of get_last) r.isin))
        refine seq_step (ρ1 := E (.int ((Orb.P (stpP m p) s L : Nat) : Int)) (some (.int i)) u9 u10 u11 u12) (μ1 := X) (asg_ok (meth_ok (r := .int i) (var_ok rfl) (lstC_of gX) (one_ok (var_ok rfl)) ((dtN.idx (by omega) (lstC_of gX) r.isin).trans (congrArg (fun n : Nat => some (MV.int n, X)) r.nthL))) rfl) ?_
        refine seq_step (ρ1 := E (.int ((Orb.P (stpP m p) s L : Nat) : Int)) (some (.int i)) (some (.lst (rCs (cellsP m p s 0 L)))) u10 u11 u12) (μ1 := X) (asg_ok (mcomp_mapT (α := Nat) (fun n => .int (n : Nat)) (fun n => rC ((at_ p n : Int), chN m n)) (ln L) (mitm (var_ok rfl) (itmC gX)) (ok_one gX) (le_size (by rw [Orb.line_len]; omega)) (fun n hn => ⟨_, rfl, tup_ok (cons_ok (op_ok (var_ok rfl) (var_ok rfl) ((ix_lst vX _).trans (at_rNs ?_))) (one_ok (choice_ok ?_ (var_ok rfl) (var_ok rfl))))⟩) ?_) rfl) ?_
        · obtain ⟨k, _, rfl⟩ := Orb.mem_line.mp hn
          rw [hp.1]; exact PP_lt om hp hs k
        · obtain ⟨k, _, rfl⟩ := Orb.mem_line.mp hn
          exact PP_lt om hp hs k
        · show MV.lst (((List.range L).map (Orb.P (stpP m p) s)).map fun n => rC ((at_ p n : Int), chN m n)) = _
          unfold rCs cellsP
          rw [List.map_map, List.map_map]
          refine congrArg MV.lst (List.map_congr_left fun k _ => ?_)
          show rC ((at_ p (Orb.P (stpP m p) s k) : Int), _) = rC ((at_ p (Orb.P (stpP m p) s (0 + k)) : Int), chN m (Orb.P (stpP m p) s (0 + k)))
          rw [Nat.zero_add]
        refine seq_step (ρ1 := E (.int ((Orb.P (stpP m p) s L : Nat) : Int)) (some (.int i)) (some (.lst (rCs (cellsP m p s 0 L)))) (some (rq (Dis.ds d (gR t (cellsP m p s i (L - i)))))) u11 u12) (μ1 := X) (asg_ok (call_ok (cons_ok (var_ok rfl) (cons_ok (slice_ok (r := .lst (rCs (cellsP m p s i (L - i)))) (var_ok rfl) (part_ok (var_ok rfl)) nopart_ok ((sliceL rfl).trans ?_)) (one_ok (var_ok rfl)))) rfl D1) rfl) ?_
        · rw [cut_from]
          unfold rCs
          rw [← List.map_drop, linP_drop]
        refine seq_step (ρ1 := E (.int ((Orb.P (stpP m p) s L : Nat) : Int)) (some (.int i)) (some (.lst (rCs (cellsP m p s 0 L)))) (some (rq (Dis.ds d (gR t (cellsP m p s i (L - i)))))) (some (rq (1 + -(d ^ (L - i))))) u12) (μ1 := X) (asg_ok (call_ok (cons_ok (tup_ok (cons_ok k_ok (one_ok k_ok))) (one_ok (call_ok (one_ok (call_ok (cons_ok (var_ok rfl) (one_ok (op_ok (r := .int ((L - i : Nat) : Int)) (cb_ok (one_ok (var_ok rfl)) (lenL _)) (var_ok rfl) ?_))) rfl P1)) rfl N1))) rfl A1) rfl) ?_
        · rw [show (rCs (cellsP m p s 0 L)).length = L by unfold rCs; rw [List.length_map, cellsP_len], subI, show (L : Int) - (i : Int) = ((L - i : Nat) : Int) by omega]
        refine seq_step (ρ1 := E (.int ((Orb.P (stpP m p) s L : Nat) : Int)) (some (.int i)) (some (.lst (rCs (cellsP m p s 0 L)))) (some (rq (Dis.ds d (gR t (cellsP m p s i (L - i)))))) (some (rq (1 + -(d ^ (L - i))))) (some (rq (Dis.ds d (gR t (cellsP m p s 0 i)))))) (μ1 := X) (asg_ok (call_ok (cons_ok (var_ok rfl) (cons_ok (slice_ok (r := .lst (rCs (cellsP m p s 0 i))) (var_ok rfl) nopart_ok (part_ok (var_ok rfl)) ((sliceL rfl).trans ?_)) (one_ok (var_ok rfl)))) rfl D2) rfl) ?_
        · rw [cut_to]
          unfold rCs
          rw [← List.map_take, linP_take (by omega)]
        have eX : X = μ ++ (.lst (rVs t m d p s) :: (ls ++ [.lst (rNs (ln L))])) := by
          show M ++ _ = _
          rw [eM, List.append_assoc]; rfl
        have g0 : X[μ.length]? = some (.lst (rVs t m d p s)) := by
          rw [eX]
          exact get_app (i := 0)
        refine (app_s (μ := X) (i := μ.length) (xs := rVs t m d p s) (var_ok rfl) g0 (call_ok (cons_ok (var_ok rfl) (one_ok (call_ok (cons_ok (call_ok (cons_ok (var_ok rfl) (one_ok (var_ok rfl))) rfl P2) (one_ok (call_ok (cons_ok (var_ok rfl) (one_ok (var_ok rfl))) rfl O1))) rfl T1))) rfl A2) (by unfold rVs; rw [List.length_map, List.length_range]; omega)).trans ?_
        rw [eX]
        have := set_app (μ := μ) (ν := .lst (rVs t m d p s) :: (ls ++ [.lst (rNs (ln L))])) (i := 0) (c := .lst (rVs t m d p s ++ [rq (valP t m d p s)]))
        rw [Nat.add_zero] at this
        rw [this, rVs_succ]
        rfl)
    subst e2 e3
    refine ⟨ls, ?_⟩
    unfold M_p_answered_values
    refine seq_step (ρ1 := [some (rT t), some (rM m), some (rq d), some dv, some (.ref μ.length), none, none, none, none, none, none, none, none, none]) (μ1 := μ ++ [.lst []]) (asg_ok (lstC_ok nil_ok) rfl) ?_
    refine seq_step (sfor_of (mrng1 (n := m.length) (one_ok (cb_ok (one_ok (var_ok rfl)) (lenM_ _ m))) ⟨by omega, by omega⟩) e1) (ret_s (var_ok rfl))
  obtain ⟨ls, key⟩ := key
  exact run_cell (i := μ.length) (ν := .lst (rVs t m d p m.length) :: ls) key (Nat.le_refl _) (get_app (i := 0)) (nrs_Vs _) hm
end
end K21

set_option Elab.async false
set_option linter.all false
set_option maxRecDepth 100000
set_option maxHeartbeats 4000000
namespace Pol
theorem sum_lt (a b : Nat → Rat) : ∀ n, (∀ s, s < n → a s ≤ b s) → (∃ s, s < n ∧ a s < b s) → ((List.range n).map a).sum < ((List.range n).map b).sum
  | 0, _, ⟨s, h, _⟩ => absurd h (by omega)
  | n + 1, h, ⟨s, hs, e⟩ => by
    have le : ∀ m, m ≤ n + 1 → ((List.range m).map a).sum ≤ ((List.range m).map b).sum := by
      intro m
      induction m with
      | zero => intro _; exact Rat.le_refl
      | succ m ih =>
        intro hm
        rw [List.range_succ, List.map_append, List.map_append, List.sum_append, List.sum_append]
        have := ih (by omega)
        have := h m (by omega)
        simp only [List.map_cons, List.map_nil, List.sum_cons, List.sum_nil]
        grind
    rw [List.range_succ, List.map_append, List.map_append, List.sum_append, List.sum_append]
    simp only [List.map_cons, List.map_nil, List.sum_cons, List.sum_nil]
    have h1 := le n (by omega)
    have h2 := h n (by omega)
    rcases Nat.lt_or_ge s n with q | q
    · have := sum_lt a b n (fun s hs => h s (by omega)) ⟨s, q, e⟩
      grind
    · have : s = n := by omega
      subst this
      grind
end Pol
namespace K21
open PySem PySem.Spec PyProof.Rows L2 MM PL
section
variable {m : Mch} {t : List (List Int)} {h w : Nat} {d : Rat} {μ : Mem} {p : List Nat}
/-- a choice once, then the plan -/
noncomputable def mor (t : List (List Int)) (m : Mch) (d : Rat) (p : List Nat) (s o : Nat) : Rat := ((gan t m s o : Int) : Rat) + d * valP t m d p (nxt m s o)
noncomputable def stB (t : List (List Int)) (m : Mch) (d : Rat) (p : List Nat) (s : Nat) (b : Nat × Rat) (o : Nat) : Nat × Rat := if b.2 < mor t m d p s o then (o, mor t m d p s o) else b
noncomputable def bw (t : List (List Int)) (m : Mch) (d : Rat) (p : List Nat) (s k : Nat) : Nat × Rat := (List.range k).foldl (stB t m d p s) (at_ p s, valP t m d p s)
theorem bw_succ (s k : Nat) : bw t m d p s (k + 1) = stB t m d p s (bw t m d p s k) k := by
  unfold bw
  rw [List.range_succ, List.foldl_append]; rfl
noncomputable def fre (t : List (List Int)) (m : Mch) (d : Rat) (h : Nat) (p : List Nat) (n : Nat) : List Nat := (List.range n).map fun s => (bw t m d p s h).1
theorem fre_succ (n : Nat) : fre t m d h p (n + 1) = fre t m d h p n ++ [(bw t m d p n h).1] := by simp [fre, List.range_succ]
def Bell (t : List (List Int)) (m : Mch) (d : Rat) (h : Nat) (p : List Nat) : Prop := ∀ s, s < m.length → ∀ o, o < h → mor t m d p s o ≤ valP t m d p s
theorem bw_inv (s : Nat) : ∀ k, (∀ o, o < k → mor t m d p s o ≤ (bw t m d p s k).2) ∧ valP t m d p s ≤ (bw t m d p s k).2 ∧ (bw t m d p s k = (at_ p s, valP t m d p s) ∨ ((bw t m d p s k).1 < k ∧ (bw t m d p s k).2 = mor t m d p s (bw t m d p s k).1 ∧ valP t m d p s < (bw t m d p s k).2))
  | 0 => ⟨fun o ho => absurd ho (by omega), Rat.le_refl, .inl rfl⟩
  | k + 1 => by
    obtain ⟨a, b, c⟩ := bw_inv s k
    rw [bw_succ]
    unfold stB
    by_cases q : (bw t m d p s k).2 < mor t m d p s k
    · rw [if_pos q]
      refine ⟨fun o ho => ?_, by show valP t m d p s ≤ mor t m d p s k; grind, .inr ⟨by show k < k + 1; omega, rfl, by show valP t m d p s < mor t m d p s k; grind⟩⟩
      show mor t m d p s o ≤ mor t m d p s k
      rcases Nat.lt_or_ge o k with z | z
      · have := a o z
        grind
      · rw [show o = k by omega]; exact Rat.le_refl
    · rw [if_neg q]
      refine ⟨fun o ho => ?_, b, c.imp (fun z => z) fun ⟨z1, z2, z3⟩ => ⟨by omega, z2, z3⟩⟩
      rcases Nat.lt_or_ge o k with z | z
      · exact a o z
      · rw [show o = k by omega]
        grind
theorem mor_self (h0 : 0 ≤ d) (h1 : d < 1) (om : OkM m w h) (hp : OkP m h p) {s : Nat} (hs : s < m.length) : mor t m d p s (at_ p s) = valP t m d p s := (valP_step h0 h1 om hp hs).symm
theorem fre_ok (hp : OkP m h p) : OkP m h (fre t m d h p m.length) := ⟨by simp [fre], fun x hx => by
  obtain ⟨s, hs, rfl⟩ := List.mem_map.mp hx
  have hs := List.mem_range.mp hs
  rcases (bw_inv (t := t) (m := m) (d := d) (p := p) s h).2.2 with e | e
  · rw [e]; exact at_lt hp hs
  · exact e.1⟩
theorem at_fre {s : Nat} (hs : s < m.length) : at_ (fre t m d h p m.length) s = (bw t m d p s h).1 := by
  unfold at_ fre
  rw [List.getD_eq_getElem?_getD, List.getElem?_map, List.getElem?_range hs]; rfl
noncomputable def Phi (t : List (List Int)) (m : Mch) (d : Rat) (p : List Nat) : Rat := ((List.range m.length).map (valP t m d p)).sum
/-- made better, or the best -/
theorem better (h0 : 0 ≤ d) (h1 : d < 1) (om : OkM m w h) (hp : OkP m h p) : (fre t m d h p m.length = p ∧ Bell t m d h p) ∨ (fre t m d h p m.length ≠ p ∧ Phi t m d p < Phi t m d (fre t m d h p m.length)) := by
  obtain ⟨f, ef⟩ : ∃ f, f = fre t m d h p m.length := ⟨_, rfl⟩
  have hf : OkP m h f := ef ▸ fre_ok hp
  have at_f : ∀ s, s < m.length → at_ f s = (bw t m d p s h).1 := fun s hs => by rw [ef]; exact at_fre hs
  have mf : ∀ s, s < m.length → valP t m d p s ≤ mor t m d p s (at_ f s) ∧ (at_ f s ≠ at_ p s → valP t m d p s < mor t m d p s (at_ f s)) := fun s hs => by
    rw [at_f s hs]
    rcases (bw_inv (t := t) (m := m) (d := d) (p := p) s h).2.2 with e | ⟨e1, e2, e3⟩
    · rw [e]
      show valP t m d p s ≤ mor t m d p s (at_ p s) ∧ (at_ p s ≠ at_ p s → _)
      rw [mor_self h0 h1 om hp hs]
      exact ⟨Rat.le_refl, fun z => absurd rfl z⟩
    · rw [← e2]
      exact ⟨by grind, fun _ => e3⟩
  by_cases c : f = p
  · refine .inl ⟨ef ▸ c, fun s hs o ho => ?_⟩
    obtain ⟨a, b, e⟩ := bw_inv (t := t) (m := m) (d := d) (p := p) s h
    have q := a o ho
    rcases e with e | ⟨e1, e2, e3⟩
    · rw [e] at q; exact q
    · exfalso
      have z := at_f s hs
      rw [c] at z
      rw [← z, mor_self h0 h1 om hp hs] at e2
      grind
  · refine .inr ⟨ef ▸ c, ?_⟩
    rw [← ef]
    have D := Pol.nonneg (n := m.length) (D := fun s => valP t m d f s - valP t m d p s) (nx := stpP m f) h0 h1 (fun s hs => stpP_lt om hf hs) (fun s hs => by
      have a := valP_step (t := t) h0 h1 om hf hs
      have b := (mf s hs).1
      unfold mor at b
      show d * (valP t m d f (stpP m f s) - valP t m d p (stpP m f s)) ≤ valP t m d f s - valP t m d p s
      have e : stpP m f s = nxt m s (at_ f s) := rfl
      have e2 : gamP t m f s = ((gan t m s (at_ f s) : Int) : Rat) := rfl
      rw [← e] at b
      rw [e2] at a
      grind)
    have ex : ∃ s, s < m.length ∧ at_ f s ≠ at_ p s := by
      refine Classical.byContradiction fun z => c ?_
      refine List.ext_getElem? fun s => ?_
      rcases Nat.lt_or_ge s m.length with hs | hs
      · have q : at_ f s = at_ p s := Classical.byContradiction fun y => z ⟨s, hs, y⟩
        unfold at_ at q
        rw [List.getD_eq_getElem?_getD, List.getD_eq_getElem?_getD, List.getElem?_eq_getElem (by rw [hf.1]; exact hs), List.getElem?_eq_getElem (by rw [hp.1]; exact hs)] at q
        rw [List.getElem?_eq_getElem (by rw [hf.1]; exact hs), List.getElem?_eq_getElem (by rw [hp.1]; exact hs)]
        exact congrArg some q
      · rw [List.getElem?_eq_none (by rw [hf.1]; exact hs), List.getElem?_eq_none (by rw [hp.1]; exact hs)]
    obtain ⟨s, hs, ne⟩ := ex
    unfold Phi
    refine Pol.sum_lt _ _ _ (fun s hs => by have : 0 ≤ valP t m d f s - valP t m d p s := D s hs; grind) ⟨s, hs, ?_⟩
    have a := valP_step (t := t) h0 h1 om hf hs
    have b := (mf s hs).2 ne
    have q : 0 ≤ valP t m d f (stpP m f s) - valP t m d p (stpP m f s) := D _ (stpP_lt om hf hs)
    unfold mor at b
    have e : stpP m f s = nxt m s (at_ f s) := rfl
    have e2 : gamP t m f s = ((gan t m s (at_ f s) : Int) : Rat) := rfl
    rw [← e] at b
    rw [e2] at a
    have := Rat.mul_nonneg h0 q
    grind
/-- sizes of plans' values -/
theorem sz_val (hd : Dsc d) (ok : OkT t h w) (om : OkM m w h) (m4 : m.length ≤ 4) (hp : OkP m h p) {s : Nat} (hs : s < m.length) : Sz (valP t m d p s) 60 := by
  obtain ⟨i, L, hL, r⟩ := rho_at om hp hs
  rw [valP_eq r]
  exact sz_cf hd ok om hp hs r (by omega)
theorem sz_gan (ok : OkT t h w) (om : OkM m w h) {s o : Nat} (hs : s < m.length) (ho : o < h) : Sz ((gan t m s o : Int) : Rat) 7 := sz_gain ok (cell_in om hs ho)
theorem sz_mor (hd : Dsc d) (ok : OkT t h w) (om : OkM m w h) (m4 : m.length ≤ 4) (hp : OkP m h p) {s o : Nat} (hs : s < m.length) (ho : o < h) : Sz (mor t m d p s o) 80 :=
  ((sz_gan ok om hs ho).add (hd.sz.mul (sz_val hd ok om m4 hp (nxt_lt om hs ho)))).mono (by omega)
theorem sz_bw (hd : Dsc d) (ok : OkT t h w) (om : OkM m w h) (m4 : m.length ≤ 4) (hp : OkP m h p) {s k : Nat} (hs : s < m.length) (hk : k ≤ h) : Sz (bw t m d p s k).2 80 := by
  rcases (bw_inv (t := t) (m := m) (d := d) (p := p) s k).2.2 with e | ⟨e1, e2, e3⟩
  · rw [e]; exact (sz_val hd ok om m4 hp hs).mono (by omega)
  · rw [e2]; exact sz_mor hd ok om m4 hp hs (by omega)
theorem at_rVs {n s : Nat} (hs : s < n) : atI (rVs t m d p n) (s : Int) = some (rq (valP t m d p s)) := by
  rw [atN _ _ (by unfold rVs; simp; exact hs)]
  unfold rVs
  rw [List.getElem?_map, List.getElem?_range hs]; rfl
abbrev bOwn : SM := (sSeq (sAsg (mCall 2 F_p_added (mCons (mTup (mCons (mOp ixM (mOp ixM (mVar 0) (mVar 11)) (mVar 7)) (mCons (mRet (.int 1)) mNil))) (mCons (mCall 2 F_p_times (mCons (mVar 2) (mCons (mOp ixM (mVar 4) (mOp ixM (mVar 8) (mVar 11))) mNil))) mNil))) (gN 12))
  (sIf (mT (mCall 2 F_p_less (mCons (mVar 10) (mCons (mVar 12) mNil)))) (sPar 9 10 (mCons (mVar 11) (mCons (mVar 12) mNil))) sPass))
/-- the rows' own choices, one behind another -/
theorem own_loop (hm : okMem μ) (hd : Dsc d) (ok : OkT t h w) (om : OkM m w h) (m4 : m.length ≤ 4) (hp : OkP m h p) {s : Nat} (hs : s < m.length) (dv f5 : MV) (u11 u12 : Option MV) (xs0 : List MV) :
    ∃ v11 v12, forL ⟨xs0, []⟩ (gN 11) bOwn (intsL 0 h) [some (rT t), some (rM m), some (rq d), some dv, some (.lst (rVs t m d p m.length)), some f5, some (.int s), some (.int (chN m s)), some (rR (m.getD s (0, [])).2), some (.int (at_ p s)), some (rq (valP t m d p s)), u11, u12] μ
      = .nx [some (rT t), some (rM m), some (rq d), some dv, some (.lst (rVs t m d p m.length)), some f5, some (.int s), some (.int (chN m s)), some (rR (m.getD s (0, [])).2), some (.int ((bw t m d p s h).1 : Nat)), some (rq (bw t m d p s h).2), v11, v12] μ := by
  let env : Nat → MM.Env := fun k => [some (rT t), some (rM m), some (rq d), some dv, some (.lst (rVs t m d p m.length)), some f5, some (.int s), some (.int (chN m s)), some (rR (m.getD s (0, [])).2), some (.int ((bw t m d p s k).1 : Nat)), some (rq (bw t m d p s k).2), if k = 0 then u11 else some (.int (k - 1 : Nat)), if k = 0 then u12 else some (rq (mor t m d p s (k - 1)))]
  refine ⟨_, _, (forl_range env (fun _ => μ) h (xs0 := xs0) (g := gN 11) (b := bOwn) fun k hk => ⟨[some (rT t), some (rM m), some (rq d), some dv, some (.lst (rVs t m d p m.length)), some f5, some (.int s), some (.int (chN m s)), some (rR (m.getD s (0, [])).2), some (.int ((bw t m d p s k).1 : Nat)), some (rq (bw t m d p s k).2), some (.int k), if k = 0 then u12 else some (rq (mor t m d p s (k - 1)))], μ, rfl, ?_⟩)⟩
  have hn := nxt_lt om hs hk
  have mv := om.m hs (j := (k : Int)) (by omega) (by omega)
  have zv := sz_val hd ok om m4 hp hn
  have T1 := times_ok hm hd.sz zv (by omega)
  have A1 := added_ok hm (sz_gan ok om hs hk) (hd.sz.mul zv) (by omega)
  have L1 := less_ok hm (sz_bw hd ok om m4 hp hs (k := k) (by omega)) (sz_mor hd ok om m4 hp hs hk) (by omega)
  unfold bOwn
  refine seq_step (ρ1 := [some (rT t), some (rM m), some (rq d), some dv, some (.lst (rVs t m d p m.length)), some f5, some (.int s), some (.int (chN m s)), some (rR (m.getD s (0, [])).2), some (.int ((bw t m d p s k).1 : Nat)), some (rq (bw t m d p s k).2), some (.int k), some (rq (mor t m d p s k))]) (μ1 := μ) (asg_ok (call_ok (cons_ok (tup_ok (cons_ok (gain_ok (c := ((k : Int), chN m s)) ok (cell_in om hs hk) (var_ok rfl) (var_ok rfl) (var_ok rfl)) (one_ok k_ok))) (one_ok (call_ok (cons_ok (var_ok rfl) (one_ok (op_ok (var_ok rfl) (op_ok (b := .int (k : Int)) (r := .int (nxt m s k : Nat)) (var_ok rfl) (var_ok rfl) ?_) ((ixL _ _).trans (at_rVs hn))))) rfl T1))) rfl A1) rfl) ?_
  · rw [atR (by omega) (by rw [om.ln _ (om.at hs)]; omega), mv.2]
    rfl
  have eb : bw t m d p s (k + 1) = stB t m d p s (bw t m d p s k) k := bw_succ s k
  show _ = SOut.nx (env (k + 1)) μ
  have ee : env (k + 1) = [some (rT t), some (rM m), some (rq d), some dv, some (.lst (rVs t m d p m.length)), some f5, some (.int s), some (.int (chN m s)), some (rR (m.getD s (0, [])).2), some (.int ((stB t m d p s (bw t m d p s k) k).1 : Nat)), some (rq (stB t m d p s (bw t m d p s k) k).2), some (.int k), some (rq (mor t m d p s k))] := by
    show [_, _, _, _, _, _, _, _, _, some (MV.int ((bw t m d p s (k + 1)).1 : Nat)), some (rq (bw t m d p s (k + 1)).2), _, _] = _
    rw [eb]
    rfl
  rw [ee]
  unfold stB
  by_cases c : (bw t m d p s k).2 < mor t m d p s k
  · rw [decide_eq_true c] at L1
    rw [if_pos c]
    exact if_t (t_ok (call_ok (cons_ok (var_ok rfl) (one_ok (var_ok rfl))) rfl L1)) (par_s (cons_ok (var_ok rfl) (one_ok (var_ok rfl))))
  · rw [decide_eq_false c] at L1
    rw [if_neg c]
    exact if_n (t_ok (call_ok (cons_ok (var_ok rfl) (one_ok (var_ok rfl))) rfl L1))
end
end K21

set_option Elab.async false
set_option linter.all false
set_option maxRecDepth 100000
set_option maxHeartbeats 4000000
namespace K21
open PySem PySem.Spec PyProof.Rows L2 MM PL
section
variable {m : Mch} {t : List (List Int)} {h w : Nat} {d : Rat} {μ : Mem} {p : List Nat}
noncomputable abbrev bSt : SM := (sSeq (sPar 9 10 (mCons (mOp ixM (mVar 3) (mVar 6)) (mCons (mOp ixM (mVar 4) (mVar 6)) mNil)))
  (sSeq (sFor (mRng rng1 (mCons (mCB lenM (mCons (mVar 0) mNil)) mNil)) (gN 11) bOwn)
  (sDrop (mMeth appM (mVar 5) (mCons (mVar 9) mNil)))))
noncomputable abbrev bPl : SM := (sSeq (sAsg (mCall 4 F_p_answered_values (mCons (mVar 0) (mCons (mVar 1) (mCons (mVar 2) (mCons (mVar 3) mNil))))) (gN 4))
  (sSeq (sAsg (mLstC mNil) (gN 5))
  (sSeq (sFor (mEnum (mCons (mVar 1) mNil)) (gT ((gN 6) :: ((gT ((gN 7) :: ((gN 8) :: []))) :: []))) bSt)
  (sSeq (sIf (mT (mOp eqM (mVar 5) (mVar 3))) (sRet (mTup (mCons (mCB tupleM (mCons (mVar 3) mNil)) (mCons (mCB tupleM (mCons (mVar 4) mNil)) mNil)))) sPass)
  (sAsg (mVar 5) (gN 3))))))
noncomputable abbrev bTl : SM := (sSeq (sIf (mT (mOp eqM (mVar 5) (mVar 3))) (sRet (mTup (mCons (mCB tupleM (mCons (mVar 3) mNil)) (mCons (mCB tupleM (mCons (mVar 4) mNil)) mNil)))) sPass) (sAsg (mVar 5) (gN 3)))
/-- one round up to the test -/
theorem round_ok (hm : okMem μ) (hd : Dsc d) (ok : OkT t h w) (om : OkM m w h) (m4 : m.length ≤ 4) (hp : OkP m h p) {dv : MV} (hv : ∀ ν, lstOf (μ ++ ν) dv = some (rNs p)) (u4 u5 u6 u7 u8 u9 u10 u11 u12 : Option MV) :
    ∃ v6 v7 v8 v9 v10 v11 v12, bPl [some (rT t), some (rM m), some (rq d), some dv, u4, u5, u6, u7, u8, u9, u10, u11, u12] μ = bTl [some (rT t), some (rM m), some (rq d), some dv, some (.lst (rVs t m d p m.length)), some (.ref μ.length), v6, v7, v8, v9, v10, v11, v12] (μ ++ [.lst (rNs (fre t m d h p m.length))]) := by
  have av := answered_ok hm ok om hd hp hv
  have h5 := ok.h1
  have hl := ok.hl
  have m6 := om.l1
  let I : Nat → MM.Env → Mem → Prop := fun j ρ μ' => ∃ v6 v7 v8 v9 v10 v11 v12, ρ = [some (rT t), some (rM m), some (rq d), some dv, some (.lst (rVs t m d p m.length)), some (.ref μ.length), v6, v7, v8, v9, v10, v11, v12] ∧ μ' = μ ++ [.lst (rNs (fre t m d h p j))]
  have itl : (enumL 0 (m.map rS)).length = m.length := by rw [enumL_len, List.length_map]
  obtain ⟨ρ', μ', e1, v6, v7, v8, v9, v10, v11, v12, e2, e3⟩ := for_idx (xs0 := enumL 0 (m.map rS)) (g := gT ((gN 6) :: ((gT ((gN 7) :: ((gN 8) :: []))) :: []))) (b := bSt) I (I m.length) (enumL 0 (m.map rS)) 0
    [some (rT t), some (rM m), some (rq d), some dv, some (.lst (rVs t m d p m.length)), some (.ref μ.length), u6, u7, u8, u9, u10, u11, u12] (μ ++ [.lst []]) ⟨u6, u7, u8, u9, u10, u11, u12, rfl, rfl⟩ (fun ρ μ' q => by rw [itl, Nat.zero_add] at q; exact q) (by
      intro s x hx ρ μ' ⟨v6, v7, v8, v9, v10, v11, v12, q1, q2⟩
      subst q1 q2
      rw [Nat.zero_add] at *
      rw [enumL_get, List.getElem?_map, Option.map_map] at hx
      obtain ⟨st, hst, rfl⟩ := Option.map_eq_some_iff.mp hx
      have hs : s < m.length := (List.getElem?_eq_some_iff.mp hst).1
      have es : m.getD s (0, []) = st := by rw [List.getD_eq_getElem?_getD, hst]; rfl
      have okX : okMem (μ ++ [.lst (rNs (fre t m d h p s))]) := okMem_snoc hm (nrs_Ns _)
      obtain ⟨w11, w12, ol⟩ := own_loop okX hd ok om m4 hp hs dv (.ref μ.length) v11 v12 (intsL 0 h)
      refine ⟨[some (rT t), some (rM m), some (rq d), some dv, some (.lst (rVs t m d p m.length)), some (.ref μ.length), some (.int s), some (.int (chN m s)), some (rR (m.getD s (0, [])).2), v9, v10, v11, v12], μ ++ [.lst (rNs (fre t m d h p s))], ?_, .inl ⟨[some (rT t), some (rM m), some (rq d), some dv, some (.lst (rVs t m d p m.length)), some (.ref μ.length), some (.int s), some (.int (chN m s)), some (rR (m.getD s (0, [])).2), some (.int ((bw t m d p s h).1 : Nat)), some (rq (bw t m d p s h).2), w11, w12], μ ++ [.lst (rNs (fre t m d h p s) ++ [.int ((bw t m d p s h).1 : Nat)])], .inl ?_, some (.int s), some (.int (chN m s)), some (rR (m.getD s (0, [])).2), some (.int ((bw t m d p s h).1 : Nat)), some (rq (bw t m d p s h).2), w11, w12, rfl, ?_⟩⟩
      · unfold chN
        rw [es, Nat.zero_add]
        rfl
      · refine seq_step (ρ1 := [some (rT t), some (rM m), some (rq d), some dv, some (.lst (rVs t m d p m.length)), some (.ref μ.length), some (.int s), some (.int (chN m s)), some (rR (m.getD s (0, [])).2), some (.int (at_ p s)), some (rq (valP t m d p s)), v11, v12]) (par_s (cons_ok (op_ok (var_ok rfl) (var_ok rfl) ((ix_lst (hv _) _).trans (at_rNs (by rw [hp.1]; exact hs)))) (one_ok (op_ok (var_ok rfl) (var_ok rfl) ((ixL _ _).trans (at_rVs hs)))))) ?_
        refine seq_step (sfor_of (mrng1 (n := h) (one_ok (cb_ok (one_ok (var_ok rfl)) ((lenTT _ _).trans (by rw [hl])))) ⟨by omega, by omega⟩) ol) ?_
        exact appL_s (var_ok rfl) (var_ok rfl) (by unfold rNs; rw [List.length_map]; unfold fre; simp; omega)
      · rw [fre_succ]
        unfold rNs
        rw [List.map_append]
        rfl)
  subst e2 e3
  refine ⟨v6, v7, v8, v9, v10, v11, v12, ?_⟩
  unfold bPl
  refine seq_step (ρ1 := [some (rT t), some (rM m), some (rq d), some dv, some (.lst (rVs t m d p m.length)), u5, u6, u7, u8, u9, u10, u11, u12]) (μ1 := μ) (asg_ok (call_ok (cons_ok (var_ok rfl) (cons_ok (var_ok rfl) (cons_ok (var_ok rfl) (one_ok (var_ok rfl))))) rfl av) rfl) ?_
  refine seq_step (ρ1 := [some (rT t), some (rM m), some (rq d), some dv, some (.lst (rVs t m d p m.length)), some (.ref μ.length), u6, u7, u8, u9, u10, u11, u12]) (μ1 := μ ++ [.lst []]) (asg_ok (lstC_ok nil_ok) rfl) ?_
  refine seq_step (sfor_of (enum_ok (d := rM m) (t := ⟨m.map rS, []⟩) (one_ok (var_ok rfl)) rfl) e1) rfl
theorem plan_while (hd : Dsc d) (ok : OkT t h w) (om : OkM m w h) (m4 : m.length ≤ 4) (hm : okMem μ) : ∀ (k : Nat) (ν : Mem) (p : List Nat) (dv : MV) (fuel : Nat) (u4 u5 u6 u7 u8 u9 u10 u11 u12 : Option MV), Pl ν → OkP m h p → (∀ ξ, lstOf (μ ++ ν ++ ξ) dv = some (rNs p)) →
    (Pol.rows h m.length).countP (fun q => decide (Phi t m d p < Phi t m d q)) ≤ k → k < fuel →
    ∃ (ν' : Mem) (p' : List Nat), whileN (mT (mRet (.bl true))) bPl fuel [some (rT t), some (rM m), some (rq d), some dv, u4, u5, u6, u7, u8, u9, u10, u11, u12] (μ ++ ν) = .rt (.tup [.tup (rNs p'), .tup (rVs t m d p' m.length)]) (μ ++ ν') ∧ OkP m h p' ∧ Bell t m d h p' := by
  intro k
  induction k with
  | zero =>
    intro ν p dv fuel u4 u5 u6 u7 u8 u9 u10 u11 u12 hν hp hv hk hf
    obtain ⟨fuel, rfl⟩ : ∃ g, fuel = g + 1 := ⟨fuel - 1, by omega⟩
    obtain ⟨v6, v7, v8, v9, v10, v11, v12, rnd⟩ := round_ok (okMem_pl hm hν) hd ok om m4 hp hv u4 u5 u6 u7 u8 u9 u10 u11 u12
    rcases better (t := t) hd.zero hd.one om hp with ⟨e, be⟩ | ⟨ne, lt⟩
    · have q := dtN.eqL (by omega) (xs := fre t m d h p m.length) (ys := p) (lstC_of (get_last (μ := μ ++ ν) (c := .lst (rNs (fre t m d h p m.length))))) (hv _)
      rw [decide_eq_true e] at q
      refine ⟨ν ++ [.lst (rNs (fre t m d h p m.length))], p, while_rt (t_ok k_ok) (rnd.trans ?_), hp, be⟩
      rw [← List.append_assoc]
      exact seq_rt (if_t (t_ok (op_ok (var_ok rfl) (var_ok rfl) q)) (ret_s (tup_ok (cons_ok (cb_ok (one_ok (var_ok rfl)) (tup_lst (hv _))) (one_ok (cb_ok (one_ok (var_ok rfl)) rfl))))))
    · exfalso
      have hf := fre_ok (t := t) (d := d) hp
      have mem := Pol.mem_rows hf.1 hf.2
      have z := (List.countP_eq_zero.mp (by omega : (Pol.rows h m.length).countP (fun q => decide (Phi t m d p < Phi t m d q)) = 0)) _ mem
      exact z (decide_eq_true lt)
  | succ k ih =>
    intro ν p dv fuel u4 u5 u6 u7 u8 u9 u10 u11 u12 hν hp hv hk hf
    obtain ⟨fuel, rfl⟩ : ∃ g, fuel = g + 1 := ⟨fuel - 1, by omega⟩
    obtain ⟨v6, v7, v8, v9, v10, v11, v12, rnd⟩ := round_ok (okMem_pl hm hν) hd ok om m4 hp hv u4 u5 u6 u7 u8 u9 u10 u11 u12
    have q := dtN.eqL (by omega) (xs := fre t m d h p m.length) (ys := p) (lstC_of (get_last (μ := μ ++ ν) (c := .lst (rNs (fre t m d h p m.length))))) (hv _)
    rcases better (t := t) hd.zero hd.one om hp with ⟨e, be⟩ | ⟨ne, lt⟩
    · rw [decide_eq_true e] at q
      refine ⟨ν ++ [.lst (rNs (fre t m d h p m.length))], p, while_rt (t_ok k_ok) (rnd.trans ?_), hp, be⟩
      rw [← List.append_assoc]
      exact seq_rt (if_t (t_ok (op_ok (var_ok rfl) (var_ok rfl) q)) (ret_s (tup_ok (cons_ok (cb_ok (one_ok (var_ok rfl)) (tup_lst (hv _))) (one_ok (cb_ok (one_ok (var_ok rfl)) rfl))))))
    · rw [decide_eq_false ne] at q
      have hf' := fre_ok (t := t) (d := d) hp
      have mem := Pol.mem_rows hf'.1 hf'.2
      have lt2 : (Pol.rows h m.length).countP (fun q => decide (Phi t m d (fre t m d h p m.length) < Phi t m d q)) < (Pol.rows h m.length).countP (fun q => decide (Phi t m d p < Phi t m d q)) :=
        Pol.countP_lt (fun x _ z => decide_eq_true (by have := of_decide_eq_true z; grind)) ⟨_, mem, decide_eq_true lt, decide_eq_false (by grind)⟩
      have hl : ∀ ξ, lstOf (μ ++ (ν ++ [.lst (rNs (fre t m d h p m.length))]) ++ ξ) (.ref (μ ++ ν).length) = some (rNs (fre t m d h p m.length)) := fun ξ => by
        refine lstC_of ?_
        rw [← List.append_assoc μ, List.append_assoc (μ ++ ν)]
        exact get_app (i := 0)
      obtain ⟨ν', p', s1, s2⟩ := ih (ν ++ [.lst (rNs (fre t m d h p m.length))]) (fre t m d h p m.length) (.ref (μ ++ ν).length) fuel (some (.lst (rVs t m d p m.length))) (some (.ref (μ ++ ν).length)) v6 v7 v8 v9 v10 v11 v12 (hν.snoc (nrs_Ns _)) hf' hl (by omega) (by omega)
      have r2 : bPl [some (rT t), some (rM m), some (rq d), some dv, u4, u5, u6, u7, u8, u9, u10, u11, u12] (μ ++ ν) = .nx [some (rT t), some (rM m), some (rq d), some (.ref (μ ++ ν).length), some (.lst (rVs t m d p m.length)), some (.ref (μ ++ ν).length), v6, v7, v8, v9, v10, v11, v12] (μ ++ (ν ++ [.lst (rNs (fre t m d h p m.length))])) := by
        refine rnd.trans ?_
        rw [← List.append_assoc]
        exact seq_step (if_n (t_ok (op_ok (var_ok rfl) (var_ok rfl) q))) (asg_ok (var_ok rfl) rfl)
      exact ⟨ν', p', by rw [while_go (t_ok k_ok) r2]; exact s1, s2⟩
theorem mulL0 {μ : Mem} {n : Nat} (hn : n ≤ 50) : mulM2 μ (.lst [.int 0]) (.int n) = some (.lst (rNs (List.replicate n 0))) := by
  have hz : ([MV.int 0].length * (n : Int).toNat) ≤ sizeLine := le_size0 (by rw [Int.toNat_natCast, List.length_singleton, Nat.one_mul]; exact hn)
  have h1 : -(2 ^ 63) ≤ (n : Int) := by omega
  have h2 : (n : Int) < 2 ^ 63 := by omega
  have e : mulM2 μ (.lst [.int 0]) (.int n) = (some [MV.int 0]).bind fun xs => if -(2 ^ 63) ≤ (n : Int) ∧ (n : Int) < 2 ^ 63 ∧ xs.length * (n : Int).toNat ≤ sizeLine then some (MV.lst (List.replicate (n : Int).toNat xs).flatten) else none := rfl
  rw [e, Option.bind_some, if_pos ⟨h1, h2, hz⟩, Int.toNat_natCast, List.flatten_replicate_singleton]
  unfold rNs
  rw [List.map_replicate]
  rfl
theorem best_plan_ok (hm : okMem μ) (hd : Dsc d) (ok : OkT t h w) (om : OkM m w h) (m4 : m.length ≤ 4) : ∃ p, F_p_best_plan_for [rT t, rM m, rq d] μ = .ok (.tup [.tup (rNs p), .tup (rVs t m d p m.length)]) μ ∧ OkP m h p ∧ Bell t m d h p := by
  have h5 := ok.h1
  have m6 := om.l1
  have p0 : OkP m h (List.replicate m.length 0) := ⟨by simp, fun x hx => by rw [(List.mem_replicate.mp hx).2]; omega⟩
  have cl : (Pol.rows h m.length).countP (fun q => decide (Phi t m d (List.replicate m.length 0) < Phi t m d q)) ≤ 5 ^ 4 := by
    refine Nat.le_trans List.countP_le_length ?_
    rw [Pol.rows_len]
    exact Nat.le_trans (Nat.pow_le_pow_left (by omega) _) (Nat.pow_le_pow_right (by omega) m4)
  obtain ⟨ν', p, e, hp, be⟩ := plan_while hd ok om m4 hm (5 ^ 4) [] (List.replicate m.length 0) (.lst (rNs (List.replicate m.length 0))) FUEL none none none none none none none none none Pl.nil p0 (fun _ => rfl) cl (by unfold FUEL; omega)
  rw [List.append_nil] at e
  refine ⟨p, ?_, hp, be⟩
  have key : M_p_best_plan_for [some (rT t), some (rM m), some (rq d), none, none, none, none, none, none, none, none, none, none] μ = .rt (.tup [.tup (rNs p), .tup (rVs t m d p m.length)]) (μ ++ ν') := by
    unfold M_p_best_plan_for
    refine seq_step (ρ1 := [some (rT t), some (rM m), some (rq d), some (.lst (rNs (List.replicate m.length 0))), none, none, none, none, none, none, none, none, none]) (μ1 := μ) (asg_ok (op_ok (lst_ok (one_ok k_ok)) (cb_ok (one_ok (var_ok rfl)) (lenM_ _ m)) ?_) rfl) ?_
    rotate_left
    · show whileN _ _ FUEL _ _ = _
      exact e
    exact mulL0 (by omega)
  refine run_data key ?_ hm
  have n1 := nrs_Ns p
  have n2 := nrs_Vs (t := t) (m := m) (d := d) (p := p) m.length
  rw [show nr (.tup [.tup (rNs p), .tup (rVs t m d p m.length)]) = nrs [.tup (rNs p), .tup (rVs t m d p m.length)] from by unfold nr; rfl, nrs_all]
  simp only [List.all_cons, List.all_nil, Bool.and_true]
  rw [show nr (.tup (rNs p)) = nrs (rNs p) from by unfold nr; rfl, show nr (.tup (rVs t m d p m.length)) = nrs (rVs t m d p m.length) from by unfold nr; rfl, n1, n2]
  rfl
/-- no plan has more than the best -/
theorem val_le (hd : Dsc d) (om : OkM m w h) (be : Bell t m d h p) {q : List Nat} (hq : OkP m h q) {s : Nat} (hs : s < m.length) : valP t m d q s ≤ valP t m d p s := by
  obtain ⟨i, L, _, r⟩ := rho_at om hq hs
  rw [valP_eq r]
  refine Dis.cf_le hd.zero hd.one r (valP t m d p) fun n => ?_
  have hn := PP_lt om hq hs n
  exact be _ hn (at_ q _) (at_lt hq hn)
theorem val_uniq (hd : Dsc d) (om : OkM m w h) {q : List Nat} (hp : OkP m h p) (hq : OkP m h q) (bp : Bell t m d h p) (bq : Bell t m d h q) {s : Nat} (hs : s < m.length) : valP t m d p s = valP t m d q s := by
  have a := val_le hd om bp hq hs
  have b := val_le hd om bq hp hs
  grind
end
end K21

set_option Elab.async false
set_option linter.all false
set_option maxRecDepth 100000
set_option maxHeartbeats 4000000
namespace K21
open PySem PySem.Spec PyProof.Rows L2 MM PL
/-- one of both in a game, and the table that one sees -/
structure Sg (a b : List (List Int)) (h w : Nat) (who : Int) (t : List (List Int)) (h' w' : Nat) : Prop where
  oa : OkT a h w
  ob : OkT b h w
  hw : who = 0 ∨ who = 1
  et : t = if who = 0 then a else cols b w
  ot : OkT t h' w'
section
variable {m : Mch} {t a b : List (List Int)} {h w h' w' : Nat} {who : Int} {d : Rat} {μ : Mem} {p : List Nat}
theorem Sg.seen (g : Sg a b h w who t h' w') (hm : okMem μ) : F_p_seen_by [rG a b, .int who] μ = .ok (rT t) μ := by
  have := seen_by_ok hm (a := a) g.ob who
  rw [← g.et] at this
  exact this
theorem head_row (ot : OkT t h w) : ∃ r0, ixM μ (rT t) (.int 0) = some (rR r0) ∧ r0.length = w := by
  match t, ot with
  | [], ot => exact absurd ot.hl (by have := ot.h1; simp; omega)
  | r0 :: t', ot => exact ⟨r0, ixTT _ _ _, ot.rl r0 List.mem_cons_self⟩
theorem against_ok (g : Sg a b h w who t h' w') (hm : okMem μ) (om : OkM m w' h') : F_p_check_against [rG a b, .int who, rM m] μ = .ok .non μ := by
  have cg := check_game_ok hm g.oa g.ob
  have cw := check_who_ok hm g.hw
  have cm := check_machine_ok hm g.ot.h1.2 om
  obtain ⟨r0, e1, e2⟩ := head_row (μ := μ) g.ot
  refine run_nx0 (ρ := [some (rG a b), some (.int who), some (rM m), some (rT t)]) (show M_p_check_against [some (rG a b), some (.int who), some (rM m), none] μ = _ from ?_) hm
  unfold M_p_check_against
  refine seq_step (drop_s (call_ok (one_ok (var_ok rfl)) rfl cg)) ?_
  refine seq_step (drop_s (call_ok (one_ok (var_ok rfl)) rfl cw)) ?_
  refine seq_step (ρ1 := [some (rG a b), some (.int who), some (rM m), some (rT t)]) (asg_ok (call_ok (cons_ok (var_ok rfl) (one_ok (var_ok rfl))) rfl (g.seen hm)) rfl) ?_
  refine drop_s (r := .non) (call_ok (o := .ok .non μ) (cons_ok (cb_ok (one_ok (op_ok (var_ok rfl) k_ok e1)) (lenR _ _)) (cons_ok (cb_ok (one_ok (var_ok rfl)) (lenTT _ _)) (one_ok (var_ok rfl)))) rfl ?_)
  rw [e2, g.ot.hl]
  exact cm
theorem best_worth_ok (g : Sg a b h w who t h' w') (hm : okMem μ) (om : OkM m w' h') (m4 : m.length ≤ 4) (hd : Dsc d) : ∃ p, F_p_best_worth [rG a b, .int who, rM m, rq d] μ = .ok (rq (valP t m d p 0)) μ ∧ OkP m h' p ∧ Bell t m d h' p := by
  have ca := against_ok g hm om
  have cd := check_discount_ok hm hd.sz (by omega) hd.n0 hd.one
  obtain ⟨p, bp, hp, be⟩ := best_plan_ok hm hd g.ot om m4
  refine ⟨p, run_rt0 (show M_p_best_worth [some (rG a b), some (.int who), some (rM m), some (rq d)] μ = _ from ?_) (nr_rq _) hm, hp, be⟩
  unfold M_p_best_worth
  refine seq_step (drop_s (call_ok (cons_ok (var_ok rfl) (cons_ok (var_ok rfl) (one_ok (var_ok rfl)))) rfl ca)) ?_
  refine seq_step (drop_s (call_ok (one_ok (var_ok rfl)) rfl cd)) ?_
  exact ret_s (op_ok (op_ok (call_ok (cons_ok (call_ok (cons_ok (var_ok rfl) (one_ok (var_ok rfl))) rfl (g.seen hm)) (cons_ok (var_ok rfl) (one_ok (var_ok rfl)))) rfl bp) k_ok rfl) k_ok ((ixT' _ _).trans (at_rVs (s := 0) (by have := om.l1; omega))))
theorem levels_ok (g : Sg a b h w who t h' w') (hm : okMem μ) (om : OkM m w' h') (m4 : m.length ≤ 4) (hd : Dsc d) : ∃ p, F_p_levels_paper [rG a b, .int who, rM m, rq d] μ = .ok (.tup (rVs t m d p m.length)) μ ∧ OkP m h' p ∧ Bell t m d h' p := by
  have ca := against_ok g hm om
  have cd := check_discount_ok hm hd.sz (by omega) hd.n0 hd.one
  obtain ⟨p, bp, hp, be⟩ := best_plan_ok hm hd g.ot om m4
  refine ⟨p, run_rt0 (show M_p_levels_paper [some (rG a b), some (.int who), some (rM m), some (rq d)] μ = _ from ?_) (by unfold nr; exact nrs_Vs _) hm, hp, be⟩
  unfold M_p_levels_paper
  refine seq_step (drop_s (call_ok (cons_ok (var_ok rfl) (cons_ok (var_ok rfl) (one_ok (var_ok rfl)))) rfl ca)) ?_
  refine seq_step (drop_s (call_ok (one_ok (var_ok rfl)) rfl cd)) ?_
  exact ret_s (op_ok (call_ok (cons_ok (call_ok (cons_ok (var_ok rfl) (one_ok (var_ok rfl))) rfl (g.seen hm)) (cons_ok (var_ok rfl) (one_ok (var_ok rfl)))) rfl bp) k_ok rfl)
/-- a plan as a machine -/
def ownM (m : Mch) (p : List Nat) (w' : Nat) : Mch := (List.range m.length).map fun s => ((at_ p s : Int), List.replicate w' (nxt m s (at_ p s) : Int))
theorem ownM_len : (ownM m p w').length = m.length := by simp [ownM]
theorem ownM_ok (om : OkM m w' h') (hp : OkP m h' p) : OkM (ownM m p w') h' w' := by
  refine ⟨by rw [ownM_len]; exact om.l1, fun s hs => ?_, fun s hs => ?_, fun s hs v hv => ?_⟩
  · obtain ⟨k, hk, rfl⟩ := List.mem_map.mp hs
    have := at_lt hp (List.mem_range.mp hk)
    exact ⟨by show (0 : Int) ≤ (at_ p k : Int); omega, by show ((at_ p k : Nat) : Int) < h'; omega⟩
  · obtain ⟨k, hk, rfl⟩ := List.mem_map.mp hs
    simp
  · obtain ⟨k, hk, rfl⟩ := List.mem_map.mp hs
    have hk := List.mem_range.mp hk
    have := nxt_lt om hk (at_lt hp hk)
    rw [(List.mem_replicate.mp hv).2, ownM_len]
    omega
theorem best_machine_ok (g : Sg a b h w who t h' w') (hm : okMem μ) (om : OkM m w' h') (m4 : m.length ≤ 4) (hd : Dsc d) : ∃ p, F_p_best_machine [rG a b, .int who, rM m, rq d] μ = .ok (rM (ownM m p w')) μ ∧ OkP m h' p ∧ Bell t m d h' p := by
  have ca := against_ok g hm om
  have cd := check_discount_ok hm hd.sz (by omega) hd.n0 hd.one
  obtain ⟨p, bp, hp, be⟩ := best_plan_ok hm hd g.ot om m4
  obtain ⟨r0, e1, e2⟩ := head_row (μ := μ) g.ot
  have w1 := g.ot.w1
  refine ⟨p, run_rt0 (show M_p_best_machine [some (rG a b), some (.int who), some (rM m), some (rq d), none, none, none] μ = _ from ?_) (nr_M _) hm, hp, be⟩
  unfold M_p_best_machine
  refine seq_step (drop_s (call_ok (cons_ok (var_ok rfl) (cons_ok (var_ok rfl) (one_ok (var_ok rfl)))) rfl ca)) ?_
  refine seq_step (drop_s (call_ok (one_ok (var_ok rfl)) rfl cd)) ?_
  refine seq_step (ρ1 := [some (rG a b), some (.int who), some (rM m), some (rq d), some (.tup (rNs p)), none, none]) (asg_ok (op_ok (call_ok (cons_ok (call_ok (cons_ok (var_ok rfl) (one_ok (var_ok rfl))) rfl (g.seen hm)) (cons_ok (var_ok rfl) (one_ok (var_ok rfl)))) rfl bp) k_ok rfl) rfl) ?_
  refine seq_step (ρ1 := [some (rG a b), some (.int who), some (rM m), some (rq d), some (.tup (rNs p)), some (.int (w' : Nat)), none]) (asg_ok (cb_ok (one_ok (op_ok (call_ok (cons_ok (var_ok rfl) (one_ok (var_ok rfl))) rfl (g.seen hm)) k_ok e1)) ((lenR _ _).trans (by rw [e2]))) rfl) ?_
  refine ret_s (cb_ok (one_ok (mcomp_mapR (α := Nat) (fun s => .int ((0 : Int) + (s : Nat))) (fun s => rS ((at_ p s : Int), List.replicate w' (nxt m s (at_ p s) : Int))) (List.range m.length) (mrng1 (n := m.length) (one_ok (cb_ok (one_ok (var_ok rfl)) (lenM_ _ m))) ⟨by omega, by omega⟩) (le_size (by rw [List.length_range]; omega)) (fun s hs => ⟨_, rfl, ?_⟩) rfl)) ?_)
  · have hs := List.mem_range.mp hs
    have ix : ixM μ (.tup (rNs p)) (.int ((0 : Int) + (s : Nat))) = some (.int (at_ p s)) := by
      rw [Int.zero_add]
      exact (ixT' _ _).trans (at_rNs (by rw [hp.1]; exact hs))
    have mv := om.m hs (j := (at_ p s : Int)) (by omega) (by have := at_lt hp hs; omega)
    have ixm : ixM μ (rM m) (.int ((0 : Int) + (s : Nat))) = some (.tup [.int (chN m s), rR (m.getD s (0, [])).2]) := by
      rw [Int.zero_add]
      exact atM hs μ
    have ixr : ixM μ (rR (m.getD s (0, [])).2) (.int (at_ p s : Int)) = some (.int (nxt m s (at_ p s) : Nat)) := by
      rw [atR (by omega) (by rw [om.ln _ (om.at hs)]; have := at_lt hp hs; omega), mv.2]
      rfl
    refine (tup_ok (cons_ok (op_ok (var_ok rfl) (var_ok rfl) ix) (one_ok (op_ok (tup_ok (one_ok (op_ok (op_ok (op_ok (var_ok rfl) (var_ok rfl) ixm) k_ok rfl) (op_ok (var_ok rfl) (var_ok rfl) ix) ixr))) (var_ok rfl) (mulT (by omega) (by omega)))))).trans ?_
    unfold rS rR
    rw [List.map_replicate]
  · rw [tupM_l]
    unfold rM ownM
    rw [List.map_map]
    rfl
/-! ### ratios in the law -/
theorem above_ok (hm : okMem μ) {x y : Rat} {n k : Nat} (hx : Sz x n) (hy : Sz y k) (hnk : n + k < 7000) : F_law_above [rq x, rq y] μ = .ok (.bl (decide (y < x))) μ := by
  have m1 := okMul_of (i := x.num) (j := y.den) hx.1 (by rw [den_int]; exact hy.2) (by omega)
  have m2 := okMul_of (i := y.num) (j := x.den) hy.1 (by rw [den_int]; exact hx.2) (by omega)
  refine run_rt0 (show M_law_above [some (rq x), some (rq y)] μ = _ from ?_) rfl hm
  unfold M_law_above
  refine (ret_s (op_ok (op_ok (op_ok (var_ok rfl) k_ok rfl) (op_ok (var_ok rfl) k_ok rfl) (mulI' m1)) (op_ok (op_ok (var_ok rfl) k_ok rfl) (op_ok (var_ok rfl) k_ok rfl) (mulI' m2)) (gtI _ _))).trans ?_
  rw [show decide (y.num * x.den < x.num * y.den) = decide (y < x) by
    by_cases c : y < x
    · rw [decide_eq_true c, decide_eq_true (Rat.lt_iff _ _ |>.mp c)]
    · rw [decide_eq_false c, decide_eq_false (fun z => c ((Rat.lt_iff _ _).mpr z))]]
theorem lratio_ok (hm : okMem μ) {x : Rat} {n : Nat} (hx : Sz x n) (hn : n ≤ 199) : F_law_is_ratio [rq x] μ = .ok (.bl true) μ := by
  have q := lfrac_ok hm x.num x.den (den_pos x) (by rw [den_int]; exact Nat.lt_of_lt_of_le hx.2 (Nat.pow_le_pow_right (by omega) hn))
  have e : qv x.num x.den = rq x := by rw [qv_rat _ _ x.den_nz, Rat.mkRat_self]
  rw [e] at q
  have c : decide ((1 : Int) ≤ (x.den : Int)) = true := decide_eq_true (by have := den_pos x; omega)
  have eq : eqM μ (rq x) (rq x) = some (.bl true) := (dtC.eqM (by omega) μ (x.num, (x.den : Int)) (x.num, (x.den : Int))).trans (by rw [decide_eq_true rfl])
  refine run_rt0 (show M_law_is_ratio [some (rq x)] μ = _ from ?_) rfl hm
  unfold M_law_is_ratio
  exact ret_s (and_t (op_ok (op_ok (var_ok rfl) k_ok rfl) k_ok ((geI _ _).trans (by rw [c]))) (op_ok (call_ok (cons_ok (op_ok (var_ok rfl) k_ok rfl) (one_ok (op_ok (var_ok rfl) k_ok rfl))) rfl q) (var_ok rfl) eq))
/-- twice a ratio's parts -/
def rD (x : Rat) : MV := .tup [.int (2 * x.num), .int (2 * (x.den : Int))]
theorem mk_two (x : Rat) : mkRat (2 * x.num) (2 * x.den) = x := by
  have := Rat.mkRat_mul_left (n := x.num) (d := x.den) (a := 2) (by omega)
  rw [Rat.mkRat_self] at this
  exact this
theorem ldouble_no (hm : okMem μ) {x : Rat} {n : Nat} (hx : Sz x n) (hn : n ≤ 198) : F_law_is_ratio [rD x] μ = .ok (.bl false) μ := by
  have q := lfrac_ok hm (2 * x.num) (2 * (x.den : Int)) (by have := den_pos x; omega) (by
    rw [Int.natAbs_mul, den_int]
    have := hx.2
    have h2 : 2 ^ (n + 1) ≤ 2 ^ 199 := Nat.pow_le_pow_right (by omega) (by omega)
    rw [Nat.pow_succ] at h2
    show 2 * x.den < 2 ^ 199
    omega)
  have e : qv (2 * x.num) (2 * (x.den : Int)) = rq x := by
    have := qv_rat (2 * x.num) (2 * x.den) (Nat.mul_ne_zero (by omega) x.den_nz)
    rw [mk_two] at this
    rw [← this, Int.natCast_mul]
    rfl
  rw [e] at q
  have c : decide ((1 : Int) ≤ 2 * (x.den : Int)) = true := decide_eq_true (by have := den_pos x; omega)
  have ne : ¬ ((x.num, (x.den : Int)) = (2 * x.num, 2 * (x.den : Int))) := fun z => by
    have := (Prod.ext_iff.mp z).2
    have q : (x.den : Int) = 2 * (x.den : Int) := this
    have := den_pos x
    omega
  have eq : eqM μ (rq x) (rD x) = some (.bl false) := (dtC.eqM (by omega) μ (x.num, (x.den : Int)) (2 * x.num, 2 * (x.den : Int))).trans (by rw [decide_eq_false ne])
  refine run_rt0 (show M_law_is_ratio [some (rD x)] μ = _ from ?_) rfl hm
  unfold M_law_is_ratio
  exact ret_s (and_t (op_ok (op_ok (var_ok rfl) k_ok rfl) k_ok ((geI _ _).trans (by rw [c]))) (op_ok (call_ok (cons_ok (op_ok (var_ok rfl) k_ok rfl) (one_ok (op_ok (var_ok rfl) k_ok rfl))) rfl q) (var_ok rfl) eq))
theorem pdouble_no (hm : okMem μ) {x : Rat} {n : Nat} (hx : Sz x n) (hn : n ≤ 1000) : F_p_is_ratio [rD x] μ = .ok (.bl false) μ := by
  have q := is_ratio_ok hm (2 * x.num) (2 * (x.den : Int)) (by
    rw [Int.natAbs_mul, den_int]
    have := hx.2
    have h2 : 2 ^ (n + 1) ≤ 2 ^ 20000 := Nat.pow_le_pow_right (by omega) (by omega)
    rw [Nat.pow_succ] at h2
    show 2 * x.den < 2 ^ 20000
    exact Nat.lt_of_lt_of_le (by omega) h2)
  have e : isQ (2 * x.num) (2 * (x.den : Int)) = false := by
    unfold isQ
    have : Int.gcd (2 * x.num) (2 * (x.den : Int)) = 2 := by
      rw [Int.gcd_mul_left, gcd_rat]; rfl
    rw [this]
    simp
  rw [e] at q
  exact q
theorem pratio_ok (hm : okMem μ) {x : Rat} {n : Nat} (hx : Sz x n) (hn : n ≤ 1000) : F_p_is_ratio [rq x] μ = .ok (.bl true) μ := by
  have q := is_ratio_ok hm x.num x.den (by rw [den_int]; exact Nat.lt_of_lt_of_le hx.2 (Nat.pow_le_pow_right (by omega) (by omega)))
  rw [isQ_rat] at q
  exact q
end
end K21

set_option Elab.async false
set_option linter.all false
set_option maxRecDepth 100000
set_option maxHeartbeats 4000000
namespace K21
open PySem PySem.Spec PyProof.Rows L2 MM PL
section
variable {m f : Mch} {t a b : List (List Int)} {h w h' w' : Nat} {who : Int} {d : Rat} {μ : Mem} {p : List Nat}
/-! ### machines against the best plan -/
theorem rho_of {f s : Mch} (of : OkM f h w) (os : OkM s w h) (lf : f.length ≤ 4) (ls : s.length ≤ 4) : ∃ i L, L ≤ 16 ∧ Orb.Rho (stp f s) (0, 0) i L := by
  refine Orb.rho_ex (N := 16) (fun p => p.1 * 4 + p.2) (fun t => ?_) (fun s1 t1 e => ?_)
  · obtain ⟨h1, h2⟩ := P_in of os (f := f) (s := s) t
    omega
  · obtain ⟨h1, h2⟩ := P_in of os (f := f) (s := s) s1
    obtain ⟨h3, h4⟩ := P_in of os (f := f) (s := s) t1
    have e : (Orb.P (stp f s) (0, 0) s1).1 * 4 + (Orb.P (stp f s) (0, 0) s1).2 = (Orb.P (stp f s) (0, 0) t1).1 * 4 + (Orb.P (stp f s) (0, 0) t1).2 := e
    exact Prod.ext (by omega) (by omega)
def gamF (t : List (List Int)) (f s : Mch) (pr : Nat × Nat) : Rat := ((gnT t (cel f s pr) : Int) : Rat)
theorem wth_cf {s : Mch} {i L : Nat} : wth f s i L d t = Dis.cf (stp f s) (gamF t f s) d (0, 0) i L := by
  unfold wth Dis.cf gR cells ring
  simp only [List.map_map]
  rfl
theorem wth_le (hd : Dsc d) (of : OkM f h w) (om : OkM m w h) (be : Bell t m d h p) {i L : Nat} (r : Orb.Rho (stp f m) (0, 0) i L) : wth f m i L d t ≤ valP t m d p 0 := by
  rw [wth_cf]
  refine Dis.cf_le hd.zero hd.one r (fun pr => valP t m d p pr.2) fun n => ?_
  have hn := P_in of om (f := f) (s := m) n
  obtain ⟨h1, h2⟩ := hn
  show gamF t f m (PP f m n) + d * valP t m d p (stp f m (PP f m n)).2 ≤ valP t m d p (PP f m n).2
  have h1 : (PP f m n).1 < f.length := h1
  have h2 : (PP f m n).2 < m.length := h2
  have c := of.c h1
  have q := be _ h2 (chN f (PP f m n).1).toNat (by omega)
  unfold mor gan nxt at q
  rw [Int.toNat_of_nonneg c.1] at q
  exact q
theorem ownM_at {s : Nat} (hs : s < m.length) : (ownM m p w').getD s (0, []) = ((at_ p s : Int), List.replicate w' (nxt m s (at_ p s) : Int)) := by
  unfold ownM
  rw [List.getD_eq_getElem?_getD, List.getElem?_map, List.getElem?_range hs]; rfl
theorem wth_own (hd : Dsc d) (om : OkM m w h) (hp : OkP m h p) (be : Bell t m d h p) {i L : Nat} (r : Orb.Rho (stp (ownM m p w) m) (0, 0) i L) : wth (ownM m p w) m i L d t = valP t m d p 0 := by
  have of : OkM (ownM m p w) h w := ownM_ok om hp
  have ch : ∀ s, s < m.length → chN (ownM m p w) s = (at_ p s : Int) := fun s hs => by unfold chN; rw [ownM_at hs]
  have mv : ∀ s, s < m.length → ∀ j : Int, 0 ≤ j → j < w → mvN (ownM m p w) s j = nxt m s (at_ p s) := fun s hs j h0 h1 => by
    unfold mvN
    rw [ownM_at hs]
    show ((List.replicate w (nxt m s (at_ p s) : Int)).getD j.toNat 0).toNat = _
    rw [List.getD_eq_getElem?_getD, List.getElem?_replicate, if_pos (by omega)]
    exact Int.toNat_natCast _
  have dia : ∀ n, (PP (ownM m p w) m n).1 = (PP (ownM m p w) m n).2 ∧ (PP (ownM m p w) m n).2 < m.length := by
    intro n
    induction n with
    | zero => exact ⟨rfl, om.l1.1⟩
    | succ n ih =>
      obtain ⟨e, l⟩ := ih
      have c := om.c l
      show (stp (ownM m p w) m (PP (ownM m p w) m n)).1 = (stp (ownM m p w) m (PP (ownM m p w) m n)).2 ∧ (stp (ownM m p w) m (PP (ownM m p w) m n)).2 < m.length
      have e1 : (stp (ownM m p w) m (PP (ownM m p w) m n)).1 = nxt m (PP (ownM m p w) m n).2 (at_ p (PP (ownM m p w) m n).2) := by
        show mvN (ownM m p w) (PP (ownM m p w) m n).1 (chN m (PP (ownM m p w) m n).2) = _
        rw [e]
        exact mv _ l _ c.1 c.2
      have e2 : (stp (ownM m p w) m (PP (ownM m p w) m n)).2 = nxt m (PP (ownM m p w) m n).2 (at_ p (PP (ownM m p w) m n).2) := by
        show mvN m (PP (ownM m p w) m n).2 (chN (ownM m p w) (PP (ownM m p w) m n).1) = _
        rw [e, ch _ l]
        rfl
      exact ⟨e1.trans e2.symm, by rw [e2]; exact nxt_lt om l (at_lt hp l)⟩
  have key : ∀ n, gamF t (ownM m p w) m (PP (ownM m p w) m n) + d * valP t m d p (PP (ownM m p w) m (n + 1)).2 = valP t m d p (PP (ownM m p w) m n).2 := by
    intro n
    obtain ⟨e, l⟩ := dia n
    have e2 : (PP (ownM m p w) m (n + 1)).2 = nxt m (PP (ownM m p w) m n).2 (at_ p (PP (ownM m p w) m n).2) := by
      show mvN m (PP (ownM m p w) m n).2 (chN (ownM m p w) (PP (ownM m p w) m n).1) = _
      rw [e, ch _ l]
      rfl
    have e3 : gamF t (ownM m p w) m (PP (ownM m p w) m n) = ((gan t m (PP (ownM m p w) m n).2 (at_ p (PP (ownM m p w) m n).2) : Int) : Rat) := by
      show ((gnT t (chN (ownM m p w) (PP (ownM m p w) m n).1, chN m (PP (ownM m p w) m n).2) : Int) : Rat) = _
      rw [e, ch _ l]
      rfl
    rw [e2, e3]
    exact mor_self hd.zero hd.one om hp l
  rw [wth_cf]
  have a1 := Dis.cf_le hd.zero hd.one r (γ := gamF t (ownM m p w) m) (fun pr => valP t m d p pr.2) (fun n => by have q := key n; unfold PP at q; rw [q]; exact Rat.le_refl)
  have a2 := Dis.cf_ge hd.zero hd.one r (γ := gamF t (ownM m p w) m) (fun pr => valP t m d p pr.2) (fun n => by have q := key n; unfold PP at q; rw [q]; exact Rat.le_refl)
  exact Rat.le_antisymm a1 a2
/-! ### papers of levels -/
def bellB (t : List (List Int)) (m : Mch) (d : Rat) (h : Nat) (qs : List Rat) : Bool := (List.range m.length).all fun s => (List.range h).all fun o => decide (((gan t m s o : Int) : Rat) + d * qs.getD (nxt m s o) 0 ≤ qs.getD s 0)
theorem bell_le (hd : Dsc d) (om : OkM m w h) (hp : OkP m h p) {qs : List Rat} (hb : bellB t m d h qs = true) : valP t m d p 0 ≤ qs.getD 0 0 := by
  have hs : 0 < m.length := om.l1.1
  obtain ⟨i, L, _, r⟩ := rho_at om hp hs
  rw [valP_eq r]
  refine Dis.cf_le hd.zero hd.one r (fun s => qs.getD s 0) fun n => ?_
  have hn := PP_lt om hp hs n
  have q := List.all_eq_true.mp (List.all_eq_true.mp hb _ (List.mem_range.mpr hn)) _ (List.mem_range.mpr (at_lt hp hn))
  exact of_decide_eq_true q
theorem bell_t {qs : List Rat} (q : ∀ s, s < m.length → ∀ o, o < h → ((gan t m s o : Int) : Rat) + d * qs.getD (nxt m s o) 0 ≤ qs.getD s 0) : bellB t m d h qs = true :=
  List.all_eq_true.mpr fun s hs => List.all_eq_true.mpr fun o ho => decide_eq_true (q s (List.mem_range.mp hs) o (List.mem_range.mp ho))
theorem bell_f {qs : List Rat} {s o : Nat} (hs : s < m.length) (ho : o < h) (q : ¬ ((gan t m s o : Int) : Rat) + d * qs.getD (nxt m s o) 0 ≤ qs.getD s 0) : bellB t m d h qs = false := by
  cases c : bellB t m d h qs with
  | false => rfl
  | true => exact absurd (of_decide_eq_true (List.all_eq_true.mp (List.all_eq_true.mp c _ (List.mem_range.mpr hs)) _ (List.mem_range.mpr ho))) q
/-- a paper of ratios -/
structure Lv (m : Mch) (qs : List Rat) : Prop where
  len : qs.length = m.length
  sz : ∀ q ∈ qs, Sz q 100
def rQ (qs : List Rat) : MV := .tup (qs.map rq)
theorem Lv.at {qs : List Rat} (l : Lv m qs) {s : Nat} (hs : s < m.length) : atI (qs.map rq) (s : Int) = some (rq (qs.getD s 0)) ∧ Sz (qs.getD s 0) 100 := by
  have hq : s < qs.length := by rw [l.len]; exact hs
  have e : qs.getD s 0 = qs[s] := by rw [List.getD_eq_getElem?_getD, List.getElem?_eq_getElem hq]; rfl
  refine ⟨?_, by rw [e]; exact l.sz _ (List.getElem_mem _)⟩
  rw [atN _ _ (by simpa using hq), List.getElem?_map, List.getElem?_eq_getElem hq, e]
  rfl
/-! the law's own judge -/
noncomputable abbrev bLr : SM := sIf (mT (mCall 2 F_law_above (mCons (mCall 2 F_law_plus (mCons (mTup (mCons (mOp ixM (mOp ixM (mVar 0) (mVar 7)) (mVar 5)) (mCons (mRet (.int 1)) mNil))) (mCons (mCall 2 F_law_times (mCons (mVar 2) (mCons (mOp ixM (mVar 3) (mOp ixM (mVar 6) (mVar 7))) mNil))) mNil))) (mCons (mOp ixM (mVar 3) (mVar 4)) mNil)))) (sRet (mRet (.bl false))) sPass
theorem lr_cell (hm : okMem μ) (hd : Dsc d) (ok : OkT t h w) (om : OkM m w h) {qs : List Rat} (l : Lv m qs) {s o : Nat} (hs : s < m.length) (ho : o < h) (u8 : Option MV) :
    bLr [some (rT t), some (rM m), some (rq d), some (rQ qs), some (.int s), some (.int (chN m s)), some (rR (m.getD s (0, [])).2), some (.int o), u8] μ
      = if ((gan t m s o : Int) : Rat) + d * qs.getD (nxt m s o) 0 ≤ qs.getD s 0 then .nx [some (rT t), some (rM m), some (rq d), some (rQ qs), some (.int s), some (.int (chN m s)), some (rR (m.getD s (0, [])).2), some (.int o), u8] μ else .rt (.bl false) μ := by
  have hn := nxt_lt om hs ho
  have mv := om.m hs (j := (o : Int)) (by omega) (by omega)
  obtain ⟨e1, z1⟩ := l.at hn
  obtain ⟨e2, z2⟩ := l.at hs
  have T1 := ltimes_ok hm hd.sz z1 (by omega)
  have A1 := lplus_ok hm (sz_gan ok om hs ho) (hd.sz.mul z1) (by omega)
  have L1 := above_ok hm ((sz_gan ok om hs ho).add (hd.sz.mul z1)) z2 (by omega)
  have ixr : ixM μ (rR (m.getD s (0, [])).2) (.int (o : Int)) = some (.int (nxt m s o : Nat)) := by
    rw [atR (by omega) (by rw [om.ln _ (om.at hs)]; omega), mv.2]
    rfl
  have cond : mT (mCall 2 F_law_above (mCons (mCall 2 F_law_plus (mCons (mTup (mCons (mOp ixM (mOp ixM (mVar 0) (mVar 7)) (mVar 5)) (mCons (mRet (.int 1)) mNil))) (mCons (mCall 2 F_law_times (mCons (mVar 2) (mCons (mOp ixM (mVar 3) (mOp ixM (mVar 6) (mVar 7))) mNil))) mNil))) (mCons (mOp ixM (mVar 3) (mVar 4)) mNil))) [some (rT t), some (rM m), some (rq d), some (rQ qs), some (.int s), some (.int (chN m s)), some (rR (m.getD s (0, [])).2), some (.int o), u8] μ = .ok (decide (qs.getD s 0 < ((gan t m s o : Int) : Rat) + d * qs.getD (nxt m s o) 0)) μ :=
    t_ok (call_ok (cons_ok (call_ok (cons_ok (tup_ok (cons_ok (gain_ok (c := ((o : Int), chN m s)) ok (cell_in om hs ho) (var_ok rfl) (var_ok rfl) (var_ok rfl)) (one_ok k_ok))) (one_ok (call_ok (cons_ok (var_ok rfl) (one_ok (op_ok (var_ok rfl) (op_ok (var_ok rfl) (var_ok rfl) ixr) ((ixT' _ _).trans e1)))) rfl T1))) rfl A1) (one_ok (op_ok (var_ok rfl) (var_ok rfl) ((ixT' _ _).trans e2)))) rfl L1)
  by_cases c : ((gan t m s o : Int) : Rat) + d * qs.getD (nxt m s o) 0 ≤ qs.getD s 0
  · rw [if_pos c]
    rw [decide_eq_false (by grind)] at cond
    exact if_n cond
  · rw [if_neg c]
    rw [decide_eq_true (by grind)] at cond
    exact if_t cond (ret_s k_ok)
theorem law_right_ok (hm : okMem μ) (hd : Dsc d) (ok : OkT t h w) (om : OkM m w h) (m4 : m.length ≤ 4) {qs : List Rat} (l : Lv m qs) : F_law_right [rT t, rM m, rq d, rQ qs] μ = .ok (.bl (bellB t m d h qs)) μ := by
  have w1 := ok.w1
  have h1 := ok.h1
  refine run_rt0 (show M_law_right [some (rT t), some (rM m), some (rq d), some (rQ qs), none, none, none, none, none] μ = _ from ?_) rfl hm
  unfold M_law_right
  have allr : ∀ q ∈ qs, F_law_is_ratio [rq q] μ = .ok (.bl true) μ := fun q hq => lratio_ok hm (l.sz q hq) (by omega)
  refine seq_step (if_n (t_ok (or_f (op_ok (cb_ok (one_ok (var_ok rfl)) (lenT' _)) (cb_ok (one_ok (var_ok rfl)) (lenM_ _ m)) ((neI' _ _).trans (by rw [List.length_map, l.len, decide_eq_true rfl]; rfl))) (op_ok (cb_ok (one_ok (mcomp_filterR (r := .lst []) rq (fun _ => false) rq qs (mitm (var_ok rfl) rfl) (le_size (by rw [l.len]; omega)) (fun q hq => ⟨_, rfl, t_ok (not_ok (call_ok (one_ok (var_ok rfl)) rfl (allr q hq))), fun z => by cases z⟩) (by rw [List.filter_eq_nil_iff.mpr (fun _ _ => by simp)]; rfl))) (lenL _)) k_ok (gtI _ _))))) ?_
  obtain hl | hl := for_ret (xs0 := intsL 0 m.length) (g := gN 4) (b := sSeq (sAsg (mOp ixM (mVar 1) (mVar 4)) (gT ((gN 5) :: ((gN 6) :: [])))) (sFor (mRng rng1 (mCons (mCB lenM (mCons (mVar 0) mNil)) mNil)) (gN 7) bLr))
    (fun j ρ μ' => μ' = μ ∧ (∃ u4 u5 u6 u7 u8, ρ = [some (rT t), some (rM m), some (rq d), some (rQ qs), u4, u5, u6, u7, u8]) ∧ ∀ s, s < j → ∀ o, o < h → ((gan t m s o : Int) : Rat) + d * qs.getD (nxt m s o) 0 ≤ qs.getD s 0)
    (fun r μ' => r = .bl false ∧ μ' = μ ∧ bellB t m d h qs = false) (intsL 0 m.length) 0 [some (rT t), some (rM m), some (rq d), some (rQ qs), none, none, none, none, none] μ ⟨rfl, ⟨_, _, _, _, _, rfl⟩, fun s hs => absurd hs (by omega)⟩ (by
      intro s x hx ρ μ' ⟨q1, ⟨u4, u5, u6, u7, u8, q2⟩, q3⟩
      obtain ⟨hs, rfl⟩ := intsL_get hx
      subst q1 q2
      rw [Nat.zero_add, Int.zero_add] at *
      refine ⟨_, _, rfl, ?_⟩
      obtain hi | hi := for_ret (xs0 := intsL 0 h) (g := gN 7) (b := bLr)
        (fun j ρ μ'' => μ'' = μ' ∧ (∃ u7 u8, ρ = [some (rT t), some (rM m), some (rq d), some (rQ qs), some (.int s), some (.int (chN m s)), some (rR (m.getD s (0, [])).2), u7, u8]) ∧ ∀ o, o < j → ((gan t m s o : Int) : Rat) + d * qs.getD (nxt m s o) 0 ≤ qs.getD s 0)
        (fun r μ'' => r = .bl false ∧ μ'' = μ' ∧ bellB t m d h qs = false) (intsL 0 h) 0 [some (rT t), some (rM m), some (rq d), some (rQ qs), some (.int s), some (.int (chN m s)), some (rR (m.getD s (0, [])).2), u7, u8] μ' ⟨rfl, ⟨_, _, rfl⟩, fun o ho => absurd ho (by omega)⟩ (by
          intro o x hx ρ μ'' ⟨q1, ⟨u7, u8, q2⟩, q4⟩
          obtain ⟨ho, rfl⟩ := intsL_get hx
          subst q1 q2
          rw [Nat.zero_add, Int.zero_add] at *
          have cell := lr_cell hm hd ok om l hs ho u8
          refine ⟨_, _, rfl, ?_⟩
          by_cases c : ((gan t m s o : Int) : Rat) + d * qs.getD (nxt m s o) 0 ≤ qs.getD s 0
          · rw [if_pos c] at cell
            refine .inl ⟨_, _, cell, rfl, ⟨_, _, rfl⟩, fun o' ho' => ?_⟩
            rcases Nat.lt_or_ge o' o with z | z
            · exact q4 o' z
            · rw [show o' = o by omega]; exact c
          · rw [if_neg c] at cell
            exact .inr ⟨_, _, cell, rfl, rfl, bell_f hs ho c⟩)
      · obtain ⟨ρ', μ'', e1, e2, ⟨v7, v8, e3⟩, e4⟩ := hi
        subst e2 e3
        refine .inl ⟨_, _, seq_step (asg_ok (op_ok (var_ok rfl) (var_ok rfl) (atM hs _)) rfl) (sfor_of (mrng1 (n := h) (one_ok (cb_ok (one_ok (var_ok rfl)) ((lenTT _ _).trans (by rw [ok.hl])))) ⟨by omega, by omega⟩) e1), rfl, ⟨_, _, _, _, _, rfl⟩, fun s' hs' o ho => ?_⟩
        rcases Nat.lt_or_ge s' s with z | z
        · exact q3 s' z o ho
        · rw [show s' = s by omega]
          exact e4 o (by rw [intsL_len]; omega)
      · obtain ⟨r, μ'', e1, e2, e3, e4⟩ := hi
        subst e2 e3
        exact .inr ⟨_, _, seq_step (asg_ok (op_ok (var_ok rfl) (var_ok rfl) (atM hs _)) rfl) (sfor_of (mrng1 (n := h) (one_ok (cb_ok (one_ok (var_ok rfl)) ((lenTT _ _).trans (by rw [ok.hl])))) ⟨by omega, by omega⟩) e1), rfl, rfl, e4⟩)
  · obtain ⟨ρ', μ', e1, e2, ⟨u4, u5, u6, u7, u8, e3⟩, e4⟩ := hl
    subst e2 e3
    rw [intsL_len, Nat.zero_add] at e4
    refine seq_step (sfor_of (mrng1 (n := m.length) (one_ok (cb_ok (one_ok (var_ok rfl)) (lenM_ _ m))) ⟨by omega, by omega⟩) e1) ?_
    rw [bell_t e4]
    exact ret_s k_ok
  · obtain ⟨r, μ', e1, e2, e3, e4⟩ := hl
    subst e2 e3
    rw [e4]
    exact seq_rt (sfor_of (mrng1 (n := m.length) (one_ok (cb_ok (one_ok (var_ok rfl)) (lenM_ _ m))) ⟨by omega, by omega⟩) e1)
theorem law_right_len (hm : okMem μ) {xs : List MV} (e : xs.length ≠ m.length) : F_law_right [rT t, rM m, rq d, .tup xs] μ = .ok (.bl false) μ := by
  refine run_rt0 (show M_law_right [some (rT t), some (rM m), some (rq d), some (.tup xs), none, none, none, none, none] μ = _ from ?_) rfl hm
  unfold M_law_right
  exact seq_rt (if_t (t_ok (or_t (op_ok (cb_ok (one_ok (var_ok rfl)) (lenT' _)) (cb_ok (one_ok (var_ok rfl)) (lenM_ _ m)) ((neI' _ _).trans (by rw [decide_eq_false (by omega)]; rfl))))) (ret_s k_ok))
/-- parts twice as great -/
def rQD (qs : List Rat) : MV := .tup (qs.map rD)
theorem law_right_dbl (hm : okMem μ) (om : OkM m w h) {qs : List Rat} (l : Lv m qs) : F_law_right [rT t, rM m, rq d, rQD qs] μ = .ok (.bl false) μ := by
  have m6 := om.l1
  have allr : ∀ q ∈ qs, F_law_is_ratio [rD q] μ = .ok (.bl false) μ := fun q hq => ldouble_no hm (l.sz q hq) (by omega)
  refine run_rt0 (show M_law_right [some (rT t), some (rM m), some (rq d), some (rQD qs), none, none, none, none, none] μ = _ from ?_) rfl hm
  unfold M_law_right
  exact seq_rt (if_t (t_ok (or_f (op_ok (cb_ok (one_ok (var_ok rfl)) (lenT' _)) (cb_ok (one_ok (var_ok rfl)) (lenM_ _ m)) ((neI' _ _).trans (by rw [List.length_map, l.len, decide_eq_true rfl]; rfl))) (op_ok (cb_ok (one_ok (mcomp_filterR (r := .lst (qs.map rD)) rD (fun _ => true) rD qs (mitm (var_ok rfl) rfl) (le_size (by rw [l.len]; omega)) (fun q hq => ⟨_, rfl, t_ok (not_ok (call_ok (one_ok (var_ok rfl)) rfl (allr q hq))), fun _ => var_ok rfl⟩) (by rw [List.filter_eq_self.mpr (fun _ _ => rfl)]))) (lenL _)) k_ok ((gtI _ _).trans (by rw [List.length_map, l.len, decide_eq_true (by omega)]))))) (ret_s k_ok))
/-! the program's judge -/
theorem zip_ok {ρ : MM.Env} {ms : Ev (List MV)} {x y : MV} {tx ty : Itm} (h : ms ρ μ = .ok [x, y] μ) (hx : itmOf μ x = some tx) (hy : itmOf μ y = some ty) : mZip ms ρ μ = .ok ⟨zipL tx.items ty.items, tx.chk ++ ty.chk⟩ μ := by
  unfold mZip mItA mB
  rw [h]
  dsimp only
  unfold zipOf
  dsimp only
  rw [hx, hy]
  rfl
noncomputable abbrev bJl : SM := sIf (mT (mCall 2 F_p_less (mCons (mVar 6) (mCons (mCall 2 F_p_added (mCons (mTup (mCons (mOp ixM (mOp ixM (mVar 5) (mVar 9)) (mVar 7)) (mCons (mRet (.int 1)) mNil))) (mCons (mCall 2 F_p_times (mCons (mVar 3) (mCons (mOp ixM (mVar 4) (mOp ixM (mVar 8) (mVar 9))) mNil))) mNil))) mNil)))) (sRet (mRet (.bl false))) sPass
theorem jl_cell {g who : MV} (hm : okMem μ) (hd : Dsc d) (ok : OkT t h w) (om : OkM m w h) {qs : List Rat} (l : Lv m qs) {s o : Nat} (hs : s < m.length) (ho : o < h) :
    bJl [some g, some who, some (rM m), some (rq d), some (rQ qs), some (rT t), some (rq (qs.getD s 0)), some (.int (chN m s)), some (rR (m.getD s (0, [])).2), some (.int o)] μ
      = if ((gan t m s o : Int) : Rat) + d * qs.getD (nxt m s o) 0 ≤ qs.getD s 0 then .nx [some g, some who, some (rM m), some (rq d), some (rQ qs), some (rT t), some (rq (qs.getD s 0)), some (.int (chN m s)), some (rR (m.getD s (0, [])).2), some (.int o)] μ else .rt (.bl false) μ := by
  have hn := nxt_lt om hs ho
  have mv := om.m hs (j := (o : Int)) (by omega) (by omega)
  obtain ⟨e1, z1⟩ := l.at hn
  obtain ⟨e2, z2⟩ := l.at hs
  have T1 := times_ok hm hd.sz z1 (by omega)
  have A1 := added_ok hm (sz_gan ok om hs ho) (hd.sz.mul z1) (by omega)
  have L1 := less_ok hm z2 ((sz_gan ok om hs ho).add (hd.sz.mul z1)) (by omega)
  have ixr : ixM μ (rR (m.getD s (0, [])).2) (.int (o : Int)) = some (.int (nxt m s o : Nat)) := by
    rw [atR (by omega) (by rw [om.ln _ (om.at hs)]; omega), mv.2]
    rfl
  have cond : mT (mCall 2 F_p_less (mCons (mVar 6) (mCons (mCall 2 F_p_added (mCons (mTup (mCons (mOp ixM (mOp ixM (mVar 5) (mVar 9)) (mVar 7)) (mCons (mRet (.int 1)) mNil))) (mCons (mCall 2 F_p_times (mCons (mVar 3) (mCons (mOp ixM (mVar 4) (mOp ixM (mVar 8) (mVar 9))) mNil))) mNil))) mNil))) [some g, some who, some (rM m), some (rq d), some (rQ qs), some (rT t), some (rq (qs.getD s 0)), some (.int (chN m s)), some (rR (m.getD s (0, [])).2), some (.int o)] μ = .ok (decide (qs.getD s 0 < ((gan t m s o : Int) : Rat) + d * qs.getD (nxt m s o) 0)) μ :=
    t_ok (call_ok (cons_ok (var_ok rfl) (one_ok (call_ok (cons_ok (tup_ok (cons_ok (gain_ok (c := ((o : Int), chN m s)) ok (cell_in om hs ho) (var_ok rfl) (var_ok rfl) (var_ok rfl)) (one_ok k_ok))) (one_ok (call_ok (cons_ok (var_ok rfl) (one_ok (op_ok (var_ok rfl) (op_ok (var_ok rfl) (var_ok rfl) ixr) ((ixT' _ _).trans e1)))) rfl T1))) rfl A1))) rfl L1)
  by_cases c : ((gan t m s o : Int) : Rat) + d * qs.getD (nxt m s o) 0 ≤ qs.getD s 0
  · rw [if_pos c]
    rw [decide_eq_false (by grind)] at cond
    exact if_n cond
  · rw [if_neg c]
    rw [decide_eq_true (by grind)] at cond
    exact if_t cond (ret_s k_ok)
theorem judge_ok (g : Sg a b h w who t h' w') (hm : okMem μ) (om : OkM m w' h') (hd : Dsc d) {qs : List Rat} (l : Lv m qs) : F_p_judge_levels [rG a b, .int who, rM m, rq d, rQ qs] μ = .ok (.bl (bellB t m d h' qs)) μ := by
  have m6 := om.l1
  have w1 := g.ot.w1
  have h1 := g.ot.h1
  have ca := against_ok g hm om
  have cd := check_discount_ok hm hd.sz (by omega) hd.n0 hd.one
  have allr : ∀ q ∈ qs, F_p_is_ratio [rq q] μ = .ok (.bl true) μ := fun q hq => pratio_ok hm (l.sz q hq) (by omega)
  refine run_rt0 (show M_p_judge_levels [some (rG a b), some (.int who), some (rM m), some (rq d), some (rQ qs), none, none, none, none, none] μ = _ from ?_) rfl hm
  unfold M_p_judge_levels
  refine seq_step (drop_s (call_ok (cons_ok (var_ok rfl) (cons_ok (var_ok rfl) (one_ok (var_ok rfl)))) rfl ca)) ?_
  refine seq_step (drop_s (call_ok (one_ok (var_ok rfl)) rfl cd)) ?_
  refine seq_step (ρ1 := [some (rG a b), some (.int who), some (rM m), some (rq d), some (rQ qs), some (rT t), none, none, none, none]) (asg_ok (call_ok (cons_ok (var_ok rfl) (one_ok (var_ok rfl))) rfl (g.seen hm)) rfl) ?_
  refine seq_step (if_n (t_ok (or_f (op_ok (cb_ok (one_ok (var_ok rfl)) (lenT' _)) (cb_ok (one_ok (var_ok rfl)) (lenM_ _ m)) ((neI' _ _).trans (by rw [List.length_map, l.len, decide_eq_true rfl]; rfl))) (not_ok (k := true) (cb_ok (one_ok (mcomp_mapR (r := .lst (qs.map fun _ => .bl true)) rq (fun _ => .bl true) qs (mitm (var_ok rfl) rfl) (le_size (by rw [l.len]; omega)) (fun q hq => ⟨_, rfl, call_ok (one_ok (var_ok rfl)) rfl (allr q hq)⟩) rfl)) ((all_map μ (fun _ => true) qs).trans (by simp))))))) ?_
  have zl : (zipL (qs.map rq) (m.map rS)).length = m.length := by unfold zipL; rw [List.length_zipWith, List.length_map, List.length_map, l.len, Nat.min_self]
  have zg : ∀ {s : Nat} {x : MV}, (zipL (qs.map rq) (m.map rS))[s]? = some x → s < m.length ∧ x = .tup [rq (qs.getD s 0), .tup [.int (chN m s), rR (m.getD s (0, [])).2]] := fun {s x} hx => by
    have hs : s < m.length := by
      rw [← zl]
      exact (List.getElem?_eq_some_iff.mp hx).1
    obtain ⟨y, z, e1, e2, rfl⟩ := zipL_get hx
    refine ⟨hs, ?_⟩
    rw [List.getElem?_map] at e1 e2
    rw [List.getElem?_eq_getElem (by rw [l.len]; exact hs)] at e1
    rw [List.getElem?_eq_getElem hs] at e2
    cases e1
    cases e2
    unfold chN
    rw [List.getD_eq_getElem?_getD, List.getD_eq_getElem?_getD, List.getElem?_eq_getElem (by rw [l.len]; exact hs), List.getElem?_eq_getElem hs]
    rfl
  have zi : mZip (mCons (mVar 4) (mCons (mVar 2) mNil)) [some (rG a b), some (.int who), some (rM m), some (rq d), some (rQ qs), some (rT t), none, none, none, none] μ = .ok ⟨zipL (qs.map rq) (m.map rS), []⟩ μ := zip_ok (cons_ok (var_ok rfl) (one_ok (var_ok rfl))) (show itmOf μ (rQ qs) = some ⟨qs.map rq, []⟩ from rfl) (show itmOf μ (rM m) = some ⟨m.map rS, []⟩ from rfl)
  obtain hl | hl := for_ret (xs0 := zipL (qs.map rq) (m.map rS)) (g := gT ((gN 6) :: ((gT ((gN 7) :: ((gN 8) :: []))) :: []))) (b := sFor (mRng rng1 (mCons (mCB lenM (mCons (mVar 5) mNil)) mNil)) (gN 9) bJl)
    (fun j ρ μ' => μ' = μ ∧ (∃ u6 u7 u8 u9, ρ = [some (rG a b), some (.int who), some (rM m), some (rq d), some (rQ qs), some (rT t), u6, u7, u8, u9]) ∧ ∀ s, s < j → ∀ o, o < h' → ((gan t m s o : Int) : Rat) + d * qs.getD (nxt m s o) 0 ≤ qs.getD s 0)
    (fun r μ' => r = .bl false ∧ μ' = μ ∧ bellB t m d h' qs = false) (zipL (qs.map rq) (m.map rS)) 0 [some (rG a b), some (.int who), some (rM m), some (rq d), some (rQ qs), some (rT t), none, none, none, none] μ ⟨rfl, ⟨_, _, _, _, rfl⟩, fun s hs => absurd hs (by omega)⟩ (by
      intro s x hx ρ μ' ⟨q1, ⟨u6, u7, u8, u9, q2⟩, q3⟩
      obtain ⟨hs, rfl⟩ := zg hx
      subst q1 q2
      rw [Nat.zero_add] at *
      refine ⟨_, _, rfl, ?_⟩
      obtain hi | hi := for_ret (xs0 := intsL 0 h') (g := gN 9) (b := bJl)
        (fun j ρ μ'' => μ'' = μ' ∧ (∃ u9, ρ = [some (rG a b), some (.int who), some (rM m), some (rq d), some (rQ qs), some (rT t), some (rq (qs.getD s 0)), some (.int (chN m s)), some (rR (m.getD s (0, [])).2), u9]) ∧ ∀ o, o < j → ((gan t m s o : Int) : Rat) + d * qs.getD (nxt m s o) 0 ≤ qs.getD s 0)
        (fun r μ'' => r = .bl false ∧ μ'' = μ' ∧ bellB t m d h' qs = false) (intsL 0 h') 0 [some (rG a b), some (.int who), some (rM m), some (rq d), some (rQ qs), some (rT t), some (rq (qs.getD s 0)), some (.int (chN m s)), some (rR (m.getD s (0, [])).2), u9] μ' ⟨rfl, ⟨_, rfl⟩, fun o ho => absurd ho (by omega)⟩ (by
          intro o x hx ρ μ'' ⟨q1, ⟨u9, q2⟩, q4⟩
          obtain ⟨ho, rfl⟩ := intsL_get hx
          subst q1 q2
          rw [Nat.zero_add, Int.zero_add] at *
          have cell := jl_cell (g := rG a b) (who := .int who) hm hd g.ot om l hs ho
          refine ⟨_, _, rfl, ?_⟩
          by_cases c : ((gan t m s o : Int) : Rat) + d * qs.getD (nxt m s o) 0 ≤ qs.getD s 0
          · rw [if_pos c] at cell
            refine .inl ⟨_, _, cell, rfl, ⟨_, rfl⟩, fun o' ho' => ?_⟩
            rcases Nat.lt_or_ge o' o with z | z
            · exact q4 o' z
            · rw [show o' = o by omega]; exact c
          · rw [if_neg c] at cell
            exact .inr ⟨_, _, cell, rfl, rfl, bell_f hs ho c⟩)
      · obtain ⟨ρ', μ'', e1, e2, ⟨v9, e3⟩, e4⟩ := hi
        subst e2 e3
        refine .inl ⟨_, _, sfor_of (mrng1 (n := h') (one_ok (cb_ok (one_ok (var_ok rfl)) ((lenTT _ _).trans (by rw [g.ot.hl])))) ⟨by omega, by omega⟩) e1, rfl, ⟨_, _, _, _, rfl⟩, fun s' hs' o ho => ?_⟩
        rcases Nat.lt_or_ge s' s with z | z
        · exact q3 s' z o ho
        · rw [show s' = s by omega]
          exact e4 o (by rw [intsL_len]; omega)
      · obtain ⟨r, μ'', e1, e2, e3, e4⟩ := hi
        subst e2 e3
        exact .inr ⟨_, _, sfor_of (mrng1 (n := h') (one_ok (cb_ok (one_ok (var_ok rfl)) ((lenTT _ _).trans (by rw [g.ot.hl])))) ⟨by omega, by omega⟩) e1, rfl, rfl, e4⟩)
  · obtain ⟨ρ', μ', e1, e2, ⟨u6, u7, u8, u9, e3⟩, e4⟩ := hl
    subst e2 e3
    rw [zl, Nat.zero_add] at e4
    refine seq_step (sfor_of zi e1) ?_
    rw [bell_t e4]
    exact ret_s k_ok
  · obtain ⟨r, μ', e1, e2, e3, e4⟩ := hl
    subst e2 e3
    rw [e4]
    exact seq_rt (sfor_of zi e1)
theorem judge_len (g : Sg a b h w who t h' w') (hm : okMem μ) (om : OkM m w' h') (hd : Dsc d) {xs : List MV} (e : xs.length ≠ m.length) : F_p_judge_levels [rG a b, .int who, rM m, rq d, .tup xs] μ = .ok (.bl false) μ := by
  have ca := against_ok g hm om
  have cd := check_discount_ok hm hd.sz (by omega) hd.n0 hd.one
  refine run_rt0 (show M_p_judge_levels [some (rG a b), some (.int who), some (rM m), some (rq d), some (.tup xs), none, none, none, none, none] μ = _ from ?_) rfl hm
  unfold M_p_judge_levels
  refine seq_step (drop_s (call_ok (cons_ok (var_ok rfl) (cons_ok (var_ok rfl) (one_ok (var_ok rfl)))) rfl ca)) ?_
  refine seq_step (drop_s (call_ok (one_ok (var_ok rfl)) rfl cd)) ?_
  refine seq_step (ρ1 := [some (rG a b), some (.int who), some (rM m), some (rq d), some (.tup xs), some (rT t), none, none, none, none]) (asg_ok (call_ok (cons_ok (var_ok rfl) (one_ok (var_ok rfl))) rfl (g.seen hm)) rfl) ?_
  exact seq_rt (if_t (t_ok (or_t (op_ok (cb_ok (one_ok (var_ok rfl)) (lenT' _)) (cb_ok (one_ok (var_ok rfl)) (lenM_ _ m)) ((neI' _ _).trans (by rw [decide_eq_false (by omega)]; rfl))))) (ret_s k_ok))
theorem judge_dbl (g : Sg a b h w who t h' w') (hm : okMem μ) (om : OkM m w' h') (hd : Dsc d) {qs : List Rat} (l : Lv m qs) : F_p_judge_levels [rG a b, .int who, rM m, rq d, rQD qs] μ = .ok (.bl false) μ := by
  have m6 := om.l1
  have ca := against_ok g hm om
  have cd := check_discount_ok hm hd.sz (by omega) hd.n0 hd.one
  have allr : ∀ q ∈ qs, F_p_is_ratio [rD q] μ = .ok (.bl false) μ := fun q hq => pdouble_no hm (l.sz q hq) (by omega)
  refine run_rt0 (show M_p_judge_levels [some (rG a b), some (.int who), some (rM m), some (rq d), some (rQD qs), none, none, none, none, none] μ = _ from ?_) rfl hm
  unfold M_p_judge_levels
  refine seq_step (drop_s (call_ok (cons_ok (var_ok rfl) (cons_ok (var_ok rfl) (one_ok (var_ok rfl)))) rfl ca)) ?_
  refine seq_step (drop_s (call_ok (one_ok (var_ok rfl)) rfl cd)) ?_
  refine seq_step (ρ1 := [some (rG a b), some (.int who), some (rM m), some (rq d), some (rQD qs), some (rT t), none, none, none, none]) (asg_ok (call_ok (cons_ok (var_ok rfl) (one_ok (var_ok rfl))) rfl (g.seen hm)) rfl) ?_
  refine seq_rt (if_t (t_ok (or_f (op_ok (cb_ok (one_ok (var_ok rfl)) (lenT' _)) (cb_ok (one_ok (var_ok rfl)) (lenM_ _ m)) ((neI' _ _).trans (by rw [List.length_map, l.len, decide_eq_true rfl]; rfl))) (not_ok (k := false) (cb_ok (one_ok (mcomp_mapR (r := .lst (qs.map fun _ => .bl false)) rD (fun _ => .bl false) qs (mitm (var_ok rfl) rfl) (le_size (by rw [l.len]; omega)) (fun q hq => ⟨_, rfl, call_ok (one_ok (var_ok rfl)) rfl (allr q hq)⟩) rfl)) ((all_map μ (fun _ => false) qs).trans ?_))))) (ret_s k_ok))
  match qs, l with
  | [], l => exact absurd l.len (by have := om.l1; simp; omega)
  | q :: qs, l => rfl
end
end K21

set_option Elab.async false
set_option linter.all false
set_option maxRecDepth 100000
set_option maxHeartbeats 4000000
namespace PL
open PySem PySem.Spec PyProof.Rows L2 MM
section
variable {ρ : MM.Env} {μ μ1 μ2 μ3 μ4 : Mem} {a b c d r : MV} {ma mb mc md : Ev MV}
theorem ch3_ok {o1 o2 o3 : Op2} (ha : ma ρ μ = .ok a μ1) (hb : mb ρ μ1 = .ok b μ2) (h1 : o1 μ2 a b = some (.bl true)) (hc : mc ρ μ2 = .ok c μ3) (h2 : o2 μ3 b c = some (.bl true)) (hd : md ρ μ3 = .ok d μ4) (h3 : o3 μ4 c d = some r) : mCh3 o1 o2 o3 ma mb mc md ρ μ = .ok r μ4 := by
  unfold mCh3 mB
  rw [ha]; dsimp only
  rw [hb]; dsimp only
  rw [h1]; dsimp only
  rw [hc]; dsimp only
  rw [h2]; dsimp only
  rw [hd]; dsimp only
  rw [h3]; rfl
theorem addC_ok {xs ys : List MV} (ha : ma ρ μ = .ok a μ1) (hb : mb ρ μ1 = .ok b μ2) (h1 : lstOf μ2 a = some xs) (h2 : lstOf μ2 b = some ys) (hl : xs.length + ys.length ≤ 1000) : mAddC ma mb ρ μ = .ok (.ref μ2.length) (μ2 ++ [.lst (xs ++ ys)]) := by
  unfold mAddC mB
  rw [ha]; dsimp only
  rw [hb]; dsimp only
  rw [h1, h2]; dsimp only
  rw [if_pos (le_size (by omega))]
end
theorem foldl_max_mem : ∀ (r : List Int) (x : Int), r.foldl max x = x ∨ r.foldl max x ∈ r
  | [], x => .inl rfl
  | y :: r, x => by
    show r.foldl max (max x y) = x ∨ r.foldl max (max x y) ∈ y :: r
    rcases foldl_max_mem r (max x y) with h | h
    · rw [h]
      rcases Int.le_total x y with q | q
      · exact .inr (by rw [show max x y = y by omega]; exact List.mem_cons_self)
      · exact .inl (by omega)
    · exact .inr (List.mem_cons_of_mem _ h)
theorem mx_mem {r : List Int} (hr : r ≠ []) : mx r ∈ r := by
  cases r with
  | nil => exact absurd rfl hr
  | cons x r =>
    rcases foldl_max_mem r x with h | h
    · show r.foldl max x ∈ x :: r
      rw [h]; exact List.mem_cons_self
    · exact List.mem_cons_of_mem _ h
theorem foldl_max_ge : ∀ (r : List Int) (x : Int), x ≤ r.foldl max x
  | [], x => Int.le_refl _
  | y :: r, x => by
    have := foldl_max_ge r (max x y)
    show x ≤ r.foldl max (max x y)
    omega
theorem mn_le_mx {r : List Int} (hr : r ≠ []) : mn r ≤ mx r := by
  cases r with
  | nil => exact absurd rfl hr
  | cons x r =>
    have := foldl_max_ge r x
    have := Dis.foldl_min_le r x
    show r.foldl min x ≤ r.foldl max x
    omega
theorem nrs_bl (bs : List Bool) : nrs (bs.map .bl) = true := nrs_map _ (fun _ => rfl) bs
end PL
namespace K21
open PySem PySem.Spec PyProof.Rows L2 MM PL
section
variable {m f : Mch} {t a b : List (List Int)} {h w h' w' : Nat} {who : Int} {d : Rat} {μ : Mem} {p : List Nat}
theorem ref5 (μ : Mem) : neM μ (.lst [.tup [.str "refused"], .tup [.str "refused"], .tup [.str "refused"], .tup [.str "refused"], .tup [.str "refused"]]) (.lst [.tup [.str "refused"], .tup [.str "refused"], .tup [.str "refused"], .tup [.str "refused"], .tup [.str "refused"]]) = some (.bl false) :=
  ne_refl (B := 200) (k := 2) (n := 45) (Sd.lst (k := 1) (n := 8) fun x hx => by
    have : x = .tup [.str "refused"] := by simpa using hx
    rw [this]; exact sd_ref) (by omega)
theorem mul5 (μ : Mem) : mulM2 μ (.lst [.tup [.str "refused"]]) (.int 5) = some (.lst [.tup [.str "refused"], .tup [.str "refused"], .tup [.str "refused"], .tup [.str "refused"], .tup [.str "refused"]]) := by
  show ((some [MV.tup [.str "refused"]]).bind fun xs => if -(2 ^ 63) ≤ (5 : Int) ∧ (5 : Int) < 2 ^ 63 ∧ xs.length * (5 : Int).toNat ≤ sizeLine then some (MV.lst (List.replicate (5 : Int).toNat xs).flatten) else none) = _
  rw [Option.bind_some, if_pos ⟨by decide, by decide, le_size0 (by decide)⟩]; rfl
/-! ### refused -/
theorem who_x (hm : okMem μ) : F_p_check_who [.int 2] μ = .exc ⟨"NotAllowed", none⟩ μ := by
  refine run_exc0 (show M_p_check_who [some (.int 2)] μ = _ from ?_) hm
  unfold M_p_check_who
  exact if_t (t_ok (op_ok (var_ok rfl) (tup_ok (cons_ok k_ok (one_ok k_ok))) rfl)) raise_s
theorem against_who (oa : OkT a h w) (ob : OkT b h w) (hm : okMem μ) (m : MV) : F_p_check_against [rG a b, .int 2, m] μ = .exc ⟨"NotAllowed", none⟩ μ := by
  have cg := check_game_ok hm oa ob
  refine run_exc0 (show M_p_check_against [some (rG a b), some (.int 2), some m, none] μ = _ from ?_) hm
  unfold M_p_check_against
  refine seq_step (drop_s (call_ok (one_ok (var_ok rfl)) rfl cg)) ?_
  exact seq_exc (drop_x (call_ok (one_ok (var_ok rfl)) rfl (who_x hm)))
theorem against_mach (g : Sg a b h w who t h' w') (hm : okMem μ) {mv : MV} (cm : F_p_check_machine [.int w', .int h', mv] μ = .exc ⟨"NotAllowed", none⟩ μ) : F_p_check_against [rG a b, .int who, mv] μ = .exc ⟨"NotAllowed", none⟩ μ := by
  have cg := check_game_ok hm g.oa g.ob
  have cw := check_who_ok hm g.hw
  obtain ⟨r0, e1, e2⟩ := head_row (μ := μ) g.ot
  refine run_exc0 (show M_p_check_against [some (rG a b), some (.int who), some mv, none] μ = _ from ?_) hm
  unfold M_p_check_against
  refine seq_step (drop_s (call_ok (one_ok (var_ok rfl)) rfl cg)) ?_
  refine seq_step (drop_s (call_ok (one_ok (var_ok rfl)) rfl cw)) ?_
  refine seq_step (ρ1 := [some (rG a b), some (.int who), some mv, some (rT t)]) (asg_ok (call_ok (cons_ok (var_ok rfl) (one_ok (var_ok rfl))) rfl (g.seen hm)) rfl) ?_
  refine drop_x (call_ok (o := .exc ⟨"NotAllowed", none⟩ μ) (cons_ok (cb_ok (one_ok (op_ok (var_ok rfl) k_ok e1)) (lenR _ _)) (cons_ok (cb_ok (one_ok (var_ok rfl)) (lenTT _ _)) (one_ok (var_ok rfl)))) rfl ?_)
  rw [e2, g.ot.hl]
  exact cm
theorem worth_x {gv wv mv dv : MV} (hm : okMem μ) (h : F_p_check_against [gv, wv, mv] μ = .exc ⟨"NotAllowed", none⟩ μ) : F_p_best_worth [gv, wv, mv, dv] μ = .exc ⟨"NotAllowed", none⟩ μ := by
  refine run_exc0 (show M_p_best_worth [some gv, some wv, some mv, some dv] μ = _ from ?_) hm
  unfold M_p_best_worth
  exact seq_exc (drop_x (call_ok (cons_ok (var_ok rfl) (cons_ok (var_ok rfl) (one_ok (var_ok rfl)))) rfl h))
theorem machine_x {gv wv mv dv : MV} (hm : okMem μ) (h : F_p_check_against [gv, wv, mv] μ = .exc ⟨"NotAllowed", none⟩ μ) : F_p_best_machine [gv, wv, mv, dv] μ = .exc ⟨"NotAllowed", none⟩ μ := by
  refine run_exc0 (show M_p_best_machine [some gv, some wv, some mv, some dv, none, none, none] μ = _ from ?_) hm
  unfold M_p_best_machine
  exact seq_exc (drop_x (call_ok (cons_ok (var_ok rfl) (cons_ok (var_ok rfl) (one_ok (var_ok rfl)))) rfl h))
theorem levels_x {gv wv mv dv : MV} (hm : okMem μ) (h : F_p_check_against [gv, wv, mv] μ = .ok .non μ) (hd : F_p_check_discount [dv] μ = .exc ⟨"NotAllowed", none⟩ μ) : F_p_levels_paper [gv, wv, mv, dv] μ = .exc ⟨"NotAllowed", none⟩ μ := by
  refine run_exc0 (show M_p_levels_paper [some gv, some wv, some mv, some dv] μ = _ from ?_) hm
  unfold M_p_levels_paper
  refine seq_step (drop_s (call_ok (cons_ok (var_ok rfl) (cons_ok (var_ok rfl) (one_ok (var_ok rfl)))) rfl h)) ?_
  exact seq_exc (drop_x (call_ok (one_ok (var_ok rfl)) rfl hd))
theorem judge_x1 {gv wv mv dv lv : MV} (hm : okMem μ) (h : F_p_check_against [gv, wv, mv] μ = .exc ⟨"NotAllowed", none⟩ μ) : F_p_judge_levels [gv, wv, mv, dv, lv] μ = .exc ⟨"NotAllowed", none⟩ μ := by
  refine run_exc0 (show M_p_judge_levels [some gv, some wv, some mv, some dv, some lv, none, none, none, none, none] μ = _ from ?_) hm
  unfold M_p_judge_levels
  exact seq_exc (drop_x (call_ok (cons_ok (var_ok rfl) (cons_ok (var_ok rfl) (one_ok (var_ok rfl)))) rfl h))
theorem judge_x2 {gv wv mv dv lv : MV} (hm : okMem μ) (h : F_p_check_against [gv, wv, mv] μ = .ok .non μ) (hd : F_p_check_discount [dv] μ = .exc ⟨"NotAllowed", none⟩ μ) : F_p_judge_levels [gv, wv, mv, dv, lv] μ = .exc ⟨"NotAllowed", none⟩ μ := by
  refine run_exc0 (show M_p_judge_levels [some gv, some wv, some mv, some dv, some lv, none, none, none, none, none] μ = _ from ?_) hm
  unfold M_p_judge_levels
  refine seq_step (drop_s (call_ok (cons_ok (var_ok rfl) (cons_ok (var_ok rfl) (one_ok (var_ok rfl)))) rfl h)) ?_
  exact seq_exc (drop_x (call_ok (one_ok (var_ok rfl)) rfl hd))
/-! ### a paper and its verdict -/
structure Pp (t a b : List (List Int)) (m : Mch) (d : Rat) (who : Int) (V : Rat) (x : MV × Bool) : Prop where
  right : ∀ μ, okMem μ → F_law_right [rT t, rM m, rq d, x.1] μ = .ok (.bl x.2) μ
  judge : ∀ μ, okMem μ → F_p_judge_levels [rG a b, .int who, rM m, rq d, x.1] μ = .ok (.bl x.2) μ
  nr : nr x.1 = true
  head : x.2 = true → ∃ q, (∀ μ, ixM μ x.1 (.int 0) = some (rq q)) ∧ V ≤ q ∧ Sz q 100
theorem nr_rQ (qs : List Rat) : nr (rQ qs) = true := by
  unfold rQ nr
  exact nrs_map _ nr_rq qs
theorem nr_rQD (qs : List Rat) : nr (rQD qs) = true := by
  unfold rQD nr
  exact nrs_map _ (fun _ => rfl) qs
theorem pp_lv (g : Sg a b h w who t h' w') (om : OkM m w' h') (m4 : m.length ≤ 4) (hd : Dsc d) (hp : OkP m h' p) {qs : List Rat} (l : Lv m qs) : Pp t a b m d who (valP t m d p 0) (rQ qs, bellB t m d h' qs) where
  right := fun μ hm => law_right_ok hm hd g.ot om m4 l
  judge := fun μ hm => judge_ok g hm om hd l
  nr := nr_rQ qs
  head := fun e => ⟨qs.getD 0 0, fun μ => (ixT' _ _).trans (l.at (s := 0) om.l1.1).1, bell_le hd om hp e, (l.at (s := 0) om.l1.1).2⟩
theorem pp_len (g : Sg a b h w who t h' w') (om : OkM m w' h') (hd : Dsc d) {V : Rat} {xs : List MV} (e : xs.length ≠ m.length) (hn : nrs xs = true) : Pp t a b m d who V (.tup xs, false) where
  right := fun μ hm => law_right_len hm e
  judge := fun μ hm => judge_len g hm om hd e
  nr := by unfold nr; exact hn
  head := fun e => by cases e
theorem pp_dbl (g : Sg a b h w who t h' w') (om : OkM m w' h') (hd : Dsc d) {V : Rat} {qs : List Rat} (l : Lv m qs) : Pp t a b m d who V (rQD qs, false) where
  right := fun μ hm => law_right_dbl hm om l
  judge := fun μ hm => judge_dbl g hm om hd l
  nr := nr_rQD qs
  head := fun e => by cases e
/-- the best levels -/
noncomputable def vs_ (t : List (List Int)) (m : Mch) (d : Rat) (p : List Nat) : List Rat := (List.range m.length).map (valP t m d p)
theorem rVs_rQ : rVs t m d p m.length = (vs_ t m d p).map rq := by unfold rVs vs_; rw [List.map_map]; rfl
theorem vs_at {s : Nat} (hs : s < m.length) : (vs_ t m d p).getD s 0 = valP t m d p s := by
  unfold vs_
  rw [List.getD_eq_getElem?_getD, List.getElem?_map, List.getElem?_range hs]; rfl
theorem lv_of {qs : List Rat} (hl : qs.length = m.length) (hs : ∀ q ∈ qs, Sz q 80) : Lv m qs := ⟨hl, fun q hq => (hs q hq).mono (by omega)⟩
theorem lv_vs (hd : Dsc d) (ok : OkT t h w) (om : OkM m w h) (m4 : m.length ≤ 4) (hp : OkP m h p) : ∀ q ∈ vs_ t m d p, Sz q 60 := fun q hq => by
  obtain ⟨s, hs, rfl⟩ := List.mem_map.mp hq
  exact sz_val hd ok om m4 hp (List.mem_range.mp hs)
theorem vs_len : (vs_ t m d p).length = m.length := by simp [vs_]
theorem bell_vs (om : OkM m w h) (be : Bell t m d h p) : bellB t m d h (vs_ t m d p) = true := bell_t fun s hs o ho => by
  rw [vs_at hs, vs_at (nxt_lt om hs ho)]
  exact be s hs o ho
/-- one level moved -/
noncomputable def mov (t : List (List Int)) (m : Mch) (d : Rat) (p : List Nat) (k : Nat) (c : Rat) : List Rat := (vs_ t m d p).take k ++ [(vs_ t m d p).getD k 0 + c] ++ (vs_ t m d p).drop (k + 1)
theorem lv_mov (hd : Dsc d) (ok : OkT t h w) (om : OkM m w h) (m4 : m.length ≤ 4) (hp : OkP m h p) {k : Nat} (hk : k < m.length) {c : Rat} (hc : Sz c 7) : Lv m (mov t m d p k c) := by
  have z := lv_vs hd ok om m4 hp
  refine lv_of ?_ fun q hq => ?_
  · unfold mov
    rw [List.length_append, List.length_append, List.length_take, List.length_drop, vs_len]
    simp only [List.length_cons, List.length_nil]
    omega
  · unfold mov at hq
    rcases List.mem_append.mp hq with hq | hq
    · rcases List.mem_append.mp hq with hq | hq
      · exact (z q (List.mem_of_mem_take hq)).mono (by omega)
      · rw [List.mem_singleton.mp hq, vs_at hk]
        exact ((sz_val hd ok om m4 hp hk).add hc).mono (by omega)
    · exact (z q (List.mem_of_mem_drop hq)).mono (by omega)
theorem third : rq (1 / 3 : Rat) = .tup [.int 1, .int 3] ∧ Sz (1 / 3 : Rat) 7 := ⟨by unfold rq; rw [show (1 / 3 : Rat).num = 1 by decide +kernel, show (1 / 3 : Rat).den = 3 by decide +kernel]; rfl, by unfold Sz; decide +kernel⟩
/-- what is moved -/
theorem move_of (k : Int) (h0 : 0 ≤ k) (h3 : k < 3) : ∃ c : Rat, (∀ μ, ixM μ (.lst [.tup [.int 1, .int 7], .tup [.int (-1), .int 7], .tup [.int 99, .int 1]]) (.int k) = some (rq c)) ∧ Sz c 7 := by
  rcases (by omega : k = 0 ∨ k = 1 ∨ k = 2) with rfl | rfl | rfl
  · exact ⟨1 / 7, fun μ => by rw [show rq (1 / 7 : Rat) = .tup [.int 1, .int 7] from by unfold rq; rw [show (1 / 7 : Rat).num = 1 by decide +kernel, show (1 / 7 : Rat).den = 7 by decide +kernel]; rfl]; rfl, by unfold Sz; decide +kernel⟩
  · exact ⟨-1 / 7, fun μ => by rw [show rq (-1 / 7 : Rat) = .tup [.int (-1), .int 7] from by unfold rq; rw [show (-1 / 7 : Rat).num = -1 by decide +kernel, show (-1 / 7 : Rat).den = 7 by decide +kernel]; rfl]; rfl, by unfold Sz; decide +kernel⟩
  · exact ⟨99, fun μ => by rw [show rq (99 : Rat) = .tup [.int 99, .int 1] from rfl]; rfl, by unfold Sz; decide +kernel⟩
end
end K21

set_option Elab.async false
set_option linter.all false
set_option maxRecDepth 100000
set_option maxHeartbeats 4000000
namespace K21
open PySem PySem.Spec PyProof.Rows L2 MM PL
noncomputable def BT (C : Fin 5 → Addr) : SM := (sSeq (sAsg (mCall 1 F_law_small (mCons (mVar 1) mNil)) (gN 3))
  (sSeq (sAsg (mCall 2 F_law_next (mCons (mVar 1) (mCons (mRet (.int 2)) mNil))) (gN 4))
  (sSeq (sAsg (mCall 2 F_law_seen (mCons (mVar 3) (mCons (mVar 4) mNil))) (gN 5))
  (sSeq (sAsg (mCall 3 F_law_machine (mCons (mVar 1) (mCons (mCB lenM (mCons (mOp ixM (mVar 5) (mRet (.int 0))) mNil)) (mCons (mCB lenM (mCons (mVar 5) mNil)) mNil)))) (gN 6))
  (sSeq (sAsg (mCall 1 F_law_discount (mCons (mVar 1) mNil)) (gN 7))
  (sSeq (sAsg (mCall 4 F_p_levels_paper (mCons (mVar 3) (mCons (mVar 4) (mCons (mVar 6) (mCons (mVar 7) mNil))))) (gN 8))
  (sSeq (sAsg (mCall 4 F_p_best_worth (mCons (mVar 3) (mCons (mVar 4) (mCons (mVar 6) (mCons (mVar 7) mNil))))) (gN 9))
  (sSeq (sAsg (mCall 4 F_p_best_machine (mCons (mVar 3) (mCons (mVar 4) (mCons (mVar 6) (mCons (mVar 7) mNil))))) (gN 10))
  (sSeq (sIf (mT (mOr (mNot (mCall 4 F_law_right (mCons (mVar 5) (mCons (mVar 6) (mCons (mVar 7) (mCons (mVar 8) mNil)))))) (mOr (mOp neM (mOp ixM (mVar 8) (mRet (.int 0))) (mVar 9)) (mNot (mChain leM leM (mRet (.int 1)) (mCB lenM (mCons (mVar 10) mNil)) (mRet (.int 6))))))) (sRet (mRet (.bl false))) sPass)
  (sSeq (sIf (mT (mOp gtM (mCB lenM (mCons (mComp (List.map (·.2) ([("choice", 18), ("moves", 19)] : List (Str × Nat))) (mItm (mVar 10)) (gT ((gN 18) :: ((gN 19) :: []))) (mT (mOr (mNot (mChain leM ltM (mRet (.int 0)) (mVar 18) (mCB lenM (mCons (mVar 5) mNil)))) (mOr (mOp neM (mCB lenM (mCons (mVar 19) mNil)) (mCB lenM (mCons (mOp ixM (mVar 5) (mRet (.int 0))) mNil))) (mNot (mCh3 leM leM ltM (mRet (.int 0)) (mCB minM (mCons (mVar 19) mNil)) (mCB maxM (mCons (mVar 19) mNil)) (mCB lenM (mCons (mVar 10) mNil))))))) (mVar 18)) mNil)) (mRet (.int 0)))) (sRet (mRet (.bl false))) sPass)
  (sSeq (sIf (mT (mOp neM (mCall 4 F_law_worths (mCons (mVar 5) (mCons (mVar 10) (mCons (mVar 6) (mCons (mVar 7) mNil))))) (mVar 9))) (sRet (mRet (.bl false))) sPass)
  (sSeq (sFor (mRng rng1 (mCons (mRet (.int 4)) mNil)) (gN 11) (sSeq (sAsg (mCall 3 F_law_machine (mCons (mVar 1) (mCons (mCB lenM (mCons (mVar 5) mNil)) (mCons (mCB lenM (mCons (mOp ixM (mVar 5) (mRet (.int 0))) mNil)) mNil)))) (gN 16))
  (sIf (mT (mCall 2 F_law_above (mCons (mCall 4 F_law_worths (mCons (mVar 5) (mCons (mVar 16) (mCons (mVar 6) (mCons (mVar 7) mNil))))) (mCons (mVar 9) mNil)))) (sRet (mRet (.bl false))) sPass)))
  (sSeq (sAsg (mCall 2 F_law_next (mCons (mVar 1) (mCons (mCB lenM (mCons (mVar 8) mNil)) mNil))) (gN 12))
  (sSeq (sAsg (mLstC (mCons (mVar 8) (mCons (mSlice (mVar 8) (mPart (mRet (.int 1))) mNoPart) (mCons (mOp addM (mVar 8) (mTup (mCons (mTup (mCons (mRet (.int 0)) (mCons (mRet (.int 1)) mNil))) mNil))) (mCons (mCB tupleM (mCons (mComp (List.map (·.2) ([("level", 20)] : List (Str × Nat))) (mItm (mVar 8)) (gN 20) mYes (mCall 2 F_law_plus (mCons (mVar 20) (mCons (mTup (mCons (mRet (.int 1)) (mCons (mRet (.int 3)) mNil))) mNil)))) mNil)) (mCons (mOp mulM2 (mTup (mCons (mTup (mCons (mRet (.int 0)) (mCons (mRet (.int 1)) mNil))) mNil)) (mCB lenM (mCons (mVar 8) mNil))) mNil)))))) (gN 13))
  (sSeq (sAsg (mAddC (mVar 13) (mComp (List.map (·.2) ([("k", 11)] : List (Str × Nat))) (mRng rng1 (mCons (mRet (.int 3)) mNil)) (gN 11) mYes (mOp addM (mOp addM (mSlice (mVar 8) mNoPart (mPart (mVar 12))) (mTup (mCons (mCall 2 F_law_plus (mCons (mOp ixM (mVar 8) (mVar 12)) (mCons (mOp ixM (mLst (mCons (mTup (mCons (mRet (.int 1)) (mCons (mRet (.int 7)) mNil))) (mCons (mTup (mCons (mUn negM (mRet (.int 1))) (mCons (mRet (.int 7)) mNil))) (mCons (mTup (mCons (mRet (.int 99)) (mCons (mRet (.int 1)) mNil))) mNil)))) (mCall 2 F_law_next (mCons (mVar 1) (mCons (mRet (.int 3)) mNil)))) mNil))) mNil))) (mSlice (mVar 8) (mPart (mOp addM (mVar 12) (mRet (.int 1)))) mNoPart)))) (gN 13))
  (sSeq (sDrop (mMeth appM (mVar 13) (mCons (mCB tupleM (mCons (mComp (List.map (·.2) ([("top", 21), ("below", 22)] : List (Str × Nat))) (mItm (mVar 8)) (gT ((gN 21) :: ((gN 22) :: []))) mYes (mTup (mCons (mOp mulM2 (mRet (.int 2)) (mVar 21)) (mCons (mOp mulM2 (mRet (.int 2)) (mVar 22)) mNil)))) mNil)) mNil)))
  (sSeq (sAsg (mComp (List.map (·.2) ([("paper", 17)] : List (Str × Nat))) (mItm (mVar 13)) (gN 17) mYes (mCall 4 F_law_right (mCons (mVar 5) (mCons (mVar 6) (mCons (mVar 7) (mCons (mVar 17) mNil)))))) (gN 14))
  (sSeq (sIf (mT (mNot (mCall 2 F_law_same (mCons (mComp (List.map (·.2) ([("paper", 17)] : List (Str × Nat))) (mItm (mVar 13)) (gN 17) mYes (mCall 5 F_p_judge_levels (mCons (mVar 3) (mCons (mVar 4) (mCons (mVar 6) (mCons (mVar 7) (mCons (mVar 17) mNil))))))) (mCons (mVar 14) mNil))))) (sRet (mRet (.bl false))) sPass)
  (sSeq (sIf (mT (mOp gtM (mCB lenM (mCons (mComp (List.map (·.2) ([("k", 11)] : List (Str × Nat))) (mRng rng1 (mCons (mCB lenM (mCons (mVar 13) mNil)) mNil)) (gN 11) (mT (mAnd (mOp ixM (mVar 14) (mVar 11)) (mCall 2 F_law_above (mCons (mVar 9) (mCons (mOp ixM (mOp ixM (mVar 13) (mVar 11)) (mRet (.int 0))) mNil))))) (mVar 11)) mNil)) (mRet (.int 0)))) (sRet (mRet (.bl false))) sPass)
  (sSeq (sAsg (mLst (mCons (mTold (ksE C) (mCall 4 F_p_best_worth (mCons (mVar 3) (mCons (mRet (.int 2)) (mCons (mVar 6) (mCons (mVar 7) mNil)))))) (mCons (mTold (ksE C) (mCall 4 F_p_best_machine (mCons (mVar 3) (mCons (mVar 4) (mCons (mTup mNil) (mCons (mVar 7) mNil)))))) (mCons (mTold (ksE C) (mCall 4 F_p_levels_paper (mCons (mVar 3) (mCons (mVar 4) (mCons (mVar 6) (mCons (mTup (mCons (mRet (.int 1)) (mCons (mRet (.int 1)) mNil))) mNil)))))) (mCons (mTold (ksE C) (mCall 5 F_p_judge_levels (mCons (mVar 3) (mCons (mVar 4) (mCons (mTup (mCons (mTup (mCons (mRet (.int 9)) (mCons (mOp mulM2 (mTup (mCons (mRet (.int 0)) mNil)) (mCB lenM (mCons (mVar 5) mNil))) mNil))) mNil)) (mCons (mVar 7) (mCons (mTup mNil) mNil))))))) (mCons (mTold (ksE C) (mCall 5 F_p_judge_levels (mCons (mVar 3) (mCons (mVar 4) (mCons (mVar 6) (mCons (mTup (mCons (mRet (.int 2)) (mCons (mRet (.int 4)) mNil))) (mCons (mVar 8) mNil))))))) mNil)))))) (gN 15))
  (sIf (mT (mOp neM (mVar 15) (mOp mulM2 (mLst (mCons (mTup (mCons (mRet (.str "refused")) mNil)) mNil)) (mRet (.int 5))))) (sRet (mRet (.bl false))) sPass)))))))))))))))))))))
noncomputable abbrev B4 : SM := (sSeq (sAsg (mCall 3 F_law_machine (mCons (mVar 1) (mCons (mCB lenM (mCons (mVar 5) mNil)) (mCons (mCB lenM (mCons (mOp ixM (mVar 5) (mRet (.int 0))) mNil)) mNil)))) (gN 16))
  (sIf (mT (mCall 2 F_law_above (mCons (mCall 4 F_law_worths (mCons (mVar 5) (mCons (mVar 16) (mCons (mVar 6) (mCons (mVar 7) mNil))))) (mCons (mVar 9) mNil)))) (sRet (mRet (.bl false))) sPass))
section
variable {a b : List (List Int)} {h w : Nat} {xs ns : List Int} {rest : Mem}
theorem sg_of {who : Int} (oa : OkT a h w) (ob : OkT b h w) (h3 : h ≤ 3) (w3 : w ≤ 3) (w0 : 0 ≤ who) (w1 : who < 2) : ∃ t h' w', t = (if who = 0 then a else cols b w) ∧ Sg a b h w who t h' w' ∧ h' ≤ 3 ∧ w' ≤ 3 := by
  rcases (by omega : who = 0 ∨ who = 1) with rfl | rfl
  · exact ⟨a, h, w, rfl, ⟨oa, ob, .inl rfl, rfl, oa⟩, h3, w3⟩
  · exact ⟨cols b w, w, h, rfl, ⟨oa, ob, .inr rfl, rfl, cols_ok ob⟩, w3, h3⟩
theorem turn_ok (C : Fin 5 → Addr) {k : Nat} (hx : Ns xs) (hm : okMem (sC xs k :: rest)) (hk : k + 2000 ≤ 2 ^ 49) (u2 u3 u4 u5 u6 u7 u8 u9 u10 u11 u12 u13 u14 u15 u16 u17 u18 u19 u20 u21 u22 : Option MV) : ∃ (k' : Nat) (rest' : Mem) (v2 v3 v4 v5 v6 v7 v8 v9 v10 v11 v12 v13 v14 v15 v16 v17 v18 v19 v20 v21 v22 : Option MV),
    BT C [some (.scr ns), some (.ref 0), u2, u3, u4, u5, u6, u7, u8, u9, u10, u11, u12, u13, u14, u15, u16, u17, u18, u19, u20, u21, u22] (sC xs k :: rest) = .nx [some (.scr ns), some (.ref 0), v2, v3, v4, v5, v6, v7, v8, v9, v10, v11, v12, v13, v14, v15, v16, v17, v18, v19, v20, v21, v22] (sC xs k' :: rest') ∧ okMem (sC xs k' :: rest') ∧ k' ≤ k + 1000 := by
  obtain ⟨a, b, h, w, k1, d1, oa, ob, h3, w3, kk1, kk2⟩ := small_draw hx hm (by omega)
  obtain ⟨who, d2, who0, who1⟩ := lnext hx (k := k1) (by omega) (okM_at hm k1) (m := 2) (by omega)
  obtain ⟨t, h', w', et, g, g3, g4⟩ := sg_of oa ob h3 w3 who0 who1
  have d3 : F_law_seen [rG a b, .int who] (sC xs (k1 + 1) :: rest) = .ok (rT t) (sC xs (k1 + 1) :: rest) := by rw [et]; exact lseen_ok (okM_at hm _) ob
  obtain ⟨m, k2, d4, om, m4, kk3, kk4⟩ := mach_draw hx (okM_at hm (k1 + 1)) (by omega) (own := w') (others := h') g.ot.w1.1 g.ot.h1.2
  obtain ⟨d, d5, dn0, dn1, dn2⟩ := disc_draw hx (okM_at hm k2) (by omega)
  have hd : Dsc d := ⟨dn0, dn1, dn2⟩
  obtain ⟨k3, ek3⟩ : ∃ k3, k3 = k2 + 2 := ⟨_, rfl⟩
  rw [← ek3] at d5
  have hM : okMem (sC xs k3 :: rest) := okM_at hm k3
  obtain ⟨p, E1, hp, bp⟩ := levels_ok g hM om m4 hd
  obtain ⟨p2, E2, hp2, bp2⟩ := best_worth_ok g hM om m4 hd
  obtain ⟨p3, E3, hp3, bp3⟩ := best_machine_ok g hM om m4 hd
  have l1 := om.l1
  have q1 := g.ot.h1
  have q2 := g.ot.w1
  have u2_ : valP t m d p2 0 = valP t m d p 0 := val_uniq hd om hp2 hp bp2 bp l1.1
  have u3_ : valP t m d p3 0 = valP t m d p 0 := val_uniq hd om hp3 hp bp3 bp l1.1
  rw [u2_] at E2
  have E1 : F_p_levels_paper [rG a b, .int who, rM m, rq d] (sC xs k3 :: rest) = .ok (rQ (vs_ t m d p)) (sC xs k3 :: rest) := by rw [rVs_rQ] at E1; exact E1
  have zv := lv_vs hd g.ot om m4 hp
  have lv : Lv m (vs_ t m d p) := lv_of vs_len fun q hq => (zv q hq).mono (by omega)
  have zV : Sz (valP t m d p 0) 60 := sz_val hd g.ot om m4 hp l1.1
  have ix0 : ∀ μ, ixM μ (rQ (vs_ t m d p)) (.int 0) = some (rq (valP t m d p 0)) := fun μ => (ixT' _ _).trans ((lv.at (s := 0) l1.1).1.trans (by rw [vs_at l1.1]))
  have R1 := law_right_ok hM hd g.ot om m4 lv
  rw [bell_vs om bp] at R1
  have oo : OkM (ownM m p3 w') h' w' := ownM_ok om hp3
  have ol : (ownM m p3 w').length = m.length := ownM_len
  obtain ⟨i, L, hL, r⟩ := rho_of oo om (by omega) m4
  have W1 := worths_ok hM g.ot oo om r hL hd
  rw [wth_own hd om hp3 bp3 r, u3_] at W1
  have hr : ∀ μ, ∃ r0, ixM μ (rT t) (.int 0) = some (rR r0) ∧ r0.length = w' := fun μ => head_row g.ot
  have lt : ∀ μ, lenM μ [rT t] = some (.int (h' : Nat)) := fun μ => (lenTT _ _).trans (by rw [g.ot.hl])
  have lr : ∀ (ρ : MM.Env) (μ : Mem), ρ[5]? = some (some (rT t)) → mCB lenM (mCons (mOp ixM (mVar 5) (mRet (.int 0))) mNil) ρ μ = .ok (.int (w' : Nat)) μ := fun ρ μ e => by
    obtain ⟨r0, e1, e2⟩ := hr μ
    exact cb_ok (one_ok (op_ok (var_ok e) k_ok e1)) ((lenR _ _).trans (by rw [e2]))
  -- the four that are drawn
  let I : Nat → MM.Env → Mem → Prop := fun j ρ μ => ∃ (q : Nat) (x11 x16 : Option MV), ρ = [some (.scr ns), some (.ref 0), u2, some (rG a b), some (.int who), some (rT t), some (rM m), some (rq d), some (rQ (vs_ t m d p)), some (rq (valP t m d p 0)), some (rM (ownM m p3 w')), x11, u12, u13, u14, u15, x16, u17, u18, u19, u20, u21, u22] ∧ μ = sC xs q :: rest ∧ k3 ≤ q ∧ q ≤ k3 + 100 * j
  obtain ⟨ρ4, μ4, F1, k4, x11, x16, F2, F3, F4, F5⟩ := for_idx (xs0 := intsL 0 4) (g := gN 11) (b := B4) I (I 4) (intsL 0 4) 0 [some (.scr ns), some (.ref 0), u2, some (rG a b), some (.int who), some (rT t), some (rM m), some (rq d), some (rQ (vs_ t m d p)), some (rq (valP t m d p 0)), some (rM (ownM m p3 w')), u11, u12, u13, u14, u15, u16, u17, u18, u19, u20, u21, u22] (sC xs k3 :: rest) ⟨k3, u11, u16, rfl, rfl, Nat.le_refl _, Nat.le_refl _⟩ (fun ρ μ q => q) (by
    intro j x hj ρ μ ⟨q, x11, x16, s1, s2, s3, s4⟩
    obtain ⟨hj1, rfl⟩ := intsL_get hj
    subst s1 s2
    rw [Nat.zero_add] at *
    obtain ⟨f, q', f1, of, f4, f5, f6⟩ := mach_draw hx (okM_at hm q) (by omega) (own := h') (others := w') g.ot.h1.1 g.ot.w1.2
    obtain ⟨i', L', hL', r'⟩ := rho_of of om f4 m4
    have W2 := worths_ok (okM_at hm q') g.ot of om r' hL' hd
    have A2 := above_ok (okM_at hm q') (sz_wth g.ot of om r' hL' hd) zV (by omega)
    have le := wth_le hd of om bp r'
    rw [decide_eq_false (by grind)] at A2
    refine ⟨_, _, rfl, .inl ⟨_, _, .inl (seq_step (asg_ok (call_ok (cons_ok (var_ok rfl) (cons_ok (cb_ok (one_ok (var_ok rfl)) (lt _)) (one_ok (lr _ _ rfl)))) rfl f1) rfl) (if_n (t_ok (call_ok (cons_ok (call_ok (cons_ok (var_ok rfl) (cons_ok (var_ok rfl) (cons_ok (var_ok rfl) (one_ok (var_ok rfl))))) rfl W2) (one_ok (var_ok rfl))) rfl A2)))), q', _, _, rfl, rfl, by omega, by omega⟩⟩)
  subst F2 F3
  obtain ⟨z0, d6, z00, z01⟩ := lnext hx (k := k4) (by omega) (okM_at hm k4) (m := (m.length : Nat)) (by omega)
  obtain ⟨z, rfl⟩ : ∃ z : Nat, z0 = z := ⟨z0.toNat, by omega⟩
  have hz : z < m.length := by omega
  obtain ⟨k5, ek5⟩ : ∃ k5, k5 = k4 + 1 := ⟨_, rfl⟩
  rw [← ek5] at d6
  have hM5 : okMem (sC xs k5 :: rest) := okM_at hm k5
  obtain ⟨P5, eP5⟩ : ∃ P5 : List MV, P5 = [rQ (vs_ t m d p), .tup (((vs_ t m d p).map rq).drop 1), .tup ((vs_ t m d p).map rq ++ [rq 0]), rQ ((vs_ t m d p).map (· + 1 / 3)), rQ (List.replicate m.length 0)] := ⟨_, rfl⟩
  have nP5 : nrs P5 = true := by
    rw [eP5, nrs_all]
    simp only [List.all_cons, List.all_nil, Bool.and_true, Bool.and_eq_true]
    refine ⟨nr_rQ _, ?_, ?_, nr_rQ _, nr_rQ _⟩
    · unfold nr
      rw [← List.map_drop]
      exact nrs_map _ nr_rq _
    · unfold nr
      rw [show [rq 0] = [(0 : Rat)].map rq from rfl, ← List.map_append]
      exact nrs_map _ nr_rq _
  have hM5' : okMem (sC xs k5 :: (rest ++ [.lst P5])) := okMem_snoc (μ := (sC xs k5 :: rest)) hM5 nP5
  -- three that are moved
  let S : Nat → Mem := fun q => sC xs q :: (rest ++ [.lst P5])
  have hS : ∀ q, okMem (S q) := fun q => okM_at hM5' q
  have zz := lv.at hz
  obtain ⟨as, k6, G1, G2, G3, G4, G5⟩ := mcomp_draw (vs := List.map (·.2) ([("k", 11)] : List (Str × Nat))) (mi := mRng rng1 (mCons (mRet (.int 3)) mNil)) (g := gN 11) (e := (mOp addM (mOp addM (mSlice (mVar 8) mNoPart (mPart (mVar 12))) (mTup (mCons (mCall 2 F_law_plus (mCons (mOp ixM (mVar 8) (mVar 12)) (mCons (mOp ixM (mLst (mCons (mTup (mCons (mRet (.int 1)) (mCons (mRet (.int 7)) mNil))) (mCons (mTup (mCons (mUn negM (mRet (.int 1))) (mCons (mRet (.int 7)) mNil))) (mCons (mTup (mCons (mRet (.int 99)) (mCons (mRet (.int 1)) mNil))) mNil)))) (mCall 2 F_law_next (mCons (mVar 1) (mCons (mRet (.int 3)) mNil)))) mNil))) mNil))) (mSlice (mVar 8) (mPart (mOp addM (mVar 12) (mRet (.int 1)))) mNoPart))) (ρ := [some (.scr ns), some (.ref 0), u2, some (rG a b), some (.int who), some (rT t), some (rM m), some (rq d), some (rQ (vs_ t m d p)), some (rq (valP t m d p 0)), some (rM (ownM m p3 w')), x11, some (.int (z : Nat)), some (.ref (sC xs k5 :: rest).length), u14, u15, x16, u17, u18, u19, u20, u21, u22]) rQ (Lv m) S 1 (2 ^ 50) (items := intsL 0 3) (n := 3) (k := k5) rfl (mrng1 (n := 3) (one_ok k_ok) (by decide)) (by omega) (by omega) (by
    intro x _ q hq
    obtain ⟨c0, n1, n2, n3⟩ := lnext hx (k := q) (by omega) (hS q) (m := 3) (by omega)
    obtain ⟨c, c1, c2⟩ := move_of c0 n2 n3
    have A1 := lplus_ok (hS (q + 1)) zz.2 c2 (by omega)
    refine ⟨_, rfl, mov t m d p z c, q + 1, ?_, lv_mov hd g.ot om m4 hp hz c2, by omega, by omega⟩
    refine op_ok (μ1 := S (q + 1)) (μ2 := S (q + 1)) (a := .tup (((vs_ t m d p).map rq).take z ++ [rq ((vs_ t m d p).getD z 0 + c)])) (b := .tup (((vs_ t m d p).map rq).drop (z + 1))) (op_ok (μ1 := S q) (μ2 := S (q + 1)) (a := .tup (((vs_ t m d p).map rq).take z)) (b := .tup [rq ((vs_ t m d p).getD z 0 + c)]) (slice_ok (var_ok rfl) nopart_ok (part_ok (var_ok rfl)) ?_) (tup_ok (one_ok (call_ok (cons_ok (op_ok (var_ok rfl) (var_ok rfl) ((ixT' _ _).trans zz.1)) (one_ok (op_ok (lst_ok (cons_ok (tup_ok (cons_ok k_ok (one_ok k_ok))) (cons_ok (tup_ok (cons_ok (un_ok k_ok rfl) (one_ok k_ok))) (one_ok (tup_ok (cons_ok k_ok (one_ok k_ok))))))) (call_ok (cons_ok (var_ok rfl) (one_ok k_ok)) rfl n1) (c1 _)))) rfl A1))) ?_) (slice_ok (var_ok rfl) (part_ok (op_ok (var_ok rfl) k_ok rfl)) nopart_ok ?_) ?_
    · show some (MV.tup (cutM ((vs_ t m d p).map rq) none (some (z : Int)))) = _
      rw [cut_to]
    · show (if (((vs_ t m d p).map rq).take z).length + 1 ≤ sizeLine then some (MV.tup (((vs_ t m d p).map rq).take z ++ [rq ((vs_ t m d p).getD z 0 + c)])) else none) = _
      rw [if_pos (le_size (by rw [List.length_take, List.length_map, vs_len]; omega))]
    · show some (MV.tup (cutM ((vs_ t m d p).map rq) (some ((z : Int) + 1)) none)) = _
      rw [show (z : Int) + 1 = ((z + 1 : Nat) : Int) by omega, cut_from]
    · show (if (((vs_ t m d p).map rq).take z ++ [rq ((vs_ t m d p).getD z 0 + c)]).length + (((vs_ t m d p).map rq).drop (z + 1)).length ≤ sizeLine then some (MV.tup (((vs_ t m d p).map rq).take z ++ [rq ((vs_ t m d p).getD z 0 + c)] ++ ((vs_ t m d p).map rq).drop (z + 1))) else none) = _
      rw [if_pos (le_size (by simp only [List.length_append, List.length_take, List.length_drop, List.length_map, vs_len, List.length_cons, List.length_nil]; omega))]
      unfold rQ mov
      rw [List.map_append, List.map_append, List.map_take, List.map_drop]
      rfl)
  have lv3 : Lv m ((vs_ t m d p).map (· + 1 / 3)) := lv_of (by rw [List.length_map, vs_len]) fun q hq => by
    obtain ⟨y, hy, rfl⟩ := List.mem_map.mp hq
    exact ((zv y hy).add third.2).mono (by omega)
  have lv0 : Lv m (List.replicate m.length (0 : Rat)) := lv_of (by rw [List.length_replicate]) fun q hq => by
    rw [(List.mem_replicate.mp hq).2]
    exact ⟨by decide, by decide⟩
  obtain ⟨pvs, epv⟩ : ∃ pvs : List (MV × Bool), pvs = [(rQ (vs_ t m d p), bellB t m d h' (vs_ t m d p)), (.tup (((vs_ t m d p).map rq).drop 1), false), (.tup ((vs_ t m d p).map rq ++ [rq 0]), false), (rQ ((vs_ t m d p).map (· + 1 / 3)), bellB t m d h' ((vs_ t m d p).map (· + 1 / 3))), (rQ (List.replicate m.length 0), bellB t m d h' (List.replicate m.length 0))] ++ as.map (fun q => (rQ q, bellB t m d h' q)) ++ [(rQD (vs_ t m d p), false)] := ⟨_, rfl⟩
  have pok : ∀ x ∈ pvs, Pp t a b m d who (valP t m d p 0) x := fun x hx => by
    rw [epv] at hx
    rcases List.mem_append.mp hx with hx | hx
    · rcases List.mem_append.mp hx with hx | hx
      · simp only [List.mem_cons, List.not_mem_nil, or_false] at hx
        rcases hx with rfl | rfl | rfl | rfl | rfl
        · exact pp_lv g om m4 hd hp lv
        · refine pp_len g om hd (by rw [List.length_drop, List.length_map, vs_len]; omega) ?_
          rw [← List.map_drop]; exact nrs_map _ nr_rq _
        · refine pp_len g om hd (by rw [List.length_append, List.length_map, vs_len]; simp) ?_
          rw [show [rq 0] = [(0 : Rat)].map rq from rfl, ← List.map_append]; exact nrs_map _ nr_rq _
        · exact pp_lv g om m4 hd hp lv3
        · exact pp_lv g om m4 hd hp lv0
      · obtain ⟨q, hq, rfl⟩ := List.mem_map.mp hx
        exact pp_lv g om m4 hd hp (G3 q hq)
    · rw [List.mem_singleton.mp hx]
      exact pp_dbl g om hd lv
  have pl9 : pvs.length = 9 := by rw [epv]; simp [G2]
  have pfst : (P5 ++ as.map rQ) ++ [rQD (vs_ t m d p)] = pvs.map Prod.fst := by
    rw [eP5, epv, List.map_append, List.map_append, List.map_map]
    rfl
  have nP9 : nrs (pvs.map Prod.fst) = true := by
    rw [nrs_all, List.all_eq_true]
    intro y hy
    obtain ⟨x, hx, rfl⟩ := List.mem_map.mp hy
    exact (pok x hx).nr
  have hM6 : okMem (sC xs k6 :: (rest ++ [.lst P5])) := hS k6
  have hM7 : okMem ((sC xs k6 :: (rest ++ [.lst P5])) ++ [.lst (pvs.map Prod.fst)]) := okMem_snoc hM6 nP9
  have gP : ((sC xs k6 :: (rest ++ [.lst P5])) ++ [.lst (pvs.map Prod.fst)])[(sC xs k6 :: (rest ++ [.lst P5])).length]? = some (.lst (pvs.map Prod.fst)) := get_last
  have lt' := lt
  have S1 := law_same_ok hM7 (d := .lst (pvs.map fun x => .bl x.2)) (k := 1) (n := 9) (Sd.mono (Sd.lst (k := 0) (n := 0) fun x hx => by
    obtain ⟨y, _, rfl⟩ := List.mem_map.mp hx
    exact Sd.bl) (Nat.le_refl _) (by rw [List.length_map, pl9]; omega)) (by omega) (by omega)
  have cA : F_p_check_against [rG a b, .int who, rM m] ((sC xs k6 :: (rest ++ [.lst P5])) ++ [.lst (pvs.map Prod.fst)]) = .ok .non ((sC xs k6 :: (rest ++ [.lst P5])) ++ [.lst (pvs.map Prod.fst)]) := against_ok g hM7 om
  have O1 := worth_x (dv := rq d) hM7 (against_who oa ob hM7 (rM m))
  have O2 := machine_x (dv := rq d) hM7 (against_mach g hM7 (mv := rM []) (machine_x1 hM7 (m := []) (.inl rfl)))
  have O3 := levels_x hM7 cA (discount_x1 hM7)
  have O4 := judge_x1 (dv := rq d) (lv := .tup []) hM7 (against_mach g hM7 (mv := rM [(9, List.replicate h' 0)]) (machine_x2 hM7 (.inl (by show (w' : Int) ≤ 9; omega)) (by show (0 : Int) ≤ 9; omega)))
  have O5 := judge_x2 (lv := rQ (vs_ t m d p)) hM7 cA (discount_x3 hM7)
  refine ⟨k6, (rest ++ [Cell.lst P5] ++ [Cell.lst (pvs.map Prod.fst)] : Mem), u2, some (rG a b), some (.int who), some (rT t), some (rM m), some (rq d), some (rQ (vs_ t m d p)), some (rq (valP t m d p 0)), some (rM (ownM m p3 w')), x11, some (.int (z : Nat)), some (.ref (sC xs k6 :: (rest ++ [.lst P5])).length), some (.lst (pvs.map fun x => .bl x.2)), some (.lst [.tup [.str "refused"], .tup [.str "refused"], .tup [.str "refused"], .tup [.str "refused"], .tup [.str "refused"]]), x16, u17, u18, u19, u20, u21, u22, ?_, hM7, by omega⟩
  unfold BT
  refine seq_step (ρ1 := [some (.scr ns), some (.ref 0), u2, some (rG a b), u4, u5, u6, u7, u8, u9, u10, u11, u12, u13, u14, u15, u16, u17, u18, u19, u20, u21, u22]) (μ1 := sC xs k1 :: rest) (asg_ok (call_ok (one_ok (var_ok rfl)) rfl d1) rfl) ?_
  refine seq_step (ρ1 := [some (.scr ns), some (.ref 0), u2, some (rG a b), some (.int who), u5, u6, u7, u8, u9, u10, u11, u12, u13, u14, u15, u16, u17, u18, u19, u20, u21, u22]) (μ1 := sC xs (k1 + 1) :: rest) (asg_ok (call_ok (cons_ok (var_ok rfl) (one_ok k_ok)) rfl d2) rfl) ?_
  refine seq_step (ρ1 := [some (.scr ns), some (.ref 0), u2, some (rG a b), some (.int who), some (rT t), u6, u7, u8, u9, u10, u11, u12, u13, u14, u15, u16, u17, u18, u19, u20, u21, u22]) (μ1 := sC xs (k1 + 1) :: rest) (asg_ok (call_ok (cons_ok (var_ok rfl) (one_ok (var_ok rfl))) rfl d3) rfl) ?_
  refine seq_step (ρ1 := [some (.scr ns), some (.ref 0), u2, some (rG a b), some (.int who), some (rT t), some (rM m), u7, u8, u9, u10, u11, u12, u13, u14, u15, u16, u17, u18, u19, u20, u21, u22]) (μ1 := sC xs k2 :: rest) (asg_ok (call_ok (cons_ok (var_ok rfl) (cons_ok (lr _ _ rfl) (one_ok (cb_ok (one_ok (var_ok rfl)) (lt _))))) rfl d4) rfl) ?_
  refine seq_step (ρ1 := [some (.scr ns), some (.ref 0), u2, some (rG a b), some (.int who), some (rT t), some (rM m), some (rq d), u8, u9, u10, u11, u12, u13, u14, u15, u16, u17, u18, u19, u20, u21, u22]) (μ1 := (sC xs k3 :: rest)) (asg_ok (call_ok (one_ok (var_ok rfl)) rfl d5) rfl) ?_
  refine seq_step (ρ1 := [some (.scr ns), some (.ref 0), u2, some (rG a b), some (.int who), some (rT t), some (rM m), some (rq d), some (rQ (vs_ t m d p)), u9, u10, u11, u12, u13, u14, u15, u16, u17, u18, u19, u20, u21, u22]) (μ1 := (sC xs k3 :: rest)) (asg_ok (call_ok (cons_ok (var_ok rfl) (cons_ok (var_ok rfl) (cons_ok (var_ok rfl) (one_ok (var_ok rfl))))) rfl E1) rfl) ?_
  refine seq_step (ρ1 := [some (.scr ns), some (.ref 0), u2, some (rG a b), some (.int who), some (rT t), some (rM m), some (rq d), some (rQ (vs_ t m d p)), some (rq (valP t m d p 0)), u10, u11, u12, u13, u14, u15, u16, u17, u18, u19, u20, u21, u22]) (μ1 := (sC xs k3 :: rest)) (asg_ok (call_ok (cons_ok (var_ok rfl) (cons_ok (var_ok rfl) (cons_ok (var_ok rfl) (one_ok (var_ok rfl))))) rfl E2) rfl) ?_
  refine seq_step (ρ1 := [some (.scr ns), some (.ref 0), u2, some (rG a b), some (.int who), some (rT t), some (rM m), some (rq d), some (rQ (vs_ t m d p)), some (rq (valP t m d p 0)), some (rM (ownM m p3 w')), u11, u12, u13, u14, u15, u16, u17, u18, u19, u20, u21, u22]) (μ1 := (sC xs k3 :: rest)) (asg_ok (call_ok (cons_ok (var_ok rfl) (cons_ok (var_ok rfl) (cons_ok (var_ok rfl) (one_ok (var_ok rfl))))) rfl E3) rfl) ?_
  refine seq_step (ρ1 := [some (.scr ns), some (.ref 0), u2, some (rG a b), some (.int who), some (rT t), some (rM m), some (rq d), some (rQ (vs_ t m d p)), some (rq (valP t m d p 0)), some (rM (ownM m p3 w')), u11, u12, u13, u14, u15, u16, u17, u18, u19, u20, u21, u22]) (μ1 := (sC xs k3 :: rest)) (if_n (t_ok (or_f (not_ok (k := true) (call_ok (cons_ok (var_ok rfl) (cons_ok (var_ok rfl) (cons_ok (var_ok rfl) (one_ok (var_ok rfl))))) rfl R1)) (or_f (op_ok (op_ok (var_ok rfl) k_ok (ix0 _)) (var_ok rfl) (ne_refl (sd_rq (zV.mono (by omega))) (by omega))) (not_ok (k := true) (chain_t k_ok (cb_ok (one_ok (var_ok rfl)) (lenM_ _ _)) ((leI _ _).trans (by rw [decide_eq_true (by omega)])) k_ok ((leI _ _).trans (by rw [decide_eq_true (by omega)])))))))) ?_
  refine seq_step (ρ1 := [some (.scr ns), some (.ref 0), u2, some (rG a b), some (.int who), some (rT t), some (rM m), some (rq d), some (rQ (vs_ t m d p)), some (rq (valP t m d p 0)), some (rM (ownM m p3 w')), u11, u12, u13, u14, u15, u16, u17, u18, u19, u20, u21, u22]) (μ1 := (sC xs k3 :: rest)) (if_n (t_ok (op_ok (cb_ok (one_ok (mcomp_filterR (α := Int × List Int) (r := .lst []) rS (fun _ => false) (fun s => .int s.1) (ownM m p3 w') (mitm (var_ok rfl) rfl) (le_size (by omega)) (fun s hs => ⟨_, rfl, ?_, fun z => by cases z⟩) (by rw [List.filter_eq_nil_iff.mpr (fun _ _ => by simp)]; rfl))) (lenL _)) k_ok (gtI _ _)))) ?_
  · have hne : s.2 ≠ [] := fun e => by have := oo.ln s hs; rw [e] at this; simp at this; omega
    have c1 := oo.ch s hs
    have c2 := oo.ln s hs
    have c3 := oo.af s hs _ (mn_mem hne)
    have c4 := oo.af s hs _ (mx_mem hne)
    have c5 := mn_le_mx hne
    exact t_ok (or_f (not_ok (k := true) (chain_t k_ok (var_ok rfl) ((leI _ _).trans (by rw [decide_eq_true c1.1])) (cb_ok (one_ok (var_ok rfl)) (lt _)) ((ltI _ _).trans (by rw [decide_eq_true c1.2])))) (or_f (op_ok (cb_ok (one_ok (var_ok rfl)) (lenR _ _)) (lr _ _ rfl) ((neI' _ _).trans (by rw [c2, decide_eq_true rfl]; rfl))) (not_ok (k := true) (ch3_ok k_ok (cb_ok (one_ok (var_ok rfl)) (mn_ok hne rfl)) ((leI _ _).trans (by rw [decide_eq_true c3.1])) (cb_ok (one_ok (var_ok rfl)) (mx_ok hne rfl)) ((leI _ _).trans (by rw [decide_eq_true c5])) (cb_ok (one_ok (var_ok rfl)) (lenM_ _ _)) ((ltI _ _).trans (by rw [decide_eq_true c4.2]))))))
  refine seq_step (ρ1 := [some (.scr ns), some (.ref 0), u2, some (rG a b), some (.int who), some (rT t), some (rM m), some (rq d), some (rQ (vs_ t m d p)), some (rq (valP t m d p 0)), some (rM (ownM m p3 w')), u11, u12, u13, u14, u15, u16, u17, u18, u19, u20, u21, u22]) (μ1 := (sC xs k3 :: rest)) (if_n (t_ok (op_ok (call_ok (cons_ok (var_ok rfl) (cons_ok (var_ok rfl) (cons_ok (var_ok rfl) (one_ok (var_ok rfl))))) rfl W1) (var_ok rfl) (ne_refl (sd_rq (zV.mono (by omega))) (by omega))))) ?_
  refine seq_step (ρ1 := [some (.scr ns), some (.ref 0), u2, some (rG a b), some (.int who), some (rT t), some (rM m), some (rq d), some (rQ (vs_ t m d p)), some (rq (valP t m d p 0)), some (rM (ownM m p3 w')), x11, u12, u13, u14, u15, x16, u17, u18, u19, u20, u21, u22]) (μ1 := sC xs k4 :: rest) (sfor_of (mrng1 (n := 4) (one_ok k_ok) (by decide)) F1) ?_
  refine seq_step (ρ1 := [some (.scr ns), some (.ref 0), u2, some (rG a b), some (.int who), some (rT t), some (rM m), some (rq d), some (rQ (vs_ t m d p)), some (rq (valP t m d p 0)), some (rM (ownM m p3 w')), x11, some (.int (z : Nat)), u13, u14, u15, x16, u17, u18, u19, u20, u21, u22]) (μ1 := (sC xs k5 :: rest)) (asg_ok (call_ok (cons_ok (var_ok rfl) (one_ok (cb_ok (one_ok (var_ok rfl)) ((lenT' _).trans (by rw [List.length_map, vs_len]))))) rfl d6) rfl) ?_
  refine seq_step (ρ1 := [some (.scr ns), some (.ref 0), u2, some (rG a b), some (.int who), some (rT t), some (rM m), some (rq d), some (rQ (vs_ t m d p)), some (rq (valP t m d p 0)), some (rM (ownM m p3 w')), x11, some (.int (z : Nat)), some (.ref (sC xs k5 :: rest).length), u14, u15, x16, u17, u18, u19, u20, u21, u22]) (μ1 := S k5) (asg_ok (lstC_ok (ds := P5) (μ1 := (sC xs k5 :: rest)) (by
    rw [eP5]
    refine cons_ok (var_ok rfl) (cons_ok (slice_ok (var_ok rfl) (part_ok k_ok) nopart_ok ?_) (cons_ok (op_ok (var_ok rfl) (tup_ok (one_ok (tup_ok (cons_ok k_ok (one_ok k_ok))))) ?_) (cons_ok (cb_ok (one_ok (mcomp_mapR rq (fun q => rq (q + 1 / 3)) (vs_ t m d p) (mitm (var_ok rfl) rfl) (le_size (by rw [vs_len]; omega)) (fun q hq => ⟨_, rfl, call_ok (cons_ok (var_ok rfl) (one_ok (tup_ok (cons_ok k_ok (one_ok k_ok))))) rfl ?_⟩) rfl)) ?_) (one_ok (op_ok (tup_ok (one_ok (tup_ok (cons_ok k_ok (one_ok k_ok))))) (cb_ok (one_ok (var_ok rfl)) ((lenT' _).trans (by rw [List.length_map, vs_len]))) ((PL.mulT (by omega) (by omega)).trans ?_))))))
    · show some (MV.tup (cutM ((vs_ t m d p).map rq) (some ((1 : Nat) : Int)) none)) = _
      rw [cut_from]
    · show (if ((vs_ t m d p).map rq).length + 1 ≤ sizeLine then some (MV.tup ((vs_ t m d p).map rq ++ [rq 0])) else none) = _
      rw [if_pos (le_size (by rw [List.length_map, vs_len]; omega))]
    · have := lplus_ok hM5 (zv q hq) third.2 (by omega)
      rw [third.1] at this
      exact this
    · rw [tupM_l]
      unfold rQ
      rw [List.map_map]
      rfl
    · unfold rQ
      rw [List.map_replicate]
      rfl) (by rw [eP5]; exact le_size0 (by simp))) rfl) ?_
  refine seq_step (ρ1 := [some (.scr ns), some (.ref 0), u2, some (rG a b), some (.int who), some (rT t), some (rM m), some (rq d), some (rQ (vs_ t m d p)), some (rq (valP t m d p 0)), some (rM (ownM m p3 w')), x11, some (.int (z : Nat)), some (.ref (sC xs k6 :: (rest ++ [.lst P5])).length), u14, u15, x16, u17, u18, u19, u20, u21, u22]) (μ1 := (sC xs k6 :: (rest ++ [.lst P5])) ++ [.lst (P5 ++ as.map rQ)]) (asg_ok (addC_ok (xs := P5) (ys := as.map rQ) (var_ok rfl) G1 (lstC_of (get_app (μ := sC xs k6 :: rest) (ν := [.lst P5]) (i := 0))) rfl (by rw [eP5, List.length_map, G2]; simp)) rfl) ?_
  refine seq_step (ρ1 := [some (.scr ns), some (.ref 0), u2, some (rG a b), some (.int who), some (rT t), some (rM m), some (rq d), some (rQ (vs_ t m d p)), some (rq (valP t m d p 0)), some (rM (ownM m p3 w')), x11, some (.int (z : Nat)), some (.ref (sC xs k6 :: (rest ++ [.lst P5])).length), u14, u15, x16, u17, u18, u19, u20, u21, u22]) (μ1 := (sC xs k6 :: (rest ++ [.lst P5])) ++ [.lst ((P5 ++ as.map rQ) ++ [rQD (vs_ t m d p)])]) (appL_s (μ := (sC xs k6 :: (rest ++ [.lst P5]))) (xs := P5 ++ as.map rQ) (mo := mVar 13) (me := mCB tupleM (mCons (mComp (List.map (·.2) ([("top", 21), ("below", 22)] : List (Str × Nat))) (mItm (mVar 8)) (gT ((gN 21) :: ((gN 22) :: []))) mYes (mTup (mCons (mOp mulM2 (mRet (.int 2)) (mVar 21)) (mCons (mOp mulM2 (mRet (.int 2)) (mVar 22)) mNil)))) mNil)) (y := rQD (vs_ t m d p)) (var_ok rfl) (cb_ok (one_ok (mcomp_mapR rq rD (vs_ t m d p) (mitm (var_ok rfl) rfl) (le_size (by rw [vs_len]; omega)) (fun q hq => ⟨_, rfl, tup_ok (cons_ok (op_ok k_ok (var_ok rfl) (mulI' (okMul_of (n := 3) (m := 60) (by decide) (zv q hq).1 (by omega)))) (one_ok (op_ok k_ok (var_ok rfl) (mulI' (okMul_of (n := 3) (m := 60) (by decide) (by rw [den_int]; exact (zv q hq).2) (by omega))))))⟩) rfl)) rfl) (by rw [eP5, List.length_append, List.length_map, G2]; simp)) ?_
  rw [pfst]
  refine seq_step (ρ1 := [some (.scr ns), some (.ref 0), u2, some (rG a b), some (.int who), some (rT t), some (rM m), some (rq d), some (rQ (vs_ t m d p)), some (rq (valP t m d p 0)), some (rM (ownM m p3 w')), x11, some (.int (z : Nat)), some (.ref (sC xs k6 :: (rest ++ [.lst P5])).length), some (.lst (pvs.map fun x => .bl x.2)), u15, x16, u17, u18, u19, u20, u21, u22]) (μ1 := ((sC xs k6 :: (rest ++ [.lst P5])) ++ [.lst (pvs.map Prod.fst)])) (asg_ok (mcomp_mapT Prod.fst (fun x : MV × Bool => .bl x.2) pvs (mitm (var_ok rfl) (itmC gP)) (ok_one gP) (le_size (by omega)) (fun x hx => ⟨_, rfl, call_ok (cons_ok (var_ok rfl) (cons_ok (var_ok rfl) (cons_ok (var_ok rfl) (one_ok (var_ok rfl))))) rfl ((pok x hx).right _ hM7)⟩) rfl) rfl) ?_
  have J1 : (mComp (List.map (·.2) ([("paper", 17)] : List (Str × Nat))) (mItm (mVar 13)) (gN 17) mYes (mCall 5 F_p_judge_levels (mCons (mVar 3) (mCons (mVar 4) (mCons (mVar 6) (mCons (mVar 7) (mCons (mVar 17) mNil))))))) [some (.scr ns), some (.ref 0), u2, some (rG a b), some (.int who), some (rT t), some (rM m), some (rq d), some (rQ (vs_ t m d p)), some (rq (valP t m d p 0)), some (rM (ownM m p3 w')), x11, some (.int (z : Nat)), some (.ref (sC xs k6 :: (rest ++ [.lst P5])).length), some (.lst (pvs.map fun x => .bl x.2)), u15, x16, u17, u18, u19, u20, u21, u22] ((sC xs k6 :: (rest ++ [.lst P5])) ++ [.lst (pvs.map Prod.fst)]) = .ok (.lst (pvs.map fun x => .bl x.2)) ((sC xs k6 :: (rest ++ [.lst P5])) ++ [.lst (pvs.map Prod.fst)]) := by
    refine mcomp_mapT Prod.fst (fun x : MV × Bool => .bl x.2) pvs (mitm (var_ok rfl) (itmC gP)) (ok_one gP) (le_size (by omega)) (fun x hx => ?_) rfl
    refine ⟨[some (.scr ns), some (.ref 0), u2, some (rG a b), some (.int who), some (rT t), some (rM m), some (rq d), some (rQ (vs_ t m d p)), some (rq (valP t m d p 0)), some (rM (ownM m p3 w')), x11, some (.int (z : Nat)), some (.ref (sC xs k6 :: (rest ++ [.lst P5])).length), some (.lst (pvs.map fun x => .bl x.2)), u15, x16, some (x.1), u18, u19, u20, u21, u22], rfl, ?_⟩
    have J := (pok x hx).judge _ hM7
    exact call_ok (cons_ok (var_ok rfl) (cons_ok (var_ok rfl) (cons_ok (var_ok rfl) (cons_ok (var_ok rfl) (one_ok (var_ok rfl)))))) rfl J
  refine seq_step (ρ1 := [some (.scr ns), some (.ref 0), u2, some (rG a b), some (.int who), some (rT t), some (rM m), some (rq d), some (rQ (vs_ t m d p)), some (rq (valP t m d p 0)), some (rM (ownM m p3 w')), x11, some (.int (z : Nat)), some (.ref (sC xs k6 :: (rest ++ [.lst P5])).length), some (.lst (pvs.map fun x => .bl x.2)), u15, x16, u17, u18, u19, u20, u21, u22]) (μ1 := ((sC xs k6 :: (rest ++ [.lst P5])) ++ [.lst (pvs.map Prod.fst)])) (if_n (t_ok (not_ok (k := true) (call_ok (cons_ok J1 (one_ok (var_ok rfl))) rfl S1)))) ?_
  refine seq_step (ρ1 := [some (.scr ns), some (.ref 0), u2, some (rG a b), some (.int who), some (rT t), some (rM m), some (rq d), some (rQ (vs_ t m d p)), some (rq (valP t m d p 0)), some (rM (ownM m p3 w')), x11, some (.int (z : Nat)), some (.ref (sC xs k6 :: (rest ++ [.lst P5])).length), some (.lst (pvs.map fun x => .bl x.2)), u15, x16, u17, u18, u19, u20, u21, u22]) (μ1 := ((sC xs k6 :: (rest ++ [.lst P5])) ++ [.lst (pvs.map Prod.fst)])) (if_n (t_ok (op_ok (cb_ok (one_ok (mcomp_filterR (α := Nat) (r := .lst []) (fun n => .int ((0 : Int) + (n : Nat))) (fun _ => false) (fun n => .int n) (List.range pvs.length) (mrng1 (n := pvs.length) (one_ok (cb_ok (one_ok (var_ok rfl)) ((lenC gP).trans (by rw [List.length_map])))) ⟨by omega, by omega⟩) (le_size (by rw [List.length_range]; omega)) (fun n hn => ⟨_, rfl, ?_, fun z => by cases z⟩) (by rw [List.filter_eq_nil_iff.mpr (fun _ _ => by simp)]; rfl))) (lenL _)) k_ok (gtI _ _)))) ?_
  · have hn := List.mem_range.mp hn
    have px := pok _ (List.getElem_mem hn)
    have i1 : ixM ((sC xs k6 :: (rest ++ [.lst P5])) ++ [.lst (pvs.map Prod.fst)]) (.lst (pvs.map fun x => .bl x.2)) (.int ((0 : Int) + (n : Nat))) = some (.bl (pvs[n]).2) := by
      rw [Int.zero_add]
      refine (ixL _ _).trans ?_
      rw [atN _ _ (by rw [List.length_map]; exact hn), List.getElem?_map, List.getElem?_eq_getElem hn]; rfl
    have i2 : ixM ((sC xs k6 :: (rest ++ [.lst P5])) ++ [.lst (pvs.map Prod.fst)]) (.ref (sC xs k6 :: (rest ++ [.lst P5])).length) (.int ((0 : Int) + (n : Nat))) = some ((pvs[n]).1) := by
      rw [Int.zero_add]
      refine (ixC _ gP).trans ?_
      rw [atN _ _ (by rw [List.length_map]; exact hn), List.getElem?_map, List.getElem?_eq_getElem hn]; rfl
    cases eb : (pvs[n]).2 with
    | false =>
      rw [eb] at i1
      exact t_ok (and_f (op_ok (var_ok rfl) (var_ok rfl) i1))
    | true =>
      rw [eb] at i1
      obtain ⟨q, j1, j2, j3⟩ := px.head eb
      have A3 := above_ok hM7 zV j3 (by omega)
      rw [decide_eq_false (by grind)] at A3
      exact t_ok (and_t (op_ok (var_ok rfl) (var_ok rfl) i1) (call_ok (cons_ok (var_ok rfl) (one_ok (op_ok (op_ok (var_ok rfl) (var_ok rfl) i2) k_ok (j1 _)))) rfl A3))
  refine seq_step (ρ1 := [some (.scr ns), some (.ref 0), u2, some (rG a b), some (.int who), some (rT t), some (rM m), some (rq d), some (rQ (vs_ t m d p)), some (rq (valP t m d p 0)), some (rM (ownM m p3 w')), x11, some (.int (z : Nat)), some (.ref (sC xs k6 :: (rest ++ [.lst P5])).length), some (.lst (pvs.map fun x => .bl x.2)), some (.lst [.tup [.str "refused"], .tup [.str "refused"], .tup [.str "refused"], .tup [.str "refused"], .tup [.str "refused"]]), x16, u17, u18, u19, u20, u21, u22]) (μ1 := ((sC xs k6 :: (rest ++ [.lst P5])) ++ [.lst (pvs.map Prod.fst)])) (asg_ok (lst_ok (cons_ok (told_not (call_ok (cons_ok (var_ok rfl) (cons_ok k_ok (cons_ok (var_ok rfl) (one_ok (var_ok rfl))))) rfl O1)) (cons_ok (told_not (call_ok (cons_ok (var_ok rfl) (cons_ok (var_ok rfl) (cons_ok (tup_ok nil_ok) (one_ok (var_ok rfl))))) rfl O2)) (cons_ok (told_not (call_ok (cons_ok (var_ok rfl) (cons_ok (var_ok rfl) (cons_ok (var_ok rfl) (one_ok (tup_ok (cons_ok k_ok (one_ok k_ok))))))) rfl O3)) (cons_ok (told_not (call_ok (cons_ok (var_ok rfl) (cons_ok (var_ok rfl) (cons_ok (tup_ok (one_ok (tup_ok (cons_ok k_ok (one_ok (op_ok (tup_ok (one_ok k_ok)) (cb_ok (one_ok (var_ok rfl)) (lt _)) (PL.mulT (by omega) (by omega)))))))) (cons_ok (var_ok rfl) (one_ok (tup_ok nil_ok)))))) rfl ((show F_p_judge_levels [rG a b, .int who, .tup [.tup [.int 9, .tup (List.replicate h' (.int 0))]], rq d, .tup []] ((sC xs k6 :: (rest ++ [.lst P5])) ++ [.lst (pvs.map Prod.fst)]) = F_p_judge_levels [rG a b, .int who, rM [(9, List.replicate h' 0)], rq d, .tup []] ((sC xs k6 :: (rest ++ [.lst P5])) ++ [.lst (pvs.map Prod.fst)]) by
    unfold rM rS rR
    simp only [List.map_cons, List.map_nil, List.map_replicate]).trans O4))) (one_ok (told_not (call_ok (cons_ok (var_ok rfl) (cons_ok (var_ok rfl) (cons_ok (var_ok rfl) (cons_ok (tup_ok (cons_ok k_ok (one_ok k_ok))) (one_ok (var_ok rfl)))))) rfl O5)))))))) rfl) ?_
  exact if_n (t_ok (op_ok (var_ok rfl) (op_ok (lst_ok (one_ok (tup_ok (one_ok k_ok)))) k_ok (mul5 _)) (ref5 _)))
/-- the plain law -/
theorem fin (C : Fin 5 → Addr) (ns : List Int) (_ : ns.length ≤ 63) (_ : ∀ z ∈ ns, Builtin.Int.intBits z ≤ 1048576) : ∃ μ', F_law C [.scr ns] [] = .ok (.bl true) μ' := by
  obtain ⟨xs, sx, hx⟩ := stream_ok ns
  have sx : F_law_stream [.scr ns] [] = .ok (.lst (xs.map .int)) [] := sx
  let I : Nat → MM.Env → Mem → Prop := fun j ρ μ => ∃ (k : Nat) (rest : Mem) (u2 u3 u4 u5 u6 u7 u8 u9 u10 u11 u12 u13 u14 u15 u16 u17 u18 u19 u20 u21 u22 : Option MV), ρ = [some (.scr ns), some (.ref 0), u2, u3, u4, u5, u6, u7, u8, u9, u10, u11, u12, u13, u14, u15, u16, u17, u18, u19, u20, u21, u22] ∧ μ = sC xs k :: rest ∧ okMem (sC xs k :: rest) ∧ k ≤ 1000 * j
  obtain ⟨ρ', μ', e1, k, rest, u2, u3, u4, u5, u6, u7, u8, u9, u10, u11, u12, u13, u14, u15, u16, u17, u18, u19, u20, u21, u22, e2, e3, e4, e5⟩ := for_idx (xs0 := intsL 0 3) (g := gN 2) (b := BT C) I (I 3) (intsL 0 3) 0 [some (.scr ns), some (.ref 0), none, none, none, none, none, none, none, none, none, none, none, none, none, none, none, none, none, none, none, none, none] [sC xs 0]
    ⟨0, [], none, none, none, none, none, none, none, none, none, none, none, none, none, none, none, none, none, none, none, none, none, rfl, rfl, by
      unfold okMem
      rw [List.all_cons, okC_s]; rfl, Nat.le_refl _⟩ (fun ρ μ q => q) (by
      intro j x hj ρ μ ⟨k, rest, u2, u3, u4, u5, u6, u7, u8, u9, u10, u11, u12, u13, u14, u15, u16, u17, u18, u19, u20, u21, u22, q1, q2, q3, q4⟩
      obtain ⟨hj1, rfl⟩ := intsL_get hj
      subst q1 q2
      obtain ⟨k', rest', v2, v3, v4, v5, v6, v7, v8, v9, v10, v11, v12, v13, v14, v15, v16, v17, v18, v19, v20, v21, v22, t1, t2, t3⟩ := turn_ok (ns := ns) C hx q3 (by omega) (some (.int (0 + (j : Int)))) (u3) (u4) (u5) (u6) (u7) (u8) (u9) (u10) (u11) (u12) (u13) (u14) (u15) (u16) (u17) (u18) (u19) (u20) (u21) (u22)
      exact ⟨_, _, rfl, .inl ⟨_, _, .inl t1, k', rest', v2, v3, v4, v5, v6, v7, v8, v9, v10, v11, v12, v13, v14, v15, v16, v17, v18, v19, v20, v21, v22, rfl, rfl, t2, by omega⟩⟩)
  subst e2 e3
  have key : M_law C [some (.scr ns), none, none, none, none, none, none, none, none, none, none, none, none, none, none, none, none, none, none, none, none, none, none] [] = .rt (.bl true) (sC xs k :: rest) := by
    unfold M_law
    refine seq_step (ρ1 := [some (.scr ns), some (.ref 0), none, none, none, none, none, none, none, none, none, none, none, none, none, none, none, none, none, none, none, none, none]) (μ1 := [sC xs 0]) (asg_ok (lstC_ok (cons_ok (call_ok (one_ok (var_ok rfl)) rfl sx) (one_ok k_ok))) rfl) ?_
    refine seq_step (sfor_of (mrng1 (n := 3) (one_ok k_ok) (by decide)) e1) ?_
    exact ret_s k_ok
  refine ⟨[], run_rt (μ := []) key rfl rfl⟩
end
end K21

set_option Elab.async false
set_option linter.all false
set_option maxRecDepth 100000
set_option maxHeartbeats 0
namespace K21
open PySem PySem.Spec PyProof.Rows L2 MM
def D_p_divisor : He.DefD := ⟨("divisor", none), "divisor", "divisor", defArgs st_p_divisor, defBody st_p_divisor, defScope st_p_divisor, [], []⟩
def D_p_ratio : He.DefD := ⟨("ratio", none), "ratio", "ratio", defArgs st_p_ratio, defBody st_p_ratio, defScope st_p_ratio, [], []⟩
def D_p_is_ratio : He.DefD := ⟨("is_ratio", none), "is_ratio", "is_ratio", defArgs st_p_is_ratio, defBody st_p_is_ratio, defScope st_p_is_ratio, [], []⟩
def D_p_added : He.DefD := ⟨("added", none), "added", "added", defArgs st_p_added, defBody st_p_added, defScope st_p_added, [], []⟩
def D_p_negative : He.DefD := ⟨("negative", none), "negative", "negative", defArgs st_p_negative, defBody st_p_negative, defScope st_p_negative, [], []⟩
def D_p_times : He.DefD := ⟨("times", none), "times", "times", defArgs st_p_times, defBody st_p_times, defScope st_p_times, [], []⟩
def D_p_over : He.DefD := ⟨("over", none), "over", "over", defArgs st_p_over, defBody st_p_over, defScope st_p_over, [], []⟩
def D_p_less : He.DefD := ⟨("less", none), "less", "less", defArgs st_p_less, defBody st_p_less, defScope st_p_less, [], []⟩
def D_p_check_table : He.DefD := ⟨("check_table", none), "check_table", "check_table", defArgs st_p_check_table, defBody st_p_check_table, defScope st_p_check_table, [], []⟩
def D_p_check_game : He.DefD := ⟨("check_game", none), "check_game", "check_game", defArgs st_p_check_game, defBody st_p_check_game, defScope st_p_check_game, [], []⟩
def D_p_check_who : He.DefD := ⟨("check_who", none), "check_who", "check_who", defArgs st_p_check_who, defBody st_p_check_who, defScope st_p_check_who, [], []⟩
def D_p_flipped : He.DefD := ⟨("flipped", none), "flipped", "flipped", defArgs st_p_flipped, defBody st_p_flipped, defScope st_p_flipped, [], []⟩
def D_p_seen_by : He.DefD := ⟨("seen_by", none), "seen_by", "seen_by", defArgs st_p_seen_by, defBody st_p_seen_by, defScope st_p_seen_by, [], []⟩
def D_p_check_machine : He.DefD := ⟨("check_machine", none), "check_machine", "check_machine", defArgs st_p_check_machine, defBody st_p_check_machine, defScope st_p_check_machine, [], []⟩
def D_p_check_discount : He.DefD := ⟨("check_discount", none), "check_discount", "check_discount", defArgs st_p_check_discount, defBody st_p_check_discount, defScope st_p_check_discount, [], []⟩
def D_p_power : He.DefD := ⟨("power", none), "power", "power", defArgs st_p_power, defBody st_p_power, defScope st_p_power, [], []⟩
def D_p_discounted : He.DefD := ⟨("discounted", none), "discounted", "discounted", defArgs st_p_discounted, defBody st_p_discounted, defScope st_p_discounted, [], []⟩
def D_p_answered_values : He.DefD := ⟨("answered_values", none), "answered_values", "answered_values", defArgs st_p_answered_values, defBody st_p_answered_values, defScope st_p_answered_values, [], []⟩
def D_p_best_plan_for : He.DefD := ⟨("best_plan_for", none), "best_plan_for", "best_plan_for", defArgs st_p_best_plan_for, defBody st_p_best_plan_for, defScope st_p_best_plan_for, [], []⟩
def D_p_best_worth : He.DefD := ⟨("best_worth", none), "best_worth", "best_worth", defArgs st_p_best_worth, defBody st_p_best_worth, defScope st_p_best_worth, [], []⟩
def D_p_check_against : He.DefD := ⟨("check_against", none), "check_against", "check_against", defArgs st_p_check_against, defBody st_p_check_against, defScope st_p_check_against, [], []⟩
def D_p_best_machine : He.DefD := ⟨("best_machine", none), "best_machine", "best_machine", defArgs st_p_best_machine, defBody st_p_best_machine, defScope st_p_best_machine, [], []⟩
def D_p_judge_levels : He.DefD := ⟨("judge_levels", none), "judge_levels", "judge_levels", defArgs st_p_judge_levels, defBody st_p_judge_levels, defScope st_p_judge_levels, [], []⟩
def D_p_levels_paper : He.DefD := ⟨("levels_paper", none), "levels_paper", "levels_paper", defArgs st_p_levels_paper, defBody st_p_levels_paper, defScope st_p_levels_paper, [], []⟩
def D_law_same : He.DefD := ⟨("_law_same", none), "_law_same", "_law_same", defArgs st_law_same, defBody st_law_same, defScope st_law_same, [], []⟩
def D_law_stream : He.DefD := ⟨("_law_stream", none), "_law_stream", "_law_stream", defArgs st_law_stream, defBody st_law_stream, defScope st_law_stream, [], []⟩
def D_law_next : He.DefD := ⟨("_law_next", none), "_law_next", "_law_next", defArgs st_law_next, defBody st_law_next, defScope st_law_next, [], []⟩
def D_law_told : He.DefD := ⟨("_law_told", none), "_law_told", "_law_told", defArgs st_law_told, defBody st_law_told, defScope st_law_told, [], []⟩
def D_law_gcd : He.DefD := ⟨("_law_gcd", none), "_law_gcd", "_law_gcd", defArgs st_law_gcd, defBody st_law_gcd, defScope st_law_gcd, [], []⟩
def D_law_fraction : He.DefD := ⟨("_law_fraction", none), "_law_fraction", "_law_fraction", defArgs st_law_fraction, defBody st_law_fraction, defScope st_law_fraction, [], []⟩
def D_law_plus : He.DefD := ⟨("_law_plus", none), "_law_plus", "_law_plus", defArgs st_law_plus, defBody st_law_plus, defScope st_law_plus, [], []⟩
def D_law_times : He.DefD := ⟨("_law_times", none), "_law_times", "_law_times", defArgs st_law_times, defBody st_law_times, defScope st_law_times, [], []⟩
def D_law_above : He.DefD := ⟨("_law_above", none), "_law_above", "_law_above", defArgs st_law_above, defBody st_law_above, defScope st_law_above, [], []⟩
def D_law_is_ratio : He.DefD := ⟨("_law_is_ratio", none), "_law_is_ratio", "_law_is_ratio", defArgs st_law_is_ratio, defBody st_law_is_ratio, defScope st_law_is_ratio, [], []⟩
def D_law_mean : He.DefD := ⟨("_law_mean", none), "_law_mean", "_law_mean", defArgs st_law_mean, defBody st_law_mean, defScope st_law_mean, [], []⟩
def D_law_most : He.DefD := ⟨("_law_most", none), "_law_most", "_law_most", defArgs st_law_most, defBody st_law_most, defScope st_law_most, [], []⟩
def D_law_mix : He.DefD := ⟨("_law_mix", none), "_law_mix", "_law_mix", defArgs st_law_mix, defBody st_law_mix, defScope st_law_mix, [], []⟩
def D_law_game : He.DefD := ⟨("_law_game", none), "_law_game", "_law_game", defArgs st_law_game, defBody st_law_game, defScope st_law_game, [], []⟩
def D_law_seen : He.DefD := ⟨("_law_seen", none), "_law_seen", "_law_seen", defArgs st_law_seen, defBody st_law_seen, defScope st_law_seen, [], []⟩
def D_law_is_mix : He.DefD := ⟨("_law_is_mix", none), "_law_is_mix", "_law_is_mix", defArgs st_law_is_mix, defBody st_law_is_mix, defScope st_law_is_mix, [], []⟩
def D_law_machine : He.DefD := ⟨("_law_machine", none), "_law_machine", "_law_machine", defArgs st_law_machine, defBody st_law_machine, defScope st_law_machine, [], []⟩
def D_law_small : He.DefD := ⟨("_law_small", none), "_law_small", "_law_small", defArgs st_law_small, defBody st_law_small, defScope st_law_small, [], []⟩
def D_law_discount : He.DefD := ⟨("_law_discount", none), "_law_discount", "_law_discount", defArgs st_law_discount, defBody st_law_discount, defScope st_law_discount, [], []⟩
def D_law_go : He.DefD := ⟨("_law_go", none), "_law_go", "_law_go", defArgs st_law_go, defBody st_law_go, defScope st_law_go, [], []⟩
def D_law_worths : He.DefD := ⟨("_law_worths", none), "_law_worths", "_law_worths", defArgs st_law_worths, defBody st_law_worths, defScope st_law_worths, [], []⟩
def D_law_right : He.DefD := ⟨("_law_right", none), "_law_right", "_law_right", defArgs st_law_right, defBody st_law_right, defScope st_law_right, [], []⟩
def D_law : He.DefD := ⟨("law", none), "law", "law", defArgs st_law, defBody st_law, defScope st_law, [], []⟩
def FN : List He.DefD := [D_p_divisor, D_p_ratio, D_p_is_ratio, D_p_added, D_p_negative, D_p_times, D_p_over, D_p_less, D_p_check_table, D_p_check_game, D_p_check_who, D_p_flipped, D_p_seen_by, D_p_check_machine, D_p_check_discount, D_p_power, D_p_discounted, D_p_answered_values, D_p_best_plan_for, D_p_best_worth, D_p_check_against, D_p_best_machine, D_p_judge_levels, D_p_levels_paper, D_law_same, D_law_stream, D_law_next, D_law_told, D_law_gcd, D_law_fraction, D_law_plus, D_law_times, D_law_above, D_law_is_ratio, D_law_mean, D_law_most, D_law_mix, D_law_game, D_law_seen, D_law_is_mix, D_law_machine, D_law_small, D_law_discount, D_law_go, D_law_worths, D_law_right, D_law]
def FA : List He.Fa := faE ++ ([.int "MAX_CHOICES" 5, .int "MAX_GAIN" 99, .int "MAX_STATES" 6, .glo "divisor", .glo "ratio", .glo "is_ratio", .glo "added", .glo "negative", .glo "times", .glo "over", .glo "less", .glo "check_table", .glo "check_game", .glo "check_who", .glo "flipped", .glo "seen_by", .glo "check_machine", .glo "check_discount", .glo "power", .glo "discounted", .glo "answered_values", .glo "best_plan_for", .glo "best_worth", .glo "check_against", .glo "best_machine", .glo "judge_levels", .glo "levels_paper", .glo "_law_same", .glo "_law_stream", .glo "_law_next", .glo "_law_told", .glo "_law_gcd", .glo "_law_fraction", .glo "_law_plus", .glo "_law_times", .glo "_law_above", .glo "_law_is_ratio", .glo "_law_mean", .glo "_law_most", .glo "_law_mix", .glo "_law_game", .glo "_law_seen", .glo "_law_is_mix", .glo "_law_machine", .glo "_law_small", .glo "_law_discount", .glo "_law_go", .glo "_law_worths", .glo "_law_right", .glo "law"] : List He.Fa)
def LOOSE : List Str := (["__name__", "ChooseError", "NotAllowed", "TooLarge", "Missing", "BadForm", "Broken", "divisor", "ratio", "is_ratio", "added", "negative", "times", "over", "less", "MAX_CHOICES", "MAX_GAIN", "check_table", "check_game", "check_who", "flipped", "seen_by", "MAX_STATES", "check_machine", "check_discount", "power", "discounted", "answered_values", "best_plan_for", "best_worth"] : List Str) ++ (["check_against", "best_machine", "judge_levels", "levels_paper", "_law_same", "_law_stream", "_law_next", "_law_told", "_law_gcd", "_law_fraction", "_law_plus", "_law_times", "_law_above", "_law_is_ratio", "_law_mean", "_law_most", "_law_mix", "_law_game", "_law_seen", "_law_is_mix", "_law_machine", "_law_small", "_law_discount", "_law_go", "_law_worths", "_law_right"] : List Str)
abbrev R : PySem.W.OpenRow := PySem.W.OpenLaw.row PySem.Challenge.rw_bothchoose_k21_whole_best_answers_for_ev
abbrev TF : List He.Defn := [("law", none)]
abbrev HK : PySem.W.Hook := He.hookX 4 FA FN [] TF errB
def OB (s : PySem.W.SharedT) : He.AlX := He.obsX 4 FA FN [] TF errB (HandSHeadRun.getT s)
theorem OB_eq (s : PySem.W.SharedT) : OB s = HK.obs s.abs := He.obsX_eq (HandSHeadRun.getT_eq s)
theorem RUN (w : World) : HandSHeadRun.RunEq R (PySem.W.view R.prog [60]) HK OB 4000 LOOSE w := by
  intro os
  kernel_rfl
theorem facts {w : World} {K : PySem.W.Frag} {h : Heap} {mg : Str → Option Value} {fa : Addr} (X : K.In h) (G : h.Ns mainGlobals mg) (c : He.SaysX FA FN [] TF errB w h K) (hfa : mg ("law" : Str) = some (.ref fa)) :
    ∃ fd : FuncData, (∀ (s : Shared) (u : Value), BindsTo s fd ⟨[u], []⟩ [("script", u)]) ∧ ∀ base : Heap, K.In base → base.Ns mainGlobals mg → LamX.TabB base mg (He.cT K ("law", none)).1 (He.cT K ("law", none)).2 →
      FnG (PySem.Challenge.rw_bothchoose_k21_whole_best_answers_for_ev).prog w K mg base [((He.cT K ("law", none)).2, ("law.<locals>.<lambda>" : Str))] 10 fa fd ["script"] (F_law (errA K)) := by
  have fE : ∀ x ∈ faE, x.ok K = true := fun x hx => c.t.d.facts (List.mem_append_left _ hx)
  have bl : Blt mg := blt_ok X G fE
  have er := errs_ok c.more X G fE
  have hx := errs_sup fE
  obtain ⟨x_NotAllowed, x_TooLarge, x_Missing⟩ := errs_exc X G fE
  have h_MAX_CHOICES : ∃ t, mg "MAX_CHOICES" = some (.int 5 t) := He.int_ok X G (c.t.d.fact 29 (f := .int "MAX_CHOICES" 5) rfl)
  have h_MAX_GAIN : ∃ t, mg "MAX_GAIN" = some (.int 99 t) := He.int_ok X G (c.t.d.fact 30 (f := .int "MAX_GAIN" 99) rfl)
  have h_MAX_STATES : ∃ t, mg "MAX_STATES" = some (.int 6 t) := He.int_ok X G (c.t.d.fact 31 (f := .int "MAX_STATES" 6) rfl)
  have u_p_divisor : mg "divisor" = some (.ref (He.fAd K ("divisor", none))) := He.glo_ok X G (c.t.d.fact 32 (f := .glo "divisor") rfl)
  have q_p_divisor : ∃ fd, FunD K "divisor" "divisor" (defArgs st_p_divisor) (defBody st_p_divisor) (defScope st_p_divisor) [] [] (He.fAd K ("divisor", none)) fd := c.t.d.def_ 0 (d := D_p_divisor) rfl
  have u_p_ratio : mg "ratio" = some (.ref (He.fAd K ("ratio", none))) := He.glo_ok X G (c.t.d.fact 33 (f := .glo "ratio") rfl)
  have q_p_ratio : ∃ fd, FunD K "ratio" "ratio" (defArgs st_p_ratio) (defBody st_p_ratio) (defScope st_p_ratio) [] [] (He.fAd K ("ratio", none)) fd := c.t.d.def_ 1 (d := D_p_ratio) rfl
  have u_p_is_ratio : mg "is_ratio" = some (.ref (He.fAd K ("is_ratio", none))) := He.glo_ok X G (c.t.d.fact 34 (f := .glo "is_ratio") rfl)
  have q_p_is_ratio : ∃ fd, FunD K "is_ratio" "is_ratio" (defArgs st_p_is_ratio) (defBody st_p_is_ratio) (defScope st_p_is_ratio) [] [] (He.fAd K ("is_ratio", none)) fd := c.t.d.def_ 2 (d := D_p_is_ratio) rfl
  have u_p_added : mg "added" = some (.ref (He.fAd K ("added", none))) := He.glo_ok X G (c.t.d.fact 35 (f := .glo "added") rfl)
  have q_p_added : ∃ fd, FunD K "added" "added" (defArgs st_p_added) (defBody st_p_added) (defScope st_p_added) [] [] (He.fAd K ("added", none)) fd := c.t.d.def_ 3 (d := D_p_added) rfl
  have u_p_negative : mg "negative" = some (.ref (He.fAd K ("negative", none))) := He.glo_ok X G (c.t.d.fact 36 (f := .glo "negative") rfl)
  have q_p_negative : ∃ fd, FunD K "negative" "negative" (defArgs st_p_negative) (defBody st_p_negative) (defScope st_p_negative) [] [] (He.fAd K ("negative", none)) fd := c.t.d.def_ 4 (d := D_p_negative) rfl
  have u_p_times : mg "times" = some (.ref (He.fAd K ("times", none))) := He.glo_ok X G (c.t.d.fact 37 (f := .glo "times") rfl)
  have q_p_times : ∃ fd, FunD K "times" "times" (defArgs st_p_times) (defBody st_p_times) (defScope st_p_times) [] [] (He.fAd K ("times", none)) fd := c.t.d.def_ 5 (d := D_p_times) rfl
  have u_p_over : mg "over" = some (.ref (He.fAd K ("over", none))) := He.glo_ok X G (c.t.d.fact 38 (f := .glo "over") rfl)
  have q_p_over : ∃ fd, FunD K "over" "over" (defArgs st_p_over) (defBody st_p_over) (defScope st_p_over) [] [] (He.fAd K ("over", none)) fd := c.t.d.def_ 6 (d := D_p_over) rfl
  have u_p_less : mg "less" = some (.ref (He.fAd K ("less", none))) := He.glo_ok X G (c.t.d.fact 39 (f := .glo "less") rfl)
  have q_p_less : ∃ fd, FunD K "less" "less" (defArgs st_p_less) (defBody st_p_less) (defScope st_p_less) [] [] (He.fAd K ("less", none)) fd := c.t.d.def_ 7 (d := D_p_less) rfl
  have u_p_check_table : mg "check_table" = some (.ref (He.fAd K ("check_table", none))) := He.glo_ok X G (c.t.d.fact 40 (f := .glo "check_table") rfl)
  have q_p_check_table : ∃ fd, FunD K "check_table" "check_table" (defArgs st_p_check_table) (defBody st_p_check_table) (defScope st_p_check_table) [] [] (He.fAd K ("check_table", none)) fd := c.t.d.def_ 8 (d := D_p_check_table) rfl
  have u_p_check_game : mg "check_game" = some (.ref (He.fAd K ("check_game", none))) := He.glo_ok X G (c.t.d.fact 41 (f := .glo "check_game") rfl)
  have q_p_check_game : ∃ fd, FunD K "check_game" "check_game" (defArgs st_p_check_game) (defBody st_p_check_game) (defScope st_p_check_game) [] [] (He.fAd K ("check_game", none)) fd := c.t.d.def_ 9 (d := D_p_check_game) rfl
  have u_p_check_who : mg "check_who" = some (.ref (He.fAd K ("check_who", none))) := He.glo_ok X G (c.t.d.fact 42 (f := .glo "check_who") rfl)
  have q_p_check_who : ∃ fd, FunD K "check_who" "check_who" (defArgs st_p_check_who) (defBody st_p_check_who) (defScope st_p_check_who) [] [] (He.fAd K ("check_who", none)) fd := c.t.d.def_ 10 (d := D_p_check_who) rfl
  have u_p_flipped : mg "flipped" = some (.ref (He.fAd K ("flipped", none))) := He.glo_ok X G (c.t.d.fact 43 (f := .glo "flipped") rfl)
  have q_p_flipped : ∃ fd, FunD K "flipped" "flipped" (defArgs st_p_flipped) (defBody st_p_flipped) (defScope st_p_flipped) [] [] (He.fAd K ("flipped", none)) fd := c.t.d.def_ 11 (d := D_p_flipped) rfl
  have u_p_seen_by : mg "seen_by" = some (.ref (He.fAd K ("seen_by", none))) := He.glo_ok X G (c.t.d.fact 44 (f := .glo "seen_by") rfl)
  have q_p_seen_by : ∃ fd, FunD K "seen_by" "seen_by" (defArgs st_p_seen_by) (defBody st_p_seen_by) (defScope st_p_seen_by) [] [] (He.fAd K ("seen_by", none)) fd := c.t.d.def_ 12 (d := D_p_seen_by) rfl
  have u_p_check_machine : mg "check_machine" = some (.ref (He.fAd K ("check_machine", none))) := He.glo_ok X G (c.t.d.fact 45 (f := .glo "check_machine") rfl)
  have q_p_check_machine : ∃ fd, FunD K "check_machine" "check_machine" (defArgs st_p_check_machine) (defBody st_p_check_machine) (defScope st_p_check_machine) [] [] (He.fAd K ("check_machine", none)) fd := c.t.d.def_ 13 (d := D_p_check_machine) rfl
  have u_p_check_discount : mg "check_discount" = some (.ref (He.fAd K ("check_discount", none))) := He.glo_ok X G (c.t.d.fact 46 (f := .glo "check_discount") rfl)
  have q_p_check_discount : ∃ fd, FunD K "check_discount" "check_discount" (defArgs st_p_check_discount) (defBody st_p_check_discount) (defScope st_p_check_discount) [] [] (He.fAd K ("check_discount", none)) fd := c.t.d.def_ 14 (d := D_p_check_discount) rfl
  have u_p_power : mg "power" = some (.ref (He.fAd K ("power", none))) := He.glo_ok X G (c.t.d.fact 47 (f := .glo "power") rfl)
  have q_p_power : ∃ fd, FunD K "power" "power" (defArgs st_p_power) (defBody st_p_power) (defScope st_p_power) [] [] (He.fAd K ("power", none)) fd := c.t.d.def_ 15 (d := D_p_power) rfl
  have u_p_discounted : mg "discounted" = some (.ref (He.fAd K ("discounted", none))) := He.glo_ok X G (c.t.d.fact 48 (f := .glo "discounted") rfl)
  have q_p_discounted : ∃ fd, FunD K "discounted" "discounted" (defArgs st_p_discounted) (defBody st_p_discounted) (defScope st_p_discounted) [] [] (He.fAd K ("discounted", none)) fd := c.t.d.def_ 16 (d := D_p_discounted) rfl
  have u_p_answered_values : mg "answered_values" = some (.ref (He.fAd K ("answered_values", none))) := He.glo_ok X G (c.t.d.fact 49 (f := .glo "answered_values") rfl)
  have q_p_answered_values : ∃ fd, FunD K "answered_values" "answered_values" (defArgs st_p_answered_values) (defBody st_p_answered_values) (defScope st_p_answered_values) [] [] (He.fAd K ("answered_values", none)) fd := c.t.d.def_ 17 (d := D_p_answered_values) rfl
  have u_p_best_plan_for : mg "best_plan_for" = some (.ref (He.fAd K ("best_plan_for", none))) := He.glo_ok X G (c.t.d.fact 50 (f := .glo "best_plan_for") rfl)
  have q_p_best_plan_for : ∃ fd, FunD K "best_plan_for" "best_plan_for" (defArgs st_p_best_plan_for) (defBody st_p_best_plan_for) (defScope st_p_best_plan_for) [] [] (He.fAd K ("best_plan_for", none)) fd := c.t.d.def_ 18 (d := D_p_best_plan_for) rfl
  have u_p_best_worth : mg "best_worth" = some (.ref (He.fAd K ("best_worth", none))) := He.glo_ok X G (c.t.d.fact 51 (f := .glo "best_worth") rfl)
  have q_p_best_worth : ∃ fd, FunD K "best_worth" "best_worth" (defArgs st_p_best_worth) (defBody st_p_best_worth) (defScope st_p_best_worth) [] [] (He.fAd K ("best_worth", none)) fd := c.t.d.def_ 19 (d := D_p_best_worth) rfl
  have u_p_check_against : mg "check_against" = some (.ref (He.fAd K ("check_against", none))) := He.glo_ok X G (c.t.d.fact 52 (f := .glo "check_against") rfl)
  have q_p_check_against : ∃ fd, FunD K "check_against" "check_against" (defArgs st_p_check_against) (defBody st_p_check_against) (defScope st_p_check_against) [] [] (He.fAd K ("check_against", none)) fd := c.t.d.def_ 20 (d := D_p_check_against) rfl
  have u_p_best_machine : mg "best_machine" = some (.ref (He.fAd K ("best_machine", none))) := He.glo_ok X G (c.t.d.fact 53 (f := .glo "best_machine") rfl)
  have q_p_best_machine : ∃ fd, FunD K "best_machine" "best_machine" (defArgs st_p_best_machine) (defBody st_p_best_machine) (defScope st_p_best_machine) [] [] (He.fAd K ("best_machine", none)) fd := c.t.d.def_ 21 (d := D_p_best_machine) rfl
  have u_p_judge_levels : mg "judge_levels" = some (.ref (He.fAd K ("judge_levels", none))) := He.glo_ok X G (c.t.d.fact 54 (f := .glo "judge_levels") rfl)
  have q_p_judge_levels : ∃ fd, FunD K "judge_levels" "judge_levels" (defArgs st_p_judge_levels) (defBody st_p_judge_levels) (defScope st_p_judge_levels) [] [] (He.fAd K ("judge_levels", none)) fd := c.t.d.def_ 22 (d := D_p_judge_levels) rfl
  have u_p_levels_paper : mg "levels_paper" = some (.ref (He.fAd K ("levels_paper", none))) := He.glo_ok X G (c.t.d.fact 55 (f := .glo "levels_paper") rfl)
  have q_p_levels_paper : ∃ fd, FunD K "levels_paper" "levels_paper" (defArgs st_p_levels_paper) (defBody st_p_levels_paper) (defScope st_p_levels_paper) [] [] (He.fAd K ("levels_paper", none)) fd := c.t.d.def_ 23 (d := D_p_levels_paper) rfl
  have u_law_same : mg "_law_same" = some (.ref (He.fAd K ("_law_same", none))) := He.glo_ok X G (c.t.d.fact 56 (f := .glo "_law_same") rfl)
  have q_law_same : ∃ fd, FunD K "_law_same" "_law_same" (defArgs st_law_same) (defBody st_law_same) (defScope st_law_same) [] [] (He.fAd K ("_law_same", none)) fd := c.t.d.def_ 24 (d := D_law_same) rfl
  have u_law_stream : mg "_law_stream" = some (.ref (He.fAd K ("_law_stream", none))) := He.glo_ok X G (c.t.d.fact 57 (f := .glo "_law_stream") rfl)
  have q_law_stream : ∃ fd, FunD K "_law_stream" "_law_stream" (defArgs st_law_stream) (defBody st_law_stream) (defScope st_law_stream) [] [] (He.fAd K ("_law_stream", none)) fd := c.t.d.def_ 25 (d := D_law_stream) rfl
  have u_law_next : mg "_law_next" = some (.ref (He.fAd K ("_law_next", none))) := He.glo_ok X G (c.t.d.fact 58 (f := .glo "_law_next") rfl)
  have q_law_next : ∃ fd, FunD K "_law_next" "_law_next" (defArgs st_law_next) (defBody st_law_next) (defScope st_law_next) [] [] (He.fAd K ("_law_next", none)) fd := c.t.d.def_ 26 (d := D_law_next) rfl
  have u_law_told : mg "_law_told" = some (.ref (He.fAd K ("_law_told", none))) := He.glo_ok X G (c.t.d.fact 59 (f := .glo "_law_told") rfl)
  have q_law_told : ∃ fd, FunD K "_law_told" "_law_told" (defArgs st_law_told) (defBody st_law_told) (defScope st_law_told) [] [] (He.fAd K ("_law_told", none)) fd := c.t.d.def_ 27 (d := D_law_told) rfl
  have u_law_gcd : mg "_law_gcd" = some (.ref (He.fAd K ("_law_gcd", none))) := He.glo_ok X G (c.t.d.fact 60 (f := .glo "_law_gcd") rfl)
  have q_law_gcd : ∃ fd, FunD K "_law_gcd" "_law_gcd" (defArgs st_law_gcd) (defBody st_law_gcd) (defScope st_law_gcd) [] [] (He.fAd K ("_law_gcd", none)) fd := c.t.d.def_ 28 (d := D_law_gcd) rfl
  have u_law_fraction : mg "_law_fraction" = some (.ref (He.fAd K ("_law_fraction", none))) := He.glo_ok X G (c.t.d.fact 61 (f := .glo "_law_fraction") rfl)
  have q_law_fraction : ∃ fd, FunD K "_law_fraction" "_law_fraction" (defArgs st_law_fraction) (defBody st_law_fraction) (defScope st_law_fraction) [] [] (He.fAd K ("_law_fraction", none)) fd := c.t.d.def_ 29 (d := D_law_fraction) rfl
  have u_law_plus : mg "_law_plus" = some (.ref (He.fAd K ("_law_plus", none))) := He.glo_ok X G (c.t.d.fact 62 (f := .glo "_law_plus") rfl)
  have q_law_plus : ∃ fd, FunD K "_law_plus" "_law_plus" (defArgs st_law_plus) (defBody st_law_plus) (defScope st_law_plus) [] [] (He.fAd K ("_law_plus", none)) fd := c.t.d.def_ 30 (d := D_law_plus) rfl
  have u_law_times : mg "_law_times" = some (.ref (He.fAd K ("_law_times", none))) := He.glo_ok X G (c.t.d.fact 63 (f := .glo "_law_times") rfl)
  have q_law_times : ∃ fd, FunD K "_law_times" "_law_times" (defArgs st_law_times) (defBody st_law_times) (defScope st_law_times) [] [] (He.fAd K ("_law_times", none)) fd := c.t.d.def_ 31 (d := D_law_times) rfl
  have u_law_above : mg "_law_above" = some (.ref (He.fAd K ("_law_above", none))) := He.glo_ok X G (c.t.d.fact 64 (f := .glo "_law_above") rfl)
  have q_law_above : ∃ fd, FunD K "_law_above" "_law_above" (defArgs st_law_above) (defBody st_law_above) (defScope st_law_above) [] [] (He.fAd K ("_law_above", none)) fd := c.t.d.def_ 32 (d := D_law_above) rfl
  have u_law_is_ratio : mg "_law_is_ratio" = some (.ref (He.fAd K ("_law_is_ratio", none))) := He.glo_ok X G (c.t.d.fact 65 (f := .glo "_law_is_ratio") rfl)
  have q_law_is_ratio : ∃ fd, FunD K "_law_is_ratio" "_law_is_ratio" (defArgs st_law_is_ratio) (defBody st_law_is_ratio) (defScope st_law_is_ratio) [] [] (He.fAd K ("_law_is_ratio", none)) fd := c.t.d.def_ 33 (d := D_law_is_ratio) rfl
  have u_law_mean : mg "_law_mean" = some (.ref (He.fAd K ("_law_mean", none))) := He.glo_ok X G (c.t.d.fact 66 (f := .glo "_law_mean") rfl)
  have q_law_mean : ∃ fd, FunD K "_law_mean" "_law_mean" (defArgs st_law_mean) (defBody st_law_mean) (defScope st_law_mean) [] [] (He.fAd K ("_law_mean", none)) fd := c.t.d.def_ 34 (d := D_law_mean) rfl
  have u_law_most : mg "_law_most" = some (.ref (He.fAd K ("_law_most", none))) := He.glo_ok X G (c.t.d.fact 67 (f := .glo "_law_most") rfl)
  have q_law_most : ∃ fd, FunD K "_law_most" "_law_most" (defArgs st_law_most) (defBody st_law_most) (defScope st_law_most) [] [] (He.fAd K ("_law_most", none)) fd := c.t.d.def_ 35 (d := D_law_most) rfl
  have u_law_mix : mg "_law_mix" = some (.ref (He.fAd K ("_law_mix", none))) := He.glo_ok X G (c.t.d.fact 68 (f := .glo "_law_mix") rfl)
  have q_law_mix : ∃ fd, FunD K "_law_mix" "_law_mix" (defArgs st_law_mix) (defBody st_law_mix) (defScope st_law_mix) [] [] (He.fAd K ("_law_mix", none)) fd := c.t.d.def_ 36 (d := D_law_mix) rfl
  have u_law_game : mg "_law_game" = some (.ref (He.fAd K ("_law_game", none))) := He.glo_ok X G (c.t.d.fact 69 (f := .glo "_law_game") rfl)
  have q_law_game : ∃ fd, FunD K "_law_game" "_law_game" (defArgs st_law_game) (defBody st_law_game) (defScope st_law_game) [] [] (He.fAd K ("_law_game", none)) fd := c.t.d.def_ 37 (d := D_law_game) rfl
  have u_law_seen : mg "_law_seen" = some (.ref (He.fAd K ("_law_seen", none))) := He.glo_ok X G (c.t.d.fact 70 (f := .glo "_law_seen") rfl)
  have q_law_seen : ∃ fd, FunD K "_law_seen" "_law_seen" (defArgs st_law_seen) (defBody st_law_seen) (defScope st_law_seen) [] [] (He.fAd K ("_law_seen", none)) fd := c.t.d.def_ 38 (d := D_law_seen) rfl
  have u_law_is_mix : mg "_law_is_mix" = some (.ref (He.fAd K ("_law_is_mix", none))) := He.glo_ok X G (c.t.d.fact 71 (f := .glo "_law_is_mix") rfl)
  have q_law_is_mix : ∃ fd, FunD K "_law_is_mix" "_law_is_mix" (defArgs st_law_is_mix) (defBody st_law_is_mix) (defScope st_law_is_mix) [] [] (He.fAd K ("_law_is_mix", none)) fd := c.t.d.def_ 39 (d := D_law_is_mix) rfl
  have u_law_machine : mg "_law_machine" = some (.ref (He.fAd K ("_law_machine", none))) := He.glo_ok X G (c.t.d.fact 72 (f := .glo "_law_machine") rfl)
  have q_law_machine : ∃ fd, FunD K "_law_machine" "_law_machine" (defArgs st_law_machine) (defBody st_law_machine) (defScope st_law_machine) [] [] (He.fAd K ("_law_machine", none)) fd := c.t.d.def_ 40 (d := D_law_machine) rfl
  have u_law_small : mg "_law_small" = some (.ref (He.fAd K ("_law_small", none))) := He.glo_ok X G (c.t.d.fact 73 (f := .glo "_law_small") rfl)
  have q_law_small : ∃ fd, FunD K "_law_small" "_law_small" (defArgs st_law_small) (defBody st_law_small) (defScope st_law_small) [] [] (He.fAd K ("_law_small", none)) fd := c.t.d.def_ 41 (d := D_law_small) rfl
  have u_law_discount : mg "_law_discount" = some (.ref (He.fAd K ("_law_discount", none))) := He.glo_ok X G (c.t.d.fact 74 (f := .glo "_law_discount") rfl)
  have q_law_discount : ∃ fd, FunD K "_law_discount" "_law_discount" (defArgs st_law_discount) (defBody st_law_discount) (defScope st_law_discount) [] [] (He.fAd K ("_law_discount", none)) fd := c.t.d.def_ 42 (d := D_law_discount) rfl
  have u_law_go : mg "_law_go" = some (.ref (He.fAd K ("_law_go", none))) := He.glo_ok X G (c.t.d.fact 75 (f := .glo "_law_go") rfl)
  have q_law_go : ∃ fd, FunD K "_law_go" "_law_go" (defArgs st_law_go) (defBody st_law_go) (defScope st_law_go) [] [] (He.fAd K ("_law_go", none)) fd := c.t.d.def_ 43 (d := D_law_go) rfl
  have u_law_worths : mg "_law_worths" = some (.ref (He.fAd K ("_law_worths", none))) := He.glo_ok X G (c.t.d.fact 76 (f := .glo "_law_worths") rfl)
  have q_law_worths : ∃ fd, FunD K "_law_worths" "_law_worths" (defArgs st_law_worths) (defBody st_law_worths) (defScope st_law_worths) [] [] (He.fAd K ("_law_worths", none)) fd := c.t.d.def_ 44 (d := D_law_worths) rfl
  have u_law_right : mg "_law_right" = some (.ref (He.fAd K ("_law_right", none))) := He.glo_ok X G (c.t.d.fact 77 (f := .glo "_law_right") rfl)
  have q_law_right : ∃ fd, FunD K "_law_right" "_law_right" (defArgs st_law_right) (defBody st_law_right) (defScope st_law_right) [] [] (He.fAd K ("_law_right", none)) fd := c.t.d.def_ 45 (d := D_law_right) rfl
  have u_law : mg "law" = some (.ref (He.fAd K ("law", none))) := He.glo_ok X G (c.t.d.fact 78 (f := .glo "law") rfl)
  have q_law : ∃ fd, FunD K "law" "law" (defArgs st_law) (defBody st_law) (defScope st_law) [] [] (He.fAd K ("law", none)) fd := c.t.d.def_ 46 (d := D_law) rfl
  obtain ⟨fd, ql⟩ := q_law
  have e := hfa.symm.trans u_law
  cases e
  have hb := FunD.bindsA (ps := ["script"]) ql fun _ _ _ _ _ _ us hl => match us, hl with | [_], _ => rfl
  have hco : ∃ cc, fd.code = .ref cc := by
    obtain ⟨oc, od, dV, kV, doc, pm, an, cdv, ct, osl, rfl, lk, hcd, _, _⟩ := ql.ex
    obtain ⟨cc, e⟩ := He.codeIn_ref hcd
    exact ⟨cc, e⟩
  obtain ⟨cc, hcc⟩ := hco
  have ecc : (He.cT K ("law", none)).1 = cc := by
    obtain ⟨oc, od, dV, kV, doc, pm, an, cdv, ct, osl, rfl, lk, hcd, _, _⟩ := ql.ex
    exact He.codeOf_eq lk hcc
  refine ⟨fd, fun s u => hb s [u] rfl, fun base KB NB TB => ?_⟩
  rw [ecc] at TB
  generalize hT : ([((He.cT K ("law", none)).2, ("law.<locals>.<lambda>" : Str))] : Tbs) = T
  have h_p_divisor : CalM (PySem.Challenge.rw_bothchoose_k21_whole_best_answers_for_ev).prog w K mg base T 1 "divisor" ["first", "second"] F_p_divisor := c_p_divisor (k := 0)  bl q_p_divisor u_p_divisor
  have h_p_ratio : CalM (PySem.Challenge.rw_bothchoose_k21_whole_best_answers_for_ev).prog w K mg base T 2 "ratio" ["top", "below"] F_p_ratio := c_p_ratio (k := 1) x_NotAllowed (h_p_divisor.mono (by decide)) bl q_p_ratio u_p_ratio
  have h_p_is_ratio : CalM (PySem.Challenge.rw_bothchoose_k21_whole_best_answers_for_ev).prog w K mg base T 2 "is_ratio" ["value"] F_p_is_ratio := c_p_is_ratio (k := 1) (h_p_divisor.mono (by decide)) bl q_p_is_ratio u_p_is_ratio
  have h_p_added : CalM (PySem.Challenge.rw_bothchoose_k21_whole_best_answers_for_ev).prog w K mg base T 3 "added" ["first", "second"] F_p_added := c_p_added (k := 2) (h_p_ratio.mono (by decide)) bl q_p_added u_p_added
  have h_p_negative : CalM (PySem.Challenge.rw_bothchoose_k21_whole_best_answers_for_ev).prog w K mg base T 1 "negative" ["value"] F_p_negative := c_p_negative (k := 0)  bl q_p_negative u_p_negative
  have h_p_times : CalM (PySem.Challenge.rw_bothchoose_k21_whole_best_answers_for_ev).prog w K mg base T 3 "times" ["first", "second"] F_p_times := c_p_times (k := 2) (h_p_ratio.mono (by decide)) bl q_p_times u_p_times
  have h_p_over : CalM (PySem.Challenge.rw_bothchoose_k21_whole_best_answers_for_ev).prog w K mg base T 3 "over" ["first", "second"] F_p_over := c_p_over (k := 2) (h_p_ratio.mono (by decide)) bl q_p_over u_p_over
  have h_p_less : CalM (PySem.Challenge.rw_bothchoose_k21_whole_best_answers_for_ev).prog w K mg base T 1 "less" ["first", "second"] F_p_less := c_p_less (k := 0)  bl q_p_less u_p_less
  have h_p_check_table : CalM (PySem.Challenge.rw_bothchoose_k21_whole_best_answers_for_ev).prog w K mg base T 1 "check_table" ["table"] F_p_check_table := c_p_check_table (k := 0) h_MAX_CHOICES h_MAX_GAIN x_NotAllowed bl q_p_check_table u_p_check_table
  have h_p_check_game : CalM (PySem.Challenge.rw_bothchoose_k21_whole_best_answers_for_ev).prog w K mg base T 2 "check_game" ["game"] F_p_check_game := c_p_check_game (k := 1) x_NotAllowed (h_p_check_table.mono (by decide)) bl q_p_check_game u_p_check_game
  have h_p_check_who : CalM (PySem.Challenge.rw_bothchoose_k21_whole_best_answers_for_ev).prog w K mg base T 1 "check_who" ["who"] F_p_check_who := c_p_check_who (k := 0) x_NotAllowed bl q_p_check_who u_p_check_who
  have h_p_flipped : CalM (PySem.Challenge.rw_bothchoose_k21_whole_best_answers_for_ev).prog w K mg base T 1 "flipped" ["table"] F_p_flipped := c_p_flipped (k := 0)  bl q_p_flipped u_p_flipped
  have h_p_seen_by : CalM (PySem.Challenge.rw_bothchoose_k21_whole_best_answers_for_ev).prog w K mg base T 2 "seen_by" ["game", "who"] F_p_seen_by := c_p_seen_by (k := 1) (h_p_flipped.mono (by decide)) bl q_p_seen_by u_p_seen_by
  have h_p_check_machine : CalM (PySem.Challenge.rw_bothchoose_k21_whole_best_answers_for_ev).prog w K mg base T 1 "check_machine" ["own", "others", "machine"] F_p_check_machine := c_p_check_machine (k := 0) h_MAX_STATES x_NotAllowed bl q_p_check_machine u_p_check_machine
  have h_p_check_discount : CalM (PySem.Challenge.rw_bothchoose_k21_whole_best_answers_for_ev).prog w K mg base T 3 "check_discount" ["discount"] F_p_check_discount := c_p_check_discount (k := 2) x_NotAllowed (h_p_is_ratio.mono (by decide)) (h_p_less.mono (by decide)) bl q_p_check_discount u_p_check_discount
  have h_p_power : CalM (PySem.Challenge.rw_bothchoose_k21_whole_best_answers_for_ev).prog w K mg base T 4 "power" ["discount", "many"] F_p_power := c_p_power (k := 3) (h_p_times.mono (by decide)) bl q_p_power u_p_power
  have h_p_discounted : CalM (PySem.Challenge.rw_bothchoose_k21_whole_best_answers_for_ev).prog w K mg base T 4 "discounted" ["table", "cells", "discount"] F_p_discounted := c_p_discounted (k := 3) (h_p_added.mono (by decide)) (h_p_times.mono (by decide)) bl q_p_discounted u_p_discounted
  have h_p_answered_values : CalM (PySem.Challenge.rw_bothchoose_k21_whole_best_answers_for_ev).prog w K mg base T 5 "answered_values" ["table", "machine", "discount", "plan"] F_p_answered_values := c_p_answered_values (k := 4) (h_p_added.mono (by decide)) (h_p_discounted.mono (by decide)) (h_p_negative.mono (by decide)) (h_p_over.mono (by decide)) (h_p_power.mono (by decide)) (h_p_times.mono (by decide)) bl q_p_answered_values u_p_answered_values
  have h_p_best_plan_for : CalM (PySem.Challenge.rw_bothchoose_k21_whole_best_answers_for_ev).prog w K mg base T 6 "best_plan_for" ["table", "machine", "discount"] F_p_best_plan_for := c_p_best_plan_for (k := 5) (h_p_added.mono (by decide)) (h_p_answered_values.mono (by decide)) (h_p_less.mono (by decide)) (h_p_times.mono (by decide)) bl q_p_best_plan_for u_p_best_plan_for
  have h_p_check_against : CalM (PySem.Challenge.rw_bothchoose_k21_whole_best_answers_for_ev).prog w K mg base T 3 "check_against" ["game", "who", "machine"] F_p_check_against := c_p_check_against (k := 2) (h_p_check_game.mono (by decide)) (h_p_check_machine.mono (by decide)) (h_p_check_who.mono (by decide)) (h_p_seen_by.mono (by decide)) bl q_p_check_against u_p_check_against
  have h_p_best_worth : CalM (PySem.Challenge.rw_bothchoose_k21_whole_best_answers_for_ev).prog w K mg base T 7 "best_worth" ["game", "who", "machine", "discount"] F_p_best_worth := c_p_best_worth (k := 6) (h_p_best_plan_for.mono (by decide)) (h_p_check_against.mono (by decide)) (h_p_check_discount.mono (by decide)) (h_p_seen_by.mono (by decide)) bl q_p_best_worth u_p_best_worth
  have h_p_best_machine : CalM (PySem.Challenge.rw_bothchoose_k21_whole_best_answers_for_ev).prog w K mg base T 7 "best_machine" ["game", "who", "machine", "discount"] F_p_best_machine := c_p_best_machine (k := 6) (h_p_best_plan_for.mono (by decide)) (h_p_check_against.mono (by decide)) (h_p_check_discount.mono (by decide)) (h_p_seen_by.mono (by decide)) bl q_p_best_machine u_p_best_machine
  have h_p_judge_levels : CalM (PySem.Challenge.rw_bothchoose_k21_whole_best_answers_for_ev).prog w K mg base T 4 "judge_levels" ["game", "who", "machine", "discount", "levels"] F_p_judge_levels := c_p_judge_levels (k := 3) (h_p_added.mono (by decide)) (h_p_check_against.mono (by decide)) (h_p_check_discount.mono (by decide)) (h_p_is_ratio.mono (by decide)) (h_p_less.mono (by decide)) (h_p_seen_by.mono (by decide)) (h_p_times.mono (by decide)) bl q_p_judge_levels u_p_judge_levels
  have h_p_levels_paper : CalM (PySem.Challenge.rw_bothchoose_k21_whole_best_answers_for_ev).prog w K mg base T 7 "levels_paper" ["game", "who", "machine", "discount"] F_p_levels_paper := c_p_levels_paper (k := 6) (h_p_best_plan_for.mono (by decide)) (h_p_check_against.mono (by decide)) (h_p_check_discount.mono (by decide)) (h_p_seen_by.mono (by decide)) bl q_p_levels_paper u_p_levels_paper
  have h_law_same : CalM (PySem.Challenge.rw_bothchoose_k21_whole_best_answers_for_ev).prog w K mg base T 1 "_law_same" ["told", "due"] F_law_same := c_law_same (k := 0)  bl q_law_same u_law_same
  have h_law_stream : CalM (PySem.Challenge.rw_bothchoose_k21_whole_best_answers_for_ev).prog w K mg base T 1 "_law_stream" ["script"] F_law_stream := c_law_stream (k := 0)  bl q_law_stream u_law_stream
  have h_law_next : CalM (PySem.Challenge.rw_bothchoose_k21_whole_best_answers_for_ev).prog w K mg base T 1 "_law_next" ["state", "many"] F_law_next := c_law_next (k := 0)  bl q_law_next u_law_next
  have h_law_gcd : CalM (PySem.Challenge.rw_bothchoose_k21_whole_best_answers_for_ev).prog w K mg base T 1 "_law_gcd" ["one", "other"] F_law_gcd := c_law_gcd (k := 0)  bl q_law_gcd u_law_gcd
  have h_law_fraction : CalM (PySem.Challenge.rw_bothchoose_k21_whole_best_answers_for_ev).prog w K mg base T 2 "_law_fraction" ["top", "below"] F_law_fraction := c_law_fraction (k := 1) (h_law_gcd.mono (by decide)) bl q_law_fraction u_law_fraction
  have h_law_plus : CalM (PySem.Challenge.rw_bothchoose_k21_whole_best_answers_for_ev).prog w K mg base T 3 "_law_plus" ["one", "other"] F_law_plus := c_law_plus (k := 2) (h_law_fraction.mono (by decide)) bl q_law_plus u_law_plus
  have h_law_times : CalM (PySem.Challenge.rw_bothchoose_k21_whole_best_answers_for_ev).prog w K mg base T 3 "_law_times" ["one", "other"] F_law_times := c_law_times (k := 2) (h_law_fraction.mono (by decide)) bl q_law_times u_law_times
  have h_law_above : CalM (PySem.Challenge.rw_bothchoose_k21_whole_best_answers_for_ev).prog w K mg base T 1 "_law_above" ["one", "other"] F_law_above := c_law_above (k := 0)  bl q_law_above u_law_above
  have h_law_is_ratio : CalM (PySem.Challenge.rw_bothchoose_k21_whole_best_answers_for_ev).prog w K mg base T 3 "_law_is_ratio" ["part"] F_law_is_ratio := c_law_is_ratio (k := 2) (h_law_fraction.mono (by decide)) bl q_law_is_ratio u_law_is_ratio
  have h_law_mean : CalM (PySem.Challenge.rw_bothchoose_k21_whole_best_answers_for_ev).prog w K mg base T 4 "_law_mean" ["numbers", "mix"] F_law_mean := c_law_mean (k := 3) (h_law_plus.mono (by decide)) (h_law_times.mono (by decide)) bl q_law_mean u_law_mean
  have h_law_most : CalM (PySem.Challenge.rw_bothchoose_k21_whole_best_answers_for_ev).prog w K mg base T 2 "_law_most" ["values"] F_law_most := c_law_most (k := 1) (h_law_above.mono (by decide)) bl q_law_most u_law_most
  have h_law_mix : CalM (PySem.Challenge.rw_bothchoose_k21_whole_best_answers_for_ev).prog w K mg base T 3 "_law_mix" ["state", "many"] F_law_mix := c_law_mix (k := 2) (h_law_fraction.mono (by decide)) (h_law_next.mono (by decide)) bl q_law_mix u_law_mix
  have h_law_game : CalM (PySem.Challenge.rw_bothchoose_k21_whole_best_answers_for_ev).prog w K mg base T 2 "_law_game" ["state", "most"] F_law_game := c_law_game (k := 1) (h_law_next.mono (by decide)) bl q_law_game u_law_game
  have h_law_seen : CalM (PySem.Challenge.rw_bothchoose_k21_whole_best_answers_for_ev).prog w K mg base T 1 "_law_seen" ["game", "who"] F_law_seen := c_law_seen (k := 0)  bl q_law_seen u_law_seen
  have h_law_is_mix : CalM (PySem.Challenge.rw_bothchoose_k21_whole_best_answers_for_ev).prog w K mg base T 4 "_law_is_mix" ["mix", "many"] F_law_is_mix := c_law_is_mix (k := 3) (h_law_is_ratio.mono (by decide)) (h_law_plus.mono (by decide)) bl q_law_is_mix u_law_is_mix
  have h_law_machine : CalM (PySem.Challenge.rw_bothchoose_k21_whole_best_answers_for_ev).prog w K mg base T 2 "_law_machine" ["state", "own", "others"] F_law_machine := c_law_machine (k := 1) (h_law_next.mono (by decide)) bl q_law_machine u_law_machine
  have h_law_small : CalM (PySem.Challenge.rw_bothchoose_k21_whole_best_answers_for_ev).prog w K mg base T 2 "_law_small" ["state"] F_law_small := c_law_small (k := 1) (h_law_next.mono (by decide)) bl q_law_small u_law_small
  have h_law_discount : CalM (PySem.Challenge.rw_bothchoose_k21_whole_best_answers_for_ev).prog w K mg base T 3 "_law_discount" ["state"] F_law_discount := c_law_discount (k := 2) (h_law_fraction.mono (by decide)) (h_law_next.mono (by decide)) bl q_law_discount u_law_discount
  have h_law_go : CalM (PySem.Challenge.rw_bothchoose_k21_whole_best_answers_for_ev).prog w K mg base T 1 "_law_go" ["first", "second", "pair"] F_law_go := c_law_go (k := 0)  bl q_law_go u_law_go
  have h_law_worths : CalM (PySem.Challenge.rw_bothchoose_k21_whole_best_answers_for_ev).prog w K mg base T 4 "_law_worths" ["table", "first", "second", "discount"] F_law_worths := c_law_worths (k := 3) (h_law_fraction.mono (by decide)) (h_law_go.mono (by decide)) (h_law_plus.mono (by decide)) (h_law_times.mono (by decide)) bl q_law_worths u_law_worths
  have h_law_right : CalM (PySem.Challenge.rw_bothchoose_k21_whole_best_answers_for_ev).prog w K mg base T 4 "_law_right" ["table", "machine", "discount", "levels"] F_law_right := c_law_right (k := 3) (h_law_above.mono (by decide)) (h_law_is_ratio.mono (by decide)) (h_law_plus.mono (by decide)) (h_law_times.mono (by decide)) bl q_law_right u_law_right
  exact g_law (k := 7) (h_law_above.mono (by decide)) (h_law_discount.mono (by decide)) (h_law_machine.mono (by decide)) (h_law_next.mono (by decide)) (h_law_plus.mono (by decide)) (h_law_right.mono (by decide)) (h_law_same.mono (by decide)) (h_law_seen.mono (by decide)) (h_law_small.mono (by decide)) (h_law_stream.mono (by decide)) (h_law_worths.mono (by decide)) (h_p_best_machine.mono (by decide)) (h_p_best_worth.mono (by decide)) (h_p_judge_levels.mono (by decide)) (h_p_levels_paper.mono (by decide)) bl ql hcc q_law_told u_law_told (He.glo_ok X G (fE (.glo "ChooseError") (by simp [faE]))) er hx TB hT.symm
end K21
open PySem PySem.W PySem.Calls PyProof.Rows
theorem K21.holds (fin : ∀ (C : Fin 5 → Addr) (ns : List Int), ns.length ≤ 63 → (∀ z ∈ ns, Builtin.Int.intBits z ≤ 1048576) → ∃ μ', K21.F_law C [.scr ns] [] = .ok (.bl true) μ') : PySem.Challenge.rw_bothchoose_k21_whole_best_answers_for_ev.Holds := by
  w_on; o_law
  refine HandSHeadRun.head_any (r := OpenLaw.row PySem.Challenge.rw_bothchoose_k21_whole_best_answers_for_ev) (q := view (OpenLaw.row PySem.Challenge.rw_bothchoose_k21_whole_best_answers_for_ev).prog [60]) (H := K21.HK) (ob := K21.OB) (M := 4000) (loose := K21.LOOSE) (d := HandSHeadRun.topDef (OpenLaw.row PySem.Challenge.rw_bothchoose_k21_whole_best_answers_for_ev).prog 60) (kwd := []) K21.OB_eq
    (by kernel_rfl) (fun s => by kernel_rfl) K21.RUN (by kernel_rfl) (by kernel_rfl) (by kernel_rfl) (by rfl) (by first | assumption | decide +kernel) (by decide +kernel) ⟨rfl, rfl, rfl, rfl, rfl, by decide +kernel⟩ ?hw ?hc
  case hw => w_witness2
  case hc =>
    refine MM.walk_end (l := PySem.Challenge.rw_bothchoose_k21_whole_best_answers_for_ev) (n := 63) (k := 10) (x := "script") rfl (by decide) (by kernel_rfl) ⟨rfl, by decide, by decide⟩ ?look
    intro w mg fa h Y G hmg0
    obtain ⟨K, KX, c⟩ := Y
    have hmg : mg ("law" : PySem.Str) = some (.ref fa) := by
      have e : (HandSHeadRun.topDef (OpenLaw.row PySem.Challenge.rw_bothchoose_k21_whole_best_answers_for_ev).prog 60).name = ("law" : PySem.Str) := by kernel_rfl
      rw [← e]
      exact hmg0
    obtain ⟨fd, hb, hF⟩ := K21.facts KX G c hmg
    refine ⟨K, fd, [He.cT K ("law", none)], [((He.cT K ("law", none)).2, ("law.<locals>.<lambda>" : PySem.Str))], K21.F_law (MM.errA K), KX, ?_, ?_, ?_, hb, ?_, fun ns h1 h2 => fin _ ns h1 h2, fun base KB NB TB => hF base KB NB (TB _ List.mem_cons_self)⟩
    · intro p hp
      rw [List.mem_singleton.mp hp]
      exact c.empty _ List.mem_cons_self
    · intro p hp
      rw [List.mem_singleton.mp hp]
      exact c.out _ List.mem_cons_self
    · intro p hp
      rw [List.mem_singleton.mp hp]
      exact PySem.W.codeHd_of_K KX (c.hd _ List.mem_cons_self)
    · intro p hp
      rw [List.mem_singleton.mp hp]
      simp

theorem PySem.Challenge.cw_bothchoose_k21_whole_best_answers_for_ev_holds : PySem.Challenge.rw_bothchoose_k21_whole_best_answers_for_ev.Holds := by
  exact K21.holds K21.fin
